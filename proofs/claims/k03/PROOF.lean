import PyProof.Rows.All
import Wide.All
import OpenK.AllK
import Wide.FinOn
import HandS.ForMost
import HandS.EndBits
import HandS.Wide
import HandS.Zip
import HandS.TupMul
import HandS.TupAny
import HandS.IsInst
import HandS.Style
import HandS.Flow
import HandS.NoneIn
import HandS.Head0
import HandS.Head1
import HandS.Head2
import HandS.HeadEnd
import HandS.HeadHook1
import HandS.HeadHook2
import HandS.Defaults
import HandS.Conv
import HandS.WideMore
import HandS.More
import PySem.Challenge.RW_fairposts_k03_rows_or_not
set_option Elab.async false
set_option linter.all false
set_option maxRecDepth 100000
set_option maxHeartbeats 0
/-! FP, part A: data as trees, the store of what may change, the relation to the abstract heap. -/
namespace FP
open PySem PySem.Spec PyProof.Rows L2

inductive D where
  | non | bl (b : Bool) | int (i : Int) | str (x : Str) | ty (n : String)
  | tup (xs : List D) | lst (xs : List D) | dic (ks : List Key) (ds : List D)
  | loc (a : Addr) | scr (ns : List Int) | obj (c : Addr) (ns : List Str) (ds : List D)

mutual
def Rep (K : PySem.W.Frag) (H : Hp) : D → V → Prop
  | .non, v => v = .non
  | .bl b, v => v = .bl b
  | .int i, v => v = .int i
  | .str x, v => v = .str x
  | .ty n, v => v = .ty n
  | .tup xs, v => ∃ a vs, v = .ref a ∧ SqT K H a vs ∧ RepL K H xs vs
  | .lst xs, v => ∃ a vs, v = .ref a ∧ Rd H a (.lst vs) ∧ RepL K H xs vs
  | .dic ks ds, v => ∃ a vs, v = .ref a ∧ H a = some (.dK vs) ∧ vs.map (·.1) = ks ∧ RepL K H ds (vs.map (·.2))
  | .loc a, v => v = .ref a
  | .scr ns, v => ∃ a, v = .ref a ∧ SqL K H a (ns.map V.int)
  | .obj c ns ds, v => ∃ a dx vs, v = .ref a ∧ H a = some (.ins c dx vs) ∧ vs.map (·.1) = ns ∧ RepL K H ds (vs.map (·.2))
def RepL (K : PySem.W.Frag) (H : Hp) : List D → List V → Prop
  | [], vs => vs = []
  | d :: ds, vs => ∃ v r, vs = v :: r ∧ Rep K H d v ∧ RepL K H ds r
end

def Le (H H' : Hp) : Prop := ∀ a o, H a = some o → H' a = some o
theorem Le.refl (H : Hp) : Le H H := fun _ _ h => h
theorem Le.trans {A B C : Hp} (p : Le A B) (q : Le B C) : Le A C := fun a o h => q a o (p a o h)
theorem Le.new {H : Hp} {p : Addr} {o : HO} (h : H p = none) : Le H (upd H p o) := fun a u e => by
  rw [upd_ne (ne_of_none e h)]; exact e
theorem Le.rd {H H' : Hp} (l : Le H H') {a : Addr} {u : HO} (r : Rd H a u) : Rd H' a u := by
  rcases r with r | ⟨o, r⟩
  · exact .inl (l _ _ r)
  · exact .inr ⟨o, l _ _ r⟩
theorem Le.sqL {K : PySem.W.Frag} {H H' : Hp} (l : Le H H') {a : Addr} {xs : List V} (r : SqL K H a xs) : SqL K H' a xs := by
  rcases r with r | r
  · exact .inl (l.rd r)
  · exact .inr r
theorem Le.sqT {K : PySem.W.Frag} {H H' : Hp} (l : Le H H') {a : Addr} {xs : List V} (r : SqT K H a xs) : SqT K H' a xs := by
  rcases r with r | r
  · exact .inl (l.rd r)
  · exact .inr r
mutual
theorem Rep.mono {K : PySem.W.Frag} {H H' : Hp} (l : Le H H') : ∀ {d : D} {v : V}, Rep K H d v → Rep K H' d v
  | .non, _, h => by simpa only [Rep] using h
  | .bl _, _, h => by simpa only [Rep] using h
  | .int _, _, h => by simpa only [Rep] using h
  | .str _, _, h => by simpa only [Rep] using h
  | .ty _, _, h => by simpa only [Rep] using h
  | .loc _, _, h => by simpa only [Rep] using h
  | .tup xs, v, h => by
    simp only [Rep] at h ⊢
    obtain ⟨a, vs, e, s, r⟩ := h
    exact ⟨a, vs, e, l.sqT s, RepL.mono l r⟩
  | .lst xs, v, h => by
    simp only [Rep] at h ⊢
    obtain ⟨a, vs, e, s, r⟩ := h
    exact ⟨a, vs, e, l.rd s, RepL.mono l r⟩
  | .scr ns, v, h => by
    simp only [Rep] at h ⊢
    obtain ⟨a, e, s⟩ := h
    exact ⟨a, e, l.sqL s⟩
  | .dic ks ds, v, h => by
    simp only [Rep] at h ⊢
    obtain ⟨a, vs, e, s, k, r⟩ := h
    exact ⟨a, vs, e, l _ _ s, k, RepL.mono l r⟩
  | .obj c ns ds, v, h => by
    simp only [Rep] at h ⊢
    obtain ⟨a, dx, vs, e, s, k, r⟩ := h
    exact ⟨a, dx, vs, e, l _ _ s, k, RepL.mono l r⟩
theorem RepL.mono {K : PySem.W.Frag} {H H' : Hp} (l : Le H H') : ∀ {ds : List D} {vs : List V}, RepL K H ds vs → RepL K H' ds vs
  | [], _, h => by simpa only [RepL] using h
  | d :: ds, _, h => by
    simp only [RepL] at h ⊢
    obtain ⟨v, r, e, a, b⟩ := h
    exact ⟨v, r, e, Rep.mono l a, RepL.mono l b⟩
end
section
variable {K : PySem.W.Frag} {H : Hp}
theorem RepL.nil : RepL K H [] [] := by simp only [RepL]
theorem RepL.cons {d : D} {v : V} {ds : List D} {vs : List V} (a : Rep K H d v) (b : RepL K H ds vs) : RepL K H (d :: ds) (v :: vs) := by
  simp only [RepL]
  exact ⟨v, vs, rfl, a, b⟩
theorem RepL.length : ∀ {ds : List D} {vs : List V}, RepL K H ds vs → vs.length = ds.length
  | [], _, h => by simp only [RepL] at h; subst h; rfl
  | d :: ds, _, h => by
    simp only [RepL] at h
    obtain ⟨v, r, rfl, a, b⟩ := h
    simp only [List.length_cons, RepL.length b]
theorem RepL.get : ∀ {ds : List D} {vs : List V} {i : Nat} {d : D}, RepL K H ds vs → ds[i]? = some d → ∃ v, vs[i]? = some v ∧ Rep K H d v
  | [], _, _, _, _, e => by simp at e
  | d :: ds, _, 0, _, h, e => by
    simp only [RepL] at h
    obtain ⟨v, r, rfl, a, b⟩ := h
    simp at e; subst e; exact ⟨v, by simp, a⟩
  | d :: ds, _, i + 1, _, h, e => by
    simp only [RepL] at h
    obtain ⟨v, r, rfl, a, b⟩ := h
    obtain ⟨u, h1, h2⟩ := RepL.get (i := i) b (by simpa using e)
    exact ⟨u, by simpa using h1, h2⟩
theorem RepL.getV : ∀ {ds : List D} {vs : List V} {i : Nat} {v : V}, RepL K H ds vs → vs[i]? = some v → ∃ d, ds[i]? = some d ∧ Rep K H d v := fun {ds vs i v} h e => by
  have hl := h.length
  have hi : i < ds.length := by rw [← hl]; exact (List.getElem?_eq_some_iff.mp e).1
  obtain ⟨u, h1, h2⟩ := h.get (d := ds[i]) (List.getElem?_eq_getElem hi)
  rw [e] at h1; cases h1
  exact ⟨ds[i], by simp [hi], h2⟩
theorem RepL.append : ∀ {ds es : List D} {vs us : List V}, RepL K H ds vs → RepL K H es us → RepL K H (ds ++ es) (vs ++ us)
  | [], _, _, _, h, k => by simp only [RepL] at h; subst h; exact k
  | d :: ds, _, _, _, h, k => by
    simp only [RepL] at h
    obtain ⟨v, r, rfl, a, b⟩ := h
    exact .cons a (RepL.append b k)
theorem RepL.take : ∀ (n : Nat) {ds : List D} {vs : List V}, RepL K H ds vs → RepL K H (ds.take n) (vs.take n)
  | 0, _, _, _ => by
    show RepL K H [] []
    exact .nil
  | n + 1, [], _, h => by
    simp only [RepL] at h
    subst h
    exact .nil
  | n + 1, d :: ds, _, h => by
    simp only [RepL] at h
    obtain ⟨v, r, rfl, a, b⟩ := h
    exact .cons a (RepL.take n b)
theorem RepL.drop : ∀ (n : Nat) {ds : List D} {vs : List V}, RepL K H ds vs → RepL K H (ds.drop n) (vs.drop n)
  | 0, _, _, h => h
  | n + 1, [], _, h => by simp only [RepL] at h; subst h; exact .nil
  | n + 1, d :: ds, _, h => by
    simp only [RepL] at h
    obtain ⟨v, r, rfl, a, b⟩ := h
    exact RepL.drop n b
theorem RepL.set {d : D} {v : V} (r : Rep K H d v) : ∀ (i : Nat) {ds : List D} {vs : List V}, RepL K H ds vs → RepL K H (ds.set i d) (vs.set i v)
  | _, [], _, h => by simp only [RepL] at h; subst h; exact .nil
  | 0, e :: ds, _, h => by
    simp only [RepL] at h
    obtain ⟨v, r', rfl, a, b⟩ := h
    exact .cons r b
  | i + 1, e :: ds, _, h => by
    simp only [RepL] at h
    obtain ⟨v, r', rfl, a, b⟩ := h
    exact .cons a (RepL.set r i b)
theorem RepL.eraseIdx : ∀ (i : Nat) {ds : List D} {vs : List V}, RepL K H ds vs → RepL K H (ds.eraseIdx i) (vs.eraseIdx i)
  | _, [], _, h => by simp only [RepL] at h; subst h; exact .nil
  | 0, e :: ds, _, h => by
    simp only [RepL] at h
    obtain ⟨v, r', rfl, a, b⟩ := h
    exact b
  | i + 1, e :: ds, _, h => by
    simp only [RepL] at h
    obtain ⟨v, r', rfl, a, b⟩ := h
    exact .cons a (RepL.eraseIdx i b)
theorem RepL.reverse : ∀ {ds : List D} {vs : List V}, RepL K H ds vs → RepL K H ds.reverse vs.reverse
  | [], _, h => by simp only [RepL] at h; subst h; exact .nil
  | d :: ds, _, h => by
    simp only [RepL] at h
    obtain ⟨v, r', rfl, a, b⟩ := h
    simp only [List.reverse_cons]
    exact (RepL.reverse b).append (.cons a .nil)
theorem RepL.rep {ds : List D} {vs : List V} (h : RepL K H ds vs) : ∀ n : Nat, RepL K H (List.replicate n ds).flatten (List.replicate n vs).flatten
  | 0 => .nil
  | n + 1 => by
    simp only [List.replicate_succ, List.flatten_cons]
    exact h.append (RepL.rep h n)
theorem RepL.map {α : Type} {f : α → D} {g : α → V} (h : ∀ x, Rep K H (f x) (g x)) : ∀ xs : List α, RepL K H (xs.map f) (xs.map g)
  | [] => .nil
  | x :: xs => .cons (h x) (RepL.map h xs)
theorem RepL.one {d : D} {vs : List V} (h : RepL K H [d] vs) : ∃ v, vs = [v] ∧ Rep K H d v := by
  simp only [RepL] at h
  obtain ⟨v, r, rfl, a, rfl⟩ := h
  exact ⟨v, rfl, a⟩
theorem RepL.two {d e : D} {vs : List V} (h : RepL K H [d, e] vs) : ∃ v u, vs = [v, u] ∧ Rep K H d v ∧ Rep K H e u := by
  simp only [RepL] at h
  obtain ⟨v, r, rfl, a, u, r', rfl, b, rfl⟩ := h
  exact ⟨v, u, rfl, a, b⟩
theorem RepL.three {d e f : D} {vs : List V} (h : RepL K H [d, e, f] vs) : ∃ v u w, vs = [v, u, w] ∧ Rep K H d v ∧ Rep K H e u ∧ Rep K H f w := by
  simp only [RepL] at h
  obtain ⟨v, r, rfl, a, u, r', rfl, b, w, r2, rfl, c, rfl⟩ := h
  exact ⟨v, u, w, rfl, a, b, c⟩
theorem RepL.ints : ∀ {ns : List Int} {vs : List V}, RepL K H (ns.map D.int) vs → vs = ns.map V.int
  | [], _, h => by simpa only [List.map_nil, RepL] using h
  | n :: ns, _, h => by
    simp only [List.map_cons, RepL, Rep] at h
    obtain ⟨v, r, rfl, rfl, b⟩ := h
    rw [RepL.ints b, List.map_cons]
theorem RepL.of_ints (ns : List Int) : RepL K H (ns.map D.int) (ns.map V.int) := RepL.map (fun x => by simp only [Rep]) ns
end

/-! ### the store of what may change -/
inductive O where
  | lst (xs : List D) | dK (ks : List Key) (ds : List D) | ins (c : Addr) (ns : List Str) (ds : List D)
structure Sto where
  m : Addr → Option O
  dk : Option Addr
def Sto.put (S : Sto) (a : Addr) (o : O) : Sto := { S with m := fun b => if b = a then some o else S.m b }
def Sto.del (S : Sto) (a : Addr) : Sto := { S with m := fun b => if b = a then none else S.m b }
theorem Sto.put_same {S : Sto} {a : Addr} {o : O} : (S.put a o).m a = some o := by simp [Sto.put]
theorem Sto.put_ne {S : Sto} {a b : Addr} {o : O} (h : b ≠ a) : (S.put a o).m b = S.m b := by simp [Sto.put, h]
theorem Sto.put_dk {S : Sto} {a : Addr} {o : O} : (S.put a o).dk = S.dk := rfl
theorem Sto.del_dk {S : Sto} {a : Addr} : (S.del a).dk = S.dk := rfl
def RepO (K : PySem.W.Frag) (H : Hp) : O → HO → Prop
  | .lst xs, o => ∃ vs, o = .lst vs ∧ RepL K H xs vs
  | .dK ks ds, o => ∃ vs, o = .dK vs ∧ vs.map (·.1) = ks ∧ RepL K H ds (vs.map (·.2))
  | .ins c ns ds, o => ∃ dx vs, o = .ins c dx vs ∧ vs.map (·.1) = ns ∧ RepL K H ds (vs.map (·.2))
theorem RepO.mono {K : PySem.W.Frag} {H H' : Hp} (l : Le H H') {o : O} {u : HO} (h : RepO K H o u) : RepO K H' o u := by
  cases o with
  | lst xs => obtain ⟨vs, e, r⟩ := h; exact ⟨vs, e, r.mono l⟩
  | dK ks ds => obtain ⟨vs, e, k, r⟩ := h; exact ⟨vs, e, k, r.mono l⟩
  | ins c ns ds => obtain ⟨dx, vs, e, k, r⟩ := h; exact ⟨dx, vs, e, k, r.mono l⟩

/-- numbers that are not below nought and of at most 2^20 bits -/
def Small (x : Int) : Prop := 0 ≤ x ∧ Builtin.Int.intBits x ≤ 1048576
/-- the deck's three lists, known to nobody else; N: a bound of how many numbers were mixed -/
def Deck (pv : List Addr) (S : Sto) (Hd H : Hp) (N : Nat) (a : Addr) : Prop := ∃ (g c : Addr) (gs cs : List Int) (n : Int),
  H a = some (.lst [.ref g, .ref c, .int n]) ∧ H g = some (.lst (gs.map .int)) ∧ H c = some (.lst (cs.map .int)) ∧ a ≠ g ∧ a ≠ c ∧ g ≠ c ∧
  (Hd a = none ∧ Hd g = none ∧ Hd c = none) ∧ (S.m a = none ∧ S.m g = none ∧ S.m c = none) ∧ (a ∉ pv ∧ g ∉ pv ∧ c ∉ pv) ∧
  (∀ x ∈ gs, Small x) ∧ (∀ x ∈ cs, Small x) ∧ cs ≠ [] ∧ cs.length ≤ 64 ∧ gs.length ≤ 63 ∧ 0 ≤ n ∧ n ≤ N
/-- pv: lists that the reading itself holds, known to nobody else -/
structure SR (K : PySem.W.Frag) (pv : List Addr) (S : Sto) (Hd H : Hp) (N : Nat) : Prop where
  sub : ∀ a o, Hd a = some o → H a = some o
  sto : ∀ a o, S.m a = some o → Hd a = none ∧ ∃ ho, H a = some ho ∧ RepO K Hd o ho
  dk : ∀ a, S.dk = some a → Deck pv S Hd H N a
  prv : ∀ b ∈ pv, (∃ xs, H b = some (.lst xs)) ∧ Hd b = none ∧ S.m b = none
/-- what is known stays, what the reading holds too -/
structure Mv (pv : List Addr) (Hd H Hd' H' : Hp) : Prop where
  le : Le Hd Hd'
  pr : ∀ b ∈ pv, H' b = H b
theorem Mv.refl (pv : List Addr) (Hd H : Hp) : Mv pv Hd H Hd H := ⟨.refl _, fun _ _ => rfl⟩
theorem Mv.trans {pv : List Addr} {A A' B B' C C' : Hp} (p : Mv pv A A' B B') (q : Mv pv B B' C C') : Mv pv A A' C C' := ⟨p.le.trans q.le, fun b h => (q.pr b h).trans (p.pr b h)⟩
theorem Mv.tail {b : Addr} {pv : List Addr} {A A' B B' : Hp} (p : Mv (b :: pv) A A' B B') : Mv pv A A' B B' := ⟨p.le, fun c h => p.pr c (List.mem_cons_of_mem _ h)⟩
section
variable {K : PySem.W.Frag} {pv : List Addr} {S : Sto} {Hd H : Hp} {N : Nat} {p : Addr} {o : O} {ho : HO}
theorem SR.freshD (r : SR K pv S Hd H N) (h : H p = none) : Hd p = none := by
  cases q : Hd p with
  | none => rfl
  | some u => rw [r.sub _ _ q] at h; cases h
theorem SR.freshS (r : SR K pv S Hd H N) (h : H p = none) : S.m p = none := by
  cases q : S.m p with
  | none => rfl
  | some u => obtain ⟨_, ho, e, _⟩ := r.sto _ _ q; rw [e] at h; cases h
theorem SR.freshP (r : SR K pv S Hd H N) (h : H p = none) : p ∉ pv := fun z => by
  obtain ⟨⟨xs, e⟩, _⟩ := r.prv p z
  rw [e] at h; cases h
theorem SR.up {M : Nat} (r : SR K pv S Hd H N) (h : N ≤ M) : SR K pv S Hd H M :=
  ⟨r.sub, r.sto, fun a e => by
    obtain ⟨g, c, gs, cs, n, h1, h2, h3, h4, h5, h6, h7, h8, h9, h10, h11, h12, h13, h14, h15, h16⟩ := r.dk a e
    exact ⟨g, c, gs, cs, n, h1, h2, h3, h4, h5, h6, h7, h8, h9, h10, h11, h12, h13, h14, h15, by omega⟩, r.prv⟩
theorem Deck.frame {pv' : List Addr} {S S' : Sto} {Hd Hd' H H' : Hp} {a : Addr} (d : Deck pv S Hd H N a) (hH : ∀ b, Hd b = none → S.m b = none → b ∉ pv → H b ≠ none → H' b = H b ∧ Hd' b = none ∧ S'.m b = none ∧ b ∉ pv') : Deck pv' S' Hd' H' N a := by
  obtain ⟨g, c, gs, cs, n, h1, h2, h3, h4, h5, h6, ⟨a1, a2, a3⟩, ⟨b1, b2, b3⟩, ⟨c1, c2, c3⟩, h9⟩ := d
  have x1 := hH a a1 b1 c1 (by rw [h1]; simp)
  have x2 := hH g a2 b2 c2 (by rw [h2]; simp)
  have x3 := hH c a3 b3 c3 (by rw [h3]; simp)
  exact ⟨g, c, gs, cs, n, x1.1.trans h1, x2.1.trans h2, x3.1.trans h3, h4, h5, h6, ⟨x1.2.1, x2.2.1, x3.2.1⟩, ⟨x1.2.2.1, x2.2.2.1, x3.2.2.1⟩, ⟨x1.2.2.2, x2.2.2.2, x3.2.2.2⟩, h9⟩
theorem Mv.new (r : SR K pv S Hd H N) (h : H p = none) : Mv pv Hd H (upd Hd p ho) (upd H p ho) :=
  ⟨.new (r.freshD h), fun b hb => upd_ne fun e => r.freshP h (e ▸ hb)⟩
theorem Mv.newH (r : SR K pv S Hd H N) (h : H p = none) : Mv pv Hd H Hd (upd H p ho) :=
  ⟨.refl _, fun b hb => upd_ne fun e => r.freshP h (e ▸ hb)⟩
/-- a new object that will not change -/
theorem SR.frz (r : SR K pv S Hd H N) (h : H p = none) : SR K pv S (upd Hd p ho) (upd H p ho) N := by
  have hd := r.freshD h
  refine ⟨fun a o e => ?_, fun a o e => ?_, fun a e => (r.dk a e).frame fun b x y z w => ?_, fun b hb => ?_⟩
  · by_cases ha : a = p
    · subst ha; rw [upd_same] at e ⊢; exact e
    · rw [upd_ne ha] at e ⊢; exact r.sub _ _ e
  · obtain ⟨e1, u, e2, e3⟩ := r.sto _ _ e
    have ha : a ≠ p := ne_of_none e2 h
    exact ⟨by rw [upd_ne ha]; exact e1, u, by rw [upd_ne ha]; exact e2, e3.mono (.new hd)⟩
  · have hb : b ≠ p := fun q => w (q ▸ h)
    exact ⟨upd_ne hb, by rw [upd_ne hb]; exact x, y, z⟩
  · have hp : b ≠ p := fun e => r.freshP h (e ▸ hb)
    rw [upd_ne hp, upd_ne hp]; exact r.prv b hb
/-- a new object that nobody will know -/
theorem SR.junk (r : SR K pv S Hd H N) (h : H p = none) : SR K pv S Hd (upd H p ho) N := by
  refine ⟨fun a o e => ?_, fun a o e => ?_, fun a e => (r.dk a e).frame fun b x y z w => ?_, fun b hb => ?_⟩
  · have e' := r.sub _ _ e
    rw [upd_ne (ne_of_none e' h)]; exact e'
  · obtain ⟨e1, u, e2, e3⟩ := r.sto _ _ e
    exact ⟨e1, u, by rw [upd_ne (ne_of_none e2 h)]; exact e2, e3⟩
  · have hb : b ≠ p := fun q => w (q ▸ h)
    exact ⟨upd_ne hb, x, y, z⟩
  · have hp : b ≠ p := fun e => r.freshP h (e ▸ hb)
    rw [upd_ne hp]; exact r.prv b hb
/-- a new list that the reading holds -/
theorem SR.hide {xs : List V} (r : SR K pv S Hd H N) (h : H p = none) : SR K (p :: pv) S Hd (upd H p (.lst xs)) N := by
  have j := r.junk (ho := .lst xs) h
  refine ⟨j.sub, j.sto, fun a e => (r.dk a e).frame fun b x y z w => ?_, fun b hb => ?_⟩
  · have hb : b ≠ p := fun q => w (q ▸ h)
    exact ⟨upd_ne hb, x, y, by simp only [List.mem_cons, not_or]; exact ⟨hb, z⟩⟩
  · rcases List.mem_cons.mp hb with rfl | hb
    · exact ⟨⟨xs, upd_same⟩, r.freshD h, r.freshS h⟩
    · exact j.prv b hb
/-- it grows -/
theorem SR.hidden {xs : List V} (r : SR K (p :: pv) S Hd H N) : SR K (p :: pv) S Hd (upd H p (.lst xs)) N := by
  obtain ⟨⟨ys, e0⟩, d0, s0⟩ := r.prv p (List.mem_cons_self ..)
  refine ⟨fun a o e => ?_, fun a o e => ?_, fun a e => (r.dk a e).frame fun b x y z w => ?_, fun b hb => ?_⟩
  · rw [upd_ne (ne_of_none e d0)]; exact r.sub _ _ e
  · obtain ⟨e1, u, e2, e3⟩ := r.sto _ _ e
    have ha : a ≠ p := fun q => by subst q; rw [s0] at e; cases e
    exact ⟨e1, u, by rw [upd_ne ha]; exact e2, e3⟩
  · simp only [List.mem_cons, not_or] at z
    exact ⟨upd_ne z.1, x, y, by simp only [List.mem_cons, not_or]; exact z⟩
  · by_cases hp : b = p
    · subst hp; exact ⟨⟨xs, upd_same⟩, d0, s0⟩
    · rw [upd_ne hp]; exact r.prv b hb
/-- it is handed out, to be changed or not -/
theorem SR.showOwn (r : SR K (p :: pv) S Hd H N) (np : p ∉ pv) (h : H p = some ho) (q : RepO K Hd o ho) : SR K pv (S.put p o) Hd H N := by
  obtain ⟨_, d0, s0⟩ := r.prv p (List.mem_cons_self ..)
  refine ⟨r.sub, fun a o' e => ?_, fun a e => (r.dk a e).frame fun b x y z w => ?_, fun b hb => ?_⟩
  · by_cases ha : a = p
    · subst ha
      rw [Sto.put_same] at e; cases e
      exact ⟨d0, ho, h, q⟩
    · rw [Sto.put_ne ha] at e; exact r.sto _ _ e
  · simp only [List.mem_cons, not_or] at z
    exact ⟨rfl, x, by rw [Sto.put_ne z.1]; exact y, z.2⟩
  · have hp : b ≠ p := fun e => np (e ▸ hb)
    rw [Sto.put_ne hp]
    exact r.prv b (List.mem_cons_of_mem _ hb)
theorem SR.showFrz (r : SR K (p :: pv) S Hd H N) (np : p ∉ pv) (h : H p = some ho) : SR K pv S (upd Hd p ho) H N ∧ Le Hd (upd Hd p ho) := by
  obtain ⟨_, d0, s0⟩ := r.prv p (List.mem_cons_self ..)
  have le : Le Hd (upd Hd p ho) := .new d0
  refine ⟨⟨fun a o e => ?_, fun a o' e => ?_, fun a e => (r.dk a e).frame fun b x y z w => ?_, fun b hb => ?_⟩, le⟩
  · by_cases ha : a = p
    · subst ha; rw [upd_same] at e; cases e; exact h
    · rw [upd_ne ha] at e; exact r.sub _ _ e
  · obtain ⟨e1, u, e2, e3⟩ := r.sto _ _ e
    have ha : a ≠ p := fun q => by subst q; rw [s0] at e; cases e
    exact ⟨by rw [upd_ne ha]; exact e1, u, e2, e3.mono le⟩
  · simp only [List.mem_cons, not_or] at z
    exact ⟨rfl, by rw [upd_ne z.1]; exact x, y, z.2⟩
  · have hp : b ≠ p := fun e => np (e ▸ hb)
    rw [upd_ne hp]
    exact r.prv b (List.mem_cons_of_mem _ hb)
/-- a new object that may change -/
theorem SR.own (r : SR K pv S Hd H N) (h : H p = none) (q : RepO K Hd o ho) : SR K pv (S.put p o) Hd (upd H p ho) N := by
  refine ⟨fun a o e => ?_, fun a o' e => ?_, fun a e => (r.dk a e).frame fun b x y z w => ?_, fun b hb => ?_⟩
  · have e' := r.sub _ _ e
    rw [upd_ne (ne_of_none e' h)]; exact e'
  · by_cases ha : a = p
    · subst ha
      rw [Sto.put_same] at e; cases e
      exact ⟨r.freshD h, ho, upd_same, q⟩
    · rw [Sto.put_ne ha] at e
      obtain ⟨e1, u, e2, e3⟩ := r.sto _ _ e
      exact ⟨e1, u, by rw [upd_ne ha]; exact e2, e3⟩
  · have hb : b ≠ p := fun q => w (q ▸ h)
    exact ⟨upd_ne hb, x, by rw [Sto.put_ne hb]; exact y, z⟩
  · have hp : b ≠ p := fun e => r.freshP h (e ▸ hb)
    rw [upd_ne hp, Sto.put_ne hp]; exact r.prv b hb
theorem SR.notP (r : SR K pv S Hd H N) (h : S.m p = some o) : p ∉ pv := fun z => by
  obtain ⟨_, _, e⟩ := r.prv p z
  rw [h] at e; cases e
theorem Mv.wr (r : SR K pv S Hd H N) (h : S.m p = some o) : Mv pv Hd H Hd (upd H p ho) := ⟨.refl _, fun b hb => upd_ne fun e => r.notP h (e ▸ hb)⟩
/-- an object that may change does -/
theorem SR.wr (r : SR K pv S Hd H N) (h : S.m p = some o) {o' : O} (q : RepO K Hd o' ho) : SR K pv (S.put p o') Hd (upd H p ho) N := by
  obtain ⟨d0, u0, d1, _⟩ := r.sto _ _ h
  refine ⟨fun a o e => ?_, fun a o' e => ?_, fun a e => (r.dk a e).frame fun b x y z w => ?_, fun b hb => ?_⟩
  · have ha : a ≠ p := ne_of_none e d0
    rw [upd_ne ha]; exact r.sub _ _ e
  · by_cases ha : a = p
    · subst ha
      rw [Sto.put_same] at e; cases e
      exact ⟨d0, ho, upd_same, q⟩
    · rw [Sto.put_ne ha] at e
      obtain ⟨e1, u, e2, e3⟩ := r.sto _ _ e
      exact ⟨e1, u, by rw [upd_ne ha]; exact e2, e3⟩
  · have hb : b ≠ p := fun q => by rw [q, h] at y; cases y
    exact ⟨upd_ne hb, x, by rw [Sto.put_ne hb]; exact y, z⟩
  · have hp : b ≠ p := fun e => r.notP h (e ▸ hb)
    rw [upd_ne hp, Sto.put_ne hp]; exact r.prv b hb
/-- an object that might change will not any more -/
theorem SR.freeze (r : SR K pv S Hd H N) (h : S.m p = some o) : ∃ ho, H p = some ho ∧ RepO K Hd o ho ∧ SR K pv (S.del p) (upd Hd p ho) H N ∧ Le Hd (upd Hd p ho) := by
  obtain ⟨d0, u0, d1, d2⟩ := r.sto _ _ h
  have le : Le Hd (upd Hd p u0) := .new d0
  refine ⟨u0, d1, d2, ⟨fun a o e => ?_, fun a o' e => ?_, fun a e => (r.dk a e).frame fun b x y z w => ?_, fun b hb => ?_⟩, le⟩
  · by_cases ha : a = p
    · subst ha; rw [upd_same] at e; cases e; exact d1
    · rw [upd_ne ha] at e; exact r.sub _ _ e
  · have ha : a ≠ p := fun z => by subst z; simp [Sto.del] at e
    have e' : S.m a = some o' := by simpa [Sto.del, ha] using e
    obtain ⟨e1, u, e2, e3⟩ := r.sto _ _ e'
    exact ⟨by rw [upd_ne ha]; exact e1, u, e2, e3.mono le⟩
  · have hb : b ≠ p := fun q => by rw [q, h] at y; cases y
    exact ⟨rfl, by rw [upd_ne hb]; exact x, by simpa [Sto.del, hb] using y, z⟩
  · have hp : b ≠ p := fun e => r.notP h (e ▸ hb)
    rw [upd_ne hp]
    obtain ⟨x, y, z⟩ := r.prv b hb
    exact ⟨x, y, by simpa [Sto.del, hp] using z⟩
end
end FP

/-! FP, part B: the small syntax, its reading over data, the look that compares it with the text, and that the reading is right. -/
namespace FP
open PySem PySem.Spec L2

abbrev PostE := D → Sto → Prop
abbrev En := List (Option D)
def EnR (K : PySem.W.Frag) (Hd : Hp) (ρ : En) (σ : St) : Prop := σ.length = ρ.length ∧ ∀ (i : Nat) (d : D), ρ[i]? = some (some d) → ∃ v, σ[i]? = some (some v) ∧ Rep K Hd d v
theorem EnR.mono {K : PySem.W.Frag} {H H' : Hp} {ρ : En} {σ : St} (r : EnR K H ρ σ) (l : Le H H') : EnR K H' ρ σ :=
  ⟨r.1, fun i d e => let ⟨v, h1, h2⟩ := r.2 i d e; ⟨v, h1, h2.mono l⟩⟩
theorem EnR.set {K : PySem.W.Frag} {H : Hp} {ρ : En} {σ : St} {d : D} {v : V} (r : EnR K H ρ σ) (q : Rep K H d v) (i : Nat) : EnR K H (ρ.set i (some d)) (σ.set i (some v)) := by
  refine ⟨by simp [r.1], fun j e h => ?_⟩
  by_cases hj : i = j
  · subst hj
    by_cases hi : i < ρ.length
    · rw [List.getElem?_set_self hi] at h
      cases h
      exact ⟨v, List.getElem?_set_self (by rw [r.1]; exact hi), q⟩
    · rw [List.getElem?_eq_none (by simpa using hi)] at h; cases h
  · rw [List.getElem?_set_ne hj] at h
    obtain ⟨u, h1, h2⟩ := r.2 j e h
    exact ⟨u, by rw [List.getElem?_set_ne hj]; exact h1, h2⟩
theorem EnR.unset {K : PySem.W.Frag} {H : Hp} {ρ : En} {σ : St} (r : EnR K H ρ σ) (i : Nat) : EnR K H (ρ.set i none) (σ.set i none) := by
  refine ⟨by simp [r.1], fun j e h => ?_⟩
  by_cases hj : i = j
  · subst hj
    by_cases hi : i < ρ.length
    · rw [List.getElem?_set_self hi] at h; cases h
    · rw [List.getElem?_eq_none (by simpa using hi)] at h; cases h
  · rw [List.getElem?_set_ne hj] at h
    obtain ⟨u, h1, h2⟩ := r.2 j e h
    exact ⟨u, by rw [List.getElem?_set_ne hj]; exact h1, h2⟩
def wipeE (ρ : En) : List Nat → En
  | [] => ρ
  | v :: vs => (wipeE ρ vs).set v none
theorem EnR.wipe {K : PySem.W.Frag} {H : Hp} {ρ : En} {σ : St} (r : EnR K H ρ σ) : ∀ vs : List Nat, EnR K H (wipeE ρ vs) (L2.wipe σ vs)
  | [] => r
  | v :: vs => (EnR.wipe r vs).unset v
theorem wipe_get {σ : St} : ∀ {vs : List Nat} {i : Nat}, i ∈ vs → (L2.wipe σ vs)[i]? = some none ∨ σ.length ≤ i
  | v :: vs, i, h => by
    unfold L2.wipe
    by_cases hv : v = i
    · subst hv
      by_cases hl : v < (L2.wipe σ vs).length
      · exact .inl (List.getElem?_set_self hl)
      · rw [L2.wipe_length] at hl; exact .inr (by omega)
    · rw [List.getElem?_set_ne hv]
      exact wipe_get ((List.mem_cons.mp h).resolve_left fun e => hv e.symm)
theorem wipe_set {σ : St} {x : Option V} : ∀ {vs : List Nat} {i : Nat}, i ∈ vs → L2.wipe (σ.set i x) vs = L2.wipe σ vs
  | v :: vs, i, h => by
    show (L2.wipe (σ.set i x) vs).set v none = (L2.wipe σ vs).set v none
    by_cases hi : i ∈ vs
    · rw [wipe_set hi]
    · have e : v = i := ((List.mem_cons.mp h).resolve_right hi).symm
      subst e
      have : ∀ (ws : List Nat), v ∉ ws → L2.wipe (σ.set v x) ws = (L2.wipe σ ws).set v x := by
        intro ws
        induction ws with
        | nil => intro _; rfl
        | cons w ws ih =>
          intro hw
          simp only [List.mem_cons, not_or] at hw
          show (L2.wipe (σ.set v x) ws).set w none = ((L2.wipe σ ws).set w none).set v x
          rw [ih hw.2, List.set_comm _ _ hw.1]
      rw [this vs hi, List.set_set]
theorem wipe_wipe {σ : St} : ∀ {ws vs : List Nat}, (∀ i ∈ ws, i ∈ vs) → L2.wipe (L2.wipe σ ws) vs = L2.wipe σ vs
  | [], _, _ => rfl
  | w :: ws, vs, h => by
    show L2.wipe ((L2.wipe σ ws).set w none) vs = _
    rw [wipe_set (h w (by simp)), wipe_wipe fun i hi => h i (by simp [hi])]

/-- from here on the table's numbers stand for the module's constants -/
def GB : Nat := 4096
def CAP : Nat := 2 ^ 300000
def MX : Nat := 2 ^ 64

/-! ### what stands around -/
def bNames : List Str := ["len", "isinstance", "tuple", "list", "int", "bool", "str", "range", "zip", "enumerate", "sum", "all", "any", "sorted", "min", "max", "abs", "repr", "set", "dict"]
/-- the module table's own dict stands where it does -/
def SysD (K : PySem.W.Frag) : Prop := ∃ (o : Obj) (es : Array DictEntry) (n : Nat), K.lookup sysModules = some o ∧ o.data = .dict es n
structure Amb (X : Cx) : Prop where
  calm : X.calm = true
  un : X.A.units + 64 < cLine
  gd : X.A.guards = some []
  hd : X.A.handled = none
  fr : ∀ x ∈ bNames, X.mg x = none
  sm : SysD X.K

def notStar : Expr → Bool
  | .Starred _ _ => false
  | _ => true
def plainE : Expr → Bool
  | .Starred _ _ => false
  | .UnaryOp .Not _ _ => false
  | .BoolOp _ _ _ => false
  | .IfExp _ _ _ _ => false
  | .Compare _ _ _ _ => false
  | _ => true
theorem plainE_ns {e : Expr} (h : plainE e = true) : notStar e = true := by
  cases e <;> first | rfl | cases h
theorem plainE_isTrue {e : Expr} (h : plainE e = true) (env : Env) (whole : Sem Value) : PySem.isTrue e env whole = (do let v ← whole; standAt e.pos; holding [v] (truthy v)) := by
  cases e <;> first | rfl | (cases h; done) | skip
  rename_i op _ _
  cases op <;> first | rfl | cases h
theorem star_cons {e : Expr} {es : List Expr} {env : Env} (h : notStar e = true) : starEach (e :: es) env = (false, eval e env) :: starEach es env := by
  cases e <;> first | rfl | cases h

def tAll : List TE → TA
  | [] => tNil
  | t :: ts => tCons t (tAll ts)
/-- a reading that takes a weaker wish too -/
def MonoE (t : TE) : Prop := ∀ σ H Q Q', (∀ v H', Q v H' → Q' v H') → t σ H Q → t σ H Q'
inductive PEs (X : Cx) : List Expr → List TE → Prop
  | nil : PEs X [] []
  | cons {e : Expr} {es : List Expr} {t : TE} {ts : List TE} : notStar e = true → MonoE t → PE X e t → PEs X es ts → PEs X (e :: es) (t :: ts)
theorem PEs.mono {X : Cx} {es : List Expr} {ts : List TE} (h : PEs X es ts) : ∀ {σ H Q Q'}, (∀ v H', Q v H' → Q' v H') → tAll ts σ H Q → tAll ts σ H Q' := by
  induction h with
  | nil => exact fun i q => i _ _ q
  | cons n m p _ ih => exact fun i q => m _ _ _ _ (fun v H' q => ih (fun vs H2 q => i _ _ q) q) q
theorem PEs.pa {X : Cx} {es : List Expr} {ts : List TE} (h : PEs X es ts) : PA X es (tAll ts) := by
  induction h with
  | nil => exact pa_nil
  | cons n m p _ ih => exact pa_cons p ih (star_cons n)
theorem PEs.plain {X : Cx} {es : List Expr} {ts : List TE} (h : PEs X es ts) (pos : Pos) : (backTo pos (starEach es X.env)).any (·.1) = false := by
  induction h with
  | nil => rfl
  | cons n m p _ ih =>
    rw [star_cons n]
    cases hq : starEach _ X.env with
    | nil => rfl
    | cons a l =>
      rw [hq] at ih
      first
        | exact ih
        | (simp only [backTo, List.any_cons, Bool.false_or] at ih ⊢; exact ih)
theorem PEs.len {X : Cx} {es : List Expr} {ts : List TE} (h : PEs X es ts) : es.length = ts.length := by
  induction h with
  | nil => rfl
  | cons _ _ _ _ ih => simp [ih]
theorem _root_.L2.PE.of {X : Cx} {e : Expr} {t t' : TE} (h : PE X e t) (i : ∀ σ H Q, t' σ H Q → t σ H Q) : PE X e t' := ⟨fun pins s σ H Q I q => h.run pins s σ H Q I (i σ H Q q)⟩
theorem _root_.L2.PT.of {X : Cx} {e : Expr} {t t' : TT} (h : PT X e t) (i : ∀ σ H Q, t' σ H Q → t σ H Q) : PT X e t' := ⟨fun pins s σ H Q I q => h.run pins s σ H Q I (i σ H Q q)⟩
theorem _root_.L2.PW.of {X : Cx} {e : Expr} {t t' : TT} (h : PW X e t) (i : ∀ σ H Q, t' σ H Q → t σ H Q) : PW X e t' := ⟨fun wh pins s σ H Q I q => h.run wh pins s σ H Q I (i σ H Q q)⟩
theorem _root_.L2.PS.of {X : Cx} {e : Stmt} {t t' : TS} (h : PS X e t) (i : ∀ D σ H, t' D σ H → t D σ H) : PS X e t' := ⟨fun pins s σ H D I q => h.run pins s σ H D I (i D σ H q)⟩
theorem _root_.L2.PSs.of {X : Cx} {e : List Stmt} {t t' : TS} (h : PSs X e t) (i : ∀ D σ H, t' D σ H → t D σ H) : PSs X e t' := ⟨fun pins s σ H D I q => h.run pins s σ H D I (i D σ H q)⟩
theorem _root_.L2.PG.of {X : Cx} {e : Expr} {t t' : TG} (h : PG X e t) (i : ∀ v σ H Q, t' v σ H Q → t v σ H Q) : PG X e t' := ⟨fun pins s σ H v u Q I r q => h.run pins s σ H v u Q I r (i v σ H Q q)⟩

/-! ### nodes: what evaluates its parts from the left, then does something with their values -/
def vSem (K : PySem.W.Frag) (sem : List D → Sto → PostE → Prop) (c : Nat) (vs : List V) (H : Hp) (Q : VK) : Prop :=
  ∃ pv ds S Hd M Qd, RepL K Hd ds vs ∧ SR K pv S Hd H M ∧ M + c ≤ CAP ∧ sem ds S Qd ∧ ∀ d S' Hd' H' v, Mv pv Hd H Hd' H' → SR K pv S' Hd' H' (M + c) → Rep K Hd' d v → Qd d S' → Q v H'
def tNd (K : PySem.W.Frag) (sem : List D → Sto → PostE → Prop) (c : Nat) (ts : List TE) : TE := fun σ H Q => tAll ts σ H fun vs H1 => vSem K sem c vs H1 Q
structure Node where
  shape : Scope → Expr → Option (List Expr)
  sem : List D → Sto → PostE → Prop
  ns : ∀ sc e es, shape sc e = some es → notStar e = true
  ok : ∀ (X : Cx) (e : Expr) (es : List Expr) (ts : List TE), Amb X → shape X.env.scope e = some es → PEs X es ts → PE X e (tNd X.K sem 0 ts)
  okT : ∀ (X : Cx) (e : Expr) (es : List Expr) (ts : List TE), Amb X → shape X.env.scope e = some es → PEs X es ts → PT X e (fun σ H Q => tNd X.K sem 0 ts σ H fun v H' => ∃ b, TruV X.K v H' b ∧ Q b H')
def Node.plain (shape : Scope → Expr → Option (List Expr)) (sem : List D → Sto → PostE → Prop) (pl : ∀ sc e es, shape sc e = some es → plainE e = true)
    (ok : ∀ (X : Cx) (e : Expr) (es : List Expr) (ts : List TE), Amb X → shape X.env.scope e = some es → PEs X es ts → PE X e (tNd X.K sem 0 ts)) : Node where
  shape := shape
  sem := sem
  ns := fun sc e es h => plainE_ns (pl sc e es h)
  ok := ok
  okT := fun X e es ts a h p => pt_truth (ok X e es ts a h p) fun wh => plainE_isTrue (pl _ e es h) _ wh

/-- a method's call: the object first, then what it is is looked at, then the arguments -/
def tMth (K : PySem.W.Frag) (chk : D → Sto → Prop) (sem : List D → Sto → PostE → Prop) (to : TE) (ts : List TE) : TE := fun σ H Q => to σ H fun x H1 =>
  (∃ pv d S Hd M, Rep K Hd d x ∧ SR K pv S Hd H1 M ∧ chk d S) ∧ tAll ts σ H1 fun vs H2 => vSem K sem 0 (x :: vs) H2 Q
structure MNode where
  shape : Scope → Expr → Option (Expr × List Expr)
  chk : D → Sto → Prop
  sem : List D → Sto → PostE → Prop
  pl : ∀ sc e p, shape sc e = some p → plainE e = true
  ok : ∀ (X : Cx) (e o : Expr) (es : List Expr) (to : TE) (ts : List TE), Amb X → shape X.env.scope e = some (o, es) → PE X o to → MonoE to → PEs X es ts → PE X e (tMth X.K chk sem to ts)

/-- a comparison: nothing changes -/
def vC (K : PySem.W.Frag) (cs : D → D → Sto → Option Bool) : R2 := fun x y H Q => ∃ pv d e S Hd M b, Rep K Hd d x ∧ Rep K Hd e y ∧ SR K pv S Hd H M ∧ cs d e S = some b ∧ Q (.bl b) H
structure CNode where
  op : CmpOp
  cs : D → D → Sto → Option Bool
  ok : ∀ (X : Cx), Amb X → OpR X (compareOp op) (vC X.K cs)

/-! ### what a loop walks -/
def Iter (K : PySem.W.Frag) (items : List D) (stay : Sto → Prop) (Hd0 : Hp) (J : It) : Prop := items.length ≤ MX ∧ ∀ pv S Hd H M, Le Hd0 Hd → SR K pv S Hd H M → stay S → ∀ i,
  (i < items.length → J.go i H ∧ ∀ x H', J.yld i H x H' → ∃ Hd' d, items[i]? = some d ∧ Mv pv Hd H Hd' H' ∧ SR K pv S Hd' H' M ∧ Rep K Hd' d x) ∧ (items.length ≤ i → J.stop i H)
abbrev ISem := List D → Sto → (List D → (Sto → Prop) → Prop) → Prop
def vIter (K : PySem.W.Frag) (sem : ISem) (vs : List V) (H : Hp) (R : It → Hp → Prop) : Prop :=
  ∃ pv ds S Hd M k, RepL K Hd ds vs ∧ SR K pv S Hd H M ∧ sem ds S k ∧ ∀ items stay J Hd' H', k items stay → Mv pv Hd H Hd' H' → SR K pv S Hd' H' M → Iter K items stay Hd' J → R J H'
structure INode where
  shape : Scope → Expr → Option (List Expr)
  sem : ISem
  tgt : Expr → Bool
  ok : ∀ (X : Cx) (tg e : Expr) (es : List Expr) (ts : List TE), Amb X → tgt tg = true → shape X.env.scope e = some es → PEs X es ts → PI X tg e (fun σ H R => tAll ts σ H fun vs H1 => vIter X.K sem vs H1 R)
  fold : ∀ sc e es, shape sc e = some es → ∀ env x, foldedSetIterable e env x = pure x

/-- op= on two values -/
def vAug (K : PySem.W.Frag) (sem : D → D → Sto → PostE → Prop) : TIp := fun x y H Q =>
  ∃ pv a b S Hd M Qd, Rep K Hd a x ∧ Rep K Hd b y ∧ SR K pv S Hd H M ∧ sem a b S Qd ∧ ∀ d S' Hd' H' v, Mv pv Hd H Hd' H' → SR K pv S' Hd' H' M → Rep K Hd' d v → Qd d S' → Q v H'
structure ANode where
  op : Operator
  sem : D → D → Sto → PostE → Prop
  ok : ∀ (X : Cx), Amb X → PIp X op (vAug X.K sem)

/-! ### the syntax -/
inductive RT where
  | nm (i : Nat) | tup (ts : List RT) | unl (ts : List RT)
inductive RE where
  | var (i : Nat)
  | glb (f : Nat)
  | nd (n : Node) (es : List RE)
  | call (f : Nat) (es : List RE)
  | mth (n : MNode) (o : RE) (es : List RE)
  | cmp (n : CNode) (a b : RE) | ch (n m : CNode) (a b c : RE)
  | frz (e : RE)
  | and (es : List RE) | or (es : List RE) | not (e : RE) | ite (c a b : RE)
  | lc (o : Bool) (elt : RE) (tg : RT) (n : INode) (es : List RE) (cond : List RE) (own : List (Str × Nat))
inductive RS where
  | asg (t : RT) (e : RE)
  | asgL (i : Nat) (e : RE)
  | par2 (i j : Nat) (a b : RE)
  | par3 (i j l : Nat) (a b c : RE)
  | aug (i : Nat) (n : ANode) (e : RE)
  | setI (e o i : RE)
  | expr (e : RE)
  | ret (e : RE) | retN
  | ifs (c : RE) (a b : List RS)
  | whl (c : RE) (b : List RS)
  | for_ (t : RT) (n : INode) (es : List RE) (b : List RS)
  | brk | cnt | pas | nev

/-! ### the reading -/
def newL (o : Bool) (ds : List D) (S : Sto) (Q : PostE) : Prop := if o = true then ∀ l, S.m l = none → Q (.loc l) (S.put l (.lst ds)) else Q (.lst ds) S
def truth (S : Sto) : D → Option Bool
  | .non => some false
  | .bl b => some b
  | .int i => some (i != 0)
  | .tup xs => some (!xs.isEmpty)
  | .lst xs => some (!xs.isEmpty)
  | .loc a => match S.m a with
    | some (.lst xs) => some (!xs.isEmpty)
    | _ => none
  | _ => none
mutual
def bindT : RT → D → En → (En → Prop) → Prop
  | .nm i, d, ρ, k => k (ρ.set i (some d))
  | .tup ts, d, ρ, k => ∃ xs, d = .tup xs ∧ xs.length = ts.length ∧ bindTs ts xs ρ k
  | .unl ts, d, ρ, k => ∃ xs, d = .lst xs ∧ xs.length = ts.length ∧ bindTs ts xs ρ k
def bindTs : List RT → List D → En → (En → Prop) → Prop
  | [], _, ρ, k => k ρ
  | t :: ts, xs, ρ, k => ∃ x r, xs = x :: r ∧ bindT t x ρ fun ρ' => bindTs ts r ρ' k
end
mutual
def RT.slots : RT → List Nat
  | .nm i => [i]
  | .tup ts => slotsL ts
  | .unl ts => slotsL ts
def slotsL : List RT → List Nat
  | [] => []
  | t :: ts => t.slots ++ slotsL ts
end
/-- a comprehension's turns: what is kept is appended -/
def lcRun (step : D → Sto → (Option D → Sto → Prop) → Prop) (stay : Sto → Prop) : List D → List D → Sto → (List D → Sto → Prop) → Prop
  | [], acc, S, Q => stay S ∧ Q acc S
  | x :: xs, acc, S, Q => stay S ∧ step x S fun r S1 => lcRun step stay xs (match r with | some d => acc ++ [d] | none => acc) S1 Q

section
variable (C : Nat → List D → Sto → PostE → Prop)
mutual
def wE : RE → En → Sto → PostE → Prop
  | .var i, ρ, S, Q => ∃ d, ρ[i]? = some (some d) ∧ Q d S
  | .glb f, ρ, S, Q => C f [] S Q
  | .nd n es, ρ, S, Q => wEs es ρ S fun ds S' => n.sem ds S' Q
  | .call f es, ρ, S, Q => wEs es ρ S fun ds S' => C f ds S' Q
  | .mth n o es, ρ, S, Q => wE o ρ S fun d S1 => n.chk d S1 ∧ wEs es ρ S1 fun ds S2 => n.sem (d :: ds) S2 Q
  | .cmp n a b, ρ, S, Q => wE a ρ S fun x S1 => wE b ρ S1 fun y S2 => ∃ k, n.cs x y S2 = some k ∧ Q (.bl k) S2
  | .ch n m a b c, ρ, S, Q => wE a ρ S fun x S1 => wE b ρ S1 fun y S2 => ∃ k, n.cs x y S2 = some k ∧ if k = true then wE c ρ S2 fun z S3 => ∃ j, m.cs y z S3 = some j ∧ Q (.bl j) S3 else Q (.bl false) S2
  | .frz e, ρ, S, Q => wE e ρ S fun d S' => ∃ l xs, d = .loc l ∧ S'.m l = some (.lst xs) ∧ Q (.lst xs) (S'.del l)
  | .and es, ρ, S, Q => wAnd es ρ S Q
  | .or es, ρ, S, Q => wOr es ρ S Q
  | .not e, ρ, S, Q => wE e ρ S fun d S' => ∃ b, d = .bl b ∧ Q (.bl (!b)) S'
  | .ite c a b, ρ, S, Q => wT c ρ S fun t S' => if t = true then wE a ρ S' Q else wE b ρ S' Q
  | .lc o elt tg n es cond own, ρ, S, Q => wEs es ρ S fun ds S1 => n.sem ds S1 fun items stay => items.length ≤ sizeLine ∧
      lcRun (fun x S2 k => bindT tg x (wipeE ρ (own.map (·.2))) fun ρ' => wTs cond ρ' S2 fun b S3 => if b = true then wE elt ρ' S3 fun d S4 => k (some d) S4 else k none S3)
        stay items [] S1 fun ds' S' => newL o ds' S' Q
def wEs : List RE → En → Sto → (List D → Sto → Prop) → Prop
  | [], _, S, Q => Q [] S
  | e :: es, ρ, S, Q => wE e ρ S fun d S1 => wEs es ρ S1 fun ds S2 => Q (d :: ds) S2
def wAnd : List RE → En → Sto → PostE → Prop
  | [], _, _, _ => False
  | e :: es, ρ, S, Q => match es with
    | [] => wE e ρ S Q
    | _ :: _ => wE e ρ S fun d S' => ∃ b, d = .bl b ∧ if b = true then wAnd es ρ S' Q else Q (.bl false) S'
def wOr : List RE → En → Sto → PostE → Prop
  | [], _, _, _ => False
  | e :: es, ρ, S, Q => match es with
    | [] => wE e ρ S Q
    | _ :: _ => wE e ρ S fun d S' => ∃ b, d = .bl b ∧ if b = true then Q (.bl true) S' else wOr es ρ S' Q
def wT : RE → En → Sto → (Bool → Sto → Prop) → Prop
  | .var i, ρ, S, Q => ∃ d b, ρ[i]? = some (some d) ∧ truth S d = some b ∧ Q b S
  | .glb _, _, _, _ => False
  | .nd n es, ρ, S, Q => wEs es ρ S fun ds S' => n.sem ds S' fun d S2 => ∃ b, truth S2 d = some b ∧ Q b S2
  | .call f es, ρ, S, Q => wEs es ρ S fun ds S' => C f ds S' fun d S2 => ∃ b, truth S2 d = some b ∧ Q b S2
  | .mth n o es, ρ, S, Q => wE o ρ S fun d S1 => n.chk d S1 ∧ wEs es ρ S1 fun ds S2 => n.sem (d :: ds) S2 fun z S3 => ∃ b, truth S3 z = some b ∧ Q b S3
  | .cmp n a b, ρ, S, Q => wE a ρ S fun x S1 => wE b ρ S1 fun y S2 => ∃ k, n.cs x y S2 = some k ∧ Q k S2
  | .ch n m a b c, ρ, S, Q => wE a ρ S fun x S1 => wE b ρ S1 fun y S2 => ∃ k, n.cs x y S2 = some k ∧ if k = true then wE c ρ S2 fun z S3 => ∃ j, m.cs y z S3 = some j ∧ Q j S3 else Q false S2
  | .and es, ρ, S, Q => wAndT es ρ S Q
  | .or es, ρ, S, Q => wOrT es ρ S Q
  | .not e, ρ, S, Q => wT e ρ S fun b S' => Q (!b) S'
  | .frz _, _, _, _ => False
  | .ite _ _ _, _, _, _ => False
  | .lc _ _ _ _ _ _ _, _, _, _ => False
def wAndT : List RE → En → Sto → (Bool → Sto → Prop) → Prop
  | [], _, _, _ => False
  | e :: es, ρ, S, Q => match es with
    | [] => wT e ρ S Q
    | _ :: _ => wT e ρ S fun b S' => if b = true then wAndT es ρ S' Q else Q false S'
def wOrT : List RE → En → Sto → (Bool → Sto → Prop) → Prop
  | [], _, _, _ => False
  | e :: es, ρ, S, Q => match es with
    | [] => wT e ρ S Q
    | _ :: _ => wT e ρ S fun b S' => if b = true then Q true S' else wOrT es ρ S' Q
def wTs : List RE → En → Sto → (Bool → Sto → Prop) → Prop
  | [], _, S, Q => Q true S
  | e :: es, ρ, S, Q => match es with
    | [] => wT e ρ S Q
    | _ :: _ => False
end
structure WEnds where
  nx : En → Sto → Prop
  rt : PostE
  bk : En → Sto → Prop := fun _ _ => False
  ct : En → Sto → Prop := fun _ _ => False
/-- a for's turns -/
def forRun (step : D → En → Sto → (En → Sto → Prop) → Prop) (stay : Sto → Prop) : List D → En → Sto → (En → Sto → Prop) → Prop
  | [], ρ, S, Q => stay S ∧ Q ρ S
  | x :: xs, ρ, S, Q => stay S ∧ step x ρ S fun ρ1 S1 => forRun step stay xs ρ1 S1 Q
mutual
def wS : RS → WEnds → En → Sto → Prop
  | .asg t e, D, ρ, S => wE C e ρ S fun d S' => bindT t d ρ fun ρ' => D.nx ρ' S'
  | .asgL i e, D, ρ, S => wE C e ρ S fun d S' => D.nx (ρ.set i (some d)) S'
  | .par2 i j a b, D, ρ, S => wE C a ρ S fun d S1 => wE C b ρ S1 fun e S2 => D.nx ((ρ.set i (some d)).set j (some e)) S2
  | .par3 i j l a b c, D, ρ, S => wE C a ρ S fun d S1 => wE C b ρ S1 fun e S2 => wE C c ρ S2 fun f S3 => D.nx (((ρ.set i (some d)).set j (some e)).set l (some f)) S3
  | .aug i n e, D, ρ, S => ∃ x, ρ[i]? = some (some x) ∧ wE C e ρ S fun d S' => n.sem x d S' fun z S2 => D.nx (ρ.set i (some z)) S2
  | .setI e o i, D, ρ, S => wE C e ρ S fun d S1 => wE C o ρ S1 fun l S2 => wE C i ρ S2 fun k S3 =>
      ∃ a xs j q, l = .loc a ∧ k = .int j ∧ S3.m a = some (.lst xs) ∧ ixN xs.length j = some q ∧ D.nx ρ (S3.put a (.lst (xs.set q d)))
  | .expr e, D, ρ, S => wE C e ρ S fun _ S' => D.nx ρ S'
  | .ret e, D, ρ, S => wE C e ρ S D.rt
  | .retN, D, _, S => D.rt .non S
  | .ifs c a b, D, ρ, S => wT C c ρ S fun t S' => if t = true then wSs a D ρ S' else wSs b D ρ S'
  | .whl c b, D, ρ, S => ∃ W : Nat → En → Sto → Prop, (∃ m, W m ρ S) ∧ ∀ m ρ S, W m ρ S →
      wT C c ρ S fun t S' => if t = true then wSs b { D with nx := fun ρ' S'' => ∃ m', m' < m ∧ W m' ρ' S'', ct := fun ρ' S'' => ∃ m', m' < m ∧ W m' ρ' S'', bk := D.nx } ρ S' else D.nx ρ S'
  | .for_ t n es b, D, ρ, S => wEs C es ρ S fun ds S1 => n.sem ds S1 fun items stay =>
      forRun (fun x ρ S2 k => bindT t x ρ fun ρ' => wSs b { D with nx := k, ct := k, bk := D.nx } ρ' S2) stay items ρ S1 D.nx
  | .brk, D, ρ, S => D.bk ρ S
  | .cnt, D, ρ, S => D.ct ρ S
  | .pas, D, ρ, S => D.nx ρ S
  | .nev, _, _, _ => False
def wSs : List RS → WEnds → En → Sto → Prop
  | [], D, ρ, S => D.nx ρ S
  | s :: ss, D, ρ, S => wS s { D with nx := fun ρ' S' => wSs ss D ρ' S' } ρ S
end
end

/-! ### how many numbers are mixed at most -/
section
variable (cf : Nat → Nat)
mutual
def cE : RE → Nat
  | .var _ => 0
  | .glb f => cf f
  | .nd _ es => cEs es
  | .call f es => cEs es + cf f
  | .mth _ o es => cE o + cEs es
  | .cmp _ a b => cE a + cE b
  | .ch _ _ a b c => cE a + (cE b + cE c)
  | .frz e => cE e
  | .and es => cEs es
  | .or es => cEs es
  | .not e => cE e
  | .ite c a b => cE c + (cE a + cE b)
  | .lc _ elt _ _ es cond _ => cEs es + MX * (cEs cond + cE elt)
def cEs : List RE → Nat
  | [] => 0
  | e :: es => cE e + cEs es
end
mutual
def cS : RS → Nat
  | .asg _ e => cE cf e
  | .asgL _ e => cE cf e
  | .par2 _ _ a b => cE cf a + cE cf b
  | .par3 _ _ _ a b c => cE cf a + (cE cf b + cE cf c)
  | .aug _ _ e => cE cf e
  | .setI e o i => cE cf e + (cE cf o + cE cf i)
  | .expr e => cE cf e
  | .ret e => cE cf e
  | .retN => 0
  | .ifs c a b => cE cf c + (cSs a + cSs b)
  | .whl c b => cE cf c + cSs b
  | .for_ _ _ es b => cEs cf es + MX * cSs b
  | .brk => 0
  | .cnt => 0
  | .pas => 0
  | .nev => 0
def cSs : List RS → Nat
  | [] => 0
  | s :: ss => cS s + cSs ss
end
end

/-! ### the look -/
def visB (sc : Scope) (x : Str) : Bool := match sc.names.lookup x with
  | some .local => true
  | some .cell => true
  | some .free => true
  | _ => false
def locB (sc : Scope) (x : Str) : Bool := match sc.names.lookup x with
  | some .local => true
  | some .cell => true
  | _ => false
def glB (sc : Scope) (x : Str) : Bool := match sc.names.lookup x with
  | some .globalImplicit => true
  | _ => false
theorem visB_ok {sc : Scope} {x : Str} (h : visB sc x = true) : Vis sc x := by
  unfold visB at h
  split at h <;> first | exact .inl (by assumption) | exact .inr (.inl (by assumption)) | exact .inr (.inr (by assumption)) | cases h
theorem locB_ok {sc : Scope} {x : Str} (h : locB sc x = true) : Loc sc x := by
  unfold locB at h
  split at h <;> first | exact .inl (by assumption) | exact .inr (by assumption) | cases h
theorem glB_ok {X : Cx} {x : Str} (h : glB X.env.scope x = true) : Gl X x := by
  unfold glB at h
  split at h <;> first | (show X.env.scope.names.lookup x = _; assumption) | cases h
def okName (x : Str) : Bool := !decide (x = ("__debug__" : Str)) && !decide (x = ("__classdict__" : Str)) && !decide (x = ("__name__" : Str))
/-- a name that is stored to: fb tells the cells that are the block's own -/
def stoB (fb : Str → Bool) (sc : Scope) (x : Str) : Bool := match sc.names.lookup x with
  | some .local => true
  | some .cell => fb x
  | _ => false
theorem stoB_ok {X : Cx} {x : Str} (h : stoB X.fn X.env.scope x = true) : Loc X.env.scope x ∧ (X.fn x = true ∨ X.env.scope.names.lookup x = some .local) := by
  unfold stoB at h
  split at h
  · rename_i e; exact ⟨.inl e, .inr e⟩
  · rename_i e; exact ⟨.inr e, .inl h⟩
  · cases h
def ownB (scope : Scope) : Str → Bool := fun x => scope.names.lookup x == some .cell
/-- does the statement name = e store within the comprehension -/
def swB (sc : Scope) (y : Str) (py : Pos) (e : Expr) : Bool := match e with
  | .ListComp _ _ scope pos => decide (sc.names.lookup y = some .local) && (py.line == pos.line) && !(scope.names.any fun (n, k) => n == y && (k == .local || k == .cell))
  | _ => false
def isComp : Expr → Bool
  | .ListComp _ _ _ _ => true
  | .SetComp _ _ _ _ => true
  | .DictComp _ _ _ _ _ => true
  | _ => false
section
variable (fn : Nat → Str) (N : List Str)
mutual
def mT (fb : Str → Bool) : RT → Scope → Expr → Bool
  | .nm i, sc, .Name x _ => decide (N[i]? = some x) && stoB fb sc x
  | .tup ts, sc, .Tuple es _ _ => mTs fb ts sc es
  | .unl ts, sc, .Tuple es _ _ => mTs fb ts sc es
  | _, _, _ => false
def mTs (fb : Str → Bool) : List RT → Scope → List Expr → Bool
  | [], _, [] => true
  | t :: ts, sc, e :: es => mT fb t sc e && mTs fb ts sc es
  | _, _, _ => false
end
mutual
def mE : RE → Scope → Expr → Bool
  | .var i, sc, .Name x _ => decide (N[i]? = some x) && visB sc x && okName x
  | .nd n es, sc, e => match n.shape sc e with
    | some as => mEs es sc as
    | none => false
  | .glb f, sc, .Name x _ => decide (GB ≤ f) && (decide (fn f = x) && (glB sc x && okName x))
  | .call f es, sc, .Call (.Name x _) as [] _ => decide (f < GB) && (decide (fn f = x) && glB sc x && okName x && mEs es sc as)
  | .mth n o es, sc, e => (match n.shape sc e with
    | some (o', as) => mE o sc o' && mEs es sc as
    | none => false)
  | .cmp n a b, sc, .Compare a' [o] [b'] _ => decide (n.op = o) && (!behindInMarks o b' && (mE a sc a' && mE b sc b'))
  | .ch n m a b c, sc, .Compare a' [o, q] [b', c'] _ => decide (n.op = o) && (decide (m.op = q) && (!behindInMarks q c' && (mE a sc a' && (mE b sc b' && mE c sc c'))))
  | .frz r, sc, e => mE r sc e
  | .and es, sc, .BoolOp .And as _ => mEs es sc as
  | .or es, sc, .BoolOp .Or as _ => mEs es sc as
  | .not e, sc, .UnaryOp .Not a _ => mE e sc a
  | .ite c a b, sc, .IfExp c' a' b' _ => mE c sc c' && mE a sc a' && mE b sc b'
  | .lc _ elt tg n es cond own, sc, .ListComp elt' [⟨tg', iter, ifs, 0⟩] scope _ =>
    (match n.shape sc iter with
      | some as => mEs es sc as
      | none => false) && (n.tgt tg' && (blkC N sc scope own && (mT N (ownB scope) tg (relS scope sc) tg' && ((tg.slots.all fun i => (own.map (·.2)).contains i) && (mEs cond (relS scope sc) ifs && mE elt (relS scope sc) elt')))))
  | _, _, _ => false
def mEs : List RE → Scope → List Expr → Bool
  | [], _, [] => true
  | r :: rs, sc, e :: es => mE r sc e && mEs rs sc es
  | _, _, _ => false
end
end
end FP

/-! FP, part C: the reading of expressions is right. -/
namespace FP
open PySem PySem.Spec L2

section
variable (C : Nat → List D → Sto → PostE → Prop) (cf : Nat → Nat)
def tE (K : PySem.W.Frag) (r : RE) : TE := fun σ H Q => ∃ pv ρ S Hd M Qd, EnR K Hd ρ σ ∧ SR K pv S Hd H M ∧ M + cE cf r ≤ CAP ∧ wE C r ρ S Qd ∧
  ∀ d S' Hd' H' v, Mv pv Hd H Hd' H' → SR K pv S' Hd' H' (M + cE cf r) → Rep K Hd' d v → Qd d S' → Q v H'
/-- a reading that hands on a truth -/
def tB' (K : PySem.W.Frag) (w : En → Sto → (Bool → Sto → Prop) → Prop) (c : Nat) : TT := fun σ H Q => ∃ pv ρ S Hd M Qd, EnR K Hd ρ σ ∧ SR K pv S Hd H M ∧ M + c ≤ CAP ∧ w ρ S Qd ∧
  ∀ b S' Hd' H', Mv pv Hd H Hd' H' → SR K pv S' Hd' H' (M + c) → Qd b S' → Q b H'
/-- a reading that hands on a value -/
def tV' (K : PySem.W.Frag) (w : En → Sto → PostE → Prop) (c : Nat) : TE := fun σ H Q => ∃ pv ρ S Hd M Qd, EnR K Hd ρ σ ∧ SR K pv S Hd H M ∧ M + c ≤ CAP ∧ w ρ S Qd ∧
  ∀ d S' Hd' H' v, Mv pv Hd H Hd' H' → SR K pv S' Hd' H' (M + c) → Rep K Hd' d v → Qd d S' → Q v H'
end
theorem tE_mono {C : Nat → List D → Sto → PostE → Prop} {cf : Nat → Nat} {K : PySem.W.Frag} (r : RE) : MonoE (tE C cf K r) := fun σ H Q Q' i q => by
  obtain ⟨pv, ρ, S, Hd, M, Qd, en, sr, hc, w, fin⟩ := q
  exact ⟨pv, ρ, S, Hd, M, Qd, en, sr, hc, w, fun d S' Hd' H' v m s r q => i _ _ (fin d S' Hd' H' v m s r q)⟩
section
variable {C : Nat → List D → Sto → PostE → Prop} {cf : Nat → Nat} {K : PySem.W.Frag}
theorem all_run {pv : List Addr} {σ : St} : ∀ {es : List RE} {H : Hp} {ρ : En} {S : Sto} {Hd : Hp} {M : Nat} {Qs : List D → Sto → Prop} {Q : List V → Hp → Prop}, EnR K Hd ρ σ → SR K pv S Hd H M → M + cEs cf es ≤ CAP → wEs C es ρ S Qs →
    (∀ ds S' Hd' H' vs, Mv pv Hd H Hd' H' → SR K pv S' Hd' H' (M + cEs cf es) → RepL K Hd' ds vs → Qs ds S' → Q vs H') → tAll (es.map (tE C cf K)) σ H Q
  | [], H, ρ, S, Hd, M, Qs, Q, en, sr, hc, w, k => by
    simp only [wEs] at w
    exact k [] S Hd H [] (.refl ..) (by simpa only [cEs, Nat.add_zero] using sr) .nil w
  | e :: es, H, ρ, S, Hd, M, Qs, Q, en, sr, hc, w, k => by
    simp only [wEs] at w
    simp only [cEs] at hc k
    refine ⟨pv, ρ, S, Hd, M, _, en, sr, by omega, w, fun d S1 Hd1 H1 v mv sr1 rd q => ?_⟩
    refine all_run (en.mono mv.le) sr1 (by omega) q fun ds S2 Hd2 H2 vs mv2 sr2 rl q2 => ?_
    exact k (d :: ds) S2 Hd2 H2 (v :: vs) (mv.trans mv2) (by rw [← Nat.add_assoc]; exact sr2) (.cons (rd.mono mv2.le) rl) q2
end

/-- what holds around: the defs' readings are right where they are called -/
structure Wd (C : Nat → List D → Sto → PostE → Prop) (cf : Nat → Nat) (fn : Nat → Str) (G : Cx → Prop) : Prop where
  amb : ∀ X, G X → Amb X
  nd : ∀ X, G X → X.N.Nodup
  blk : ∀ X s H scope cl c fp, G X → G (X.blk s H scope (compEnvC scope cl c X.env) fp)
  call : ∀ X f p pos es ts, G X → f < GB → Gl X (fn f) → okName (fn f) = true → PEs X es ts → PE X (.Call (.Name (fn f) p) es [] pos) (tNd X.K (C f) (cf f) ts)
  glb : ∀ X f p, G X → GB ≤ f → Gl X (fn f) → okName (fn f) = true → PE X (.Name (fn f) p) (fun _ H Q => vSem X.K (C f) (cf f) [] H Q)

theorem okName_d {x : Str} (h : okName x = true) : (x == ("__debug__" : Str)) = false ∧ (x == ("__classdict__" : Str)) = false ∧ x ≠ ("__name__" : Str) := by
  unfold okName at h
  simp only [Bool.and_eq_true, Bool.not_eq_true', decide_eq_false_iff_not] at h
  exact ⟨beq_eq_false_iff_ne.mpr h.1.1, beq_eq_false_iff_ne.mpr h.1.2, h.2⟩
theorem truV_of {K : PySem.W.Frag} {pv : List Addr} {S : Sto} {Hd H : Hp} {M : Nat} {d : D} {v : V} {b : Bool} (sr : SR K pv S Hd H M) (r : Rep K Hd d v) (t : truth S d = some b) : TruV K v H b := by
  have emp : ∀ {xs : List D} {vs : List V}, RepL K Hd xs vs → (!xs.isEmpty) = (!vs.isEmpty) := fun {xs vs} h => by
    have := h.length
    cases xs <;> cases vs <;> first | rfl | simp at this
  cases d with
  | non => simp only [Rep] at r; subst r; simp only [truth] at t; cases t; rfl
  | bl c => simp only [Rep] at r; subst r; simp only [truth] at t; cases t; rfl
  | int c => simp only [Rep] at r; subst r; simp only [truth] at t; cases t; rfl
  | tup xs =>
    simp only [Rep] at r; obtain ⟨a, vs, rfl, q, rl⟩ := r
    simp only [truth] at t; cases t
    exact .inr (.inl ⟨vs, Le.sqT sr.sub q, emp rl⟩)
  | lst xs =>
    simp only [Rep] at r; obtain ⟨a, vs, rfl, q, rl⟩ := r
    simp only [truth] at t; cases t
    exact .inl ⟨vs, .inl (Le.rd sr.sub q), emp rl⟩
  | loc a =>
    simp only [Rep] at r; subst r
    simp only [truth] at t
    split at t
    · rename_i xs e
      cases t
      obtain ⟨_, ho, e2, vs, rfl, rl⟩ := sr.sto _ _ e
      exact .inl ⟨vs, .of e2, emp rl⟩
    · cases t
  | str _ => simp [truth] at t
  | ty _ => simp [truth] at t
  | dic _ _ => simp [truth] at t
  | scr _ => simp [truth] at t
  | obj _ _ _ => simp [truth] at t

section
variable {C : Nat → List D → Sto → PostE → Prop} {cf : Nat → Nat} {fn : Nat → Str}
theorem mE_ns {N : List Str} : ∀ (r : RE) {sc : Scope} {e : Expr}, mE fn N r sc e = true → notStar e = true
  | .var i, sc, e, h => by cases e <;> first | rfl | (simp [mE] at h)
  | .nd n es, sc, e, h => by
    simp only [mE] at h
    split at h
    · rename_i as q; exact n.ns _ _ _ q
    · cases h
  | .glb f, sc, e, h => by cases e <;> first | rfl | (simp [mE] at h)
  | .call f es, sc, e, h => by cases e <;> first | rfl | (simp [mE] at h)
  | .mth n o es, sc, e, h => by
    simp only [mE] at h
    split at h
    · rename_i p as q; exact plainE_ns (n.pl _ _ _ q)
    · cases h
  | .cmp n a b, sc, e, h => by cases e <;> first | rfl | (simp [mE] at h)
  | .ch n m a b c, sc, e, h => by cases e <;> first | rfl | (simp [mE] at h)
  | .frz r, sc, e, h => by simp only [mE] at h; exact mE_ns r h
  | .and es, sc, e, h => by cases e <;> first | rfl | (simp [mE] at h)
  | .or es, sc, e, h => by cases e <;> first | rfl | (simp [mE] at h)
  | .not r, sc, e, h => by cases e <;> first | rfl | (simp [mE] at h)
  | .ite c a b, sc, e, h => by cases e <;> first | rfl | (simp [mE] at h)
  | .lc o el tg n es cd ow, sc, e, h => by cases e <;> first | rfl | (simp [mE] at h)
end

/-! ### targets -/
def gT (K : PySem.W.Frag) (t : RT) : TG := fun v σ H Q => ∃ ρ Hd d k, EnR K Hd ρ σ ∧ Rep K Hd d v ∧ Le Hd H ∧ bindT t d ρ k ∧
  ∀ ρ' σ', EnR K Hd ρ' σ' → (∀ vs, (∀ i ∈ t.slots, i ∈ vs) → L2.wipe σ' vs = L2.wipe σ vs) → k ρ' → Q σ' H
def gTs (K : PySem.W.Frag) (ts : List RT) : TGs := fun vs σ H Q => ∃ ρ Hd ds k, EnR K Hd ρ σ ∧ RepL K Hd ds vs ∧ Le Hd H ∧ ds.length = ts.length ∧ bindTs ts ds ρ k ∧
  ∀ ρ' σ', EnR K Hd ρ' σ' → (∀ vs, (∀ i ∈ slotsL ts, i ∈ vs) → L2.wipe σ' vs = L2.wipe σ vs) → k ρ' → Q σ' H
theorem _root_.L2.PGs.of {X : Cx} {e : List Expr} {t t' : TGs} (h : PGs X e t) (i : ∀ v σ H Q, t' v σ H Q → t v σ H Q) : PGs X e t' := ⟨fun pins s σ H v u Q I r q => h.run pins s σ H v u Q I r (i v σ H Q q)⟩
theorem assign_star {e : Expr} {es : List Expr} {env : Env} (h : notStar e = true) : assignEach (e :: es) env = (false, assign e env) :: assignEach es env := by
  cases e <;> first | rfl | cases h
theorem mT_ns {N : List Str} {fb : Str → Bool} {t : RT} {sc : Scope} {e : Expr} (h : mT N fb t sc e = true) : notStar e = true := by
  cases t <;> cases e <;> first | rfl | (simp [mT] at h)
theorem mTs_each {N : List Str} {fb : Str → Bool} : ∀ {ts : List RT} {sc : Scope} {es : List Expr} (env : Env), mTs N fb ts sc es = true → (assignEach es env).length = ts.length ∧ (assignEach es env).findIdx? (·.1) = none
  | [], sc, [], env, _ => ⟨rfl, rfl⟩
  | [], _, _ :: _, _, h => by simp [mTs] at h
  | _ :: _, _, [], _, h => by simp [mTs] at h
  | t :: ts, sc, e :: es, env, h => by
    simp only [mTs, Bool.and_eq_true] at h
    obtain ⟨h1, h2⟩ := mTs_each env h.2
    rw [assign_star (mT_ns h.1)]
    refine ⟨by simp [h1], ?_⟩
    rw [List.findIdx?_cons]
    simp only [Bool.false_eq_true, if_false, h2, Option.map_none]
mutual
theorem sG {X : Cx} (hc : X.calm = true) (nd : X.N.Nodup) : ∀ (t : RT) (e : Expr), mT X.N X.fn t X.env.scope e = true → PG X e (gT X.K t)
  | .nm i, e, h => by
    cases e with
    | Name x pos =>
      simp only [mT, Bool.and_eq_true, decide_eq_true_eq] at h
      obtain ⟨l, f⟩ := stoB_ok h.2
      refine (pg_name nd h.1 l f).of fun v σ H Q q => ?_
      obtain ⟨ρ, Hd, d, k, en, rd, _, b, c⟩ := q
      simp only [bindT] at b
      exact c _ _ (en.set rd i) (fun vs hv => wipe_set (hv i (by simp [RT.slots]))) b
    | _ => simp [mT] at h
  | .tup ts, e, h => by
    cases e with
    | Tuple es k pos =>
      simp only [mT] at h
      obtain ⟨h1, h2⟩ := mTs_each X.env h
      refine (pg_tup hc (sGs hc nd ts es h) h1 h2).of fun v σ H Q q => ?_
      obtain ⟨ρ, Hd, d, k, en, rd, le, b, c⟩ := q
      simp only [bindT] at b
      obtain ⟨xs, rfl, hl, b⟩ := b
      simp only [Rep] at rd
      obtain ⟨a, vs, rfl, st, rl⟩ := rd
      exact ⟨a, vs, rfl, Le.sqT le st, rl.length.trans hl, ρ, Hd, xs, k, en, rl, le, hl, b, fun ρ' σ' e w q => c ρ' σ' e (fun vs hv => w vs fun i hi => hv i (by simpa [RT.slots] using hi)) q⟩
    | _ => simp [mT] at h
  | .unl ts, e, h => by
    cases e with
    | Tuple es k pos =>
      simp only [mT] at h
      obtain ⟨h1, h2⟩ := mTs_each X.env h
      refine (pg_unl hc (sGs hc nd ts es h) h1 h2).of fun v σ H Q q => ?_
      obtain ⟨ρ, Hd, d, k, en, rd, le, b, c⟩ := q
      simp only [bindT] at b
      obtain ⟨xs, rfl, hl, b⟩ := b
      simp only [Rep] at rd
      obtain ⟨a, vs, rfl, st, rl⟩ := rd
      exact ⟨a, vs, rfl, .inl (Le.rd le st), rl.length.trans hl, ρ, Hd, xs, k, en, rl, le, hl, b, fun ρ' σ' e w q => c ρ' σ' e (fun vs hv => w vs fun i hi => hv i (by simpa [RT.slots] using hi)) q⟩
    | _ => simp [mT] at h
theorem sGs {X : Cx} (hc : X.calm = true) (nd : X.N.Nodup) : ∀ (ts : List RT) (es : List Expr), mTs X.N X.fn ts X.env.scope es = true → PGs X es (gTs X.K ts)
  | [], [], _ => by
    refine pgs_nil.of fun v σ H Q q => ?_
    obtain ⟨ρ, Hd, ds, k, en, rl, _, hl, b, c⟩ := q
    cases ds with
    | nil =>
      simp only [RepL] at rl
      simp only [bindTs] at b
      exact ⟨rl, c ρ σ en (fun _ _ => rfl) b⟩
    | cons _ _ => simp at hl
  | [], _ :: _, h => by simp [mTs] at h
  | _ :: _, [], h => by simp [mTs] at h
  | t :: ts, e :: es, h => by
    simp only [mTs, Bool.and_eq_true] at h
    refine (pgs_cons (sG hc nd t e h.1) (sGs hc nd ts es h.2) (by rw [assign_star (mT_ns h.1)]; rfl)).of fun v σ H Q q => ?_
    obtain ⟨ρ, Hd, ds, k, en, rl, le, hl, b, c⟩ := q
    simp only [bindTs] at b
    obtain ⟨x, r, rfl, b⟩ := b
    simp only [RepL] at rl
    obtain ⟨v0, vr, rfl, ra, rb⟩ := rl
    refine ⟨v0, vr, rfl, ρ, Hd, x, _, en, ra, le, b, fun ρ1 σ1 e1 w1 b1 => ?_⟩
    refine ⟨ρ1, Hd, r, k, e1, rb, le, by simpa using hl, b1, fun ρ' σ' e' w' q => c ρ' σ' e' (fun vs hv => ?_) q⟩
    rw [w' vs fun i hi => hv i (by simp [slotsL, hi]), w1 vs fun i hi => hv i (by simp [slotsL, hi])]
end
end FP

/-! FP, part D: the reading of expressions is right (the induction). -/
namespace FP
open PySem PySem.Spec L2

section
variable {C : Nat → List D → Sto → PostE → Prop} {cf : Nat → Nat} {K : PySem.W.Frag}
/-- a comprehension's turns -/
theorem lc_imp {σ : St} {H : Hp} {Q : VK} {o : Bool} {elt : RE} {tg : RT} {n : INode} {es cond : List RE} {own : List (Str × Nat)} (hs : (tg.slots.all fun i => (own.map (·.2)).contains i) = true)
    (q : tE C cf K (.lc o elt tg n es cond own) σ H Q) :
    tLc (fun σ H R => tAll (es.map (tE C cf K)) σ H fun vs H1 => vIter K n.sem vs H1 R) (gT K tg) (tB' K (wTs C cond) (cEs cf cond)) (tE C cf K elt) (own.map (·.2)) σ H Q := by
  obtain ⟨pv, ρ, S, Hd, M, Qd, en, sr, hc, w, fin⟩ := q
  simp only [wE] at w
  simp only [cE] at hc fin
  have hslot : ∀ i ∈ tg.slots, i ∈ own.map (·.2) := fun i hi => by
    have := List.all_eq_true.mp hs i hi
    simpa using this
  generalize hcc : cEs cf cond + cE cf elt = c at hc fin
  refine all_run en sr (by omega) w fun ds S1 Hd1 H1 vs mv1 sr1 rl1 w1 => ?_
  refine ⟨pv, ds, S1, Hd1, _, _, rl1, sr1, w1, fun items stay J Hd2 H2 w2 mv2 sr2 it D hD => ?_⟩
  obtain ⟨hlen, w2⟩ := w2
  obtain ⟨hmx, it⟩ := it
  have np : D ∉ pv := sr2.freshP hD
  generalize hM : M + cEs cf es = M1 at sr1 sr2
  obtain ⟨step, hst⟩ : ∃ step, step = (fun (x : FP.D) (S2 : Sto) (k : Option FP.D → Sto → Prop) => bindT tg x (wipeE ρ (own.map (·.2))) fun ρ' => wTs C cond ρ' S2 fun b S3 => if b = true then wE C elt ρ' S3 fun d S4 => k (some d) S4 else k none S3) := ⟨_, rfl⟩
  rw [← hst] at w2
  let W : Nat → Nat → Hp → Prop := fun i m Hh => ∃ S Hd' acc accV, m = items.length - i ∧ i ≤ items.length ∧ Le Hd2 Hd' ∧ Mv pv Hd H Hd' Hh ∧ SR K (D :: pv) S Hd' Hh (M1 + i * c) ∧ Hh D = some (.lst accV) ∧ RepL K Hd' acc accV ∧ acc.length ≤ i ∧
    lcRun step stay (items.drop i) acc S fun ds' S' => newL o ds' S' Qd
  have le0 : Le Hd Hd2 := mv1.le.trans mv2.le
  refine ⟨W, ⟨items.length, S1, Hd2, [], [], by simp, Nat.zero_le _, .refl _, (mv1.trans mv2).trans (.newH sr2 hD), by simpa using sr2.hide hD, upd_same, .nil, Nat.le_refl _, by simpa using w2⟩, ?_⟩
  rintro i m Hh ⟨S3, Hd3, acc, accV, rfl, hi, le3, mv3, sr3, hD3, rl3, hacc, run⟩
  by_cases hlt : i < items.length
  · rw [List.drop_eq_getElem_cons hlt] at run
    simp only [lcRun] at run
    obtain ⟨hstay, run⟩ := run
    obtain ⟨hgo, hy⟩ := (it _ _ _ _ _ le3 sr3 hstay i).1 hlt
    refine .inr ⟨hgo, fun H' => W (i + 1) (items.length - (i + 1)) H', fun H' w' => ⟨_, by omega, w'⟩, fun x H' y => ?_⟩
    obtain ⟨Hd4, d, hd, mv4, sr4, rd4⟩ := hy x H' y
    have hd' : items[i] = d := by
      rw [List.getElem?_eq_getElem hlt] at hd; exact Option.some.inj hd
    rw [hd', show step d S3 = _ from congrFun (congrFun hst d) S3] at run
    have en4 : EnR K Hd4 (wipeE ρ (own.map (·.2))) (L2.wipe σ (own.map (·.2))) := ((en.mono le0).mono (le3.trans mv4.le)).wipe _
    refine ⟨_, Hd4, d, _, en4, rd4, sr4.sub, run, fun ρ' σ2 en5 hw run => ?_⟩
    refine ⟨by rw [hw _ hslot, wipe_wipe fun _ h => h], ?_⟩
    refine ⟨D :: pv, ρ', S3, Hd4, M1 + i * c, _, en5, sr4, ?_, run, fun b S5 Hd5 H5 mv5 sr5 run => ?_⟩
    · have : i * c ≤ MX * c := Nat.mul_le_mul_right _ (by omega)
      have h2 : (i + 1) * c ≤ MX * c := Nat.mul_le_mul_right _ (by omega)
      rw [Nat.add_mul, Nat.one_mul] at h2
      omega
    have h2 : (i + 1) * c ≤ MX * c := Nat.mul_le_mul_right _ (by omega)
    rw [Nat.add_mul, Nat.one_mul] at h2
    have hDk : ∀ {Hx Hdx}, Mv (D :: pv) Hd4 H' Hdx Hx → Hx D = some (.lst accV) := fun mv => (mv.pr D (List.mem_cons_self ..)).trans ((mv4.pr D (List.mem_cons_self ..)).trans hD3)
    cases b with
    | true =>
      simp only [if_true] at run ⊢
      refine ⟨D :: pv, ρ', S5, Hd5, M1 + i * c + cEs cf cond, _, en5.mono mv5.le, sr5, by omega, run, fun d6 S6 Hd6 H6 v6 mv6 sr6 rd6 run => ?_⟩
      have mv56 := mv5.trans mv6
      refine ⟨accV, hDk mv56, ?_, S6, Hd6, acc ++ [d6], accV ++ [v6], rfl, hlt, le3.trans (mv4.le.trans mv56.le), ?_, ?_, upd_same, ?_, ?_, run⟩
      · have := rl3.length; omega
      · have mv7 := mv3.trans (mv4.trans mv56).tail
        exact ⟨mv7.le, fun b hb => (upd_ne (show b ≠ D from fun e => np (e ▸ hb))).trans (mv7.pr b hb)⟩
      · refine (sr6.hidden).up ?_
        rw [Nat.add_mul, Nat.one_mul]; omega
      · exact (rl3.mono (mv4.le.trans mv56.le)).append (.cons rd6 .nil)
      · simp; omega
    | false =>
      simp only [Bool.false_eq_true, if_false] at run ⊢
      refine ⟨S5, Hd5, acc, accV, rfl, hlt, le3.trans (mv4.le.trans mv5.le), mv3.trans (mv4.trans mv5).tail, sr5.up ?_, hDk mv5, rl3.mono (mv4.le.trans mv5.le), by omega, run⟩
      rw [Nat.add_mul, Nat.one_mul]; omega
  · have e : i = items.length := by omega
    subst e
    rw [List.drop_length] at run
    simp only [lcRun] at run
    obtain ⟨hstay, run⟩ := run
    refine .inl ⟨(it _ _ _ _ _ le3 sr3 hstay items.length).2 (Nat.le_refl _), ?_⟩
    have hcst : M1 + items.length * c ≤ M + (cEs cf es + MX * c) := by
      have : items.length * c ≤ MX * c := Nat.mul_le_mul_right _ hmx
      omega
    unfold newL at run
    cases o with
    | true =>
      simp only [if_true] at run
      exact fin _ _ _ _ _ mv3 ((sr3.showOwn (o := O.lst acc) np hD3 ⟨accV, rfl, rl3⟩).up hcst) (by simp only [Rep]) (run D (sr3.prv D (List.mem_cons_self ..)).2.2)
    | false =>
      simp only [Bool.false_eq_true, if_false] at run
      obtain ⟨s, l⟩ := sr3.showFrz np hD3
      refine fin _ _ _ _ (.ref D) ⟨mv3.le.trans l, mv3.pr⟩ (s.up hcst) ?_ run
      simp only [Rep]
      exact ⟨D, accV, rfl, .of upd_same, rl3.mono l⟩
end

section
variable {C : Nat → List D → Sto → PostE → Prop} {cf : Nat → Nat} {fn : Nat → Str} {G : Cx → Prop}
theorem ite_c {K : PySem.W.Frag} {pv : List Addr} {S : Sto} {Hd H : Hp} {M n m : Nat} (sr : SR K pv S Hd H M) (h : M = n) (hm : n ≤ m) : SR K pv S Hd H m := sr.up (by omega)
mutual
theorem sE (W : Wd C cf fn G) : ∀ (r : RE) (X : Cx) (e : Expr), G X → mE fn X.N r X.env.scope e = true → PE X e (tE C cf X.K r)
  | .var i, X, e, hG, h => by
    cases e with
    | Name x pos =>
      simp only [mE, Bool.and_eq_true, decide_eq_true_eq] at h
      obtain ⟨⟨h1, h2⟩, h3⟩ := h
      obtain ⟨d1, d2, _⟩ := okName_d h3
      refine (pe_var h1 (visB_ok h2) d1 d2).of fun σ H Q q => ?_
      obtain ⟨pv, ρ, S, Hd, M, Qd, en, sr, hc, w, fin⟩ := q
      simp only [wE] at w
      obtain ⟨d, hd, w⟩ := w
      obtain ⟨v, hv, rd⟩ := en.2 i d hd
      exact ⟨v, hv, fin d S Hd H v (.refl ..) (by simpa only [cE, Nat.add_zero] using sr) rd w⟩
    | _ => simp [mE] at h
  | .glb f, X, e, hG, h => by
    cases e with
    | Name x p =>
      simp only [mE, Bool.and_eq_true, decide_eq_true_eq] at h
      obtain ⟨h0, h1, h2, h3⟩ := h
      subst h1
      refine (W.glb X f p hG h0 (glB_ok h2) h3).of fun σ H Q q => ?_
      obtain ⟨pv, ρ, S, Hd, M, Qd, en, sr, hc, w, fin⟩ := q
      simp only [wE] at w
      simp only [cE] at hc fin
      exact ⟨pv, [], S, Hd, M, Qd, .nil, sr, hc, w, fin⟩
    | _ => simp [mE] at h
  | .nd n es, X, e, hG, h => by
    simp only [mE] at h
    split at h
    · rename_i as hs
      refine (n.ok X e as (es.map (tE C cf X.K)) (W.amb X hG) hs (sEs W es X as hG h)).of fun σ H Q q => ?_
      obtain ⟨pv, ρ, S, Hd, M, Qd, en, sr, hc, w, fin⟩ := q
      simp only [wE] at w
      simp only [cE] at hc fin
      exact all_run en sr hc w fun ds S' Hd' H' vs mv sr' rl w' => ⟨pv, ds, S', Hd', _, Qd, rl, sr', by simpa using hc, w', fun d S2 Hd2 H2 v mv2 sr2 rd q => fin d S2 Hd2 H2 v (mv.trans mv2) (by simpa using sr2) rd q⟩
    · cases h
  | .call f es, X, e, hG, h => by
    cases e with
    | Call g as kws pos =>
      cases g with
      | Name x p =>
        cases kws with
        | nil =>
          simp only [mE, Bool.and_eq_true, decide_eq_true_eq] at h
          obtain ⟨h0, ⟨⟨h1, h2⟩, h3⟩, h4⟩ := h
          subst h1
          refine (W.call X f p pos as (es.map (tE C cf X.K)) hG h0 (glB_ok h2) h3 (sEs W es X as hG h4)).of fun σ H Q q => ?_
          obtain ⟨pv, ρ, S, Hd, M, Qd, en, sr, hc, w, fin⟩ := q
          simp only [wE] at w
          simp only [cE] at hc fin
          exact all_run en sr (by omega) w fun ds S' Hd' H' vs mv sr' rl w' => ⟨pv, ds, S', Hd', _, Qd, rl, sr', by omega, w', fun d S2 Hd2 H2 v mv2 sr2 rd q => fin d S2 Hd2 H2 v (mv.trans mv2) (sr2.up (by omega)) rd q⟩
        | cons _ _ => simp [mE] at h
      | _ => simp [mE] at h
    | _ => simp [mE] at h
  | .mth n o es, X, e, hG, h => by
    simp only [mE] at h
    split at h
    · rename_i o' as hs
      simp only [Bool.and_eq_true] at h
      refine (n.ok X e o' as (tE C cf X.K o) (es.map (tE C cf X.K)) (W.amb X hG) hs (sE W o X o' hG h.1) (tE_mono o) (sEs W es X as hG h.2)).of fun σ H Q q => ?_
      obtain ⟨pv, ρ, S, Hd, M, Qd, en, sr, hc, w, fin⟩ := q
      simp only [wE] at w
      simp only [cE] at hc fin
      refine ⟨pv, ρ, S, Hd, M, _, en, sr, by omega, w, fun d S1 Hd1 H1 v1 mv1 sr1 rd1 w1 => ?_⟩
      refine ⟨⟨pv, d, S1, Hd1, _, rd1, sr1, w1.1⟩, ?_⟩
      exact all_run (en.mono mv1.le) sr1 (by omega) w1.2 fun ds S' Hd' H' vs mv sr' rl w' => ⟨pv, d :: ds, S', Hd', _, Qd, .cons (rd1.mono mv.le) rl, sr', by omega, w', fun d S2 Hd2 H2 v mv2 sr2 rd q => fin d S2 Hd2 H2 v ((mv1.trans mv).trans mv2) (sr2.up (by omega)) rd q⟩
    · cases h
  | .cmp n a b, X, e, hG, h => by
    cases e with
    | Compare a' ops bs pos =>
      match ops, bs, h with
      | [o], [b'], h =>
        simp only [mE, Bool.and_eq_true, decide_eq_true_eq, Bool.not_eq_true'] at h
        obtain ⟨h1, h2, h3, h4⟩ := h
        subst h1
        refine (pe_cmpR (n.ok X (W.amb X hG)) (sE W a X a' hG h3) (sE W b X b' hG h4) h2).of fun σ H Q q => ?_
        obtain ⟨pv, ρ, S, Hd, M, Qd, en, sr, hc, w, fin⟩ := q
        simp only [wE] at w
        simp only [cE] at hc fin
        refine ⟨pv, ρ, S, Hd, M, _, en, sr, by omega, w, fun x S1 Hd1 H1 v1 mv1 sr1 rd1 w1 => ?_⟩
        refine ⟨pv, ρ, S1, Hd1, _, _, en.mono mv1.le, sr1, by omega, w1, fun y S2 Hd2 H2 v2 mv2 sr2 rd2 w2 => ?_⟩
        obtain ⟨k, hk, w2⟩ := w2
        exact ⟨pv, x, y, S2, Hd2, _, k, rd1.mono mv2.le, rd2, sr2, hk, fin _ _ _ _ _ (mv1.trans mv2) (sr2.up (by omega)) (by simp only [Rep]) w2⟩
    | _ => simp [mE] at h
  | .ch n m a b c, X, e, hG, h => by
    cases e with
    | Compare a' ops bs pos =>
      match ops, bs, h with
      | [o, o2], [b', c'], h =>
        simp only [mE, Bool.and_eq_true, decide_eq_true_eq, Bool.not_eq_true'] at h
        obtain ⟨h1, h2, h3, h4, h5, h6⟩ := h
        subst h1 h2
        refine (pe_chain (n.ok X (W.amb X hG)) (m.ok X (W.amb X hG)) (sE W a X a' hG h4) (sE W b X b' hG h5) (sE W c X c' hG h6) h3).of fun σ H Q q => ?_
        obtain ⟨pv, ρ, S, Hd, M, Qd, en, sr, hc, w, fin⟩ := q
        simp only [wE] at w
        simp only [cE] at hc fin
        refine ⟨pv, ρ, S, Hd, M, _, en, sr, by omega, w, fun x S1 Hd1 H1 v1 mv1 sr1 rd1 w1 => ?_⟩
        refine ⟨pv, ρ, S1, Hd1, _, _, en.mono mv1.le, sr1, by omega, w1, fun y S2 Hd2 H2 v2 mv2 sr2 rd2 w2 => ?_⟩
        obtain ⟨k, hk, w2⟩ := w2
        refine ⟨pv, x, y, S2, Hd2, _, k, rd1.mono mv2.le, rd2, sr2, hk, k, rfl, ?_⟩
        cases k with
        | true =>
          simp only [if_true] at w2 ⊢
          refine ⟨pv, ρ, S2, Hd2, _, _, (en.mono mv1.le).mono mv2.le, sr2, by omega, w2, fun z S3 Hd3 H3 v3 mv3 sr3 rd3 w3 => ?_⟩
          obtain ⟨j, hj, w3⟩ := w3
          exact ⟨pv, y, z, S3, Hd3, _, j, rd2.mono mv3.le, rd3, sr3, hj, fin _ _ _ _ _ ((mv1.trans mv2).trans mv3) (sr3.up (by omega)) (by simp only [Rep]) w3⟩
        | false =>
          simp only [Bool.false_eq_true, if_false] at w2 ⊢
          exact fin _ _ _ _ _ (mv1.trans mv2) (sr2.up (by omega)) (by simp only [Rep]) w2
    | _ => simp [mE] at h
  | .frz r, X, e, hG, h => by
    simp only [mE] at h
    refine (sE W r X e hG h).of fun σ H Q q => ?_
    obtain ⟨pv, ρ, S, Hd, M, Qd, en, sr, hc, w, fin⟩ := q
    simp only [wE] at w
    simp only [cE] at hc fin
    refine ⟨pv, ρ, S, Hd, M, _, en, sr, hc, w, fun d S' Hd' H' v mv sr' rd w' => ?_⟩
    obtain ⟨l, xs, rfl, hl, w'⟩ := w'
    obtain ⟨ho, e1, ⟨vs, rfl, rl⟩, sr2, le⟩ := sr'.freeze hl
    simp only [Rep] at rd
    subst rd
    refine fin _ _ _ _ _ ⟨mv.le.trans le, mv.pr⟩ sr2 ?_ w'
    simp only [Rep]
    exact ⟨l, vs, rfl, .of upd_same, rl.mono le⟩
  | .and es, X, e, hG, h => by
    cases e with
    | BoolOp op as pos =>
      cases op with
      | And =>
        simp only [mE] at h
        refine (sAnd W es X as pos hG h).of fun σ H Q q => ?_
        obtain ⟨pv, ρ, S, Hd, M, Qd, en, sr, hc, w, fin⟩ := q
        simp only [wE] at w
        simp only [cE] at hc fin
        exact ⟨pv, ρ, S, Hd, M, Qd, en, sr, hc, w, fin⟩
      | Or => simp [mE] at h
    | _ => simp [mE] at h
  | .or es, X, e, hG, h => by
    cases e with
    | BoolOp op as pos =>
      cases op with
      | Or =>
        simp only [mE] at h
        refine (sOr W es X as pos hG h).of fun σ H Q q => ?_
        obtain ⟨pv, ρ, S, Hd, M, Qd, en, sr, hc, w, fin⟩ := q
        simp only [wE] at w
        simp only [cE] at hc fin
        exact ⟨pv, ρ, S, Hd, M, Qd, en, sr, hc, w, fin⟩
      | And => simp [mE] at h
    | _ => simp [mE] at h
  | .not r, X, e, hG, h => by
    cases e with
    | UnaryOp op a pos =>
      cases op with
      | Not =>
        simp only [mE] at h
        refine (pe_not (sE W r X a hG h)).of fun σ H Q q => ?_
        obtain ⟨pv, ρ, S, Hd, M, Qd, en, sr, hc, w, fin⟩ := q
        simp only [wE] at w
        simp only [cE] at hc fin
        refine ⟨pv, ρ, S, Hd, M, _, en, sr, hc, w, fun d S' Hd' H' v mv sr' rd w' => ?_⟩
        obtain ⟨b, rfl, w'⟩ := w'
        simp only [Rep] at rd
        exact ⟨b, rd, fin _ _ _ _ _ mv sr' (by simp only [Rep]) w'⟩
      | _ => simp [mE] at h
    | _ => simp [mE] at h
  | .ite c a b, X, e, hG, h => by
    cases e with
    | IfExp c' a' b' pos =>
      simp only [mE, Bool.and_eq_true] at h
      obtain ⟨⟨h1, h2⟩, h3⟩ := h
      refine (pe_ifExp (sT W c X c' hG h1) (sE W a X a' hG h2) (sE W b X b' hG h3)).of fun σ H Q q => ?_
      obtain ⟨pv, ρ, S, Hd, M, Qd, en, sr, hc, w, fin⟩ := q
      simp only [wE] at w
      simp only [cE] at hc fin
      refine ⟨pv, ρ, S, Hd, M, _, en, sr, by omega, w, fun t S' Hd' H' mv sr' w' => ?_⟩
      cases t with
      | true =>
        simp only [if_true] at w' ⊢
        exact ⟨pv, ρ, S', Hd', _, Qd, en.mono mv.le, sr', by omega, w', fun d S2 Hd2 H2 v mv2 sr2 rd q => fin d S2 Hd2 H2 v (mv.trans mv2) (sr2.up (by omega)) rd q⟩
      | false =>
        simp only [Bool.false_eq_true, if_false] at w' ⊢
        exact ⟨pv, ρ, S', Hd', _, Qd, en.mono mv.le, sr', by omega, w', fun d S2 Hd2 H2 v mv2 sr2 rd q => fin d S2 Hd2 H2 v (mv.trans mv2) (sr2.up (by omega)) rd q⟩
    | _ => simp [mE] at h
  | .lc o elt tg n es cond own, X, e, hG, h => by
    cases e with
    | ListComp elt' gs scope pos =>
      cases gs with
      | nil => simp [mE] at h
      | cons g gs =>
        obtain ⟨tg', iter, ifs, asy⟩ := g
        cases gs with
        | cons _ _ => simp [mE] at h
        | nil =>
          by_cases ha : asy = 0
          · subst ha
            simp only [mE, Bool.and_eq_true] at h
            obtain ⟨h1, h2, h3, h4, h5, h6, h7⟩ := h
            split at h1
            · rename_i as hs
              have A := W.amb X hG
              refine (pe_lc A.calm (W.nd X hG) (n.ok X tg' iter as (es.map (tE C cf X.K)) A h2 hs (sEs W es X as hG h1)) (blkOk_by h3) (fun s H Cc cl fp => ?_) (fun s H Cc cl fp => ?_) (fun s H Cc cl fp => ?_) (fun x => n.fold _ _ _ hs _ x)).of fun σ H Q q => lc_imp h5 q
              · have hB := W.blk X s H scope cl Cc fp hG
                exact sG (X := X.blk s H scope (compEnvC scope cl Cc X.env) fp) (W.amb _ hB).calm (W.nd _ hB) tg tg' h4
              · exact sTs W cond _ ifs (W.blk X s H scope cl Cc fp hG) h6
              · exact sE W elt (X.blk s H scope (compEnvC scope cl Cc X.env) fp) elt' (W.blk X s H scope cl Cc fp hG) h7
            · cases h1
          · simp [mE, ha] at h
    | _ => simp [mE] at h
theorem sEs (W : Wd C cf fn G) : ∀ (rs : List RE) (X : Cx) (es : List Expr), G X → mEs fn X.N rs X.env.scope es = true → PEs X es (rs.map (tE C cf X.K))
  | [], _, [], _, _ => .nil
  | [], _, _ :: _, _, h => by simp [mEs] at h
  | _ :: _, _, [], _, h => by simp [mEs] at h
  | r :: rs, X, e :: es, hG, h => by
    simp only [mEs, Bool.and_eq_true] at h
    exact .cons (mE_ns r h.1) (tE_mono r) (sE W r X e hG h.1) (sEs W rs X es hG h.2)
theorem sAnd (W : Wd C cf fn G) : ∀ (rs : List RE) (X : Cx) (es : List Expr) (pos : Pos), G X → mEs fn X.N rs X.env.scope es = true → PE X (.BoolOp .And es pos) (tV' X.K (wAnd C rs) (cEs cf rs))
  | [], _, _, _, _, _ => ⟨fun _ _ _ _ _ _ q => by
    obtain ⟨pv, ρ, S, Hd, M, Qd, en, sr, hc, w, fin⟩ := q
    simp only [wAnd] at w⟩
  | _ :: _, _, [], _, _, h => by simp [mEs] at h
  | [r], X, [e], pos, hG, h => by
    simp only [mEs, Bool.and_eq_true] at h
    refine (pe_one (sE W r X e hG h.1)).of fun σ H Q q => ?_
    obtain ⟨pv, ρ, S, Hd, M, Qd, en, sr, hc, w, fin⟩ := q
    simp only [wAnd] at w
    simp only [cEs, Nat.add_zero] at hc fin
    exact ⟨pv, ρ, S, Hd, M, Qd, en, sr, hc, w, fin⟩
  | [_], _, _ :: _ :: _, _, _, h => by simp [mEs] at h
  | _ :: _ :: _, _, [_], _, _, h => by simp [mEs] at h
  | r :: r2 :: rs, X, e :: e2 :: es, pos, hG, h => by
    simp only [mEs, Bool.and_eq_true] at h
    refine (pe_and (sE W r X e hG h.1) (sAnd W (r2 :: rs) X (e2 :: es) pos hG (by simp only [mEs, Bool.and_eq_true]; exact h.2))).of fun σ H Q q => ?_
    obtain ⟨pv, ρ, S, Hd, M, Qd, en, sr, hc, w, fin⟩ := q
    rw [wAnd] at w
    rw [cEs] at hc fin
    refine ⟨pv, ρ, S, Hd, M, _, en, sr, by omega, w, fun d S' Hd' H' v mv sr' rd w' => ?_⟩
    obtain ⟨b, rfl, w'⟩ := w'
    simp only [Rep] at rd
    refine ⟨b, rd, ?_⟩
    cases b with
    | true =>
      simp only [if_true] at w' ⊢
      exact ⟨pv, ρ, S', Hd', _, Qd, en.mono mv.le, sr', by omega, w', fun d S2 Hd2 H2 v mv2 sr2 rd q => fin d S2 Hd2 H2 v (mv.trans mv2) (sr2.up (by omega)) rd q⟩
    | false =>
      simp only [Bool.false_eq_true, if_false] at w' ⊢
      exact fin _ _ _ _ _ mv (sr'.up (by omega)) (by simp only [Rep]) w'
theorem sOr (W : Wd C cf fn G) : ∀ (rs : List RE) (X : Cx) (es : List Expr) (pos : Pos), G X → mEs fn X.N rs X.env.scope es = true → PE X (.BoolOp .Or es pos) (tV' X.K (wOr C rs) (cEs cf rs))
  | [], _, _, _, _, _ => ⟨fun _ _ _ _ _ _ q => by
    obtain ⟨pv, ρ, S, Hd, M, Qd, en, sr, hc, w, fin⟩ := q
    simp only [wOr] at w⟩
  | _ :: _, _, [], _, _, h => by simp [mEs] at h
  | [r], X, [e], pos, hG, h => by
    simp only [mEs, Bool.and_eq_true] at h
    refine (pe_one (sE W r X e hG h.1)).of fun σ H Q q => ?_
    obtain ⟨pv, ρ, S, Hd, M, Qd, en, sr, hc, w, fin⟩ := q
    simp only [wOr] at w
    simp only [cEs, Nat.add_zero] at hc fin
    exact ⟨pv, ρ, S, Hd, M, Qd, en, sr, hc, w, fin⟩
  | [_], _, _ :: _ :: _, _, _, h => by simp [mEs] at h
  | _ :: _ :: _, _, [_], _, _, h => by simp [mEs] at h
  | r :: r2 :: rs, X, e :: e2 :: es, pos, hG, h => by
    simp only [mEs, Bool.and_eq_true] at h
    refine (pe_or (sE W r X e hG h.1) (sOr W (r2 :: rs) X (e2 :: es) pos hG (by simp only [mEs, Bool.and_eq_true]; exact h.2))).of fun σ H Q q => ?_
    obtain ⟨pv, ρ, S, Hd, M, Qd, en, sr, hc, w, fin⟩ := q
    rw [wOr] at w
    rw [cEs] at hc fin
    refine ⟨pv, ρ, S, Hd, M, _, en, sr, by omega, w, fun d S' Hd' H' v mv sr' rd w' => ?_⟩
    obtain ⟨b, rfl, w'⟩ := w'
    simp only [Rep] at rd
    refine ⟨b, rd, ?_⟩
    cases b with
    | false =>
      simp only [Bool.false_eq_true, if_false] at w' ⊢
      exact ⟨pv, ρ, S', Hd', _, Qd, en.mono mv.le, sr', by omega, w', fun d S2 Hd2 H2 v mv2 sr2 rd q => fin d S2 Hd2 H2 v (mv.trans mv2) (sr2.up (by omega)) rd q⟩
    | true =>
      simp only [if_true] at w' ⊢
      exact fin _ _ _ _ _ mv (sr'.up (by omega)) (by simp only [Rep]) w'
theorem sT (W : Wd C cf fn G) : ∀ (r : RE) (X : Cx) (e : Expr), G X → mE fn X.N r X.env.scope e = true → PT X e (tB' X.K (wT C r) (cE cf r))
  | .var i, X, e, hG, h => by
    cases e with
    | Name x pos =>
      simp only [mE, Bool.and_eq_true, decide_eq_true_eq] at h
      obtain ⟨⟨h1, h2⟩, h3⟩ := h
      obtain ⟨d1, d2, _⟩ := okName_d h3
      refine (pt_truth (pe_var h1 (visB_ok h2) d1 d2) fun _ => rfl).of fun σ H Q q => ?_
      obtain ⟨pv, ρ, S, Hd, M, Qd, en, sr, hc, w, fin⟩ := q
      simp only [wT] at w
      obtain ⟨d, b, hd, hb, w⟩ := w
      obtain ⟨v, hv, rd⟩ := en.2 i d hd
      exact ⟨v, hv, b, truV_of sr rd hb, fin b S Hd H (.refl ..) (by simpa only [cE, Nat.add_zero] using sr) w⟩
    | _ => simp [mE] at h
  | .nd n es, X, e, hG, h => by
    simp only [mE] at h
    split at h
    · rename_i as hs
      refine (n.okT X e as (es.map (tE C cf X.K)) (W.amb X hG) hs (sEs W es X as hG h)).of fun σ H Q q => ?_
      obtain ⟨pv, ρ, S, Hd, M, Qd, en, sr, hc, w, fin⟩ := q
      simp only [wT] at w
      simp only [cE] at hc fin
      refine all_run en sr hc w fun ds S' Hd' H' vs mv sr' rl w' => ⟨pv, ds, S', Hd', _, _, rl, sr', by simpa using hc, w', fun d S2 Hd2 H2 v mv2 sr2 rd q => ?_⟩
      obtain ⟨b, hb, q⟩ := q
      exact ⟨b, truV_of sr2 rd hb, fin b S2 Hd2 H2 (mv.trans mv2) (by simpa using sr2) q⟩
    · cases h
  | .call f es, X, e, hG, h => by
    cases e with
    | Call g as kws pos =>
      cases g with
      | Name x p =>
        cases kws with
        | nil =>
          simp only [mE, Bool.and_eq_true, decide_eq_true_eq] at h
          obtain ⟨h0, ⟨⟨h1, h2⟩, h3⟩, h4⟩ := h
          subst h1
          refine (pt_truth (W.call X f p pos as (es.map (tE C cf X.K)) hG h0 (glB_ok h2) h3 (sEs W es X as hG h4)) fun _ => rfl).of fun σ H Q q => ?_
          obtain ⟨pv, ρ, S, Hd, M, Qd, en, sr, hc, w, fin⟩ := q
          simp only [wT] at w
          simp only [cE] at hc fin
          refine all_run en sr (by omega) w fun ds S' Hd' H' vs mv sr' rl w' => ⟨pv, ds, S', Hd', _, _, rl, sr', by omega, w', fun d S2 Hd2 H2 v mv2 sr2 rd q => ?_⟩
          obtain ⟨b, hb, q⟩ := q
          exact ⟨b, truV_of sr2 rd hb, fin b S2 Hd2 H2 (mv.trans mv2) (sr2.up (by omega)) q⟩
        | cons _ _ => simp [mE] at h
      | _ => simp [mE] at h
    | _ => simp [mE] at h
  | .mth n o es, X, e, hG, h => by
    simp only [mE] at h
    split at h
    · rename_i o' as hs
      simp only [Bool.and_eq_true] at h
      refine (pt_truth (n.ok X e o' as (tE C cf X.K o) (es.map (tE C cf X.K)) (W.amb X hG) hs (sE W o X o' hG h.1) (tE_mono o) (sEs W es X as hG h.2)) fun wh => plainE_isTrue (n.pl _ _ _ hs) _ wh).of fun σ H Q q => ?_
      obtain ⟨pv, ρ, S, Hd, M, Qd, en, sr, hc, w, fin⟩ := q
      simp only [wT] at w
      simp only [cE] at hc fin
      refine ⟨pv, ρ, S, Hd, M, _, en, sr, by omega, w, fun d S1 Hd1 H1 v1 mv1 sr1 rd1 w1 => ?_⟩
      refine ⟨⟨pv, d, S1, Hd1, _, rd1, sr1, w1.1⟩, ?_⟩
      refine all_run (en.mono mv1.le) sr1 (by omega) w1.2 fun ds S' Hd' H' vs mv sr' rl w' => ⟨pv, d :: ds, S', Hd', _, _, .cons (rd1.mono mv.le) rl, sr', by omega, w', fun d S2 Hd2 H2 v mv2 sr2 rd q => ?_⟩
      obtain ⟨b, hb, q⟩ := q
      exact ⟨b, truV_of sr2 rd hb, fin b S2 Hd2 H2 ((mv1.trans mv).trans mv2) (sr2.up (by omega)) q⟩
    · cases h
  | .cmp n a b, X, e, hG, h => by
    cases e with
    | Compare a' ops bs pos =>
      match ops, bs, h with
      | [o], [b'], h =>
        simp only [mE, Bool.and_eq_true, decide_eq_true_eq, Bool.not_eq_true'] at h
        obtain ⟨h1, h2, h3, h4⟩ := h
        subst h1
        refine (pt_cmpR (n.ok X (W.amb X hG)) (sE W a X a' hG h3) (sE W b X b' hG h4) h2).of fun σ H Q q => ?_
        obtain ⟨pv, ρ, S, Hd, M, Qd, en, sr, hc, w, fin⟩ := q
        simp only [wT] at w
        simp only [cE] at hc fin
        refine ⟨pv, ρ, S, Hd, M, _, en, sr, by omega, w, fun x S1 Hd1 H1 v1 mv1 sr1 rd1 w1 => ?_⟩
        refine ⟨pv, ρ, S1, Hd1, _, _, en.mono mv1.le, sr1, by omega, w1, fun y S2 Hd2 H2 v2 mv2 sr2 rd2 w2 => ?_⟩
        obtain ⟨k, hk, w2⟩ := w2
        exact ⟨pv, x, y, S2, Hd2, _, k, rd1.mono mv2.le, rd2, sr2, hk, ⟨k, rfl, fin _ _ _ _ (mv1.trans mv2) (sr2.up (by omega)) w2⟩⟩
    | _ => simp [mE] at h
  | .ch n m a b c, X, e, hG, h => by
    cases e with
    | Compare a' ops bs pos =>
      match ops, bs, h with
      | [o, o2], [b', c'], h =>
        simp only [mE, Bool.and_eq_true, decide_eq_true_eq, Bool.not_eq_true'] at h
        obtain ⟨h1, h2, h3, h4, h5, h6⟩ := h
        subst h1 h2
        refine (pt_chain (n.ok X (W.amb X hG)) (m.ok X (W.amb X hG)) (sE W a X a' hG h4) (sE W b X b' hG h5) (sE W c X c' hG h6) h3).of fun σ H Q q => ?_
        obtain ⟨pv, ρ, S, Hd, M, Qd, en, sr, hc, w, fin⟩ := q
        simp only [wT] at w
        simp only [cE] at hc fin
        refine ⟨pv, ρ, S, Hd, M, _, en, sr, by omega, w, fun x S1 Hd1 H1 v1 mv1 sr1 rd1 w1 => ?_⟩
        refine ⟨pv, ρ, S1, Hd1, _, _, en.mono mv1.le, sr1, by omega, w1, fun y S2 Hd2 H2 v2 mv2 sr2 rd2 w2 => ?_⟩
        obtain ⟨k, hk, w2⟩ := w2
        refine ⟨pv, x, y, S2, Hd2, _, k, rd1.mono mv2.le, rd2, sr2, hk, k, rfl, ?_⟩
        cases k with
        | true =>
          simp only [if_true] at w2 ⊢
          refine ⟨pv, ρ, S2, Hd2, _, _, (en.mono mv1.le).mono mv2.le, sr2, by omega, w2, fun z S3 Hd3 H3 v3 mv3 sr3 rd3 w3 => ?_⟩
          obtain ⟨j, hj, w3⟩ := w3
          exact ⟨pv, y, z, S3, Hd3, _, j, rd2.mono mv3.le, rd3, sr3, hj, ⟨j, rfl, fin _ _ _ _ ((mv1.trans mv2).trans mv3) (sr3.up (by omega)) w3⟩⟩
        | false =>
          simp only [Bool.false_eq_true, if_false] at w2 ⊢
          exact ⟨false, rfl, fin _ _ _ _ (mv1.trans mv2) (sr2.up (by omega)) w2⟩
    | _ => simp [mE] at h
  | .glb _, _, _, _, _ => ⟨fun _ _ _ _ _ _ q => by
    obtain ⟨pv, ρ, S, Hd, M, Qd, en, sr, hc, w, fin⟩ := q
    simp only [wT] at w⟩
  | .frz _, _, _, _, _ => ⟨fun _ _ _ _ _ _ q => by
    obtain ⟨pv, ρ, S, Hd, M, Qd, en, sr, hc, w, fin⟩ := q
    simp only [wT] at w⟩
  | .ite _ _ _, _, _, _, _ => ⟨fun _ _ _ _ _ _ q => by
    obtain ⟨pv, ρ, S, Hd, M, Qd, en, sr, hc, w, fin⟩ := q
    simp only [wT] at w⟩
  | .lc _ _ _ _ _ _ _, _, _, _, _ => ⟨fun _ _ _ _ _ _ q => by
    obtain ⟨pv, ρ, S, Hd, M, Qd, en, sr, hc, w, fin⟩ := q
    simp only [wT] at w⟩
  | .and es, X, e, hG, h => by
    cases e with
    | BoolOp op as pos =>
      cases op with
      | And =>
        simp only [mE] at h
        refine (sAndT W es X as pos hG h).pt.of fun σ H Q q => ?_
        obtain ⟨pv, ρ, S, Hd, M, Qd, en, sr, hc, w, fin⟩ := q
        simp only [wT] at w
        simp only [cE] at hc fin
        exact ⟨pv, ρ, S, Hd, M, Qd, en, sr, hc, w, fin⟩
      | Or => simp [mE] at h
    | _ => simp [mE] at h
  | .or es, X, e, hG, h => by
    cases e with
    | BoolOp op as pos =>
      cases op with
      | Or =>
        simp only [mE] at h
        refine (sOrT W es X as pos hG h).pt.of fun σ H Q q => ?_
        obtain ⟨pv, ρ, S, Hd, M, Qd, en, sr, hc, w, fin⟩ := q
        simp only [wT] at w
        simp only [cE] at hc fin
        exact ⟨pv, ρ, S, Hd, M, Qd, en, sr, hc, w, fin⟩
      | And => simp [mE] at h
    | _ => simp [mE] at h
  | .not r, X, e, hG, h => by
    cases e with
    | UnaryOp op a pos =>
      cases op with
      | Not =>
        simp only [mE] at h
        refine (pt_not (sT W r X a hG h)).of fun σ H Q q => ?_
        obtain ⟨pv, ρ, S, Hd, M, Qd, en, sr, hc, w, fin⟩ := q
        simp only [wT] at w
        simp only [cE] at hc fin
        exact ⟨pv, ρ, S, Hd, M, _, en, sr, hc, w, fun b S' Hd' H' mv sr' w' => fin _ _ _ _ mv sr' w'⟩
      | _ => simp [mE] at h
    | _ => simp [mE] at h
theorem sAndT (W : Wd C cf fn G) : ∀ (rs : List RE) (X : Cx) (es : List Expr) (pos : Pos), G X → mEs fn X.N rs X.env.scope es = true → PW X (.BoolOp .And es pos) (tB' X.K (wAndT C rs) (cEs cf rs))
  | [], _, _, _, _, _ => ⟨fun _ _ _ _ _ _ _ q => by
    obtain ⟨pv, ρ, S, Hd, M, Qd, en, sr, hc, w, fin⟩ := q
    simp only [wAndT] at w⟩
  | _ :: _, _, [], _, _, h => by simp [mEs] at h
  | [r], X, [e], pos, hG, h => by
    simp only [mEs, Bool.and_eq_true] at h
    refine (pw_and1 (sT W r X e hG h.1)).of fun σ H Q q => ?_
    obtain ⟨pv, ρ, S, Hd, M, Qd, en, sr, hc, w, fin⟩ := q
    simp only [wAndT] at w
    simp only [cEs, Nat.add_zero] at hc fin
    exact ⟨pv, ρ, S, Hd, M, Qd, en, sr, hc, w, fin⟩
  | [_], _, _ :: _ :: _, _, _, h => by simp [mEs] at h
  | _ :: _ :: _, _, [_], _, _, h => by simp [mEs] at h
  | r :: r2 :: rs, X, e :: e2 :: es, pos, hG, h => by
    simp only [mEs, Bool.and_eq_true] at h
    refine (pw_and (sT W r X e hG h.1) (sAndT W (r2 :: rs) X (e2 :: es) pos hG (by simp only [mEs, Bool.and_eq_true]; exact h.2))).of fun σ H Q q => ?_
    obtain ⟨pv, ρ, S, Hd, M, Qd, en, sr, hc, w, fin⟩ := q
    rw [wAndT] at w
    rw [cEs] at hc fin
    refine ⟨pv, ρ, S, Hd, M, _, en, sr, by omega, w, fun b S' Hd' H' mv sr' w' => ?_⟩
    cases b with
    | true =>
      simp only [if_true] at w' ⊢
      exact ⟨pv, ρ, S', Hd', _, Qd, en.mono mv.le, sr', by omega, w', fun b S2 Hd2 H2 mv2 sr2 q => fin b S2 Hd2 H2 (mv.trans mv2) (sr2.up (by omega)) q⟩
    | false =>
      simp only [Bool.false_eq_true, if_false] at w' ⊢
      exact fin _ _ _ _ mv (sr'.up (by omega)) w'
theorem sOrT (W : Wd C cf fn G) : ∀ (rs : List RE) (X : Cx) (es : List Expr) (pos : Pos), G X → mEs fn X.N rs X.env.scope es = true → PW X (.BoolOp .Or es pos) (tB' X.K (wOrT C rs) (cEs cf rs))
  | [], _, _, _, _, _ => ⟨fun _ _ _ _ _ _ _ q => by
    obtain ⟨pv, ρ, S, Hd, M, Qd, en, sr, hc, w, fin⟩ := q
    simp only [wOrT] at w⟩
  | _ :: _, _, [], _, _, h => by simp [mEs] at h
  | [r], X, [e], pos, hG, h => by
    simp only [mEs, Bool.and_eq_true] at h
    refine (pw_or1 (sT W r X e hG h.1)).of fun σ H Q q => ?_
    obtain ⟨pv, ρ, S, Hd, M, Qd, en, sr, hc, w, fin⟩ := q
    simp only [wOrT] at w
    simp only [cEs, Nat.add_zero] at hc fin
    exact ⟨pv, ρ, S, Hd, M, Qd, en, sr, hc, w, fin⟩
  | [_], _, _ :: _ :: _, _, _, h => by simp [mEs] at h
  | _ :: _ :: _, _, [_], _, _, h => by simp [mEs] at h
  | r :: r2 :: rs, X, e :: e2 :: es, pos, hG, h => by
    simp only [mEs, Bool.and_eq_true] at h
    refine (pw_or (sT W r X e hG h.1) (sOrT W (r2 :: rs) X (e2 :: es) pos hG (by simp only [mEs, Bool.and_eq_true]; exact h.2))).of fun σ H Q q => ?_
    obtain ⟨pv, ρ, S, Hd, M, Qd, en, sr, hc, w, fin⟩ := q
    rw [wOrT] at w
    rw [cEs] at hc fin
    refine ⟨pv, ρ, S, Hd, M, _, en, sr, by omega, w, fun b S' Hd' H' mv sr' w' => ?_⟩
    cases b with
    | false =>
      simp only [Bool.false_eq_true, if_false] at w' ⊢
      exact ⟨pv, ρ, S', Hd', _, Qd, en.mono mv.le, sr', by omega, w', fun b S2 Hd2 H2 mv2 sr2 q => fin b S2 Hd2 H2 (mv.trans mv2) (sr2.up (by omega)) q⟩
    | true =>
      simp only [if_true] at w' ⊢
      exact fin _ _ _ _ mv (sr'.up (by omega)) w'
theorem sTs (W : Wd C cf fn G) : ∀ (rs : List RE) (X : Cx) (es : List Expr), G X → mEs fn X.N rs X.env.scope es = true → PTs X es (tB' X.K (wTs C rs) (cEs cf rs))
  | [], X, [], hG, _ => by
    refine ⟨fun pins s σ H Q I q => pts_nil.run pins s σ H Q I ?_⟩
    obtain ⟨pv, ρ, S, Hd, M, Qd, en, sr, hc, w, fin⟩ := q
    simp only [wTs] at w
    exact fin true S Hd H (.refl ..) (by simpa only [cEs, Nat.add_zero] using sr) w
  | [], _, _ :: _, _, h => by simp [mEs] at h
  | _ :: _, _, [], _, h => by simp [mEs] at h
  | [r], X, [e], hG, h => by
    simp only [mEs, Bool.and_eq_true] at h
    refine ⟨fun pins s σ H Q I q => (pts_one (sT W r X e hG h.1)).run pins s σ H Q I ?_⟩
    obtain ⟨pv, ρ, S, Hd, M, Qd, en, sr, hc, w, fin⟩ := q
    simp only [wTs] at w
    simp only [cEs, Nat.add_zero] at hc fin
    exact ⟨pv, ρ, S, Hd, M, Qd, en, sr, hc, w, fin⟩
  | _ :: _ :: _, X, _ :: _, hG, h => ⟨fun _ _ _ _ _ _ q => by
    obtain ⟨pv, ρ, S, Hd, M, Qd, en, sr, hc, w, fin⟩ := q
    simp only [wTs] at w⟩
  | [_], _, _ :: _ :: _, _, h => by simp [mEs] at h
end
end
end FP

/-! FP, part E: statements. -/
namespace FP
open PySem PySem.Spec L2

def isStarred : Expr → Bool
  | .Starred _ _ => true
  | _ => false
/-- what a, b = x, y does: nothing is known | an ordinary assignment | these names are stored one by one -/
def swpR (sc : Scope) (ts vs : List Expr) : Option (Option (List Str)) :=
  if (!(ts.length == 2 || ts.length == 3) || vs.length != ts.length) = true then some none
  else if (vs.any fun | .Starred .. => true | _ => false) = true then some none
  else
    let names := ts.filterMap fun
      | .Name id pos => if (sc.names.lookup id == some .local && pos.line == (ts.head?.map fun t => t.pos.line).getD 0) = true then some id else none
      | _ => none
    if (names.length != ts.length || names.eraseDups.length != names.length) = true then some none
    else if vs.all (foldedForSure 8) = true then some none
    else if vs.all (constantsAlone 8) = true then none
    else some (some names)
theorem swpR_ok {ts vs : List Expr} {env : Env} {r : Option (List Str)} {k k2 p p2} (hk : env.scope.kind = .function) (h : swpR env.scope ts vs = some r) : swappedStores [.Tuple ts k p] (.Tuple vs k2 p2) env = pure r := by
  have hb : env.blockKind = .function := by
    unfold Env.blockKind
    rw [hk] <;> rfl
  unfold swpR at h
  unfold swappedStores
  simp only [hb, Env.kindOf] at h ⊢
  split at h
  · cases h
    rename_i c
    have c' : (!(ts.length == 2 || ts.length == 3) || vs.length != ts.length || ScopeKind.function != ScopeKind.function) = true := by
      rw [c]; rfl
    rw [if_pos c']
  · rename_i c
    have c' : ¬ (!(ts.length == 2 || ts.length == 3) || vs.length != ts.length || ScopeKind.function != ScopeKind.function) = true := by
      have q : (!(ts.length == 2 || ts.length == 3) || vs.length != ts.length) = false := by simpa using c
      rw [q]; decide
    rw [if_neg c']
    split at h
    · rename_i c2; cases h; exact if_pos c2
    · rename_i c2; refine (if_neg c2).trans ?_
      split at h
      · rename_i c3; cases h; exact if_pos c3
      · rename_i c3; refine (if_neg c3).trans ?_
        split at h
        · rename_i c4; cases h; exact if_pos c4
        · rename_i c4; refine (if_neg c4).trans ?_
          split at h
          · cases h
          · rename_i c5; cases h; exact if_neg c5

/-! ### the look at statements -/
def noSw (sc : Scope) (tg v : Expr) : Bool := match v with
  | .ListComp _ _ _ _ => (match tg with
    | .Name y py => !swB sc y py v
    | _ => true)
  | .SetComp _ _ _ _ => false
  | .DictComp _ _ _ _ _ => false
  | _ => true
theorem noSw_ok {tg v : Expr} {env : Env} {l : Nat} (hk : env.scope.kind = .function) (h : noSw env.scope tg v = true) : swapsWith v (some tg) l env = pure false := by
  have hb : env.blockKind = .function := by
    unfold Env.blockKind
    rw [hk] <;> rfl
  cases v <;> first | (cases h; done) | rfl | skip
  rename_i el gs scope pos
  cases tg <;> first | rfl | skip
  rename_i y py
  simp only [noSw, swB, Bool.not_eq_true'] at h
  unfold swapsWith
  simp only [hb, Env.kindOf, Expr.pos]
  by_cases hl : env.scope.names.lookup y = some .local
  · simp only [hl, decide_true, Bool.true_and] at h ⊢
    show pure (true && true && (py.line == pos.line) && !(scope.names.any fun x => x.1 == y && (x.2 == NameKind.local || x.2 == NameKind.cell))) = pure false
    simp only [Bool.true_and]
    rw [h]
  · have : (env.scope.names.lookup y == some NameKind.local) = false := beq_eq_false_iff_ne.mpr hl
    rw [this]
    simp
theorem sw_ok {el : Expr} {gs : List Comprehension} {scope : Scope} {pos py : Pos} {y : Str} {l : Nat} {env : Env} (hk : env.scope.kind = .function) (h : swB env.scope y py (.ListComp el gs scope pos) = true) :
    env.scope.names.lookup y = some .local ∧ swapsWith (.ListComp el gs scope pos) (some (.Name y py)) l env = pure true := by
  simp only [swB, Bool.and_eq_true, decide_eq_true_eq, Bool.not_eq_true'] at h
  exact ⟨h.1.1, sw_true hk h.1.1 h.1.2 h.2⟩
def notSlice : Expr → Bool
  | .Slice _ _ _ _ => false
  | _ => true
/-- is a tuple of values unpacked as it stands (not stored one by one) -/
def plainStore (sc : Scope) (tg v : Expr) : Bool := match tg, v with
  | .Tuple ts _ _, .Tuple vs _ _ => (match swpR sc ts vs with
    | some none => true
    | _ => false)
  | .List _ _, _ => false
  | _, _ => true
theorem plainStore_ok {tg v : Expr} {env : Env} (hk : env.scope.kind = .function) (h : plainStore env.scope tg v = true) : swappedStores [tg] v env = pure none := by
  cases tg <;> first | (cases h; done) | rfl | skip
  cases v <;> first | rfl | skip
  simp only [plainStore] at h
  split at h
  · rename_i q; exact swpR_ok hk q
  · cases h
section
variable (fn : Nat → Str) (cf : Nat → Nat) (N : List Str)
def mP2 (i j : Nat) (r1 r2 : RE) (sc : Scope) (tg v : Expr) : Bool := match tg, v with
  | .Tuple [.Name x px, .Name y py] k pt, .Tuple [a, b] k2 p2 => decide (N[i]? = some x) && (decide (N[j]? = some y) && (decide (i ≠ j) && (decide (sc.names.lookup x = some .local) && (decide (sc.names.lookup y = some .local) &&
      (decide (swpR sc [.Name x px, .Name y py] [a, b] = some (some [x, y])) && (mE fn N r1 sc a && mE fn N r2 sc b))))))
  | _, _ => false
def mP3 (i j l : Nat) (r1 r2 r3 : RE) (sc : Scope) (tg v : Expr) : Bool := match tg, v with
  | .Tuple [.Name x px, .Name y py, .Name z pz] k pt, .Tuple [a, b, c] k2 p2 => decide (N[i]? = some x) && (decide (N[j]? = some y) && (decide (N[l]? = some z) && (decide (i ≠ j) && (decide (i ≠ l) && (decide (j ≠ l) &&
      (decide (sc.names.lookup x = some .local) && (decide (sc.names.lookup y = some .local) && (decide (sc.names.lookup z = some .local) && (decide (swpR sc [.Name x px, .Name y py, .Name z pz] [a, b, c] = some (some [x, y, z])) && (mE fn N r1 sc a && (mE fn N r2 sc b && mE fn N r3 sc c)))))))))))
  | _, _ => false
def mL (i : Nat) (r : RE) (sc : Scope) (tg v : Expr) : Bool := match r, tg, v with
  | .lc o elt t n es cond own, .Name y py, .ListComp elt' gs scope p => decide (N[i]? = some y) && (swB sc y py (.ListComp elt' gs scope p) && mE fn N (.lc o elt t n es cond own) sc (.ListComp elt' gs scope p))
  | _, _, _ => false
mutual
def mS : RS → Scope → Stmt → Bool
  | .asg t e, sc, .Assign [tg] v _ => mT N (fun _ => true) t sc tg && (mE fn N e sc v && (noSw sc tg v && plainStore sc tg v))
  | .asgL i e, sc, .Assign [tg] v _ => mL fn N i e sc tg v
  | .par2 i j r1 r2, sc, .Assign [tg] v _ => mP2 fn N i j r1 r2 sc tg v
  | .par3 i j l r1 r2 r3, sc, .Assign [tg] v _ => mP3 fn N i j l r1 r2 r3 sc tg v
  | .aug i n e, sc, .AugAssign (.Name x _) op v _ => decide (N[i]? = some x) && (locB sc x && (decide (n.op = op) && mE fn N e sc v))
  | .setI e o i, sc, .Assign [.Subscript o' i' _] v _ => mE fn N e sc v && (mE fn N o sc o' && (mE fn N i sc i' && (notSlice i' && !isComp v)))
  | .expr e, sc, .Expr v _ => mE fn N e sc v && !isComp v
  | .ret e, sc, .Return (some v) _ => mE fn N e sc v
  | .retN, _, .Return none _ => true
  | .ifs c a b, sc, .If c' a' b' _ => mE fn N c sc c' && (mSs a sc a' && mSs b sc b')
  | .whl c b, sc, .While c' b' [] _ => mE fn N c sc c' && (mSs b sc b' && decide (cE cf c + cSs cf b = 0))
  | .for_ t n es b, sc, .For tg iter body [] _ => (match n.shape sc iter with
      | some as => mEs fn N es sc as
      | none => false) && (n.tgt tg && (mT N (fun _ => true) t sc tg && mSs b sc body))
  | .brk, _, .Break _ => true
  | .cnt, _, .Continue _ => true
  | .pas, _, .Pass _ => true
  | .nev, _, _ => true
  | _, _, _ => false
def mSs : List RS → Scope → List Stmt → Bool
  | [], _, [] => true
  | s :: ss, sc, t :: ts => mS s sc t && mSs ss sc ts
  | [.nev], _, _ => true
  | _, _, _ => false
end
end

/-! ### readings of statements -/
structure EOk (K : PySem.W.Frag) (pv : List Addr) (Hd H : Hp) (B : Nat) (W : WEnds) (D : Ends) : Prop where
  nx : ∀ ρ S Hd' H' σ, Mv pv Hd H Hd' H' → SR K pv S Hd' H' B → EnR K Hd' ρ σ → W.nx ρ S → D.nx σ H'
  rt : ∀ d S Hd' H' v, Mv pv Hd H Hd' H' → SR K pv S Hd' H' B → Rep K Hd' d v → W.rt d S → D.rt v H'
  bk : ∀ ρ S Hd' H' σ, Mv pv Hd H Hd' H' → SR K pv S Hd' H' B → EnR K Hd' ρ σ → W.bk ρ S → D.bk σ H'
  ct : ∀ ρ S Hd' H' σ, Mv pv Hd H Hd' H' → SR K pv S Hd' H' B → EnR K Hd' ρ σ → W.ct ρ S → D.ct σ H'
theorem EOk.go {K : PySem.W.Frag} {pv : List Addr} {Hd H Hd' H' : Hp} {B B' : Nat} {W : WEnds} {D : Ends} (e : EOk K pv Hd H B W D) (m : Mv pv Hd H Hd' H') (h : B' ≤ B) : EOk K pv Hd' H' B' W D :=
  ⟨fun ρ S Hd2 H2 σ m2 s r q => e.nx ρ S Hd2 H2 σ (m.trans m2) (s.up h) r q, fun d S Hd2 H2 v m2 s r q => e.rt d S Hd2 H2 v (m.trans m2) (s.up h) r q,
   fun ρ S Hd2 H2 σ m2 s r q => e.bk ρ S Hd2 H2 σ (m.trans m2) (s.up h) r q, fun ρ S Hd2 H2 σ m2 s r q => e.ct ρ S Hd2 H2 σ (m.trans m2) (s.up h) r q⟩
section
variable (C : Nat → List D → Sto → PostE → Prop) (cf : Nat → Nat)
def tS' (K : PySem.W.Frag) (w : WEnds → En → Sto → Prop) (c : Nat) : TS := fun D σ H => ∃ pv ρ S Hd M W, EnR K Hd ρ σ ∧ SR K pv S Hd H M ∧ M + c ≤ CAP ∧ w W ρ S ∧ EOk K pv Hd H (M + c) W D
end
section
variable {C : Nat → List D → Sto → PostE → Prop} {cf : Nat → Nat} {fn : Nat → Str} {G : Cx → Prop}
theorem mul_step {i n c : Nat} (h : i < n) (hm : n ≤ MX) : i * c + c ≤ MX * c := by
  have h2 : (i + 1) * c ≤ MX * c := Nat.mul_le_mul_right _ (by omega)
  rw [Nat.add_mul, Nat.one_mul] at h2
  exact h2
/-- a for's turns -/
theorem for_imp {K : PySem.W.Frag} {D : Ends} {σ : St} {H : Hp} {t : RT} {n : INode} {es : List RE} {b : List RS} (q : tS' K (wS C (.for_ t n es b)) (cS cf (.for_ t n es b)) D σ H) :
    tFor (fun σ H R => tAll (es.map (tE C cf K)) σ H fun vs H1 => vIter K n.sem vs H1 R) (gT K t) (tS' K (wSs C b) (cSs cf b)) D σ H := by
  obtain ⟨pv, ρ, S, Hd, M, W, en, sr, hc, w, ok⟩ := q
  simp only [wS] at w
  simp only [cS] at hc ok
  refine all_run en sr (by omega) w fun ds S1 Hd1 H1 vs mv1 sr1 rl1 w1 => ?_
  refine ⟨pv, ds, S1, Hd1, _, _, rl1, sr1, w1, fun items stay J Hd2 H2 w2 mv2 sr2 it => ?_⟩
  obtain ⟨hmx, it⟩ := it
  generalize hM : M + cEs cf es = M1 at sr1 sr2
  generalize hcc : cSs cf b = c at hc ok
  obtain ⟨step, hst⟩ : ∃ step, step = (fun (x : FP.D) (ρ : En) (S2 : Sto) (k : En → Sto → Prop) => bindT t x ρ fun ρ' => wSs C b { W with nx := k, ct := k, bk := W.nx } ρ' S2) := ⟨_, rfl⟩
  rw [← hst] at w2
  let Wv : Nat → Nat → St → Hp → Prop := fun i m σ' Hh => ∃ ρ' S' Hd', m = items.length - i ∧ i ≤ items.length ∧ Le Hd2 Hd' ∧ Mv pv Hd H Hd' Hh ∧ SR K pv S' Hd' Hh (M1 + i * c) ∧ EnR K Hd' ρ' σ' ∧ forRun step stay (items.drop i) ρ' S' W.nx
  refine ⟨Wv, ⟨items.length, ρ, S1, Hd2, by simp, Nat.zero_le _, .refl _, mv1.trans mv2, by simpa using sr2, (en.mono mv1.le).mono mv2.le, by simpa using w2⟩, ?_⟩
  rintro i m σ3 Hh ⟨ρ3, S3, Hd3, rfl, hi, le3, mv3, sr3, en3, run⟩
  by_cases hlt : i < items.length
  · rw [List.drop_eq_getElem_cons hlt] at run
    simp only [forRun] at run
    obtain ⟨hstay, run⟩ := run
    obtain ⟨hgo, hy⟩ := (it _ _ _ _ _ le3 sr3 hstay i).1 hlt
    refine .inr ⟨hgo, fun σ' H' => Wv (i + 1) (items.length - (i + 1)) σ' H', fun σ' H' w' => ⟨_, by omega, w'⟩, fun x H' y => ?_⟩
    obtain ⟨Hd4, d, hd, mv4, sr4, rd4⟩ := hy x H' y
    have hd' : items[i] = d := by
      rw [List.getElem?_eq_getElem hlt] at hd; exact Option.some.inj hd
    rw [hd', show step d ρ3 S3 = _ from congrFun (congrFun (congrFun hst d) ρ3) S3] at run
    refine ⟨ρ3, Hd4, d, _, en3.mono mv4.le, rd4, sr4.sub, run, fun ρ' σ2 en5 hw run => ?_⟩
    have hb := mul_step (c := c) hlt hmx
    have mv34 := mv3.trans mv4
    refine ⟨pv, ρ', S3, Hd4, M1 + i * c, _, en5, sr4, by omega, run, ⟨fun ρ6 S6 Hd6 H6 σ6 m6 s6 e6 q => ?_, fun d6 S6 Hd6 H6 v6 m6 s6 r6 q => ?_, fun ρ6 S6 Hd6 H6 σ6 m6 s6 e6 q => ?_, fun ρ6 S6 Hd6 H6 σ6 m6 s6 e6 q => ?_⟩⟩
    · exact ⟨ρ6, S6, Hd6, rfl, hlt, le3.trans (mv4.le.trans m6.le), mv34.trans m6, s6.up (by rw [Nat.add_mul, Nat.one_mul]; omega), e6, q⟩
    · exact ok.rt d6 S6 Hd6 H6 v6 (mv34.trans m6) (s6.up (by omega)) r6 q
    · exact ok.nx ρ6 S6 Hd6 H6 σ6 (mv34.trans m6) (s6.up (by omega)) e6 q
    · exact ⟨ρ6, S6, Hd6, rfl, hlt, le3.trans (mv4.le.trans m6.le), mv34.trans m6, s6.up (by rw [Nat.add_mul, Nat.one_mul]; omega), e6, q⟩
  · have e : i = items.length := by omega
    subst e
    rw [List.drop_length] at run
    simp only [forRun] at run
    obtain ⟨hstay, run⟩ := run
    have hcst : items.length * c ≤ MX * c := Nat.mul_le_mul_right _ hmx
    exact .inl ⟨(it _ _ _ _ _ le3 sr3 hstay items.length).2 (Nat.le_refl _), ok.nx ρ3 S3 Hd3 Hh σ3 mv3 (sr3.up (by omega)) en3 run⟩
theorem notComp_sw {v : Expr} {tg : Option Expr} {l : Nat} {env : Env} (h : isComp v = false) : swapsWith v tg l env = pure false := by
  cases v <;> first | rfl | (cases h)
theorem sL (W : Wd C cf fn G) {X : Cx} (hG : G X) (hk : X.env.scope.kind = .function) (i : Nat) (e : RE) (tg v : Expr) (pos : Pos) (h : mL fn X.N i e X.env.scope tg v = true) : PS X (.Assign [tg] v pos) (tS' X.K (wS C (.asgL i e)) (cS cf (.asgL i e))) := by
  unfold mL at h
  split at h
  · rename_i o elt t n es cond own y py elt' gs scope p
    simp only [Bool.and_eq_true, decide_eq_true_eq] at h
    obtain ⟨h1, h2, h⟩ := h
    obtain ⟨hl, hsw⟩ := sw_ok (l := pos.line) hk h2
    cases gs with
    | nil => simp [mE] at h
    | cons g gs =>
      obtain ⟨tg', iter, ifs, asy⟩ := g
      cases gs with
      | cons _ _ => simp [mE] at h
      | nil =>
        by_cases ha : asy = 0
        · subst ha
          simp only [mE, Bool.and_eq_true] at h
          obtain ⟨g1, g2, g3, g4, g5, g6, g7⟩ := h
          split at g1
          · rename_i as hs
            have A := W.amb X hG
            refine (ps_setLc (g := gT X.K t) (tt := tB' X.K (wTs C cond) (cEs cf cond)) (te := tE C cf X.K elt) A.calm (W.nd X hG) h1 hl hsw (n.ok X tg' iter as (es.map (tE C cf X.K)) A g2 hs (sEs W es X as hG g1)) (blkOk_by g3) (fun s H Cc cl fp => ?_) (fun s H Cc cl fp => ?_) (fun s H Cc cl fp => ?_) (fun x => n.fold _ _ _ hs _ x)).of fun D σ H q => ?_
            · have hB := W.blk X s H scope cl Cc fp hG
              exact sG (X := X.blk s H scope (compEnvC scope cl Cc X.env) fp) (W.amb _ hB).calm (W.nd _ hB) t tg' g4
            · exact sTs W cond _ ifs (W.blk X s H scope cl Cc fp hG) g6
            · exact sE W elt (X.blk s H scope (compEnvC scope cl Cc X.env) fp) elt' (W.blk X s H scope cl Cc fp hG) g7
            · obtain ⟨pv, ρ, S, Hd, M, W', en, sr, hc, w, ok⟩ := q
              rw [wS] at w
              rw [cS] at hc ok
              refine lc_imp g5 ⟨pv, ρ, S, Hd, M, _, en, sr, hc, w, fun d S' Hd' H' v mv sr' rd w' => ?_⟩
              exact ok.nx _ S' Hd' H' _ mv sr' ((en.mono mv.le).set rd i) w'
          · cases g1
        · simp [mE, ha] at h
  · cases h
mutual
theorem sS (W : Wd C cf fn G) {X : Cx} (hG : G X) (hp : PassesOwn (model X.prog X.w) X.A X.env X.xe) (hk : X.env.scope.kind = .function) (hf : X.fn = fun _ => true) :
    ∀ (s : RS) (st : Stmt), mS fn cf X.N s X.env.scope st = true → PS X st (tS' X.K (wS C s) (cS cf s))
  | .asg t e, st, h => by
    cases st with
    | Assign tgs v pos =>
      cases tgs with
      | nil => simp [mS] at h
      | cons tg tgs =>
        cases tgs with
        | cons _ _ => simp [mS] at h
        | nil =>
          simp only [mS, Bool.and_eq_true] at h
          obtain ⟨h1, h2, h3, h4⟩ := h
          refine (ps_asg (sE W e X v hG h2) (sG (W.amb X hG).calm (W.nd X hG) t tg (by rw [hf]; exact h1)) (noSw_ok hk h3) (plainStore_ok hk h4) (by rw [assign_star (mT_ns h1)]; rfl)).of fun D σ H q => ?_
          obtain ⟨pv, ρ, S, Hd, M, W', en, sr, hc, w, ok⟩ := q
          simp only [wS] at w
          simp only [cS] at hc ok
          refine ⟨pv, ρ, S, Hd, M, _, en, sr, hc, w, fun d S' Hd' H' v mv sr' rd w' => ?_⟩
          exact ⟨ρ, Hd', d, _, en.mono mv.le, rd, sr'.sub, w', fun ρ' σ' en' _ q => ok.nx ρ' S' Hd' H' σ' mv sr' en' q⟩
    | _ => simp [mS] at h
  | .asgL i e, st, h => by
    cases st with
    | Assign tgs v pos =>
      cases tgs with
      | nil => simp [mS] at h
      | cons tg tgs =>
        cases tgs with
        | cons _ _ => simp [mS] at h
        | nil =>
          simp only [mS] at h
          exact sL W hG hk i e tg v pos h
    | _ => simp [mS] at h
  | .par2 i j r1 r2, st, h => by
    cases st with
    | Assign tgs v pos =>
      cases tgs with
      | nil => simp [mS] at h
      | cons tg tgs =>
        cases tgs with
        | cons _ _ => simp [mS] at h
        | nil =>
          simp only [mS] at h
          unfold mP2 at h
          split at h
          · rename_i x px y py k pt a b k2 p2
            simp only [Bool.and_eq_true, decide_eq_true_eq] at h
            obtain ⟨h1, h2, h3, h4, h5, h6, h7, h8⟩ := h
            have ps : PEs X [a, b] [tE C cf X.K r1, tE C cf X.K r2] := .cons (mE_ns r1 h7) (tE_mono r1) (sE W r1 X a hG h7) (.cons (mE_ns r2 h8) (tE_mono r2) (sE W r2 X b hG h8) .nil)
            refine (ps_par (W.amb X hG).calm (W.nd X hG) h1 h2 h3 h4 h5 ps.pa (swpR_ok hk h6) rfl).of fun D σ H q => ?_
            obtain ⟨pv, ρ, S, Hd, M, W', en, sr, hc, w, ok⟩ := q
            simp only [wS] at w
            simp only [cS] at hc ok
            refine ⟨pv, ρ, S, Hd, M, _, en, sr, by omega, w, fun d S1 Hd1 H1 v1 mv1 sr1 rd1 w1 => ?_⟩
            refine ⟨pv, ρ, S1, Hd1, _, _, en.mono mv1.le, sr1, by omega, w1, fun e S2 Hd2 H2 v2 mv2 sr2 rd2 w2 => ?_⟩
            exact ⟨v1, v2, rfl, ok.nx _ _ Hd2 _ _ (mv1.trans mv2) (sr2.up (by omega)) ((((en.mono mv1.le).mono mv2.le).set (rd1.mono mv2.le) i).set rd2 j) w2⟩
          · cases h
    | _ => simp [mS] at h
  | .par3 i j l r1 r2 r3, st, h => by
    cases st with
    | Assign tgs v pos =>
      cases tgs with
      | nil => simp [mS] at h
      | cons tg tgs =>
        cases tgs with
        | cons _ _ => simp [mS] at h
        | nil =>
          simp only [mS] at h
          unfold mP3 at h
          split at h
          · rename_i x px y py z pz k pt a b c k2 p2
            simp only [Bool.and_eq_true, decide_eq_true_eq] at h
            obtain ⟨h1, h2, h3, h4, h5, h6, h7, h8, h9, h10, g1, g2, g3⟩ := h
            have ps : PEs X [a, b, c] [tE C cf X.K r1, tE C cf X.K r2, tE C cf X.K r3] := .cons (mE_ns r1 g1) (tE_mono r1) (sE W r1 X a hG g1) (.cons (mE_ns r2 g2) (tE_mono r2) (sE W r2 X b hG g2) (.cons (mE_ns r3 g3) (tE_mono r3) (sE W r3 X c hG g3) .nil))
            refine (ps_par3 (W.amb X hG).calm (W.nd X hG) h1 h2 h3 h4 h5 h6 h7 h8 h9 ps.pa (swpR_ok hk h10) rfl).of fun D σ H q => ?_
            obtain ⟨pv, ρ, S, Hd, M, W', en, sr, hc, w, ok⟩ := q
            simp only [wS] at w
            simp only [cS] at hc ok
            refine ⟨pv, ρ, S, Hd, M, _, en, sr, by omega, w, fun d S1 Hd1 H1 v1 mv1 sr1 rd1 w1 => ?_⟩
            refine ⟨pv, ρ, S1, Hd1, _, _, en.mono mv1.le, sr1, by omega, w1, fun e S2 Hd2 H2 v2 mv2 sr2 rd2 w2 => ?_⟩
            refine ⟨pv, ρ, S2, Hd2, _, _, (en.mono mv1.le).mono mv2.le, sr2, by omega, w2, fun f S3 Hd3 H3 v3 mv3 sr3 rd3 w3 => ?_⟩
            have mv := (mv1.trans mv2).trans mv3
            exact ⟨v1, v2, v3, rfl, ok.nx _ _ Hd3 _ _ mv (sr3.up (by omega)) ((((en.mono mv.le).set (rd1.mono (mv2.le.trans mv3.le)) i).set (rd2.mono mv3.le) j).set rd3 l) w3⟩
          · cases h
    | _ => simp [mS] at h
  | .aug i n e, st, h => by
    cases st with
    | AugAssign tg op v pos =>
      cases tg with
      | Name x p =>
        simp only [mS, Bool.and_eq_true, decide_eq_true_eq] at h
        obtain ⟨h1, h2, h3, h4⟩ := h
        subst h3
        refine (ps_aug (W.nd X hG) h1 (locB_ok h2) (sE W e X v hG h4) (n.ok X (W.amb X hG)) (.inl (by rw [hf]))).of fun D σ H q => ?_
        obtain ⟨pv, ρ, S, Hd, M, W', en, sr, hc, w, ok⟩ := q
        simp only [wS] at w
        simp only [cS] at hc ok
        obtain ⟨x0, hx, w⟩ := w
        obtain ⟨v0, hv, r0⟩ := en.2 i x0 hx
        refine ⟨v0, hv, pv, ρ, S, Hd, M, _, en, sr, hc, w, fun d S' Hd' H' v mv sr' rd w' => ?_⟩
        refine ⟨pv, x0, d, S', Hd', _, _, r0.mono mv.le, rd, sr', w', fun d2 S2 Hd2 H2 v2 mv2 sr2 rd2 q => ?_⟩
        exact ok.nx _ S2 Hd2 H2 _ (mv.trans mv2) sr2 (((en.mono mv.le).mono mv2.le).set rd2 i) q
      | _ => simp [mS] at h
    | _ => simp [mS] at h
  | .setI e o i, st, h => by
    cases st with
    | Assign tgs v pos =>
      cases tgs with
      | nil => simp [mS] at h
      | cons tg tgs =>
        cases tgs with
        | cons _ _ => cases tg <;> simp [mS] at h
        | nil =>
          cases tg with
          | Subscript o' i' p =>
            simp only [mS, Bool.and_eq_true, Bool.not_eq_true'] at h
            obtain ⟨h1, h2, h3, h4, h5⟩ := h
            refine (ps_asg (sE W e X v hG h1) (pg_sub (sE W o X o' hG h2) (sE W i X i' hG h3) set_list (by intro w; cases i' <;> first | rfl | cases h4)) (notComp_sw (tg := some (.Subscript o' i' p)) (l := pos.line) (env := X.env) h5) (by rfl) rfl).of fun D σ H q => ?_
            obtain ⟨pv, ρ, S, Hd, M, W', en, sr, hc, w, ok⟩ := q
            simp only [wS] at w
            simp only [cS] at hc ok
            refine ⟨pv, ρ, S, Hd, M, _, en, sr, by omega, w, fun d S1 Hd1 H1 v1 mv1 sr1 rd1 w1 => ?_⟩
            refine ⟨pv, ρ, S1, Hd1, _, _, en.mono mv1.le, sr1, by omega, w1, fun l S2 Hd2 H2 v2 mv2 sr2 rd2 w2 => ?_⟩
            refine ⟨pv, ρ, S2, Hd2, _, _, (en.mono mv1.le).mono mv2.le, sr2, by omega, w2, fun k S3 Hd3 H3 v3 mv3 sr3 rd3 w3 => ?_⟩
            obtain ⟨a, xs, j, q, rfl, rfl, hm, hix, w3⟩ := w3
            simp only [Rep] at rd2 rd3
            subst rd2 rd3
            obtain ⟨_, ho, e1, vs, rfl, rl⟩ := sr3.sto _ _ hm
            refine ⟨a, vs, j, q, rfl, rfl, e1, by rw [rl.length]; exact hix, ?_⟩
            have mv := (mv1.trans mv2).trans mv3
            exact ok.nx _ _ Hd3 _ _ (mv.trans (.wr sr3 hm)) ((sr3.wr hm (o' := O.lst (xs.set q d)) ⟨_, rfl, RepL.set (rd1.mono (mv2.le.trans mv3.le)) q rl⟩).up (by omega)) (en.mono mv.le) w3
          | _ => simp [mS] at h
    | _ => simp [mS] at h
  | .expr e, st, h => by
    cases st with
    | Expr v pos =>
      simp only [mS, Bool.and_eq_true, Bool.not_eq_true'] at h
      refine (ps_expr (sE W e X v hG h.1) (notComp_sw h.2)).of fun D σ H q => ?_
      obtain ⟨pv, ρ, S, Hd, M, W', en, sr, hc, w, ok⟩ := q
      simp only [wS] at w
      simp only [cS] at hc ok
      exact ⟨pv, ρ, S, Hd, M, _, en, sr, hc, w, fun d S' Hd' H' v mv sr' rd w' => ok.nx ρ S' Hd' H' σ mv sr' (en.mono mv.le) w'⟩
    | _ => simp [mS] at h
  | .ret e, st, h => by
    cases st with
    | Return v pos =>
      cases v with
      | some v =>
        simp only [mS] at h
        refine (ps_ret (sE W e X v hG h)).of fun D σ H q => ?_
        obtain ⟨pv, ρ, S, Hd, M, W', en, sr, hc, w, ok⟩ := q
        simp only [wS] at w
        simp only [cS] at hc ok
        exact ⟨pv, ρ, S, Hd, M, _, en, sr, hc, w, fun d S' Hd' H' v mv sr' rd w' => ok.rt d S' Hd' H' v mv sr' rd w'⟩
      | none => simp [mS] at h
    | _ => simp [mS] at h
  | .retN, st, h => by
    cases st with
    | Return v pos =>
      cases v with
      | none =>
        refine ps_retN.of fun D σ H q => ?_
        obtain ⟨pv, ρ, S, Hd, M, W', en, sr, hc, w, ok⟩ := q
        simp only [wS] at w
        simp only [cS] at hc ok
        exact ok.rt _ S Hd H .non (.refl ..) (by simpa using sr) (by simp only [Rep]) w
      | some v => simp [mS] at h
    | _ => simp [mS] at h
  | .ifs c a b, st, h => by
    cases st with
    | If c' a' b' pos =>
      simp only [mS, Bool.and_eq_true] at h
      obtain ⟨h1, h2, h3⟩ := h
      refine (ps_if (sT W c X c' hG h1) (sSs W hG hp hk hf a a' h2) (sSs W hG hp hk hf b b' h3)).of fun D σ H q => ?_
      obtain ⟨pv, ρ, S, Hd, M, W', en, sr, hc, w, ok⟩ := q
      simp only [wS] at w
      simp only [cS] at hc ok
      refine ⟨pv, ρ, S, Hd, M, _, en, sr, by omega, w, fun t S' Hd' H' mv sr' w' => ?_⟩
      cases t with
      | true =>
        simp only [if_true] at w' ⊢
        exact ⟨pv, ρ, S', Hd', _, W', en.mono mv.le, sr', by omega, w', ok.go mv (by omega)⟩
      | false =>
        simp only [Bool.false_eq_true, if_false] at w' ⊢
        exact ⟨pv, ρ, S', Hd', _, W', en.mono mv.le, sr', by omega, w', ok.go mv (by omega)⟩
    | _ => simp [mS] at h
  | .whl c b, st, h => by
    cases st with
    | While c' b' orelse pos =>
      cases orelse with
      | cons _ _ => simp [mS] at h
      | nil =>
        simp only [mS, Bool.and_eq_true, decide_eq_true_eq] at h
        obtain ⟨h1, h2, h3⟩ := h
        refine (ps_while hp (sT W c X c' hG h1) (sSs W hG hp hk hf b b' h2)).of fun D σ H q => ?_
        obtain ⟨pv, ρ, S, Hd, M, W', en, sr, hc, w, ok⟩ := q
        simp only [wS] at w
        simp only [cS] at hc ok
        obtain ⟨Wi, ⟨m0, w0⟩, turn⟩ := w
        have z1 : cE cf c = 0 := by omega
        have z2 : cSs cf b = 0 := by omega
        refine ⟨fun m σ' H' => ∃ ρ' S' Hd', Mv pv Hd H Hd' H' ∧ SR X.K pv S' Hd' H' M ∧ EnR X.K Hd' ρ' σ' ∧ Wi m ρ' S', ⟨m0, ρ, S, Hd, .refl .., sr, en, w0⟩, ?_⟩
        rintro m σ1 H1 ⟨ρ1, S1, Hd1, mv1, sr1, en1, w1⟩
        refine ⟨pv, ρ1, S1, Hd1, M, _, en1, sr1, by omega, turn m ρ1 S1 w1, fun t S2 Hd2 H2 mv2 sr2 w2 => ?_⟩
        have mv := mv1.trans mv2
        have en2 := en1.mono mv2.le
        rw [z1, Nat.add_zero] at sr2
        cases t with
        | true =>
          simp only [if_true] at w2 ⊢
          refine ⟨fun σ' H' => ∃ m', m' < m ∧ ∃ ρ' S' Hd', Mv pv Hd H Hd' H' ∧ SR X.K pv S' Hd' H' M ∧ EnR X.K Hd' ρ' σ' ∧ Wi m' ρ' S', fun σ' H' q => q, ?_⟩
          refine ⟨pv, ρ1, S2, Hd2, M, _, en2, sr2, by omega, w2, ⟨fun ρ6 S6 Hd6 H6 σ6 m6 s6 e6 q => ?_, fun d6 S6 Hd6 H6 v6 m6 s6 r6 q => ?_, fun ρ6 S6 Hd6 H6 σ6 m6 s6 e6 q => ?_, fun ρ6 S6 Hd6 H6 σ6 m6 s6 e6 q => ?_⟩⟩
          · rw [z2, Nat.add_zero] at s6
            obtain ⟨m', hm, q⟩ := q
            exact ⟨m', hm, ρ6, S6, Hd6, mv.trans m6, s6, e6, q⟩
          · exact ok.rt d6 S6 Hd6 H6 v6 (mv.trans m6) (s6.up (by omega)) r6 q
          · exact ok.nx ρ6 S6 Hd6 H6 σ6 (mv.trans m6) (s6.up (by omega)) e6 q
          · rw [z2, Nat.add_zero] at s6
            obtain ⟨m', hm, q⟩ := q
            exact ⟨m', hm, ρ6, S6, Hd6, mv.trans m6, s6, e6, q⟩
        | false =>
          simp only [Bool.false_eq_true, if_false] at w2 ⊢
          exact ok.nx ρ1 S2 Hd2 H2 σ1 mv (sr2.up (by omega)) en2 w2
    | _ => simp [mS] at h
  | .for_ t n es b, st, h => by
    cases st with
    | For tg iter body orelse pos =>
      cases orelse with
      | cons _ _ => simp [mS] at h
      | nil =>
        simp only [mS, Bool.and_eq_true] at h
        obtain ⟨h1, h2, h3, h4⟩ := h
        split at h1
        · rename_i as hs
          have A := W.amb X hG
          exact (ps_for hp A.calm (n.ok X tg iter as (es.map (tE C cf X.K)) A h2 hs (sEs W es X as hG h1)) (sG A.calm (W.nd X hG) t tg (by rw [hf]; exact h3)) (sSs W hG hp hk hf b body h4) (fun x => n.fold _ _ _ hs _ x)).of fun D σ H q => for_imp q
        · cases h1
    | _ => simp [mS] at h
  | .brk, st, h => by
    cases st with
    | Break pos =>
      refine ps_break.of fun D σ H q => ?_
      obtain ⟨pv, ρ, S, Hd, M, W', en, sr, hc, w, ok⟩ := q
      simp only [wS] at w
      exact ok.bk ρ S Hd H σ (.refl ..) (by simpa [cS] using sr) en w
    | _ => simp [mS] at h
  | .cnt, st, h => by
    cases st with
    | Continue pos =>
      refine ps_continue.of fun D σ H q => ?_
      obtain ⟨pv, ρ, S, Hd, M, W', en, sr, hc, w, ok⟩ := q
      simp only [wS] at w
      exact ok.ct ρ S Hd H σ (.refl ..) (by simpa [cS] using sr) en w
    | _ => simp [mS] at h
  | .pas, st, h => by
    cases st with
    | Pass pos =>
      refine ps_pass.of fun D σ H q => ?_
      obtain ⟨pv, ρ, S, Hd, M, W', en, sr, hc, w, ok⟩ := q
      simp only [wS] at w
      exact ok.nx ρ S Hd H σ (.refl ..) (by simpa [cS] using sr) en w
    | _ => simp [mS] at h
  | .nev, st, h => ⟨fun _ _ _ _ _ _ q => by
    obtain ⟨pv, ρ, S, Hd, M, W', en, sr, hc, w, ok⟩ := q
    simp only [wS] at w⟩
theorem sSs (W : Wd C cf fn G) {X : Cx} (hG : G X) (hp : PassesOwn (model X.prog X.w) X.A X.env X.xe) (hk : X.env.scope.kind = .function) (hf : X.fn = fun _ => true) :
    ∀ (ss : List RS) (sts : List Stmt), mSs fn cf X.N ss X.env.scope sts = true → PSs X sts (tS' X.K (wSs C ss) (cSs cf ss))
  | [], [], _ => pss_nil.of fun D σ H q => by
    obtain ⟨pv, ρ, S, Hd, M, W', en, sr, hc, w, ok⟩ := q
    simp only [wSs] at w
    exact ok.nx ρ S Hd H σ (.refl ..) (by simpa [cSs] using sr) en w
  | [], _ :: _, h => by simp [mSs] at h
  | s :: ss, [], h => ⟨fun _ _ _ _ _ _ q => by
    obtain ⟨pv, ρ, S, Hd, M, W', en, sr, hc, w, ok⟩ := q
    cases s <;> first | (cases ss <;> simp [mSs] at h; done) | skip
    cases ss with
    | nil => simp only [wSs, wS] at w
    | cons _ _ => simp [mSs] at h⟩
  | s :: ss, t :: ts, h => by
    by_cases hb : (mS fn cf X.N s X.env.scope t && mSs fn cf X.N ss X.env.scope ts) = true
    · simp only [Bool.and_eq_true] at hb
      refine (pss_cons (sS W hG hp hk hf s t hb.1) (sSs W hG hp hk hf ss ts hb.2)).of fun D σ H q => ?_
      obtain ⟨pv, ρ, S, Hd, M, W', en, sr, hc, w, ok⟩ := q
      simp only [wSs] at w
      simp only [cSs] at hc ok
      refine ⟨pv, ρ, S, Hd, M, _, en, sr, by omega, w, ⟨fun ρ6 S6 Hd6 H6 σ6 m6 s6 e6 q => ?_, fun d6 S6 Hd6 H6 v6 m6 s6 r6 q => ?_, fun ρ6 S6 Hd6 H6 σ6 m6 s6 e6 q => ?_, fun ρ6 S6 Hd6 H6 σ6 m6 s6 e6 q => ?_⟩⟩
      · exact ⟨pv, ρ6, S6, Hd6, _, W', e6, s6, by omega, q, ok.go m6 (by omega)⟩
      · exact ok.rt d6 S6 Hd6 H6 v6 m6 (s6.up (by omega)) r6 q
      · exact ok.bk ρ6 S6 Hd6 H6 σ6 m6 (s6.up (by omega)) e6 q
      · exact ok.ct ρ6 S6 Hd6 H6 σ6 m6 (s6.up (by omega)) e6 q
    · refine ⟨fun _ _ _ _ _ _ q => ?_⟩
      obtain ⟨pv, ρ, S, Hd, M, W', en, sr, hc, w, ok⟩ := q
      cases s <;> first | (exact absurd (by simpa only [mSs] using h) hb) | (simp only [wSs, wS] at w)
end
end
end FP

/-! FP, part F: defs, their table, the law's end. No repr runs around any of them (guards). -/
namespace FP
open PySem PySem.Spec L2

abbrev SpG := List V → Hp → VK → Prop
/-- a def keeps its promise wherever no repr runs around it -/
structure FnG (P : Program) (w : World) (K : PySem.W.Frag) (mg : Str → Option Value) (base : Heap) (k : Nat) (f : Addr) (fd : FuncData) (ps : List Str) (sp : SpG) : Prop where
  len : ∀ vs H Q, sp vs H Q → vs.length = ps.length
  run : ∀ (A : Around) (outer : List Env) (s : Shared) (H : Hp) (args : Args) (us : List Value) (vs : List V) (Q : VK), Room k A → A.guards = some [] → Env0 P w K mg base A outer s H →
    BindsTo s fd args (ps.zip us) → Vals vs us → sp vs H Q → codeAny (model P w) A (.call (.ref f) args) (CR CX0 outer P w H s Q E0) s
theorem FnG.mono {P : Program} {w : World} {K : PySem.W.Frag} {mg : Str → Option Value} {base : Heap} {j k : Nat} {f : Addr} {fd : FuncData} {ps : List Str} {sp : SpG} (F : FnG P w K mg base j f fd ps sp) (h : j ≤ k) : FnG P w K mg base k f fd ps sp :=
  ⟨F.len, fun A outer s H args us vs Q r => F.run A outer s H args us vs Q (r.mono h)⟩
theorem FnG.ofOk {P : Program} {w : World} {K : PySem.W.Frag} {mg : Str → Option Value} {base : Heap} {k : Nat} {f : Addr} {fd : FuncData} {ps : List Str} {sp : Sp} (F : FnOk P w K mg base CX0 k f fd ps sp) : FnG P w K mg base k f fd ps (fun vs H Q => sp vs H Q E0) :=
  ⟨fun vs H Q h => F.len vs H Q E0 h, fun A outer s H args us vs Q r _ e b v h => F.run A outer s H args us vs Q E0 r e b v h⟩
theorem FnG.imp {P : Program} {w : World} {K : PySem.W.Frag} {mg : Str → Option Value} {base : Heap} {k : Nat} {f : Addr} {fd : FuncData} {ps : List Str} {sp sp' : SpG} (F : FnG P w K mg base k f fd ps sp)
    (h : ∀ vs H Q, sp' vs H Q → sp vs H Q) : FnG P w K mg base k f fd ps sp' :=
  ⟨fun vs H Q q => F.len vs H Q (h _ _ _ q), fun A outer s H args us vs Q r g e b v q => F.run A outer s H args us vs Q r g e b v (h _ _ _ q)⟩

/-! ### a call -/
section
variable {X : Cx} {k : Nat} {f : Addr} {fd : FuncData} {ps : List Str} {sp : SpG} {x : Str} {p pos : Pos} {es : List Expr} {ts : List TE}
theorem runG {pins : List (Addr × Obj)} {σ : St} {H : Hp} {s : Shared} {Q : VK} {us : List Value} {vs : List V} (F : FnG X.prog X.w X.K X.mg X.base k f fd ps sp) (hr : Room k X.A) (gd : X.A.guards = some []) (hb : Binds X.K fd ps [])
    (I : Inv X pins σ H s) (r : Vals vs us) (h : sp vs H Q) : wpAny (model X.prog X.w) X.A (PySem.call (.ref f) us) (EP X pins σ Q) X.xe s := by
  have hl : us.length = ps.length := r.length.symm.trans (F.len _ _ _ h)
  have bt := hb s us I.kIn (by rw [List.append_nil]; exact hl)
  rw [List.append_nil] at bt
  apply wpAny_call
  refine codeAny_mono (F.run X.A X.stack s H ⟨us, []⟩ us vs Q hr gd I.env0 bt r h) ?_
  intro res s' q
  cases res with
  | error e => exact (q : False).elim
  | ok fl =>
    cases fl with
    | ret u => exact I.after q
    | next => exact (q : False).elim
    | brk => exact (q : False).elim
    | cont => exact (q : False).elim
theorem pe_callG (F : FnG X.prog X.w X.K X.mg X.base k f fd ps sp) (hr : Room k X.A) (gd : X.A.guards = some []) (hg : Gl X x) (hm : X.mg x = some (.ref f)) (hk : PySem.W.keepIn X.K (.ref f) = true) (hb : Binds X.K fd ps [])
    (hx : okName x = true) (pe : PEs X es ts) : PE X (.Call (.Name x p) es [] pos) (fun σ H Q => tAll ts σ H fun vs H1 => sp vs H1 Q) := by
  obtain ⟨d1, _, _⟩ := okName_d hx
  refine ⟨fun pins s σ H Q I h => ?_⟩
  apply wpAny_Call_Name_kw
  refine ld_glob I hg hm ?_ d1
  cases pe with
  | nil => exact PySem.W.callWith_K0 I.kIn hk (runG (us := []) F hr gd hb I .nil h)
  | cons n m pe1 pr =>
    have pa := (PEs.cons n m pe1 pr).pa
    refine PySem.W.callWith_K (h₀ := X.base) I.ok.mod.kin hk ?_ (star_cons n) (pr.plain pos)
    refine thn (pa.run pos pins s σ H _ I h) ?_
    intro us s1 hu
    obtain ⟨vs, H1, I1, r, q⟩ := hu
    exact ⟨I1.kIn, runG F hr gd hb I1 r q⟩
end

/-! ### a def by its body -/
theorem fnG_of {P : Program} {w : World} {K : PySem.W.Frag} {mg : Str → Option Value} {base : Heap} {k : Nat} {f : Addr} {name qual : Str} {params : Arguments} {body : List Stmt} {scope : Scope} {dvs : List V} {kws : List (Str × V)} {fd : FuncData}
    {N ps : List Str} {sp : SpG} (F : FunD K name qual params body scope dvs kws f fd) (S : FnScope N ps scope) (len : ∀ vs H Q, sp vs H Q → vs.length = ps.length)
    (hbody : ∀ (X : Cx) (vs : List V) (H : Hp) (Q : VK), X.prog = P → X.w = w → X.K = K → X.mg = mg → X.base = base → Room k X.A → X.A.guards = some [] → X.calm = true → X.N = N → X.env.scope = scope → (X.fn = fun _ => true) → X.xe = (fun _ _ => False) → sp vs H Q →
      ∃ t, PSs X body t ∧ t { nx := fun _ H' => Q .non H', rt := Q } (start N vs) H) : FnG P w K mg base (k + 1) f fd ps sp := by
  obtain ⟨_, _, _, _, _, _, _, code, _, _, rfl, at_f, isCode, _, _⟩ := F.ex
  refine ⟨len, fun A outer st T args us vs Q room gd env bound rel wish => ?_⟩
  have few := len vs T Q wish
  have same : ∀ b r, base.get? b = some r → st.heap.get? b = some r := fun b r g => (env.bs b r g).1
  have kIn := env.mod.kin.keeps same
  refine codeAny_call_function room.depth (kIn _ _ at_f) rfl S.co S.gen rfl (PySem.W.codeRec_of kIn isCode) (bound _ _ _ _ ?_)
  refine wpAny_newFunctionEnv_cells S.kind ?_ ?_
  · rintro ⟨y, u⟩ hy
    rcases S.par y (List.of_mem_zip hy).1 with loc | cell
    · exact .inl loc
    · exact .inr ⟨cell, PySem.W.cellsFrom_some _ _ _ (.inl cell)⟩
  · rintro env' rfl st1 inC
    refine ⟨(env.mod.nolimit.keeps same).keeps inC.toInCall.keep, codeAny_func ?_⟩
    have I := inv_start (CX := CX0) (E := E0) S room.hd env few rel inC
    obtain ⟨t, pt, ok⟩ := hbody (cxOf CX0 P w K mg base N qual scope f code A outer st T E0).nox vs T Q rfl rfl rfl rfl rfl (room.deeper _) gd rfl rfl rfl rfl rfl wish
    refine wpAny_mono (pt.nox.run [] st1 (start N vs) T _ I ok) ?_ fun _ _ z => z
    rintro (_ | _ | _ | u) st2 got
    · obtain ⟨_, T2, J, q⟩ := got
      exact ⟨V.non, T2, J.os, J.bare, J.base, J.hok, rfl, q⟩
    · obtain ⟨_, _, _, q⟩ := got
      exact q.elim
    · obtain ⟨_, _, _, q⟩ := got
      exact q.elim
    · obtain ⟨v, _, T2, J, rv, q⟩ := got
      exact ⟨v, T2, J.os, J.bare, J.base, J.hok, rv, q⟩

/-! ### the table of defs -/
structure FDef where
  name : Str
  ps : List Str
  N : List Str
  body : List RS
  prim : Option (List D → Sto → PostE → Prop)
  pc : Nat
def startE (N : List Str) (ds : List D) : En := ds.map some ++ List.replicate (N.length - ds.length) none
section
variable (T : Nat → Option FDef)
/-- calls to the depth k -/
def wC : Nat → Nat → List D → Sto → PostE → Prop
  | 0, _, _, _, _ => False
  | k + 1, f, ds, S, Q => match T f with
    | none => False
    | some d => match d.prim with
      | some p => ds.length = d.ps.length ∧ p ds S Q
      | none => ds.length = d.ps.length ∧ wSs (wC k) d.body { nx := fun _ S' => Q .non S', rt := Q } (startE d.N ds) S
def cF : Nat → Nat → Nat
  | 0, _ => 0
  | k + 1, f => match T f with
    | none => 0
    | some d => match d.prim with
      | some _ => d.pc
      | none => cSs (cF k) d.body
def fnm (f : Nat) : Str := match T f with
  | some d => d.name
  | none => ("__debug__" : Str)
end
def spD (K : PySem.W.Frag) (sem : List D → Sto → PostE → Prop) (c : Nat) : SpG := fun vs H Q => vSem K sem c vs H Q

/-- the context of a body of the table -/
structure GX (P : Program) (w : World) (K : PySem.W.Frag) (mg : Str → Option Value) (base : Heap) (k : Nat) (X : Cx) : Prop where
  prog : X.prog = P
  w_ : X.w = w
  K_ : X.K = K
  mg_ : X.mg = mg
  base_ : X.base = base
  room : Room k X.A
  gd : X.A.guards = some []
  calm : X.calm = true
  nd : X.N.Nodup
theorem GX.amb {P : Program} {w : World} {K : PySem.W.Frag} {mg : Str → Option Value} {base : Heap} {k : Nat} {X : Cx} (g : GX P w K mg base k X) (fr : ∀ x ∈ bNames, mg x = none) (sm : SysD K) : Amb X :=
  ⟨g.calm, g.room.units, g.gd, g.room.hd, by rw [g.mg_]; exact fr, by rw [g.K_]; exact sm⟩

/-- how a def of the table stands in the text -/
structure FAt (K : PySem.W.Frag) (mg : Str → Option Value) (d : FDef) (f : Addr) (fd : FuncData) (params : Arguments) (body : List Stmt) (scope : Scope) : Prop where
  fun_ : FunD K d.name d.name params body scope [] [] f fd
  glob : mg d.name = some (.ref f)
  binds : Binds K fd d.ps []
  sc : FnScope d.N d.ps scope
/-- how a constant of the module stands -/
structure CAt (K : PySem.W.Frag) (mg : Str → Option Value) (d : FDef) : Prop where
  val : ∃ (u : Value) (v : V) (dd : D), mg d.name = some u ∧ RelV v u ∧ (∀ H, Rep K H dd v) ∧ d.prim = some (fun _ S Q => Q dd S)
  pc : d.pc = 0
theorem FAt.inj {K : PySem.W.Frag} {mg : Str → Option Value} {d : FDef} {a a' : Addr} {fd fd' : FuncData} {p p' : Arguments} {b b' : List Stmt} {s s' : Scope} (x : FAt K mg d a fd p b s) (y : FAt K mg d a' fd' p' b' s') : a = a' ∧ fd = fd' := by
  have e : a = a' := by
    have := x.glob.symm.trans y.glob
    cases this; rfl
  subst e
  obtain ⟨_, _, _, _, _, _, _, _, _, _, _, l1, _⟩ := x.fun_.ex
  obtain ⟨_, _, _, _, _, _, _, _, _, _, _, l2, _⟩ := y.fun_.ex
  rw [l1] at l2
  cases l2
  exact ⟨rfl, rfl⟩
theorem enStart {K : PySem.W.Frag} {Hd : Hp} {N : List Str} {ds : List D} {vs : List V} (r : RepL K Hd ds vs) : EnR K Hd (startE N ds) (L2.start N vs) := by
  have hl := r.length
  refine ⟨by unfold startE L2.start; simp [hl], fun i d e => ?_⟩
  unfold startE at e
  unfold L2.start
  by_cases hi : i < ds.length
  · rw [List.getElem?_append_left (by simpa using hi), List.getElem?_map] at e
    rw [List.getElem?_append_left (by simpa [hl] using hi), List.getElem?_map]
    cases q : ds[i]? with
    | none => rw [q] at e; cases e
    | some d' =>
      rw [q] at e
      cases e
      obtain ⟨v, hv, rd⟩ := r.get q
      exact ⟨v, by rw [hv]; rfl, rd⟩
  · rw [List.getElem?_append_right (by simpa using hi), List.getElem?_replicate] at e
    split at e <;> cases e
/-- every def of the table keeps what its body's reading says, to any depth -/
theorem all_ok {P : Program} {w : World} {K : PySem.W.Frag} {mg : Str → Option Value} {base : Heap} (T : Nat → Option FDef) (n : Nat) (fr : ∀ x ∈ bNames, mg x = none) (sm : SysD K)
    (hk : ∀ f d, GB ≤ f → T f = some d → CAt K mg d)
    (hb : ∀ f d, f < GB → T f = some d → ∃ a fd params body scope, FAt K mg d a fd params body scope ∧ ((d.prim = none ∧ ∀ k < n, mSs (fnm T) (cF T k) d.N d.body scope body = true) ∨ ∃ p, d.prim = some p ∧ FnG P w K mg base 1 a fd d.ps (spD K (fun ds S Q => ds.length = d.ps.length ∧ p ds S Q) d.pc))) :
    ∀ k ≤ n, ∀ f d, f < GB → T f = some d → ∃ a fd, (∃ params body scope, FAt K mg d a fd params body scope) ∧ FnG P w K mg base k a fd d.ps (spD K (wC T k f) (cF T k f)) := by
  intro k
  induction k with
  | zero =>
    intro _ f d hlt hd
    obtain ⟨a, fd, params, body, scope, at_, _⟩ := hb f d hlt hd
    refine ⟨a, fd, ⟨_, _, _, at_⟩, ⟨fun vs H Q h => ?_, fun A outer s H args us vs Q _ _ _ _ _ h => ?_⟩⟩
    · obtain ⟨pv, ds, S, Hd, M, Qd, rl, sr, hc, w', fin⟩ := h
      exact (show False from w').elim
    · obtain ⟨pv, ds, S, Hd, M, Qd, rl, sr, hc, w', fin⟩ := h
      exact (show False from w').elim
  | succ k ih =>
    intro hkn f d hlt hd
    obtain ⟨a, fd, params, body, scope, at_, hbody⟩ := hb f d hlt hd
    refine ⟨a, fd, ⟨_, _, _, at_⟩, ?_⟩
    rcases hbody with ⟨hp, hm⟩ | ⟨p, hp, F⟩
    · have eC : ∀ ds S Q, wC T (k + 1) f ds S Q = (ds.length = d.ps.length ∧ wSs (wC T k) d.body { nx := fun _ S' => Q .non S', rt := Q } (startE d.N ds) S) := fun ds S Q => by
        simp only [wC, hd, hp]
      have eF : cF T (k + 1) f = cSs (cF T k) d.body := by simp only [cF, hd, hp]
      refine fnG_of at_.fun_ at_.sc (fun vs H Q h => ?_) fun X vs H Q e1 e2 e3 e4 e5 hr gd cl eN esc ef ex h => ?_
      · obtain ⟨pv, ds, S, Hd, M, Qd, rl, sr, hc, w', fin⟩ := h
        rw [eC] at w'
        rw [rl.length]; exact w'.1
      · have G : GX P w K mg base k X := ⟨e1, e2, e3, e4, e5, hr, gd, cl, by rw [eN]; exact at_.sc.nd⟩
        have W : Wd (wC T k) (cF T k) (fnm T) (GX P w K mg base k) := by
          refine ⟨fun X g => g.amb fr sm, fun X g => g.nd, fun X s H scope cl c fp g => ⟨g.prog, g.w_, g.K_, g.mg_, g.base_, g.room, g.gd, g.calm, g.nd⟩, fun X f' p' pos es ts g hlt' hg hx pe => ?_, fun X f' p' g hge hg hx => ?_⟩
          cases hT : T f' with
          | none =>
            have en : fnm T f' = ("__debug__" : Str) := by simp only [fnm, hT]
            rw [en] at hx
            exact absurd hx (by decide +kernel)
          | some d' =>
            obtain ⟨a', fd', ⟨_, _, _, at'⟩, F'⟩ := ih (by omega) f' d' hlt' hT
            have m' := at'.glob
            have kp' := at'.fun_.kp
            have b' := at'.binds
            have en : fnm T f' = d'.name := by simp only [fnm, hT]
            have F2 : FnG X.prog X.w X.K X.mg X.base k a' fd' d'.ps (spD K (wC T k f') (cF T k f')) := by rw [g.prog, g.w_, g.K_, g.mg_, g.base_]; exact F'
            have := pe_callG (x := fnm T f') (p := p') (pos := pos) F2 g.room g.gd hg (by rw [g.mg_, en]; exact m') (by rw [g.K_]; exact kp') (by rw [g.K_]; exact b') hx pe
            rw [g.K_]
            exact this
          · cases hT : T f' with
            | none =>
              have en : fnm T f' = ("__debug__" : Str) := by simp only [fnm, hT]
              rw [en] at hx
              exact absurd hx (by decide +kernel)
            | some d' =>
              have ct := hk f' d' hge hT
              obtain ⟨u, v, dd, m', r', rd, hp'⟩ := ct.val
              have en : fnm T f' = d'.name := by simp only [fnm, hT]
              obtain ⟨d1, _, _⟩ := okName_d hx
              refine (pe_glob (v := v) (u := u) hg (by rw [g.mg_, en]; exact m') r' d1).of fun σ H Q q => ?_
              obtain ⟨pv, ds, S, Hd, M, Qd, rl, sr, hc, w', fin⟩ := q
              have eF : cF T k f' = 0 := by
                cases k with
                | zero => rfl
                | succ k => simp only [cF, hT, hp', ct.pc]
              have eN : ds = [] := by
                cases ds with
                | nil => rfl
                | cons d ds => simp only [RepL] at rl; obtain ⟨_, _, z, _⟩ := rl; cases z
              subst eN
              have w2 : Qd dd S := by
                cases k with
                | zero => exact (show False from w').elim
                | succ k => simp only [wC, hT, hp'] at w'; exact w'.2
              rw [g.K_] at fin
              exact fin dd S Hd H v (.refl ..) (by rw [eF]; rw [g.K_] at sr; exact sr) (rd Hd) w2
        obtain ⟨pv, ds, S, Hd, M, Qd, rl, sr, hc, w', fin⟩ := h
        rw [eC] at w'
        rw [eF] at hc fin
        refine ⟨_, sSs W G (by rw [ex]; exact .never) (by rw [esc]; exact at_.sc.kind) ef d.body body (by rw [eN, esc]; exact hm k (by omega)), ?_⟩
        rw [e3]
        exact ⟨pv, _, S, Hd, M, _, enStart rl, sr, hc, w'.2, ⟨fun ρ S' Hd' H' σ m s _ q => fin _ S' Hd' H' .non m s (by simp only [Rep]) q, fun d' S' Hd' H' v m s r q => fin d' S' Hd' H' v m s r q, fun _ _ _ _ _ _ _ _ q => q, fun _ _ _ _ _ _ _ _ q => q⟩⟩
    · refine (F.mono (by omega)).imp fun vs H Q h => ?_
      obtain ⟨pv, ds, S, Hd, M, Qd, rl, sr, hc, w', fin⟩ := h
      have eF : cF T (k + 1) f = d.pc := by simp only [cF, hd, hp]
      simp only [wC, hd, hp] at w'
      rw [eF] at hc fin
      exact ⟨pv, ds, S, Hd, M, Qd, rl, sr, hc, w', fin⟩
end FP

/-! FP, part G: the nodes. -/
namespace FP
open PySem PySem.Spec L2

theorem opOf {X : Cx} {f : Value → Value → Sem Value} {r r' : R2} (h : OpR X f r) (i : ∀ x y H Q, r' x y H Q → r x y H Q) : OpR X f r' := fun pins s σ H x y v u Q I rx ry q => h pins s σ H x y v u Q I rx ry (i _ _ _ _ q)
theorem callOf {X : Cx} {f : Value} {r r' : List V → Hp → VK → Prop} (h : CallR X f r) (i : ∀ xs H Q, r' xs H Q → r xs H Q) : CallR X f r' := fun pins s σ H xs us Q I rx q => h pins s σ H xs us Q I rx (i _ _ _ q)
theorem opOr {X : Cx} {f : Value → Value → Sem Value} {r r1 r2 : R2} (h1 : OpR X f r1) (h2 : OpR X f r2) (i : ∀ x y H Q, r x y H Q → r1 x y H Q ∨ r2 x y H Q) : OpR X f r := opOf (h1.or h2) i

/-! ### what a value is as a sequence, as plain data -/
mutual
def pyD : D → Option PyData
  | .non => some .none
  | .bl b => some (.bool b)
  | .int i => some (.int i)
  | .str s => some (.str s)
  | .tup xs => (pyL xs).map .tuple
  | .lst xs => (pyL xs).map .list
  | _ => none
def pyL : List D → Option (List PyData)
  | [] => some []
  | x :: xs => match pyD x, pyL xs with
    | some a, some b => some (a :: b)
    | _, _ => none
end
def seqS (S : Sto) : D → Option (List D)
  | .tup xs => some xs
  | .lst xs => some xs
  | .loc a => match S.m a with
    | some (.lst xs) => some xs
    | _ => none
  | _ => none
def pyS (S : Sto) : D → Option PyData
  | .loc a => match S.m a with
    | some (.lst xs) => (pyL xs).map .list
    | _ => none
  | d => pyD d
mutual
theorem dp_of {K : PySem.W.Frag} {Hd H : Hp} (le : Le Hd H) : ∀ {d : D} {v : V} {p : PyData}, Rep K Hd d v → pyD d = some p → Dp K H v p
  | .non, _, _, r, e => by simp only [Rep] at r; subst r; simp only [pyD] at e; cases e; exact .non
  | .bl b, _, _, r, e => by simp only [Rep] at r; subst r; simp only [pyD] at e; cases e; exact .bl b
  | .int i, _, _, r, e => by simp only [Rep] at r; subst r; simp only [pyD] at e; cases e; exact .int i
  | .str s, _, _, r, e => by simp only [Rep] at r; subst r; simp only [pyD] at e; cases e; exact .str s
  | .ty _, _, _, _, e => by simp [pyD] at e
  | .loc _, _, _, _, e => by simp [pyD] at e
  | .dic _ _, _, _, _, e => by simp [pyD] at e
  | .obj _ _ _, _, _, _, e => by simp [pyD] at e
  | .scr _, _, _, _, e => by simp [pyD] at e
  | .tup xs, _, _, r, e => by
    simp only [Rep] at r
    obtain ⟨a, vs, rfl, st, rl⟩ := r
    simp only [pyD] at e
    cases q : pyL xs with
    | none => rw [q] at e; cases e
    | some ds => rw [q] at e; cases e; exact .tup (le.sqT st) (dpAll_of le rl q)
  | .lst xs, _, _, r, e => by
    simp only [Rep] at r
    obtain ⟨a, vs, rfl, st, rl⟩ := r
    simp only [pyD] at e
    cases q : pyL xs with
    | none => rw [q] at e; cases e
    | some ds => rw [q] at e; cases e; exact .lst (.inl (le.rd st)) (dpAll_of le rl q)
theorem dpAll_of {K : PySem.W.Frag} {Hd H : Hp} (le : Le Hd H) : ∀ {ds : List D} {vs : List V} {ps : List PyData}, RepL K Hd ds vs → pyL ds = some ps → DpAll K H vs ps
  | [], _, _, r, e => by simp only [RepL] at r; subst r; simp only [pyL] at e; cases e; exact .nil
  | d :: ds, _, _, r, e => by
    simp only [RepL] at r
    obtain ⟨v, vr, rfl, ra, rb⟩ := r
    simp only [pyL] at e
    split at e
    · rename_i a b qa qb
      cases e
      exact .cons (dp_of le ra qa) (dpAll_of le rb qb)
    · cases e
end
theorem dpS {K : PySem.W.Frag} {pv : List Addr} {S : Sto} {Hd H : Hp} {M : Nat} {d : D} {v : V} {p : PyData} (sr : SR K pv S Hd H M) (r : Rep K Hd d v) (e : pyS S d = some p) : Dp K H v p := by
  unfold pyS at e
  split at e
  · rename_i a
    simp only [Rep] at r; subst r
    split at e
    · rename_i xs hm
      obtain ⟨_, ho, e2, vs, rfl, rl⟩ := sr.sto _ _ hm
      cases q : pyL xs with
      | none => rw [q] at e; cases e
      | some ds => rw [q] at e; cases e; exact .lst (.of e2) (dpAll_of sr.sub rl q)
    · cases e
  · exact dp_of sr.sub r e
/-- what stands where a sequence is -/
theorem seq_of {K : PySem.W.Frag} {pv : List Addr} {S : Sto} {Hd H : Hp} {M : Nat} {d : D} {v : V} {xs : List D} (sr : SR K pv S Hd H M) (r : Rep K Hd d v) (e : seqS S d = some xs) :
    ∃ a vs, v = .ref a ∧ RepL K Hd xs vs ∧ ((∃ ys, d = .tup ys) ∧ SqT K H a vs ∨ (¬ ∃ ys, d = .tup ys) ∧ Rd H a (.lst vs)) := by
  cases d with
  | tup ys =>
    simp only [seqS] at e; cases e
    simp only [Rep] at r
    obtain ⟨a, vs, rfl, st, rl⟩ := r
    exact ⟨a, vs, rfl, rl, .inl ⟨⟨_, rfl⟩, Le.sqT sr.sub st⟩⟩
  | lst ys =>
    simp only [seqS] at e; cases e
    simp only [Rep] at r
    obtain ⟨a, vs, rfl, st, rl⟩ := r
    exact ⟨a, vs, rfl, rl, .inr ⟨fun ⟨_, z⟩ => (by cases z), Le.rd sr.sub st⟩⟩
  | loc l =>
    simp only [seqS] at e
    split at e
    · rename_i ys hm
      cases e
      simp only [Rep] at r; subst r
      obtain ⟨_, ho, e2, vs, rfl, rl⟩ := sr.sto _ _ hm
      exact ⟨l, vs, rfl, rl, .inr ⟨fun ⟨_, z⟩ => (by cases z), Rd.of e2⟩⟩
    · cases e
  | _ => simp [seqS] at e
theorem seq_any {K : PySem.W.Frag} {pv : List Addr} {S : Sto} {Hd H : Hp} {M : Nat} {d : D} {v : V} {xs : List D} (sr : SR K pv S Hd H M) (r : Rep K Hd d v) (e : seqS S d = some xs) :
    ∃ a vs, v = .ref a ∧ RepL K Hd xs vs ∧ (SqL K H a vs ∨ SqT K H a vs) := by
  obtain ⟨a, vs, e1, rl, h⟩ := seq_of sr r e
  exact ⟨a, vs, e1, rl, h.elim (fun z => .inr z.2) fun z => .inl (.inl z.2)⟩
/-- a list that is not a tuple -/
def lstS (S : Sto) : D → Option (List D)
  | .tup _ => none
  | d => seqS S d
theorem lst_of {K : PySem.W.Frag} {pv : List Addr} {S : Sto} {Hd H : Hp} {M : Nat} {d : D} {v : V} {xs : List D} (sr : SR K pv S Hd H M) (r : Rep K Hd d v) (e : lstS S d = some xs) : ∃ a vs, v = .ref a ∧ RepL K Hd xs vs ∧ Rd H a (.lst vs) := by
  have hn : ∀ ys, d ≠ .tup ys := fun ys z => by subst z; simp [lstS] at e
  have e' : seqS S d = some xs := by
    unfold lstS at e
    split at e
    · cases e
    · exact e
  obtain ⟨a, vs, e1, rl, h⟩ := seq_of sr r e'
  rcases h with ⟨⟨ys, z⟩, _⟩ | ⟨_, h⟩
  · exact absurd z (hn ys)
  · exact ⟨a, vs, e1, rl, h⟩
def tupS : D → Option (List D)
  | .tup xs => some xs
  | _ => none
theorem tup_of {K : PySem.W.Frag} {pv : List Addr} {S : Sto} {Hd H : Hp} {M : Nat} {d : D} {v : V} {xs : List D} (sr : SR K pv S Hd H M) (r : Rep K Hd d v) (e : tupS d = some xs) : ∃ a vs, v = .ref a ∧ RepL K Hd xs vs ∧ SqT K H a vs := by
  cases d with
  | tup ys =>
    simp only [tupS] at e; cases e
    simp only [Rep] at r
    obtain ⟨a, vs, rfl, st, rl⟩ := r
    exact ⟨a, vs, rfl, rl, Le.sqT sr.sub st⟩
  | _ => simp [tupS] at e
/-- the store's list at a loc, or a frozen list or tuple: as the heap holds it -/
theorem Rep.tupI {K : PySem.W.Frag} {H : Hp} {a : Addr} {ds : List D} {vs : List V} (h : H a = some (.tup vs)) (r : RepL K H ds vs) : Rep K H (.tup ds) (.ref a) := by
  simp only [Rep]; exact ⟨a, vs, rfl, .of h, r⟩
theorem Rep.lstI {K : PySem.W.Frag} {H : Hp} {a : Addr} {ds : List D} {vs : List V} (h : H a = some (.lst vs)) (r : RepL K H ds vs) : Rep K H (.lst ds) (.ref a) := by
  simp only [Rep]; exact ⟨a, vs, rfl, .of h, r⟩

/-! ### ends of a step -/
section
variable {K : PySem.W.Frag} {pv : List Addr} {S : Sto} {Hd H : Hp} {M : Nat} {Qd : PostE} {Q : VK}
abbrev Fin' (K : PySem.W.Frag) (pv : List Addr) (Hd H : Hp) (M : Nat) (Qd : PostE) (Q : VK) : Prop := ∀ d S' Hd' H' v, Mv pv Hd H Hd' H' → SR K pv S' Hd' H' (M + 0) → Rep K Hd' d v → Qd d S' → Q v H'
theorem fin_val (fin : Fin' K pv Hd H M Qd Q) (sr : SR K pv S Hd H M) {d : D} {v : V} (r : Rep K Hd d v) (q : Qd d S) : Q v H := fin d S Hd H v (.refl ..) sr r q
theorem fin_tup (fin : Fin' K pv Hd H M Qd Q) (sr : SR K pv S Hd H M) {ds : List D} {vs : List V} (r : RepL K Hd ds vs) (q : Qd (.tup ds) S) {p : Addr} (hp : H p = none) : Q (.ref p) (upd H p (.tup vs)) :=
  fin (.tup ds) S (upd Hd p (.tup vs)) _ _ (.new sr hp) (sr.frz hp) (.tupI upd_same (r.mono (.new (sr.freshD hp)))) q
theorem fin_lst {o : Bool} (fin : Fin' K pv Hd H M Qd Q) (sr : SR K pv S Hd H M) {ds : List D} {vs : List V} (r : RepL K Hd ds vs) (q : newL o ds S Qd) {p : Addr} (hp : H p = none) : Q (.ref p) (upd H p (.lst vs)) := by
  unfold newL at q
  cases o with
  | true =>
    simp only [if_true] at q
    exact fin _ _ Hd _ _ (.newH sr hp) (sr.own hp (o := O.lst ds) ⟨vs, rfl, r⟩) (by simp only [Rep]) (q p (sr.freshS hp))
  | false =>
    simp only [Bool.false_eq_true, if_false] at q
    exact fin (.lst ds) S (upd Hd p (.lst vs)) _ _ (.new sr hp) (sr.frz hp) (.lstI upd_same (r.mono (.new (sr.freshD hp)))) q
end

/-! ### constants -/
def nInt (i : Int) : Node := .plain (fun _ e => match e with
    | .Constant (.int j) _ _ => if j = i then some [] else none
    | _ => none) (fun _ S Q => Q (.int i) S)
  (fun sc e es h => by cases e <;> first | rfl | (simp at h))
  (fun X e es ts A h p => by
    split at h
    · rename_i j k pos
      split at h
      · rename_i ej; subst ej; cases h; cases p
        refine pe_int.of fun σ H Q q => ?_
        obtain ⟨pv, ds, S, Hd, M, Qd, rl, sr, hc, w, fin⟩ := q
        exact fin_val fin sr (by simp only [Rep]) w
      · cases h
    · cases h)
def nStr (x : Str) : Node := .plain (fun _ e => match e with
    | .Constant (.str y) _ _ => if y = x then some [] else none
    | _ => none) (fun _ S Q => Q (.str x) S)
  (fun sc e es h => by cases e <;> first | rfl | (simp at h))
  (fun X e es ts A h p => by
    split at h
    · rename_i j k pos
      split at h
      · rename_i ej; subst ej; cases h; cases p
        refine pe_str.of fun σ H Q q => ?_
        obtain ⟨pv, ds, S, Hd, M, Qd, rl, sr, hc, w, fin⟩ := q
        exact fin_val fin sr (by simp only [Rep]) w
      · cases h
    · cases h)
def nBl (b : Bool) : Node := .plain (fun _ e => match e with
    | .Constant (.bool c) _ _ => if c = b then some [] else none
    | _ => none) (fun _ S Q => Q (.bl b) S)
  (fun sc e es h => by cases e <;> first | rfl | (simp at h))
  (fun X e es ts A h p => by
    split at h
    · rename_i j k pos
      split at h
      · rename_i ej; subst ej; cases h; cases p
        refine pe_bl.of fun σ H Q q => ?_
        obtain ⟨pv, ds, S, Hd, M, Qd, rl, sr, hc, w, fin⟩ := q
        exact fin_val fin sr (by simp only [Rep]) w
      · cases h
    · cases h)
def nNon : Node := .plain (fun _ e => match e with
    | .Constant .none _ _ => some []
    | _ => none) (fun _ S Q => Q .non S)
  (fun sc e es h => by cases e <;> first | rfl | (simp at h))
  (fun X e es ts A h p => by
    split at h
    · rename_i k pos
      cases h; cases p
      refine pe_non.of fun σ H Q q => ?_
      obtain ⟨pv, ds, S, Hd, M, Qd, rl, sr, hc, w, fin⟩ := q
      exact fin_val fin sr (by simp only [Rep]) w
    · cases h)
/-- a built-in type by its name, as a value -/
def nTy (x : Str) (n : String) (hn : x ∈ bNames) (hb : bootBuiltins x = some (.type n)) (hx : okName x = true) : Node := .plain (fun sc e => match e with
    | .Name y _ => if (decide (y = x) && glB sc y) = true then some [] else none
    | _ => none) (fun _ S Q => Q (.ty n) S)
  (fun sc e es h => by cases e <;> first | rfl | (simp at h))
  (fun X e es ts A h p => by
    split at h
    · rename_i y pos
      split at h
      · rename_i c
        simp only [Bool.and_eq_true, decide_eq_true_eq] at c
        obtain ⟨rfl, g⟩ := c
        cases h; cases p
        obtain ⟨d1, d2, d3⟩ := okName_d hx
        refine (pe_bltn (v := .ty n) (glB_ok g) (A.fr _ hn) hb rfl d3 d1).of fun σ H Q q => ?_
        obtain ⟨pv, ds, S, Hd, M, Qd, rl, sr, hc, w, fin⟩ := q
        exact fin_val fin sr (by simp only [Rep]) w
      · cases h
    · cases h)

/-! ### displays -/
def nTup : Node := .plain (fun _ e => match e with
    | .Tuple es _ _ => some es
    | _ => none) (fun ds S Q => ds.length ≤ sizeLine ∧ Q (.tup ds) S)
  (fun sc e es h => by cases e <;> first | rfl | (simp at h))
  (fun X e es ts A h p => by
    split at h
    · cases h
      refine (pe_tup p.pa).of fun σ H Q q => ?_
      refine p.mono (fun vs H1 q => ?_) q
      obtain ⟨pv, ds, S, Hd, M, Qd, rl, sr, hc, w, fin⟩ := q
      exact ⟨by rw [rl.length]; exact w.1, fun a ha => fin_tup fin sr rl w.2 ha⟩
    · cases h)
def nLst (o : Bool) : Node := .plain (fun _ e => match e with
    | .List es _ => some es
    | _ => none) (fun ds S Q => ds.length ≤ sizeLine ∧ newL o ds S Q)
  (fun sc e es h => by cases e <;> first | rfl | (simp at h))
  (fun X e es ts A h p => by
    split at h
    · cases h
      refine (pe_lst p.pa).of fun σ H Q q => ?_
      refine p.mono (fun vs H1 q => ?_) q
      obtain ⟨pv, ds, S, Hd, M, Qd, rl, sr, hc, w, fin⟩ := q
      exact ⟨by rw [rl.length]; exact w.1, fun a ha => fin_lst fin sr rl w.2 ha⟩
    · cases h)

/-! ### two-place operators -/
def v2 (K : PySem.W.Frag) (sem : List D → Sto → PostE → Prop) : R2 := fun x y H Q => vSem K sem 0 [x, y] H Q
def nBin (op : Operator) (sem : List D → Sto → PostE → Prop) (h : ∀ X, Amb X → OpR X (binaryOp op) (v2 X.K sem)) : Node := .plain (fun _ e => match e with
    | .BinOp a o b _ => if o = op then some [a, b] else none
    | _ => none) sem
  (fun sc e es h => by cases e <;> first | rfl | (simp at h))
  (fun X e es ts A hs p => by
    split at hs
    · split at hs
      · rename_i eo; subst eo; cases hs
        cases p with
        | cons n1 m1 p1 p =>
          cases p with
          | cons n2 m2 p2 p =>
            cases p
            exact pe_op (h X A) p1 p2
      · cases hs
    · cases hs)
/-- ints alone -/
theorem int2 {K : PySem.W.Frag} {f : Int → Int → Int} {c : Int → Int → Prop} {x y : V} {H : Hp} {Q : VK} (q : v2 K (fun ds S Q => ∃ i j, ds = [.int i, .int j] ∧ c i j ∧ Q (.int (f i j)) S) x y H Q) : ∃ i j, x = .int i ∧ y = .int j ∧ c i j ∧ Q (.int (f i j)) H := by
  obtain ⟨pv, ds, S, Hd, M, Qd, rl, sr, hc, w, fin⟩ := q
  obtain ⟨i, j, rfl, hc', w⟩ := w
  obtain ⟨v, u, e, r1, r2⟩ := rl.two
  simp only [List.cons.injEq, and_true] at e
  obtain ⟨rfl, rfl⟩ := e
  simp only [Rep] at r1 r2
  exact ⟨i, j, r1, r2, hc', fin_val fin sr (by simp only [Rep]) w⟩
def sAdd (o : Bool) (ds : List D) (S : Sto) (Q : PostE) : Prop := match ds with
  | [.int i, .int j] => Q (.int (i + j)) S
  | [.tup xs, .tup ys] => xs.length + ys.length ≤ sizeLine ∧ Q (.tup (xs ++ ys)) S
  | [.str x, .str y] => x.length + y.length ≤ sizeLine ∧ Q (.str (x ++ y)) S
  | [x, y] => ∃ xs ys, lstS S x = some xs ∧ lstS S y = some ys ∧ xs.length + ys.length ≤ sizeLine ∧ newL o (xs ++ ys) S Q
  | _ => False
/-- list + list -/
def rCatL : R2 := fun x y H Q => ∃ l b xs zs, x = .ref l ∧ y = .ref b ∧ Rd H l (.lst xs) ∧ Rd H b (.lst zs) ∧ xs.length + zs.length ≤ sizeLine ∧ ∀ p, H p = none → Q (.ref p) (upd H p (.lst (xs ++ zs)))
theorem op_catL {X : Cx} : OpR X (binaryOp .Add) rCatL := by
  rintro pins st σ T _ _ u1 u2 Q I r1 r2 ⟨l1, l2, xs, zs, rfl, rfl, d1, d2, few, q⟩
  cases r1
  cases r2
  obtain ⟨_, is1, _, v1, g1⟩ := d1.ok I.hok
  obtain ⟨_, is2, _, v2, g2⟩ := d2.ok I.hok
  have n1 := v1.length
  have n2 := v2.length
  have both : is1.toArray ++ is2.toArray = (is1 ++ is2).toArray := by simp
  refine PySem.P.add_list g1 g2 ?_ (by rw [List.size_toArray, List.size_toArray]; omega)
  rw [both]
  exact ⟨.ref st.heap.objs.size, _, I.lnew (t' := st.toks) (v1.append v2) (by rw [List.length_append]; exact few), rfl, q _ I.fresh⟩
theorem RepL.nil_iff {K : PySem.W.Frag} {H : Hp} {ds : List D} {vs : List V} (r : RepL K H ds vs) : vs = [] ↔ ds = [] := by
  have := r.length
  cases ds <;> cases vs <;> simp at this ⊢
def nAdd (o : Bool) : Node := nBin .Add (sAdd o) fun X A => by
  refine opOr (r1 := rI0 fun i j => .int (i + j)) (r2 := fun x y H Q => rCatA X.K x y H Q ∨ ((∃ i j, x = .str i ∧ y = .str j ∧ i.length + j.length ≤ sizeLine ∧ Q (.str (i ++ j)) H) ∨ rCatL x y H Q)) op_add (op_catA.or (op_add_str.or op_catL)) ?_
  intro x y H Q q
  obtain ⟨pv, ds, S, Hd, M, Qd, rl, sr, hc, w, fin⟩ := q
  unfold sAdd at w
  split at w
  · obtain ⟨v, u, e, r1, r2⟩ := rl.two
    simp only [List.cons.injEq, and_true] at e
    obtain ⟨rfl, rfl⟩ := e
    simp only [Rep] at r1 r2
    exact .inl ⟨_, _, r1, r2, fin_val fin sr (by simp only [Rep]) w⟩
  · rename_i xs ys
    obtain ⟨v, u, e, r1, r2⟩ := rl.two
    simp only [List.cons.injEq, and_true] at e
    obtain ⟨rfl, rfl⟩ := e
    obtain ⟨a, vs, rfl, ra, ta⟩ := tup_of sr r1 rfl
    obtain ⟨b, us, rfl, rb, tb⟩ := tup_of sr r2 rfl
    refine .inr (.inl ⟨a, b, vs, us, rfl, rfl, ta, tb, by rw [ra.length, rb.length]; exact w.1, fun h => ?_, fun h1 h => ?_, fun _ _ p hp => fin_tup fin sr (ra.append rb) w.2 hp⟩)
    · rw [ra.nil_iff] at h; subst h
      exact fin_val fin sr r2 w.2
    · rw [rb.nil_iff] at h; subst h
      exact fin_val fin sr r1 (by have := w.2; rwa [List.append_nil] at this)
  · obtain ⟨v, u, e, r1, r2⟩ := rl.two
    simp only [List.cons.injEq, and_true] at e
    obtain ⟨rfl, rfl⟩ := e
    simp only [Rep] at r1 r2
    exact .inr (.inr (.inl ⟨_, _, r1, r2, w.1, fin_val fin sr (by simp only [Rep]) w.2⟩))
  · obtain ⟨v, u, e, r1, r2⟩ := rl.two
    simp only [List.cons.injEq, and_true] at e
    obtain ⟨rfl, rfl⟩ := e
    obtain ⟨xs, ys, h1, h2, hl, w⟩ := w
    obtain ⟨a, vs, rfl, ra, ta⟩ := lst_of sr r1 h1
    obtain ⟨b, us, rfl, rb, tb⟩ := lst_of sr r2 h2
    exact .inr (.inr (.inr ⟨a, b, vs, us, rfl, rfl, ta, tb, by rw [ra.length, rb.length]; exact hl, fun p hp => fin_lst fin sr (ra.append rb) w hp⟩))
  · exact w.elim
end FP

/-! FP, part H: more nodes. -/
namespace FP
open PySem PySem.Spec L2

/-- the numbers and items at which the built-in gives the tuple itself; an empty one -/
theorem mul_same (l : Addr) (its : Array Value) (n : Nat) (dx : Option Addr) (sl : Array (Option Value)) (k : Int) (u : Tok) (in63 : (decide (k < -(2 ^ 63)) || decide (k ≥ 2 ^ 63)) = false) (keep : (its.isEmpty || k == 1) = true) :
    Meets (Builtin.«tuple.__mul__» ⟨[.ref l, .int k u], []⟩) (fun _ R t => t.heap.get? l = some { cls := .type "tuple", dict := dx, data := .seq its n, slots := sl } ∧ R (.ok (.ret (Value.ref l))) t) :=
  .of_wp fun P w A R t ⟨g, fin⟩ => by
    obtain ⟨_, _, _, _, _⟩ := t
    have ix := AutoSeq1.idx_int
    have no : ¬ (decide (k < -(2 ^ 63)) || decide (k ≥ 2 ^ 63)) = true := by rw [in63]; decide
    wp_walk using wpAny_loadPart' g
    repeat (first
      | (apply wpAny_ite_false (decide_eq_false no); wp_walk using wpAny_loadPart' g)
      | (apply wpAny_ite_true (decide_eq_true keep); wp_walk using wpAny_loadPart' g))
    exact ⟨_, rfl, fin⟩
theorem mul_none (l : Addr) (its : Array Value) (n : Nat) (dx : Option Addr) (sl : Array (Option Value)) (k : Int) (u : Tok) (in63 : (decide (k < -(2 ^ 63)) || decide (k ≥ 2 ^ 63)) = false) (turn : (its.isEmpty || k == 1) = false) (nil : (decide (k ≤ 0) || its.isEmpty) = true) :
    Meets (Builtin.«tuple.__mul__» ⟨[.ref l, .int k u], []⟩) (fun _ R t => t.heap.get? l = some { cls := .type "tuple", dict := dx, data := .seq its n, slots := sl } ∧
      R (.ok (.ret (Value.ref t.heap.objs.size))) { t with heap := t.heap.push { cls := Value.type "tuple", data := Data.seq #[] } }) :=
  .of_wp fun P w A R t ⟨g, fin⟩ => by
    obtain ⟨_, _, _, _, _⟩ := t
    have ix := AutoSeq1.idx_int
    have no : ¬ (decide (k < -(2 ^ 63)) || decide (k ≥ 2 ^ 63)) = true := by rw [in63]; decide
    have no2 : ¬ (its.isEmpty || k == 1) = true := by rw [turn]; decide
    wp_walk using wpAny_loadPart' g
    repeat (first
      | (apply wpAny_ite_false (decide_eq_false no); wp_walk using wpAny_loadPart' g)
      | (apply wpAny_ite_false (decide_eq_false no2); wp_walk using wpAny_loadPart' g)
      | (apply wpAny_ite_true (decide_eq_true nil); wp_walk using wpAny_loadPart' g))
    exact ⟨_, rfl, fin⟩
/-- tuple * int, of any small numbers -/
def rRepA (K : PySem.W.Frag) : R2 := fun x y H Q => ∃ l k xs, x = .ref l ∧ y = .int k ∧ SqT K H l xs ∧ -1000 ≤ k ∧ k ≤ 1000 ∧ xs.length ≤ 1000 ∧
  ((xs = [] ∨ k = 1) → Q (.ref l) H) ∧ (¬ (xs = [] ∨ k = 1) → ∀ p, H p = none → Q (.ref p) (upd H p (.tup (List.replicate k.toNat xs).flatten)))
theorem op_repA {X : Cx} : OpR X (binaryOp .Mult) (rRepA X.K) := by
  rintro pins st σ T _ _ u1 u2 Q I r1 r2 ⟨l, k, xs, rfl, rfl, sq, lo, hi, few, q1, q2⟩
  by_cases big : xs ≠ [] ∧ 2 ≤ k
  · have nk : ¬ (xs = [] ∨ k = 1) := by rintro (z | z); exact big.1 z; omega
    exact op_repT pins st σ T _ _ u1 u2 Q I r1 r2 ⟨l, k, xs, rfl, rfl, sq, big.1, big.2, hi, few, q2 nk⟩
  · cases r1
    obtain ⟨tk, rfl⟩ := r2
    obtain ⟨is, rel, ⟨⟨_, dx, _, sl⟩, at_l, isT, n, isS⟩, _⟩ := I.tuple sq
    simp only at isT isS
    subst isT isS
    have none_iff : is.toArray.isEmpty = true ↔ xs = [] := by
      have e := rel.length
      cases is <;> cases xs <;> simp at e ⊢
    have in63 : (decide (k < -(2 ^ 63)) || decide (k ≥ 2 ^ 63)) = false := by
      have a : ¬ k < -(2 ^ 63) := by omega
      have b : ¬ k ≥ 2 ^ 63 := by omega
      rw [decide_eq_false a, decide_eq_false b]
      rfl
    have ty : st.TypeIs (.ref l) "tuple" := ⟨_, at_l, rfl⟩
    refine wpAny_binaryOp_repeat_ref (T := "tuple") (U := "int") (by decide) ty (fun t => typeIs_int t k tk) noFill_tuple_mul F.fills_int_mul F.slot_int_rmul repeat_tuple F.slot_int_index.lookup ?_
    refine call_meets F.slot_int_rmul (typeIs_int st k tk) F.entry_int_rmul (F.args_int_rmul_2 _ _) (int_rmul_tuple k tk l is.toArray n dx sl) ⟨at_l, rfl, ty, ?_⟩
    by_cases c : (is.toArray.isEmpty || k == 1) = true
    · refine call_meets F.slot_tuple_mul ty F.entry_tuple_mul (F.args_tuple_mul_2 _ _) (mul_same l is.toArray n dx sl k tk in63 c) ⟨at_l, .ref l, T, I, rfl, q1 ?_⟩
      rwa [Bool.or_eq_true, none_iff, beq_iff_eq] at c
    · have nk : ¬ (xs = [] ∨ k = 1) := by rwa [Bool.or_eq_true, none_iff, beq_iff_eq] at c
      have k0 : k ≤ 0 := by
        have a : xs ≠ [] := fun z => nk (.inl z)
        have b : ¬ 2 ≤ k := fun z => big ⟨a, z⟩
        have d : k ≠ 1 := fun z => nk (.inr z)
        omega
      have nil : (List.replicate k.toNat xs).flatten = [] := by
        rw [show k.toNat = 0 by omega]
        rfl
      have q := q2 nk
      rw [nil] at q
      refine call_meets F.slot_tuple_mul ty F.entry_tuple_mul (F.args_tuple_mul_2 _ _) (mul_none l is.toArray n dx sl k tk in63 (by simpa using c) (by rw [decide_eq_true k0]; rfl)) ⟨at_l, ?_⟩
      have I2 := I.laid (t' := st.toks) (o := .tup []) (fun b r g => Heap.get?_push_of_some _ g) (Nat.le_refl _) ⟨Nat.zero_le _, [], .nil, PyProof.Rows.IsTup.new st.heap #[]⟩
      exact ⟨.ref st.heap.objs.size, _, I2, rfl, q _ I.fresh⟩
def sMul (o : Bool) (ds : List D) (S : Sto) (Q : PostE) : Prop := match ds with
  | [.int i, .int j] => (CMul i j ∨ CMulW i j) ∧ Q (.int (i * j)) S
  | [.tup xs, .int k] => -1000 ≤ k ∧ k ≤ 1000 ∧ xs.length ≤ 1000 ∧ Q (.tup (List.replicate k.toNat xs).flatten) S
  | _ => False
theorem flat_one (xs : List D) : (List.replicate 1 xs).flatten = xs := by simp
theorem flat_nil (n : Nat) : (List.replicate n ([] : List D)).flatten = [] := by
  induction n with
  | zero => rfl
  | succ n ih => simp [List.replicate_succ]
def nMul (o : Bool) : Node := nBin .Mult (sMul o) fun X A => by
  refine opOr (r1 := fun x y H Q => rI CMul (fun i j => .int (i * j)) x y H Q ∨ rI CMulW (fun i j => .int (i * j)) x y H Q) (r2 := rRepA X.K) (op_mul.or op_mulW) op_repA ?_
  intro x y H Q q
  obtain ⟨pv, ds, S, Hd, M, Qd, rl, sr, hc, w, fin⟩ := q
  unfold sMul at w
  split at w
  · obtain ⟨v, u, e, r1, r2⟩ := rl.two
    simp only [List.cons.injEq, and_true] at e
    obtain ⟨rfl, rfl⟩ := e
    simp only [Rep] at r1 r2
    rename_i i j
    have f := fin_val fin sr (d := .int (i * j)) (v := .int (i * j)) (by simp only [Rep]) w.2
    rcases w.1 with c | c
    · exact .inl (.inl ⟨_, _, r1, r2, c, f⟩)
    · exact .inl (.inr ⟨_, _, r1, r2, c, f⟩)
  · rename_i xs k
    obtain ⟨v, u, e, r1, r2⟩ := rl.two
    simp only [List.cons.injEq, and_true] at e
    obtain ⟨rfl, rfl⟩ := e
    obtain ⟨a, vs, rfl, ra, ta⟩ := tup_of sr r1 rfl
    simp only [Rep] at r2
    refine .inr ⟨a, k, vs, rfl, r2, ta, w.1, w.2.1, by rw [ra.length]; exact w.2.2.1, fun h => ?_, fun _ p hp => fin_tup fin sr (ra.rep _) w.2.2.2 hp⟩
    have e : (List.replicate k.toNat xs).flatten = xs := by
      rcases h with h | h
      · rw [ra.nil_iff] at h; rw [h]; exact flat_nil _
      · rw [h]; exact flat_one xs
    have w2 := w.2.2.2
    rw [e] at w2
    exact fin_val fin sr r1 w2
  · exact w.elim
def nSub : Node := nBin .Sub (fun ds S Q => ∃ i j, ds = [.int i, .int j] ∧ True ∧ Q (.int (i - j)) S) fun X A => opOf op_sub fun x y H Q q => by
  obtain ⟨i, j, r1, r2, _, q⟩ := int2 (f := fun i j => i - j) (c := fun _ _ => True) q
  exact ⟨i, j, r1, r2, q⟩
/-- a positive divisor -/
def nMod : Node := nBin .Mod (fun ds S Q => ∃ i j, ds = [.int i, .int j] ∧ 0 < j ∧ Q (.int (i % j)) S) fun X A => opOf op_mod fun x y H Q q => by
  obtain ⟨i, j, r1, r2, c, q⟩ := int2 (f := fun i j => i % j) (c := fun _ j => 0 < j) q
  exact ⟨i, j, r1, r2, c, q⟩
def nFdiv : Node := nBin .FloorDiv (fun ds S Q => ∃ i j, ds = [.int i, .int j] ∧ CDivW i j ∧ Q (.int (i / j)) S) fun X A => opOf op_fdivW fun x y H Q q => by
  obtain ⟨i, j, r1, r2, c, q⟩ := int2 (f := fun i j => i / j) (c := CDivW) q
  exact ⟨i, j, r1, r2, c, q⟩
def nPow : Node := nBin .Pow (fun ds S Q => ∃ i j, ds = [.int i, .int j] ∧ CPow i j ∧ Q (.int (i ^ j.toNat)) S) fun X A => opOf op_pow fun x y H Q q => by
  obtain ⟨i, j, r1, r2, c, q⟩ := int2 (f := fun i j => i ^ j.toNat) (c := CPow) q
  exact ⟨i, j, r1, r2, c, q⟩
def nNeg : Node := .plain (fun _ e => match e with
    | .UnaryOp .USub a _ => some [a]
    | _ => none) (fun ds S Q => ∃ i, ds = [.int i] ∧ Q (.int (-i)) S)
  (fun sc e es h => by
    cases e <;> first | rfl | (simp at h; done) | skip
    rename_i op _ _
    cases op <;> first | rfl | (simp at h))
  (fun X e es ts A h p => by
    split at h
    · cases h
      cases p with
      | cons n m p1 p =>
        cases p
        refine (pe_un un_neg p1).of fun σ H Q q => m _ _ _ _ (fun v H1 q => ?_) q
        obtain ⟨pv, ds, S, Hd, M, Qd, rl, sr, hc, w, fin⟩ := q
        obtain ⟨i, rfl, w⟩ := w
        obtain ⟨v', e, r1⟩ := rl.one
        cases e
        simp only [Rep] at r1
        exact ⟨i, r1, fin_val fin sr (by simp only [Rep]) w⟩
    · cases h)

/-! ### comparisons -/
theorem cmpI {X : Cx} {op : CmpOp} {f : Int → Int → Bool} (h : OpR X (compareOp op) (rI0 fun i j => .bl (f i j))) : OpR X (compareOp op) (vC X.K fun d e _ => match d, e with
    | .int i, .int j => some (f i j)
    | _, _ => none) := opOf h fun x y H Q q => by
  obtain ⟨pv, d, e, S, Hd, M, b, r1, r2, sr, hb, q⟩ := q
  dsimp only at hb
  split at hb
  · cases hb
    simp only [Rep] at r1 r2
    exact ⟨_, _, r1, r2, q⟩
  · cases hb
def csI (f : Int → Int → Bool) : D → D → Sto → Option Bool := fun d e _ => match d, e with
  | .int i, .int j => some (f i j)
  | _, _ => none
def cLt : CNode := ⟨.Lt, csI fun i j => decide (i < j), fun X _ => cmpI op_lt⟩
def cLe : CNode := ⟨.LtE, csI fun i j => decide (i ≤ j), fun X _ => cmpI op_le⟩
def cGt : CNode := ⟨.Gt, csI fun i j => decide (j < i), fun X _ => cmpI op_gt⟩
def cGe : CNode := ⟨.GtE, csI fun i j => decide (j ≤ i), fun X _ => cmpI op_ge⟩
/-- == of data -/
def csE (neg : Bool) (d e : D) (S : Sto) : Option Bool := match d, e with
  | .int i, .int j => some (xor neg (decide (i = j)))
  | .str x, .str y => some (xor neg (decide (x = y)))
  | .bl x, .bl y => some (xor neg (decide (x = y)))
  | d, e => match pyS S d, pyS S e with
    | some a, some b => if (SeqAt.shaped a && SeqAt.shaped b) = true then some (xor neg (PyData.eqv a b)) else none
    | _, _ => none
theorem csE_ok {X : Cx} {op : CmpOp} {neg : Bool} (h1 : OpR X (compareOp op) fun x y H Q => scal x y = true ∧ Q (.bl (xor neg (decide (x = y)))) H)
    (h2 : OpR X (compareOp op) fun x y H Q => ∃ d e, Dp X.K H x d ∧ Dp X.K H y e ∧ SeqAt.shaped d = true ∧ SeqAt.shaped e = true ∧ Q (.bl (xor neg (PyData.eqv d e))) H) : OpR X (compareOp op) (vC X.K (csE neg)) :=
  opOr h1 h2 fun x y H Q q => by
    obtain ⟨pv, d, e, S, Hd, M, b, r1, r2, sr, hb, q⟩ := q
    unfold csE at hb
    split at hb
    · cases hb
      simp only [Rep] at r1 r2
      subst r1 r2
      refine .inl ⟨rfl, ?_⟩
      simpa using q
    · cases hb
      simp only [Rep] at r1 r2
      subst r1 r2
      refine .inl ⟨rfl, ?_⟩
      simpa using q
    · cases hb
      simp only [Rep] at r1 r2
      subst r1 r2
      refine .inl ⟨rfl, ?_⟩
      simpa using q
    · split at hb
      · rename_i a c qa qc
        split at hb
        · rename_i hs
          cases hb
          simp only [Bool.and_eq_true] at hs
          exact .inr ⟨a, c, dpS sr r1 qa, dpS sr r2 qc, hs.1, hs.2, q⟩
        · cases hb
      · cases hb
def cEq : CNode := ⟨.Eq, csE false, fun X A => csE_ok (opOf op_eq fun x y H Q q => ⟨q.1, by simpa using q.2⟩) (opOf (op_eqD A.un) fun x y H Q q => by
  obtain ⟨d, e, h1, h2, h3, h4, q⟩ := q
  exact ⟨d, e, h1, h2, h3, h4, by simpa using q⟩)⟩
def cNe : CNode := ⟨.NotEq, csE true, fun X A => csE_ok (opOf op_ne fun x y H Q q => ⟨q.1, by simpa using q.2⟩) (opOf (op_neD A.un) fun x y H Q q => by
  obtain ⟨d, e, h1, h2, h3, h4, q⟩ := q
  exact ⟨d, e, h1, h2, h3, h4, by simpa using q⟩)⟩
/-- is: None, True, False -/
def csIs (neg : Bool) (d e : D) (_ : Sto) : Option Bool := match d, e with
  | .bl a, .bl b => some (xor neg (decide (a = b)))
  | .non, .non => some (xor neg true)
  | .bl _, .non => some (xor neg false)
  | .int _, .non => some (xor neg false)
  | .str _, .non => some (xor neg false)
  | .tup _, .non => some (xor neg false)
  | .lst _, .non => some (xor neg false)
  | .loc _, .non => some (xor neg false)
  | .obj _ _ _, .non => some (xor neg false)
  | _, _ => none
theorem csIs_ok {X : Cx} {op : CmpOp} {neg : Bool} (h1 : OpR X (compareOp op) fun x y H Q => y = .non ∧ Q (.bl (xor neg (decide (x = .non)))) H)
    (h2 : OpR X (compareOp op) fun x y H Q => ∃ a b : Bool, x = .bl a ∧ y = .bl b ∧ Q (.bl (xor neg (decide (a = b)))) H) : OpR X (compareOp op) (vC X.K (csIs neg)) :=
  opOr h1 h2 fun x y H Q q => by
    obtain ⟨pv, d, e, S, Hd, M, b, r1, r2, sr, hb, q⟩ := q
    unfold csIs at hb
    split at hb <;> first | (cases hb; done) | skip
    · cases hb
      simp only [Rep] at r1 r2
      exact .inr ⟨_, _, r1, r2, q⟩
    all_goals
      cases hb
      simp only [Rep] at r1 r2
      refine .inl ⟨r2, ?_⟩
      first
        | (subst r1; simpa using q)
        | (obtain ⟨a, vs, rfl, _⟩ := r1; simpa using q)
        | (obtain ⟨a, dx, vs, rfl, _⟩ := r1; simpa using q)
def cIs : CNode := ⟨.Is, csIs false, fun X A => csIs_ok (opOf op_isN fun x y H Q q => ⟨q.1, by simpa using q.2⟩) (opOf op_isBl fun x y H Q q => by
  obtain ⟨a, b, h1, h2, q⟩ := q
  exact ⟨a, b, h1, h2, by simpa using q⟩)⟩
def cIsNot : CNode := ⟨.IsNot, csIs true, fun X A => csIs_ok (opOf op_notN fun x y H Q q => ⟨q.1, by simpa using q.2⟩) (opOf op_notBl fun x y H Q q => by
  obtain ⟨a, b, h1, h2, q⟩ := q
  exact ⟨a, b, h1, h2, by simpa using q⟩)⟩
/-- in a sequence of flat things -/
def flatD : D → Option V
  | .non => some .non
  | .bl b => some (.bl b)
  | .int i => some (.int i)
  | .str x => some (.str x)
  | _ => none
def flatL : List D → Option (List V)
  | [] => some []
  | d :: ds => match flatD d, flatL ds with
    | some v, some vs => some (v :: vs)
    | _, _ => none
theorem flatD_ok {K : PySem.W.Frag} {H : Hp} {d : D} {v u : V} (r : Rep K H d v) (h : flatD d = some u) : v = u ∧ flatV v = true := by
  cases d <;> simp only [flatD] at h <;> first | (cases h; done) | skip
  all_goals
    cases h
    simp only [Rep] at r
    subst r
    exact ⟨rfl, rfl⟩
theorem flatL_ok {K : PySem.W.Frag} {H : Hp} : ∀ {ds : List D} {vs us : List V}, RepL K H ds vs → flatL ds = some us → vs = us ∧ vs.all flatV = true
  | [], _, _, r, h => by simp only [RepL] at r; subst r; simp only [flatL] at h; cases h; exact ⟨rfl, rfl⟩
  | d :: ds, _, _, r, h => by
    simp only [RepL] at r
    obtain ⟨v, vr, rfl, ra, rb⟩ := r
    simp only [flatL] at h
    split at h
    · rename_i a b qa qb
      cases h
      obtain ⟨e1, f1⟩ := flatD_ok ra qa
      obtain ⟨e2, f2⟩ := flatL_ok rb qb
      subst e1 e2
      exact ⟨rfl, by simp [f1, f2]⟩
    · cases h
def csIn (neg : Bool) (d e : D) (S : Sto) : Option Bool := match flatD d, (seqS S e).bind flatL with
  | some v, some vs => some (xor neg (inV v vs))
  | _, _ => none
theorem csIn_ok {X : Cx} {op : CmpOp} {neg : Bool} (h : OpR X (compareOp op) (rIn X.K neg)) : OpR X (compareOp op) (vC X.K (csIn neg)) := opOf h fun x y H Q q => by
  obtain ⟨pv, d, e, S, Hd, M, b, r1, r2, sr, hb, q⟩ := q
  unfold csIn at hb
  split at hb
  · rename_i v vs hv hs
    cases hb
    cases hq : seqS S e with
    | none => rw [hq] at hs; cases hs
    | some ys =>
      rw [hq] at hs
      obtain ⟨a, us, rfl, rl, st⟩ := seq_any sr r2 hq
      obtain ⟨e1, f1⟩ := flatD_ok r1 hv
      obtain ⟨e2, f2⟩ := flatL_ok rl hs
      subst e1 e2
      refine ⟨a, us, rfl, st, f1, f2, ?_⟩
      cases neg <;> simpa using q
  · cases hb
def cIn : CNode := ⟨.In, csIn false, fun X A => csIn_ok op_in_seq⟩
def cNotIn : CNode := ⟨.NotIn, csIn true, fun X A => csIn_ok op_notIn_seq⟩
end FP

/-! FP, part I: built-in calls, subscripts, methods, what loops walk. -/
namespace FP
open PySem PySem.Spec L2

/-! ### calls of built-ins -/
def callSh (x : Str) (n : Nat) : Scope → Expr → Option (List Expr) := fun sc e => match e with
  | .Call (.Name y _) (a :: as) [] _ => if (decide (y = x) && (glB sc y && decide ((a :: as).length = n))) = true then some (a :: as) else none
  | _ => none
theorem callSh_pl {x : Str} {n : Nat} (sc : Scope) (e : Expr) (es : List Expr) (h : callSh x n sc e = some es) : plainE e = true := by
  unfold callSh at h
  split at h
  · rfl
  · cases h
theorem pe_ofB {X : Cx} {x : Str} {n : Nat} {id : String} {sem : List D → Sto → PostE → Prop} {e : Expr} {es : List Expr} {ts : List TE} (A : Amb X) (hx : x ∈ bNames) (hb : bootBuiltins x = some (.builtin id)) (hn : okName x = true)
    (h : CallR X (.builtin id) (fun vs H Q => vSem X.K sem 0 vs H Q)) (hs : callSh x n X.env.scope e = some es) (p : PEs X es ts) : PE X e (tNd X.K sem 0 ts) := by
  unfold callSh at hs
  split at hs
  · split at hs
    · rename_i c
      simp only [Bool.and_eq_true, decide_eq_true_eq] at c
      obtain ⟨rfl, g, _⟩ := c
      cases hs
      obtain ⟨d1, d2, d3⟩ := okName_d hn
      cases p with
      | cons n m p1 p =>
        exact pe_callB h (glB_ok g) (A.fr _ hx) hb (PEs.cons n m p1 p).pa d3 d1 (star_cons n) (p.plain _)
    · cases hs
  · cases hs
theorem pe_ofT {X : Cx} {x : Str} {n : Nat} {T : String} {sem : List D → Sto → PostE → Prop} {e : Expr} {es : List Expr} {ts : List TE} (A : Amb X) (hx : x ∈ bNames) (hb : bootBuiltins x = some (.type T)) (hn : okName x = true)
    (h : CallR X (.type T) (fun vs H Q => vSem X.K sem 0 vs H Q)) (hs : callSh x n X.env.scope e = some es) (p : PEs X es ts) : PE X e (tNd X.K sem 0 ts) := by
  unfold callSh at hs
  split at hs
  · split at hs
    · rename_i c
      simp only [Bool.and_eq_true, decide_eq_true_eq] at c
      obtain ⟨rfl, g, _⟩ := c
      cases hs
      obtain ⟨d1, d2, d3⟩ := okName_d hn
      cases p with
      | cons n m p1 p =>
        exact pe_callTy h (glB_ok g) (A.fr _ hx) hb (PEs.cons n m p1 p).pa d3 d1 (star_cons n) (p.plain _)
    · cases hs
  · cases hs
def nB (x : Str) (id : String) (n : Nat) (hx : x ∈ bNames) (hb : bootBuiltins x = some (.builtin id)) (hn : okName x = true) (sem : List D → Sto → PostE → Prop) (h : ∀ X, Amb X → CallR X (.builtin id) (fun vs H Q => vSem X.K sem 0 vs H Q)) : Node :=
  .plain (callSh x n) sem callSh_pl fun X e es ts A hs p => pe_ofB A hx hb hn (h X A) hs p
def nT (x : Str) (T : String) (n : Nat) (hx : x ∈ bNames) (hb : bootBuiltins x = some (.type T)) (hn : okName x = true) (sem : List D → Sto → PostE → Prop) (h : ∀ X, Amb X → CallR X (.type T) (fun vs H Q => vSem X.K sem 0 vs H Q)) : Node :=
  .plain (callSh x n) sem callSh_pl fun X e es ts A hs p => pe_ofT A hx hb hn (h X A) hs p
theorem isi1 {K : PySem.W.Frag} {H : Hp} {d : D} {vs : List V} (h : RepL K H [d] vs) : ∃ v, vs = [v] ∧ Rep K H d v := h.one

def lenS (S : Sto) : D → Option Nat
  | .str z => if z.length ≤ sizeLine then some z.length else none
  | d => (seqS S d).map List.length
def nLen : Node := nB "len" "len" 1 (by decide +kernel) (by decide +kernel) (by decide +kernel) (fun ds S Q => ∃ d n, ds = [d] ∧ lenS S d = some n ∧ Q (.int n) S) fun X A => callOf (call_len_seq.or call_len_str) fun xs H Q q => by
  obtain ⟨pv, ds, S, Hd, M, Qd, rl, sr, hc, w, fin⟩ := q
  obtain ⟨d, n, rfl, hl, w⟩ := w
  obtain ⟨v, rfl, r⟩ := rl.one
  have f := fin_val fin sr (d := .int n) (v := .int n) (by simp only [Rep]) w
  unfold lenS at hl
  split at hl
  · split at hl
    · rename_i z hz
      cases hl
      simp only [Rep] at r
      exact .inr ⟨_, by rw [r], hz, f⟩
    · cases hl
  · cases hq : seqS S d with
    | none => rw [hq] at hl; cases hl
    | some ys =>
      rw [hq] at hl
      cases hl
      obtain ⟨a, us, rfl, rl', st⟩ := seq_any sr r hq
      exact .inl ⟨a, us, rfl, st, by rw [rl'.length]; exact f⟩
/-- the name of a value's type -/
def tyN (S : Sto) : D → Option String
  | .non => some "NoneType"
  | .bl _ => some "bool"
  | .int _ => some "int"
  | .str _ => some "str"
  | .tup _ => some "tuple"
  | .lst _ => some "list"
  | .dic _ _ => some "dict"
  | .loc a => match S.m a with
    | some (.lst _) => some "list"
    | some (.dK _ _) => some "dict"
    | _ => none
  | _ => none
theorem tyN_ok {K : PySem.W.Frag} {pv : List Addr} {S : Sto} {Hd H : Hp} {M : Nat} {d : D} {v : V} {n : String} (sr : SR K pv S Hd H M) (r : Rep K Hd d v) (h : tyN S d = some n) : TyX K H v (.type n) := by
  cases d with
  | non => simp only [tyN] at h; cases h; simp only [Rep] at r; subst r; exact .base .non
  | bl b => simp only [tyN] at h; cases h; simp only [Rep] at r; subst r; exact .base (.bl b)
  | int b => simp only [tyN] at h; cases h; simp only [Rep] at r; subst r; exact .base (.int b)
  | str b => simp only [tyN] at h; cases h; simp only [Rep] at r; subst r; exact .base (.str b)
  | tup xs =>
    simp only [tyN] at h; cases h
    simp only [Rep] at r
    obtain ⟨a, vs, rfl, st, _⟩ := r
    rcases Le.sqT sr.sub st with (q | ⟨o, q⟩) | ⟨o, its, n, q, c, _⟩
    · exact .base (.tup q)
    · exact .fTuple q
    · exact .kTuple q c
  | lst xs =>
    simp only [tyN] at h; cases h
    simp only [Rep] at r
    obtain ⟨a, vs, rfl, st, _⟩ := r
    rcases Le.rd sr.sub st with q | ⟨o, q⟩
    · exact .base (.lst q)
    · exact .base (.frz q)
  | dic ks ds =>
    simp only [tyN] at h; cases h
    simp only [Rep] at r
    obtain ⟨a, vs, rfl, st, _⟩ := r
    exact .base (.dK (sr.sub _ _ st))
  | loc a =>
    simp only [tyN] at h
    split at h
    · rename_i xs hm
      cases h
      simp only [Rep] at r; subst r
      obtain ⟨_, ho, e2, vs, rfl, rl⟩ := sr.sto _ _ hm
      exact .base (.lst e2)
    · rename_i ks ds hm
      cases h
      simp only [Rep] at r; subst r
      obtain ⟨_, ho, e2, vs, rfl, _⟩ := sr.sto _ _ hm
      exact .base (.dK e2)
    · cases h
  | _ => simp [tyN] at h
def isT (a b : String) : Bool := a == b || (a == "bool" && b == "int")
def tyNames : List String := ["NoneType", "bool", "int", "str", "tuple", "list", "dict"]
def clsNames : List String := ["bool", "int", "str", "tuple", "list"]
theorem kit_all : (tyNames.all fun a => clsNames.all fun b => decide (kitB a b = some (isT a b))) = true := by decide +kernel
theorem tyN_mem {S : Sto} {d : D} {n : String} (h : tyN S d = some n) : n ∈ tyNames := by
  cases d <;> simp only [tyN] at h <;> first | (cases h; decide) | (cases h; done) | skip
  split at h <;> first | (cases h; decide) | cases h
def nIsi : Node := nB "isinstance" "isinstance" 2 (by decide +kernel) (by decide +kernel) (by decide +kernel) (fun ds S Q => ∃ d n t, ds = [d, .ty n] ∧ tyN S d = some t ∧ n ∈ clsNames ∧ Q (.bl (isT t n)) S) fun X A => callOf call_isi fun xs H Q q => by
  obtain ⟨pv, ds, S, Hd, M, Qd, rl, sr, hc, w, fin⟩ := q
  obtain ⟨d, n, t, rfl, ht, hn, w⟩ := w
  obtain ⟨v, u, rfl, r1, r2⟩ := rl.two
  simp only [Rep] at r2
  subst r2
  have k := List.all_eq_true.mp (List.all_eq_true.mp kit_all t (tyN_mem ht)) n hn
  exact ⟨v, .ty n, _, _, isT t n, rfl, .ty n, tyN_ok sr r1 ht, kit_ty (of_decide_eq_true k), fin_val fin sr (by simp only [Rep]) w⟩
def nTuple : Node := nT "tuple" "tuple" 1 (by decide +kernel) (by decide +kernel) (by decide +kernel) (fun ds S Q => ∃ d xs, ds = [d] ∧ seqS S d = some xs ∧ Q (.tup xs) S) fun X A => callOf call_tuple_of fun xs H Q q => by
  obtain ⟨pv, ds, S, Hd, M, Qd, rl, sr, hc, w, fin⟩ := q
  obtain ⟨d, xs, rfl, hl, w⟩ := w
  obtain ⟨v, rfl, r⟩ := rl.one
  obtain ⟨a, us, rfl, rl', st⟩ := seq_of sr r hl
  rcases st with ⟨⟨ys, rfl⟩, st⟩ | ⟨_, st⟩
  · simp only [seqS] at hl; cases hl
    exact ⟨a, us, rfl, .inr ⟨st, fin_val fin sr r w⟩⟩
  · exact ⟨a, us, rfl, .inl ⟨.inl st, fun l hl => fin_tup fin sr rl' w hl⟩⟩
def nList (o : Bool) : Node := nT "list" "list" 1 (by decide +kernel) (by decide +kernel) (by decide +kernel) (fun ds S Q => ∃ d xs, ds = [d] ∧ seqS S d = some xs ∧ newL o xs S Q) fun X A => callOf call_list_of fun xs H Q q => by
  obtain ⟨pv, ds, S, Hd, M, Qd, rl, sr, hc, w, fin⟩ := q
  obtain ⟨d, xs, rfl, hl, w⟩ := w
  obtain ⟨v, rfl, r⟩ := rl.one
  obtain ⟨a, us, rfl, rl', st⟩ := seq_any sr r hl
  exact ⟨a, us, rfl, st, fun l hl => fin_lst fin sr rl' w hl⟩
def sInt (ds : List D) (S : Sto) (Q : PostE) : Prop := match ds with
  | [.int i] => Q (.int i) S
  | [.bl b] => Q (.int (if b then 1 else 0)) S
  | _ => False
def nIntOf : Node := nT "int" "int" 1 (by decide +kernel) (by decide +kernel) (by decide +kernel) sInt fun X A => callOf call_int1 fun xs H Q q => by
  obtain ⟨pv, ds, S, Hd, M, Qd, rl, sr, hc, w, fin⟩ := q
  unfold sInt at w
  split at w
  · rename_i i
    obtain ⟨v, rfl, r⟩ := rl.one
    simp only [Rep] at r; subst r
    exact .inl ⟨i, rfl, fin_val fin sr (by simp only [Rep]) w⟩
  · rename_i b
    obtain ⟨v, rfl, r⟩ := rl.one
    simp only [Rep] at r; subst r
    exact .inr ⟨b, rfl, fin_val fin sr (by simp only [Rep]) w⟩
  · exact w.elim
def nSum : Node := nB "sum" "sum" 1 (by decide +kernel) (by decide +kernel) (by decide +kernel) (fun ds S Q => ∃ (d : D) (ns : List Int), ds = [d] ∧ lstS S d = some (ns.map D.int) ∧ Q (.int ns.sum) S) fun X A => callOf (cr_sum A.calm) fun xs H Q q => by
  obtain ⟨pv, ds, S, Hd, M, Qd, rl, sr, hc, w, fin⟩ := q
  obtain ⟨d, ns, rfl, hl, w⟩ := w
  obtain ⟨v, rfl, r⟩ := rl.one
  obtain ⟨a, us, rfl, rl', st⟩ := lst_of sr r hl
  rw [rl'.ints] at st
  exact ⟨a, ns, rfl, .inl st, fin_val fin sr (by simp only [Rep]) w⟩
theorem RepL.bls {K : PySem.W.Frag} {H : Hp} : ∀ {bs : List Bool} {vs : List V}, RepL K H (bs.map D.bl) vs → vs = bs.map V.bl
  | [], _, h => by simpa only [List.map_nil, RepL] using h
  | n :: ns, _, h => by
    simp only [List.map_cons, RepL, Rep] at h
    obtain ⟨v, r, rfl, rfl, b⟩ := h
    rw [RepL.bls b, List.map_cons]
def nAll : Node := nB "all" "all" 1 (by decide +kernel) (by decide +kernel) (by decide +kernel) (fun ds S Q => ∃ (d : D) (bs : List Bool), ds = [d] ∧ lstS S d = some (bs.map D.bl) ∧ Q (.bl (bs.all id)) S) fun X A => callOf (cr_all A.calm) fun xs H Q q => by
  obtain ⟨pv, ds, S, Hd, M, Qd, rl, sr, hc, w, fin⟩ := q
  obtain ⟨d, ns, rfl, hl, w⟩ := w
  obtain ⟨v, rfl, r⟩ := rl.one
  obtain ⟨a, us, rfl, rl', st⟩ := lst_of sr r hl
  rw [rl'.bls] at st
  exact ⟨a, ns, rfl, .inl st, fin_val fin sr (by simp only [Rep]) w⟩
def nAny : Node := nB "any" "any" 1 (by decide +kernel) (by decide +kernel) (by decide +kernel) (fun ds S Q => ∃ (d : D) (bs : List Bool), ds = [d] ∧ lstS S d = some (bs.map D.bl) ∧ Q (.bl (bs.any id)) S) fun X A => callOf (cr_any A.calm) fun xs H Q q => by
  obtain ⟨pv, ds, S, Hd, M, Qd, rl, sr, hc, w, fin⟩ := q
  obtain ⟨d, ns, rfl, hl, w⟩ := w
  obtain ⟨v, rfl, r⟩ := rl.one
  obtain ⟨a, us, rfl, rl', st⟩ := lst_of sr r hl
  rw [rl'.bls] at st
  exact ⟨a, ns, rfl, .inl st, fin_val fin sr (by simp only [Rep]) w⟩
def nMin : Node := nB "min" "min" 2 (by decide +kernel) (by decide +kernel) (by decide +kernel) (fun ds S Q => ∃ i j, ds = [.int i, .int j] ∧ Q (.int (if j < i then j else i)) S) fun X A => callOf (call_min2 A.calm) fun xs H Q q => by
  obtain ⟨pv, ds, S, Hd, M, Qd, rl, sr, hc, w, fin⟩ := q
  obtain ⟨i, j, rfl, w⟩ := w
  obtain ⟨v, u, rfl, r1, r2⟩ := rl.two
  simp only [Rep] at r1 r2
  subst r1 r2
  exact ⟨i, j, rfl, fin_val fin sr (by simp only [Rep]) w⟩
def nMax : Node := nB "max" "max" 2 (by decide +kernel) (by decide +kernel) (by decide +kernel) (fun ds S Q => ∃ i j, ds = [.int i, .int j] ∧ Q (.int (if j > i then j else i)) S) fun X A => callOf (call_max2 A.calm) fun xs H Q q => by
  obtain ⟨pv, ds, S, Hd, M, Qd, rl, sr, hc, w, fin⟩ := q
  obtain ⟨i, j, rfl, w⟩ := w
  obtain ⟨v, u, rfl, r1, r2⟩ := rl.two
  simp only [Rep] at r1 r2
  subst r1 r2
  exact ⟨i, j, rfl, fin_val fin sr (by simp only [Rep]) w⟩
mutual
theorem pyD_nodict : ∀ {d : D} {p : PyData}, pyD d = some p → p.hasDict = false
  | .non, _, e => by simp only [pyD] at e; cases e; rfl
  | .bl b, _, e => by simp only [pyD] at e; cases e; rfl
  | .int i, _, e => by simp only [pyD] at e; cases e; rfl
  | .str s, _, e => by simp only [pyD] at e; cases e; rfl
  | .ty _, _, e => by simp [pyD] at e
  | .loc _, _, e => by simp [pyD] at e
  | .dic _ _, _, e => by simp [pyD] at e
  | .obj _ _ _, _, e => by simp [pyD] at e
  | .scr _, _, e => by simp [pyD] at e
  | .tup xs, _, e => by
    simp only [pyD] at e
    cases q : pyL xs with
    | none => rw [q] at e; cases e
    | some ds => rw [q] at e; cases e; simp only [PyData.hasDict]; exact pyL_nodict q
  | .lst xs, _, e => by
    simp only [pyD] at e
    cases q : pyL xs with
    | none => rw [q] at e; cases e
    | some ds => rw [q] at e; cases e; simp only [PyData.hasDict]; exact pyL_nodict q
theorem pyL_nodict : ∀ {ds : List D} {ps : List PyData}, pyL ds = some ps → PyData.hasDictAll ps = false
  | [], _, e => by simp only [pyL] at e; cases e; rfl
  | d :: ds, _, e => by
    simp only [pyL] at e
    split at e
    · rename_i a b qa qb
      cases e
      simp only [PyData.hasDictAll, pyD_nodict qa, pyL_nodict qb, Bool.or_self]
    · cases e
end
/-- repr of a list or tuple of data -/
theorem call_repr {X : Cx} (A : Amb X) : CallR X (.builtin "repr") (fun xs H Q => ∃ a p, xs = [.ref a] ∧ Dp X.K H (.ref a) p ∧ p.hasDict = false ∧ p.showable = true ∧ p.depth ≤ 50 ∧ p.shown.length ≤ sizeLine ∧ Q (.str p.shown) H) := by
  intro pins s σ H xs us Q I r h
  obtain ⟨a, p, rfl, hp, nd, hs, hd, hl, q⟩ := h
  obtain ⟨u, rfl, ru⟩ := vals1 r
  cases ru
  obtain ⟨as, rd⟩ := Dp.reads I p _ _ hp rfl
  refine repr_of_reads' rd hs (fun z => by rw [nd] at z; cases z) A.gd (by have := A.un; omega) (fun b o e => e) (fun h' u tk hk => ⟨.str p.shown, H, I.kept hk, ⟨u, rfl⟩, q⟩) hl
def reprOk (p : PyData) : Prop := p.showable = true ∧ p.depth ≤ 50 ∧ p.shown.length ≤ sizeLine
def isSeq : D → Bool
  | .tup _ => true
  | .lst _ => true
  | .loc _ => true
  | _ => false
def nRepr : Node := nB "repr" "repr" 1 (by decide +kernel) (by decide +kernel) (by decide +kernel) (fun ds S Q => ∃ d p, ds = [d] ∧ isSeq d = true ∧ pyS S d = some p ∧ reprOk p ∧ Q (.str p.shown) S) fun X A => callOf (call_repr A) fun xs H Q q => by
  obtain ⟨pv, ds, S, Hd, M, Qd, rl, sr, hc, w, fin⟩ := q
  obtain ⟨d, p, rfl, hq, hp, ho, w⟩ := w
  obtain ⟨v, rfl, r⟩ := rl.one
  have dp := dpS sr r hp
  have nd : p.hasDict = false := by
    unfold pyS at hp
    split at hp
    · split at hp
      · rename_i xs _
        cases q : pyL xs with
        | none => rw [q] at hp; cases hp
        | some ds => rw [q] at hp; cases hp; simp only [PyData.hasDict]; exact pyL_nodict q
      · cases hp
    · exact pyD_nodict hp
  have f := fin_val fin sr (d := .str p.shown) (v := .str p.shown) (by simp only [Rep]) w
  have hv : ∃ a, v = .ref a := by
    cases d <;> simp only [isSeq] at hq <;> first | (cases hq; done) | skip
    · simp only [Rep] at r; obtain ⟨a, vs, rfl, _⟩ := r; exact ⟨a, rfl⟩
    · simp only [Rep] at r; obtain ⟨a, vs, rfl, _⟩ := r; exact ⟨a, rfl⟩
    · simp only [Rep] at r; exact ⟨_, r⟩
  obtain ⟨a, rfl⟩ := hv
  exact ⟨a, p, rfl, dp, nd, ho.1, ho.2.1, ho.2.2, f⟩

/-! ### subscripts, slices -/
theorem plainIx {b : Expr} (h : notSlice b = true) : PlainIx b := by
  intro o i
  cases b <;> first | rfl | cases h
def nIx : Node := .plain (fun _ e => match e with
    | .Subscript a b _ => if notSlice b = true then some [a, b] else none
    | _ => none) (fun ds S Q => ∃ d i xs v, ds = [d, .int i] ∧ seqS S d = some xs ∧ atI xs i = some v ∧ Q v S)
  (fun sc e es h => by cases e <;> first | rfl | (simp at h))
  (fun X e es ts A hs p => by
    split at hs
    · rename_i a b pos
      split at hs
      · rename_i hb
        cases hs
        cases p with
        | cons n1 m1 p1 p =>
          cases p with
          | cons n2 m2 p2 p =>
            cases p
            refine (pe_ix ix_seq p1 p2 (plainIx hb)).of fun σ H Q q => m1 _ _ _ _ (fun x H1 q => m2 _ _ _ _ (fun y H2 q => ?_) q) q
            obtain ⟨pv, ds, S, Hd, M, Qd, rl, sr, hc, w, fin⟩ := q
            obtain ⟨d, i, xs, v, rfl, hq, ha, w⟩ := w
            obtain ⟨x', y', e, r1, r2⟩ := rl.two
            simp only [List.cons.injEq, and_true] at e
            obtain ⟨rfl, rfl⟩ := e
            simp only [Rep] at r2
            obtain ⟨a, us, rfl, rl', st⟩ := seq_any sr r1 hq
            have hl := rl'.length
            have hv : ∃ u, atI us i = some u ∧ Rep X.K Hd v u := by
              unfold atI at ha ⊢
              rw [hl]
              cases hj : ixN xs.length i with
              | none => rw [hj] at ha; cases ha
              | some j =>
                rw [hj] at ha
                exact rl'.get ha
            obtain ⟨u, hu, ru⟩ := hv
            rcases st with st | st
            · exact .inl ⟨a, us, i, u, rfl, r2, st, hu, fin_val fin sr ru w⟩
            · exact .inr (.inl ⟨a, us, i, u, rfl, r2, st, hu, fin_val fin sr ru w⟩)
      · cases hs
    · cases hs)
def cutD (xs : List D) (lo hi : Option Int) : List D := (xs.drop (HT.sIx xs.length 0 lo)).take (HT.sIx xs.length xs.length hi - HT.sIx xs.length 0 lo)
theorem RepL.cut {K : PySem.W.Frag} {H : Hp} {ds : List D} {vs : List V} (r : RepL K H ds vs) (lo hi : Option Int) : RepL K H (cutD ds lo hi) (cutV vs lo hi) := by
  unfold cutD cutV
  rw [r.length]
  exact (r.drop _).take _
/-- a slice's end: of a tuple a tuple, of a list a new list -/
def sCut (o : Bool) (d : D) (lo hi : Option Int) (S : Sto) (Q : PostE) : Prop := match d with
  | .tup xs => Q (.tup (cutD xs lo hi)) S
  | d => ∃ xs, lstS S d = some xs ∧ newL o (cutD xs lo hi) S Q
theorem cut_whole {xs : List D} {lo hi : Option Int} (h : HT.sIx xs.length 0 lo = 0 ∧ HT.sIx xs.length xs.length hi = xs.length) : cutD xs lo hi = xs := by
  unfold cutD
  rw [h.1, h.2]
  simp
theorem sl_any {X : Cx} : SlR X (fun x lo hi H Q => rSlA X.K x lo hi H Q ∨ rSlL X.K x lo hi H Q) := sl_tupA.or sl_list
theorem cut_ok {K : PySem.W.Frag} {pv : List Addr} {S : Sto} {Hd H : Hp} {M : Nat} {Qd : PostE} {Q : VK} {o : Bool} {d : D} {x : V} {lo hi : Option Int} (fin : Fin' K pv Hd H M Qd Q) (sr : SR K pv S Hd H M) (r : Rep K Hd d x) (w : sCut o d lo hi S Qd) : rSlA K x lo hi H Q ∨ rSlL K x lo hi H Q := by
  unfold sCut at w
  split at w
  · rename_i xs
    obtain ⟨a, us, rfl, rl, st⟩ := tup_of sr r rfl
    refine .inl ⟨a, us, rfl, st, fun h => ?_, fun h p hp => fin_tup fin sr (rl.cut lo hi) w hp⟩
    rw [rl.length] at h
    rw [cut_whole h] at w
    exact fin_val fin sr r w
  · obtain ⟨xs, hx, w⟩ := w
    obtain ⟨a, us, rfl, rl, st⟩ := lst_of sr r hx
    exact .inr ⟨a, us, rfl, .inl st, fun p hp => fin_lst fin sr (rl.cut lo hi) w hp⟩
/-- xs[lo:] -/
def nSlA (o : Bool) : Node := .plain (fun _ e => match e with
    | .Subscript a (.Slice (some lo) none none _) _ => some [a, lo]
    | _ => none) (fun ds S Q => ∃ d i, ds = [d, .int i] ∧ sCut o d (some i) none S Q)
  (fun sc e es h => by cases e <;> first | rfl | (simp at h))
  (fun X e es ts A hs p => by
    split at hs
    · cases hs
      cases p with
      | cons n1 m1 p1 p =>
        cases p with
        | cons n2 m2 p2 p =>
          cases p
          refine (pe_slice sl_any p1 (po_some p2) po_none).of fun σ H Q q => m1 _ _ _ _ (fun x H1 q => m2 _ _ _ _ (fun y H2 q => ?_) q) q
          obtain ⟨pv, ds, S, Hd, M, Qd, rl, sr, hc, w, fin⟩ := q
          obtain ⟨d, i, rfl, w⟩ := w
          obtain ⟨x', y', e, r1, r2⟩ := rl.two
          simp only [List.cons.injEq, and_true] at e
          obtain ⟨rfl, rfl⟩ := e
          simp only [Rep] at r2
          exact ⟨i, r2, cut_ok fin sr r1 w⟩
    · cases hs)
/-- xs[:hi] -/
def nSlB (o : Bool) : Node := .plain (fun _ e => match e with
    | .Subscript a (.Slice none (some hi) none _) _ => some [a, hi]
    | _ => none) (fun ds S Q => ∃ d i, ds = [d, .int i] ∧ sCut o d none (some i) S Q)
  (fun sc e es h => by cases e <;> first | rfl | (simp at h))
  (fun X e es ts A hs p => by
    split at hs
    · cases hs
      cases p with
      | cons n1 m1 p1 p =>
        cases p with
        | cons n2 m2 p2 p =>
          cases p
          refine (pe_slice sl_any p1 po_none (po_some p2)).of fun σ H Q q => m1 _ _ _ _ (fun x H1 q => m2 _ _ _ _ (fun y H2 q => ?_) q) q
          obtain ⟨pv, ds, S, Hd, M, Qd, rl, sr, hc, w, fin⟩ := q
          obtain ⟨d, i, rfl, w⟩ := w
          obtain ⟨x', y', e, r1, r2⟩ := rl.two
          simp only [List.cons.injEq, and_true] at e
          obtain ⟨rfl, rfl⟩ := e
          simp only [Rep] at r2
          exact ⟨i, r2, cut_ok fin sr r1 w⟩
    · cases hs)
/-- xs[::-1] of a list -/
def nRevL (o : Bool) : Node := .plain (fun _ e => match e with
    | .Subscript a (.Slice none none (some (.UnaryOp .USub (.Constant (.int j) _ _) _)) _) _ => if j = 1 then some [a] else none
    | _ => none) (fun ds S Q => ∃ d xs, ds = [d] ∧ lstS S d = some xs ∧ newL o xs.reverse S Q)
  (fun sc e es h => by cases e <;> first | rfl | (simp at h))
  (fun X e es ts A hs p => by
    split at hs
    · split at hs
      · rename_i ej; subst ej; cases hs
        cases p with
        | cons n1 m1 p1 p =>
          cases p
          refine (pe_revL p1).of fun σ H Q q => m1 _ _ _ _ (fun x H1 q => ?_) q
          obtain ⟨pv, ds, S, Hd, M, Qd, rl, sr, hc, w, fin⟩ := q
          obtain ⟨d, xs, rfl, hx, w⟩ := w
          obtain ⟨v, e, r⟩ := rl.one
          cases e
          obtain ⟨a, us, rfl, rl', st⟩ := lst_of sr r hx
          exact ⟨a, us, rfl, .inl st, fun p hp => fin_lst fin sr rl'.reverse w hp⟩
      · cases hs
    · cases hs)

/-! ### list(range(..)), tuple(range(..)) -/
def rgD (a b : Int) : List D := (List.range (b - a).toNat).map fun i => D.int (a + (i : Nat))
theorem rgD_rep {K : PySem.W.Frag} {H : Hp} (a b : Int) : RepL K H (rgD a b) (rgV a b) := RepL.map (fun i => by simp only [Rep]) _
def rg1Sh (x : Str) : Scope → Expr → Option (List Expr) := fun sc e => match e with
  | .Call (.Name y _) [.Call (.Name z _) [a] [] _] [] _ => if (decide (y = x) && (decide (z = ("range" : Str)) && (glB sc y && (glB sc z && notStar a)))) = true then some [a] else none
  | _ => none
def rg2Sh (x : Str) : Scope → Expr → Option (List Expr) := fun sc e => match e with
  | .Call (.Name y _) [.Call (.Name z _) [a, b] [] _] [] _ => if (decide (y = x) && (decide (z = ("range" : Str)) && (glB sc y && (glB sc z && (notStar a && notStar b))))) = true then some [a, b] else none
  | _ => none
def nListRg1 (o : Bool) : Node := .plain (rg1Sh "list") (fun ds S Q => ∃ n, ds = [.int n] ∧ RgOk 0 n ∧ newL o (rgD 0 n) S Q)
  (fun sc e es h => by unfold rg1Sh at h; split at h <;> first | rfl | cases h)
  (fun X e es ts A hs p => by
    unfold rg1Sh at hs
    split at hs
    · split at hs
      · rename_i c
        simp only [Bool.and_eq_true, decide_eq_true_eq] at c
        obtain ⟨rfl, rfl, g1, g2, na⟩ := c
        cases hs
        cases p with
        | cons n1 m1 p1 p =>
          cases p
          refine (pe_listRg A.calm (glB_ok g1) (A.fr _ (by decide +kernel)) (prg_1 (glB_ok g2) (A.fr _ (by decide +kernel)) p1 (star_cons na))).of fun σ H Q q => m1 _ _ _ _ (fun x H1 q => ?_) q
          obtain ⟨pv, ds, S, Hd, M, Qd, rl, sr, hc, w, fin⟩ := q
          obtain ⟨n, rfl, ok, w⟩ := w
          obtain ⟨v, e, r⟩ := rl.one
          cases e
          simp only [Rep] at r
          exact ⟨n, r, ok, fun p hp => fin_lst fin sr (rgD_rep 0 n) w hp⟩
      · cases hs
    · cases hs)
def nListRg2 (o : Bool) : Node := .plain (rg2Sh "list") (fun ds S Q => ∃ a b, ds = [.int a, .int b] ∧ RgOk a b ∧ newL o (rgD a b) S Q)
  (fun sc e es h => by unfold rg2Sh at h; split at h <;> first | rfl | cases h)
  (fun X e es ts A hs p => by
    unfold rg2Sh at hs
    split at hs
    · split at hs
      · rename_i c
        simp only [Bool.and_eq_true, decide_eq_true_eq] at c
        obtain ⟨rfl, rfl, g1, g2, na, nb⟩ := c
        cases hs
        cases p with
        | cons n1 m1 p1 p =>
          have pl := p.plain
          cases p with
          | cons n2 m2 p2 p =>
            cases p
            refine (pe_listRg A.calm (glB_ok g1) (A.fr _ (by decide +kernel)) (prg_2 (glB_ok g2) (A.fr _ (by decide +kernel)) p1 p2 (star_cons na) (star_cons nb) (pl _))).of fun σ H Q q => m1 _ _ _ _ (fun x H1 q => m2 _ _ _ _ (fun y H2 q => ?_) q) q
            obtain ⟨pv, ds, S, Hd, M, Qd, rl, sr, hc, w, fin⟩ := q
            obtain ⟨i, j, rfl, ok, w⟩ := w
            obtain ⟨v, u, e, r1, r2⟩ := rl.two
            simp only [List.cons.injEq, and_true] at e
            obtain ⟨rfl, rfl⟩ := e
            simp only [Rep] at r1 r2
            exact ⟨i, j, r1, r2, ok, fun p hp => fin_lst fin sr (rgD_rep i j) w hp⟩
      · cases hs
    · cases hs)

/-! ### what loops walk -/
theorem foldP {e : Expr} {env : Env} {x : Value} (h : ∀ a b c, e ≠ .Set a b c) : foldedSetIterable e env x = pure x := by
  cases e <;> first | rfl | exact absurd rfl (h _ _ _)
def notSet : Expr → Bool
  | .Set _ _ _ => false
  | _ => true
/-- a list, a tuple: as it stands; a list that may change must not, while it is walked -/
def stayS (d : D) (xs : List D) (S : Sto) : Prop := seqS S d = some xs
def iAnyS (K : PySem.W.Frag) (tl : TE) : TI := fun σ H R => tl σ H fun x H1 => ∃ a, x = .ref a ∧ (((∃ xs, SqL K H1 a xs) ∧ R (Itl K a) H1) ∨ ((∃ xs, SqT K H1 a xs) ∧ R (Itt K a) H1))
/-- an iterator just laid at the heap's end: nobody's but the loop's -/
theorem laid_it {X : Cx} {tg : Expr} {pins : List (Addr × Obj)} {σ : St} {T : Hp} {st : Shared} {R : It → Hp → Prop} {J : It} {ob : Obj} {tn : Nat → Heap → Prop} (I : Inv X pins σ T st) (tu : Turn X.prog X.w X.K tg J [st.heap.objs.size] st.heap.objs.size tn)
    (t0 : tn 0 (st.heap.push ob)) (q : R J T) : PIE X pins σ tg R (.ref st.heap.objs.size) { st with heap := st.heap.push ob } :=
  ⟨_, _, tn, J, T, rfl, Inv.kept (t' := st.toks) I fun _ _ g => Heap.get?_push_of_some _ g, tu, t0, fun b hb => by rw [List.mem_singleton.mp hb]; exact I.fpOk (Nat.le_refl _) I.fresh, q⟩
theorem pi_anyS {X : Cx} {tg l : Expr} {tl : TE} (hl : PE X l tl) : PI X tg l (iAnyS X.K tl) := by
  constructor
  intro pins st σ T R I wish
  refine thn (hl.run pins st σ T _ I wish) ?_
  rintro v st' ⟨x, T', I', rv, a, rfl, q⟩
  cases rv
  rcases q with ⟨⟨xs, sq⟩, q⟩ | ⟨⟨xs, sq⟩, q⟩
  · obtain ⟨its, _, at_a, _⟩ := I'.list sq
    exact wpAny_pyIter_list at_a.isList (laid_it I' (turn_list a _) ⟨_, Heap.get?_push_size _ rfl, rfl, rfl⟩ q)
  · obtain ⟨its, _, at_a, _⟩ := I'.tuple sq
    have at_a' : st'.heap.IsTuple a its.toArray := at_a
    exact wpAny_pyIter_tuple at_a' (laid_it I' (turn_tuple a _) ⟨_, Heap.get?_push_size _ rfl, rfl, rfl⟩ q)
theorem _root_.L2.PI.of {X : Cx} {tg e : Expr} {t t' : TI} (h : PI X tg e t) (i : ∀ σ H R, t' σ H R → t σ H R) : PI X tg e t' := ⟨fun pins s σ H R I q => h.run pins s σ H R I (i σ H R q)⟩
theorem iter_seqL {K : PySem.W.Frag} {Hd0 : Hp} {d : D} {xs : List D} {a : Addr} (hx : xs.length ≤ MX) (r : Rep K Hd0 d (.ref a)) (nt : ¬ ∃ ys, d = .tup ys) : Iter K xs (stayS d xs) Hd0 (Itl K a) := by
  refine ⟨hx, fun pv S Hd H M le sr st i => ?_⟩
  obtain ⟨a', us, e, rl, h⟩ := seq_of sr (r.mono le) st
  cases e
  rcases h with ⟨z, _⟩ | ⟨_, h⟩
  · exact absurd z nt
  refine ⟨fun hi => ?_, fun hi => ⟨us, .inl h, by rw [rl.length]; exact hi⟩⟩
  obtain ⟨u, hu, ru⟩ := rl.get (List.getElem?_eq_getElem hi)
  refine ⟨⟨us, u, .inl h, hu⟩, fun x H' y => ?_⟩
  obtain ⟨rfl, y⟩ := y
  have e := y us (.inl h)
  rw [hu] at e; cases e
  exact ⟨Hd, _, List.getElem?_eq_getElem hi, .refl .., sr, ru⟩
theorem iter_seqT {K : PySem.W.Frag} {Hd0 : Hp} {d : D} {xs : List D} {a : Addr} (hx : xs.length ≤ MX) (r : Rep K Hd0 d (.ref a)) (nt : ∃ ys, d = .tup ys) : Iter K xs (stayS d xs) Hd0 (Itt K a) := by
  refine ⟨hx, fun pv S Hd H M le sr st i => ?_⟩
  obtain ⟨a', us, e, rl, h⟩ := seq_of sr (r.mono le) st
  cases e
  rcases h with ⟨_, h⟩ | ⟨z, _⟩
  · refine ⟨fun hi => ?_, fun hi => ⟨us, h, by rw [rl.length]; exact hi⟩⟩
    obtain ⟨u, hu, ru⟩ := rl.get (List.getElem?_eq_getElem hi)
    refine ⟨⟨us, u, h, hu⟩, fun x H' y => ?_⟩
    obtain ⟨rfl, y⟩ := y
    have e := y us h
    rw [hu] at e; cases e
    exact ⟨Hd, _, List.getElem?_eq_getElem hi, .refl .., sr, ru⟩
  · exact absurd nt z
theorem sizeMX {n : Nat} (h : n ≤ sizeLine) : n ≤ MX := Nat.le_trans h (by decide +kernel)
def iSeq : INode where
  shape := fun _ e => if (notSet e && notStar e) = true then some [e] else none
  sem := fun ds S k => ∃ d xs, ds = [d] ∧ seqS S d = some xs ∧ xs.length ≤ sizeLine ∧ k xs (stayS d xs)
  tgt := fun _ => true
  fold := fun sc e es h env x => by
    split at h
    · rename_i c
      refine foldP fun a b d z => ?_
      subst z
      simp [notSet] at c
    · cases h
  ok := fun X tg e es ts A ht hs p => by
    split at hs
    · cases hs
      cases p with
      | cons n m p1 p =>
        cases p
        refine (pi_anyS p1).of fun σ H R q => m _ _ _ _ (fun x H1 q => ?_) q
        obtain ⟨pv, ds, S, Hd, M, k, rl, sr, w, fin⟩ := q
        obtain ⟨d, xs, rfl, hx, hl, w⟩ := w
        obtain ⟨v, e, r⟩ := rl.one
        cases e
        obtain ⟨a, us, rfl, rl', h⟩ := seq_of sr r hx
        refine ⟨a, rfl, ?_⟩
        rcases h with ⟨z, h⟩ | ⟨z, h⟩
        · exact .inr ⟨⟨us, h⟩, fin _ _ _ Hd H1 w (.refl ..) sr (iter_seqT (sizeMX hl) r z)⟩
        · exact .inl ⟨⟨us, .inl h⟩, fin _ _ _ Hd H1 w (.refl ..) sr (iter_seqL (sizeMX hl) r z)⟩
    · cases hs
theorem foldC {f : Expr} {as : List Expr} {ks : List Keyword} {p : Pos} {env : Env} {x : Value} : foldedSetIterable (.Call f as ks p) env x = pure x := rfl
theorem iter_rg {K : PySem.W.Frag} {Hd0 : Hp} (lo hi : Int) (h : (hi - lo).toNat ≤ MX) : Iter K (rgD lo hi) (fun _ => True) Hd0 (Itr lo (hi - lo).toNat) := by
  have el : (rgD lo hi).length = (hi - lo).toNat := by simp [rgD]
  refine ⟨by rw [el]; exact h, fun pv S Hd H M le sr st i => ⟨fun hi' => ⟨by rw [el] at hi'; exact hi', fun x H' y => ?_⟩, fun hi' => by rw [el] at hi'; exact hi'⟩⟩
  obtain ⟨rfl, rfl⟩ := y
  refine ⟨Hd, .int (lo + (i : Nat)), ?_, .refl .., sr, by simp only [Rep]⟩
  rw [el] at hi'
  simp [rgD, hi']
def rng1Sh : Scope → Expr → Option (List Expr) := fun sc e => match e with
  | .Call (.Name y _) [a] [] _ => if (decide (y = ("range" : Str)) && (glB sc y && notStar a)) = true then some [a] else none
  | _ => none
def rng2Sh : Scope → Expr → Option (List Expr) := fun sc e => match e with
  | .Call (.Name y _) [a, b] [] _ => if (decide (y = ("range" : Str)) && (glB sc y && (notStar a && notStar b))) = true then some [a, b] else none
  | _ => none
def Rg62 (i : Int) : Prop := -(2 ^ 62) ≤ i ∧ i < 2 ^ 62
def iRg1 : INode where
  shape := rng1Sh
  sem := fun ds S k => ∃ n, ds = [.int n] ∧ Rg62 n ∧ k (rgD 0 n) (fun _ => True)
  tgt := fun _ => true
  fold := fun sc e es h env x => by
    unfold rng1Sh at h
    split at h <;> first | exact foldC | cases h
  ok := fun X tg e es ts A ht hs p => by
    unfold rng1Sh at hs
    split at hs
    · split at hs
      · rename_i c
        simp only [Bool.and_eq_true, decide_eq_true_eq] at c
        obtain ⟨rfl, g, na⟩ := c
        cases hs
        cases p with
        | cons n m p1 p =>
          cases p
          refine (pi_range1 (glB_ok g) (A.fr _ (by decide +kernel)) (PEs.cons n m p1 .nil).pa (star_cons na)).of fun σ H R q => m _ _ _ _ (fun x H1 q => ?_) q
          obtain ⟨pv, ds, S, Hd, M, k, rl, sr, w, fin⟩ := q
          obtain ⟨n, rfl, hn, w⟩ := w
          obtain ⟨v, e, r⟩ := rl.one
          cases e
          simp only [Rep] at r
          subst r
          have := iter_rg (K := X.K) (Hd0 := Hd) 0 n (by unfold MX; have := hn.2; omega)
          rw [Int.sub_zero] at this
          exact ⟨n, rfl, hn.1, hn.2, fin _ _ _ Hd H1 w (.refl ..) sr this⟩
      · cases hs
    · cases hs
def iRg2 : INode where
  shape := rng2Sh
  sem := fun ds S k => ∃ i j, ds = [.int i, .int j] ∧ Rg62 i ∧ Rg62 j ∧ k (rgD i j) (fun _ => True)
  tgt := fun _ => true
  fold := fun sc e es h env x => by
    unfold rng2Sh at h
    split at h <;> first | exact foldC | cases h
  ok := fun X tg e es ts A ht hs p => by
    unfold rng2Sh at hs
    split at hs
    · split at hs
      · rename_i c
        simp only [Bool.and_eq_true, decide_eq_true_eq] at c
        obtain ⟨rfl, g, na, nb⟩ := c
        cases hs
        cases p with
        | cons n m p1 p =>
          cases p with
          | cons n2 m2 p2 p =>
            cases p
            refine (pi_range2 (glB_ok g) (A.fr _ (by decide +kernel)) (PEs.cons n m p1 (.cons n2 m2 p2 .nil)).pa (by rw [star_cons na, star_cons nb]; rfl) (star_cons nb)).of fun σ H R q => m _ _ _ _ (fun x H1 q => m2 _ _ _ _ (fun y H2 q => ?_) q) q
            obtain ⟨pv, ds, S, Hd, M, k, rl, sr, w, fin⟩ := q
            obtain ⟨i, j, rfl, hi, hj, w⟩ := w
            obtain ⟨v, u, e, r, r2⟩ := rl.two
            simp only [List.cons.injEq, and_true] at e
            obtain ⟨rfl, rfl⟩ := e
            simp only [Rep] at r r2
            subst r r2
            exact ⟨i, j, rfl, ⟨hi.1, hi.2, hj.1, hj.2⟩, fin _ _ _ Hd H2 w (.refl ..) sr (iter_rg i j (by unfold MX; have := hi.1; have := hj.2; omega))⟩
      · cases hs
    · cases hs
/-! zip of two lists, of two tuples; enumerate of a list -/
def isTupE : Expr → Bool
  | .Tuple _ _ _ => true
  | _ => false
def fnSh1 (x : Str) : Scope → Expr → Option (List Expr) := fun sc e => match e with
  | .Call (.Name y _) [a] [] _ => if (decide (y = x) && (glB sc y && notStar a)) = true then some [a] else none
  | _ => none
def fnSh2 (x : Str) : Scope → Expr → Option (List Expr) := fun sc e => match e with
  | .Call (.Name y _) [a, b] [] _ => if (decide (y = x) && (glB sc y && (notStar a && notStar b))) = true then some [a, b] else none
  | _ => none
def zipD (xs ys : List D) : List D := List.zipWith (fun x y => D.tup [x, y]) xs ys
theorem zipD_at {xs ys : List D} {i : Nat} (h1 : i < xs.length) (h2 : i < ys.length) : (zipD xs ys)[i]? = some (.tup [xs[i], ys[i]]) := by
  unfold zipD
  rw [List.getElem?_zipWith]
  simp [h1, h2]
theorem zipD_len {xs ys : List D} : (zipD xs ys).length = min xs.length ys.length := by simp [zipD]
theorem mk_pair {K : PySem.W.Frag} {pv : List Addr} {S : Sto} {Hd H : Hp} {M : Nat} {T : Addr} {x y : V} {d e : D} (sr : SR K pv S Hd H M) (hT : H T = none) (r1 : Rep K Hd d x) (r2 : Rep K Hd e y) :
    Mv pv Hd H (upd Hd T (.tup [x, y])) (upd H T (.tup [x, y])) ∧ SR K pv S (upd Hd T (.tup [x, y])) (upd H T (.tup [x, y])) M ∧ Rep K (upd Hd T (.tup [x, y])) (.tup [d, e]) (.ref T) :=
  ⟨.new sr hT, sr.frz hT, .tupI upd_same (.cons (r1.mono (.new (sr.freshD hT))) (.cons (r2.mono (.new (sr.freshD hT))) .nil))⟩
theorem iter_zipL {K : PySem.W.Frag} {Hd0 : Hp} {d e : D} {xs ys : List D} {a b : Addr} (hx : xs.length ≤ MX) (r : Rep K Hd0 d (.ref a)) (r2 : Rep K Hd0 e (.ref b)) (nt : ¬ ∃ ys, d = .tup ys) (nt2 : ¬ ∃ ys, e = .tup ys) :
    Iter K (zipD xs ys) (fun S => stayS d xs S ∧ stayS e ys S) Hd0 (Itz K a b) := by
  refine ⟨by rw [zipD_len]; omega, fun pv S Hd H M le sr st i => ?_⟩
  obtain ⟨a', us, e, rl, h⟩ := seq_of sr (r.mono le) st.1
  cases e
  obtain ⟨b', us2, e, rl2, h2⟩ := seq_of sr (r2.mono le) st.2
  cases e
  replace h := (h.resolve_left fun z => nt z.1).2
  replace h2 := (h2.resolve_left fun z => nt2 z.1).2
  rw [zipD_len]
  refine ⟨fun hi => ?_, fun hi => ⟨us, us2, .inl h, .inl h2, by rw [rl.length, rl2.length]; omega⟩⟩
  have l1 : i < xs.length := by omega
  have l2 : i < ys.length := by omega
  obtain ⟨u, hu, ru⟩ := rl.get (List.getElem?_eq_getElem l1)
  obtain ⟨u2, hu2, ru2⟩ := rl2.get (List.getElem?_eq_getElem l2)
  refine ⟨⟨us, us2, u, u2, .inl h, .inl h2, hu, hu2⟩, fun x H' y => ?_⟩
  obtain ⟨T, x', y', rfl, hT, rfl, f1, f2⟩ := y
  have e1 := f1 us (.inl h)
  have e2 := f2 us2 (.inl h2)
  rw [hu] at e1; cases e1
  rw [hu2] at e2; cases e2
  obtain ⟨m, s', rr⟩ := mk_pair sr hT ru ru2
  exact ⟨_, _, zipD_at l1 l2, m, s', rr⟩
theorem iter_zipT {K : PySem.W.Frag} {Hd0 : Hp} {d e : D} {xs ys : List D} {a b : Addr} (hx : xs.length ≤ MX) (r : Rep K Hd0 d (.ref a)) (r2 : Rep K Hd0 e (.ref b)) (nt : ∃ ys, d = .tup ys) (nt2 : ∃ ys, e = .tup ys) :
    Iter K (zipD xs ys) (fun S => stayS d xs S ∧ stayS e ys S) Hd0 (RZ.ItzT K a b) := by
  refine ⟨by rw [zipD_len]; omega, fun pv S Hd H M le sr st i => ?_⟩
  obtain ⟨a', us, e, rl, h⟩ := seq_of sr (r.mono le) st.1
  cases e
  obtain ⟨b', us2, e, rl2, h2⟩ := seq_of sr (r2.mono le) st.2
  cases e
  replace h := (h.resolve_right fun z => z.1 nt).2
  replace h2 := (h2.resolve_right fun z => z.1 nt2).2
  rw [zipD_len]
  refine ⟨fun hi => ?_, fun hi => ⟨us, us2, h, h2, by rw [rl.length, rl2.length]; omega⟩⟩
  have l1 : i < xs.length := by omega
  have l2 : i < ys.length := by omega
  obtain ⟨u, hu, ru⟩ := rl.get (List.getElem?_eq_getElem l1)
  obtain ⟨u2, hu2, ru2⟩ := rl2.get (List.getElem?_eq_getElem l2)
  refine ⟨⟨us, us2, u, u2, h, h2, hu, hu2⟩, fun x H' y => ?_⟩
  obtain ⟨T, x', y', rfl, hT, rfl, f1, f2⟩ := y
  have e1 := f1 us h
  have e2 := f2 us2 h2
  rw [hu] at e1; cases e1
  rw [hu2] at e2; cases e2
  obtain ⟨m, s', rr⟩ := mk_pair sr hT ru ru2
  exact ⟨_, _, zipD_at l1 l2, m, s', rr⟩
def isTupD : D → Bool
  | .tup _ => true
  | _ => false
theorem isTupD_iff {d : D} : isTupD d = true ↔ ∃ ys, d = .tup ys := by
  cases d <;> simp [isTupD]
def iZip : INode where
  shape := fnSh2 "zip"
  sem := fun ds S k => ∃ d e xs ys, ds = [d, e] ∧ seqS S d = some xs ∧ seqS S e = some ys ∧ isTupD d = isTupD e ∧ xs.length ≤ sizeLine ∧ k (zipD xs ys) (fun S => stayS d xs S ∧ stayS e ys S)
  tgt := isTupE
  fold := fun sc e es h env x => by
    unfold fnSh2 at h
    split at h <;> first | exact foldC | cases h
  ok := fun X tg e es ts A ht hs p => by
    unfold fnSh2 at hs
    split at hs
    · split at hs
      · rename_i c
        simp only [Bool.and_eq_true, decide_eq_true_eq] at c
        obtain ⟨rfl, g, na, nb⟩ := c
        cases hs
        unfold isTupE at ht
        split at ht
        · cases p with
          | cons n m p1 p =>
            have pl := p.plain
            cases p with
            | cons n2 m2 p2 p =>
              cases p
              refine (RZ.pi_zipA (glB_ok g) (A.fr _ (by decide +kernel)) (PEs.cons n m p1 (.cons n2 m2 p2 .nil)).pa (star_cons na) (pl _)).of fun σ H R q => m _ _ _ _ (fun x H1 q => m2 _ _ _ _ (fun y H2 q => ?_) q) q
              obtain ⟨pv, ds, S, Hd, M, k, rl, sr, w, fin⟩ := q
              obtain ⟨d, d2, xs, ys, rfl, h1, h2, hb, hl, w⟩ := w
              obtain ⟨v, u, e, r, r2⟩ := rl.two
              simp only [List.cons.injEq, and_true] at e
              obtain ⟨rfl, rfl⟩ := e
              obtain ⟨a, us, rfl, rl', h⟩ := seq_of sr r h1
              obtain ⟨b, us2, rfl, rl2', h'⟩ := seq_of sr r2 h2
              refine ⟨a, b, us, us2, rfl, ?_⟩
              by_cases c : isTupD d = true
              · have t1 := isTupD_iff.mp c
                have t2 := isTupD_iff.mp (hb ▸ c)
                exact .inr ⟨(h.resolve_right fun z => z.1 t1).2, (h'.resolve_right fun z => z.1 t2).2, fin _ _ _ Hd H2 w (.refl ..) sr (iter_zipT (sizeMX hl) r r2 t1 t2)⟩
              · have t1 : ¬ ∃ ys, d = .tup ys := fun z => c (isTupD_iff.mpr z)
                have t2 : ¬ ∃ ys, d2 = .tup ys := fun z => c (hb ▸ isTupD_iff.mpr z)
                exact .inl ⟨.inl (h.resolve_left fun z => t1 z.1).2, .inl (h'.resolve_left fun z => t2 z.1).2, fin _ _ _ Hd H2 w (.refl ..) sr (iter_zipL (sizeMX hl) r r2 t1 t2)⟩
        · cases ht
      · cases hs
    · cases hs
def enumD (xs : List D) : List D := xs.mapIdx fun i x => D.tup [.int (i : Nat), x]
theorem iter_enum {K : PySem.W.Frag} {Hd0 : Hp} {d : D} {xs : List D} {a : Addr} (hx : xs.length ≤ MX) (r : Rep K Hd0 d (.ref a)) (nt : ¬ ∃ ys, d = .tup ys) : Iter K (enumD xs) (stayS d xs) Hd0 (Ite K a) := by
  have el : (enumD xs).length = xs.length := by simp [enumD]
  refine ⟨by rw [el]; exact hx, fun pv S Hd H M le sr st i => ?_⟩
  obtain ⟨a', us, e, rl, h⟩ := seq_of sr (r.mono le) st
  cases e
  replace h := (h.resolve_left fun z => nt z.1).2
  rw [el]
  refine ⟨fun hi => ?_, fun hi => ⟨us, .inl h, by rw [rl.length]; exact hi⟩⟩
  obtain ⟨u, hu, ru⟩ := rl.get (List.getElem?_eq_getElem hi)
  refine ⟨⟨us, u, .inl h, hu⟩, fun x H' y => ?_⟩
  obtain ⟨T, x', rfl, hT, rfl, f1⟩ := y
  have e1 := f1 us (.inl h)
  rw [hu] at e1; cases e1
  obtain ⟨m, s', rr⟩ := mk_pair (d := .int (i : Nat)) (x := .int (i : Nat)) sr hT (by simp only [Rep]) ru
  exact ⟨_, _, by simp [enumD, hi], m, s', rr⟩
def iEnumr : INode where
  shape := fnSh1 "enumerate"
  sem := fun ds S k => ∃ d xs, ds = [d] ∧ lstS S d = some xs ∧ xs.length ≤ sizeLine ∧ k (enumD xs) (stayS d xs)
  tgt := isTupE
  fold := fun sc e es h env x => by
    unfold fnSh1 at h
    split at h <;> first | exact foldC | cases h
  ok := fun X tg e es ts A ht hs p => by
    unfold fnSh1 at hs
    split at hs
    · split at hs
      · rename_i c
        simp only [Bool.and_eq_true, decide_eq_true_eq] at c
        obtain ⟨rfl, g, na⟩ := c
        cases hs
        unfold isTupE at ht
        split at ht
        · cases p with
          | cons n m p1 p =>
            cases p
            refine (pi_enum (glB_ok g) (A.fr _ (by decide +kernel)) (PEs.cons n m p1 .nil).pa (star_cons na)).of fun σ H R q => m _ _ _ _ (fun x H1 q => ?_) q
            obtain ⟨pv, ds, S, Hd, M, k, rl, sr, w, fin⟩ := q
            obtain ⟨d, xs, rfl, h1, hl, w⟩ := w
            obtain ⟨v, e, r⟩ := rl.one
            cases e
            obtain ⟨a, us, rfl, rl', h⟩ := lst_of sr r h1
            have nt : ¬ ∃ ys, d = .tup ys := fun ⟨ys, z⟩ => by subst z; simp [lstS] at h1
            exact ⟨a, us, rfl, .inl h, fin _ _ _ Hd H1 w (.refl ..) sr (iter_enum (sizeMX hl) r nt)⟩
        · cases ht
      · cases hs
    · cases hs
end FP

/-! FP, part J: op=, slices with two ends, displays of dicts, methods. -/
namespace FP
open PySem PySem.Spec L2

/-! ### op= -/
def augI (op : Operator) (f : Int → Int → Int) (c : Int → Int → Prop) (h : ∀ X, Amb X → OpR X (inplaceOp op) (rI c fun i j => .int (f i j))) : ANode where
  op := op
  sem := fun x y S Q => ∃ i j, x = .int i ∧ y = .int j ∧ c i j ∧ Q (.int (f i j)) S
  ok := fun X A => opOf (h X A) fun x y H Q q => by
    obtain ⟨pv, a, b, S, Hd, M, Qd, r1, r2, sr, w, fin⟩ := q
    obtain ⟨i, j, rfl, rfl, hc, w⟩ := w
    simp only [Rep] at r1 r2
    exact ⟨i, j, r1, r2, hc, fin _ S Hd H _ (.refl ..) sr (by simp only [Rep]) w⟩
theorem rI_of0 {X : Cx} {f : Value → Value → Sem Value} {g : Int → Int → V} (h : OpR X f (rI0 g)) : OpR X f (rI (fun _ _ => True) g) := opOf h fun x y H Q q => by
  obtain ⟨i, j, r1, r2, _, q⟩ := q
  exact ⟨i, j, r1, r2, q⟩
def aSub : ANode := augI .Sub (fun i j => i - j) (fun _ _ => True) fun X A => rI_of0 iop_sub
def aMul : ANode := augI .Mult (fun i j => i * j) CMul fun X A => iop_mul
def aFdiv : ANode := augI .FloorDiv (fun i j => i / j) CDivW fun X A => iop_fdivW
def aMod : ANode := augI .Mod (fun i j => i % j) (fun _ j => 0 < j) fun X A => iop_mod
def aAdd : ANode := augI .Add (fun i j => i + j) (fun _ _ => True) fun X A => rI_of0 iop_add

/-! ### xs[lo:hi] -/
/-- the ends are looked at when both have come -/
def tSl2 (r : V → Option Int → Option Int → Hp → VK → Prop) (te tl th : TE) : TE := fun σ H Q => te σ H fun x H1 => tl σ H1 fun l H2 => th σ H2 fun u H3 => ∃ i j, l = .int i ∧ u = .int j ∧ r x (some i) (some j) H3 Q
theorem pe_sl2 {X : Cx} {e lo hi : Expr} {te tl th : TE} {p2 pos : Pos} {r : V → Option Int → Option Int → Hp → VK → Prop} (hr : SlR X r) (he : PE X e te) (hl : PE X lo tl) (hu : PE X hi th) : PE X (.Subscript e (.Slice (some lo) (some hi) none p2) pos) (tSl2 r te tl th) := by
  refine ⟨fun pins s σ H Q I h => ?_⟩
  refine PyProof.Rows.Subscript_ (thn (he.run pins s σ H _ I h) fun v s1 ⟨x, H1, I1, r1, q1⟩ => ?_)
  refine wpAny_Slice ?_
  rw [evalPart_some]
  refine thn (hl.run pins s1 σ H1 _ I1 q1) fun vl s2 ⟨l, H2, I2, pl, q2⟩ => ?_
  rw [evalPart_some]
  refine thn (hu.run pins s2 σ H2 _ I2 q2) fun vu s3 ⟨u, H3, I3, pu, q3⟩ => ?_
  obtain ⟨i, j, rfl, rfl, q3⟩ := q3
  obtain ⟨t, rfl⟩ := pl
  obtain ⟨t', rfl⟩ := pu
  rw [evalPart_none]
  refine wpAny_pure ?_
  have I4 : Inv X pins σ H3 { s3 with heap := s3.heap.push { cls := .type "slice", data := .fields #[.int i t, .int j t', .none] } } := I3.kept (t' := s3.toks) fun b ob q => Heap.get?_push_of_some _ q
  obtain ⟨T, id, hT, ht, hg⟩ := hr pins { s3 with heap := s3.heap.push { cls := .type "slice", data := .fields #[.int i t, .int j t', .none] } } σ H3 x v (.int i t) (.int j t') (some i) (some j) s3.heap.objs.size Q I4 r1 (Heap.IsSliceOf.new ..) (.int i t) (.int j t') q3
  show wpAny (model X.prog X.w) X.A (PyProof.Rows.subscriptTail e (.Slice (some lo) (some hi) none p2) v (.ref s3.heap.objs.size)) (EP X pins σ Q) X.xe { s3 with heap := s3.heap.push { cls := .type "slice", data := .fields #[.int i t, .int j t', .none] } }
  exact PyProof.Rows.tail_any (ops := [.ref s3.heap.objs.size, v]) ht hT hg (by with_unfolding_all rfl)
def nSl2 (o : Bool) : Node := .plain (fun _ e => match e with
    | .Subscript a (.Slice (some lo) (some hi) none _) _ => some [a, lo, hi]
    | _ => none) (fun ds S Q => ∃ d i j, ds = [d, .int i, .int j] ∧ sCut o d (some i) (some j) S Q)
  (fun sc e es h => by cases e <;> first | rfl | (simp at h))
  (fun X e es ts A hs p => by
    split at hs
    · cases hs
      cases p with
      | cons n1 m1 p1 p =>
        cases p with
        | cons n2 m2 p2 p =>
          cases p with
          | cons n3 m3 p3 p =>
            cases p
            refine (pe_sl2 sl_any p1 p2 p3).of fun σ H Q q => m1 _ _ _ _ (fun x H1 q => m2 _ _ _ _ (fun y H2 q => m3 _ _ _ _ (fun z H3 q => ?_) q) q) q
            obtain ⟨pv, ds, S, Hd, M, Qd, rl, sr, hc, w, fin⟩ := q
            obtain ⟨d, i, j, rfl, w⟩ := w
            obtain ⟨x', y', z', e, r1, r2, r3⟩ := rl.three
            simp only [List.cons.injEq, and_true] at e
            obtain ⟨rfl, rfl, rfl⟩ := e
            simp only [Rep] at r2 r3
            exact ⟨i, j, r2, r3, cut_ok fin sr r1 w⟩
    · cases hs)

/-! ### tuple(range(..)) -/
def nTupRg1 : Node := .plain (rg1Sh "tuple") (fun ds S Q => ∃ n, ds = [.int n] ∧ RgOk 0 n ∧ Q (.tup (rgD 0 n)) S)
  (fun sc e es h => by unfold rg1Sh at h; split at h <;> first | rfl | cases h)
  (fun X e es ts A hs p => by
    unfold rg1Sh at hs
    split at hs
    · split at hs
      · rename_i c
        simp only [Bool.and_eq_true, decide_eq_true_eq] at c
        obtain ⟨rfl, rfl, g1, g2, na⟩ := c
        cases hs
        cases p with
        | cons n1 m1 p1 p =>
          cases p
          refine (pe_tupRg A.calm (glB_ok g1) (A.fr _ (by decide +kernel)) (prg_1 (glB_ok g2) (A.fr _ (by decide +kernel)) p1 (star_cons na))).of fun σ H Q q => m1 _ _ _ _ (fun x H1 q => ?_) q
          obtain ⟨pv, ds, S, Hd, M, Qd, rl, sr, hc, w, fin⟩ := q
          obtain ⟨n, rfl, ok, w⟩ := w
          obtain ⟨v, e, r⟩ := rl.one
          cases e
          simp only [Rep] at r
          exact ⟨n, r, ok, fun p hp => fin_tup fin sr (rgD_rep 0 n) w hp⟩
      · cases hs
    · cases hs)
def nTupRg2 : Node := .plain (rg2Sh "tuple") (fun ds S Q => ∃ a b, ds = [.int a, .int b] ∧ RgOk a b ∧ Q (.tup (rgD a b)) S)
  (fun sc e es h => by unfold rg2Sh at h; split at h <;> first | rfl | cases h)
  (fun X e es ts A hs p => by
    unfold rg2Sh at hs
    split at hs
    · split at hs
      · rename_i c
        simp only [Bool.and_eq_true, decide_eq_true_eq] at c
        obtain ⟨rfl, rfl, g1, g2, na, nb⟩ := c
        cases hs
        cases p with
        | cons n1 m1 p1 p =>
          have pl := p.plain
          cases p with
          | cons n2 m2 p2 p =>
            cases p
            refine (pe_tupRg A.calm (glB_ok g1) (A.fr _ (by decide +kernel)) (prg_2 (glB_ok g2) (A.fr _ (by decide +kernel)) p1 p2 (star_cons na) (star_cons nb) (pl _))).of fun σ H Q q => m1 _ _ _ _ (fun x H1 q => m2 _ _ _ _ (fun y H2 q => ?_) q) q
            obtain ⟨pv, ds, S, Hd, M, Qd, rl, sr, hc, w, fin⟩ := q
            obtain ⟨i, j, rfl, ok, w⟩ := w
            obtain ⟨v, u, e, r1, r2⟩ := rl.two
            simp only [List.cons.injEq, and_true] at e
            obtain ⟨rfl, rfl⟩ := e
            simp only [Rep] at r1 r2
            exact ⟨i, j, r1, r2, ok, fun p hp => fin_tup fin sr (rgD_rep i j) w hp⟩
      · cases hs
    · cases hs)

/-! ### displays of dicts: empty, of ints -/
def nDic0 : Node := .plain (fun _ e => match e with
    | .Dict [] [] _ => some []
    | _ => none) (fun ds S Q => Q (.dic [] []) S)
  (fun sc e es h => by cases e <;> first | rfl | (simp at h))
  (fun X e es ts A h p => by
    split at h
    · cases h; cases p
      refine pe_dnewK.of fun σ H Q q => ?_
      obtain ⟨pv, ds, S, Hd, M, Qd, rl, sr, hc, w, fin⟩ := q
      exact fun p hp => fin (.dic [] []) S (upd Hd p (.dK [])) _ _ (.new sr hp) (sr.frz hp) (by simp only [Rep]; exact ⟨p, [], rfl, upd_same, rfl, .nil⟩) w
    · cases h)
def kInt (kvs : List (Int × Int)) : List (Key × V) := kvs.map fun p => (Sum.inl p.1, V.int p.2)
def vInt : V → Int
  | .int i => i
  | _ => 0
def isIntV : V → Bool
  | .int _ => true
  | _ => false
/-- the text of the pairs -/
def ceInt : Expr → Option Int
  | .Constant (.int i) _ _ => some i
  | _ => none
def dicSh (kvs : List (Int × Int)) : Scope → Expr → Option (List Expr) := fun _ e => match e with
  | .Dict ks vs _ => if (decide (ks.length = vs.length) && (decide (ks ≠ []) && (decide (ks.length ≤ 15) && decide ((ks.zip vs).map (fun p => (p.1.bind ceInt, ceInt p.2)) = kvs.map fun p => (some p.1, some p.2))))) = true then some [] else none
  | _ => none
theorem ceInt_pe {X : Cx} {e : Expr} {i : Int} (h : ceInt e = some i) : PE X e (tC (.int i)) := by
  cases e with
  | Constant c k p =>
    cases c <;> first | (simp [ceInt] at h; done) | skip
    simp only [ceInt, Option.some.injEq] at h
    subst h
    exact pe_int
  | _ => simp [ceInt] at h
theorem pps_ints {X : Cx} {pos : Pos} : ∀ {ks : List (Option Expr)} {vs : List Expr} {kvs : List (Int × Int)}, ks.length = vs.length → (ks.zip vs).map (fun p => (p.1.bind ceInt, ceInt p.2)) = kvs.map (fun p => (some p.1, some p.2)) →
    PPs X pos ks vs (kvs.map fun p => (tC (.int p.1), tC (.int p.2))) ∧ ks.all (·.isSome) = true ∧ ks.length = kvs.length
  | [], [], [], _, _ => ⟨pps_nil, rfl, rfl⟩
  | [], [], _ :: _, _, h => by simp at h
  | k :: ks, [], _, l, _ => by simp at l
  | [], _ :: _, _, l, _ => by simp at l
  | k :: ks, v :: vs, [], _, h => by simp at h
  | k :: ks, v :: vs, p :: kvs, l, h => by
    simp only [List.zip_cons_cons, List.map_cons, List.cons.injEq, Prod.mk.injEq] at h
    obtain ⟨⟨h1, h2⟩, h3⟩ := h
    obtain ⟨a, b, c⟩ := pps_ints (X := X) (pos := pos) (by simpa using l) h3
    cases k with
    | none => simp at h1
    | some k =>
      have h1' : ceInt k = some p.1 := h1
      exact ⟨pps_cons (ceInt_pe h1') (ceInt_pe h2) a, by simpa using b, by simp [c]⟩
theorem tp_ints {kvs : List (Int × Int)} {σ : St} {H : Hp} {Q : List (V × V) → Hp → Prop} (h : Q (kvs.map fun p => (V.int p.1, V.int p.2)) H) : tPairs (kvs.map fun p => (tC (.int p.1), tC (.int p.2))) σ H Q := by
  induction kvs generalizing Q with
  | nil => exact h
  | cons p kvs ih => exact ih (Q := fun ps H3 => Q ((V.int p.1, V.int p.2) :: ps) H3) h
theorem rep_ints {K : PySem.W.Frag} {H : Hp} : ∀ {us : List V}, us.all isIntV = true → RepL K H (us.map fun v => .int (vInt v)) us
  | [], _ => .nil
  | u :: us, h => by
    simp only [List.all_cons, Bool.and_eq_true] at h
    refine .cons ?_ (rep_ints h.2)
    cases u <;> first | (simp [isIntV] at h; done) | simp only [Rep, vInt]
def dicI (kvs : List (Int × Int)) : D := .dic ((mergeK [] (kInt kvs)).map (·.1)) (((mergeK [] (kInt kvs)).map (·.2)).map fun v => .int (vInt v))
def nDicI (kvs : List (Int × Int)) : Node := .plain (dicSh kvs) (fun ds S Q => ((mergeK [] (kInt kvs)).map (·.2)).all isIntV = true ∧ Q (dicI kvs) S)
  (fun sc e es h => by cases e <;> first | rfl | (simp [dicSh] at h))
  (fun X e es ts A h p => by
    unfold dicSh at h
    split at h
    · split at h
      · rename_i c
        simp only [Bool.and_eq_true, decide_eq_true_eq] at c
        obtain ⟨l, ne, l15, hk⟩ := c
        cases h; cases p
        obtain ⟨pp, al, ll⟩ := pps_ints (X := X) (pos := _) l hk
        refine (pe_disp pp al l ne l15).of fun σ H Q q => ?_
        obtain ⟨pv, ds, S, Hd, M, Qd, rl, sr, hc, w, fin⟩ := q
        intro p hp
        refine tp_ints ?_
        refine ⟨upd_same, kInt kvs, by simp [kInt, kV], by rw [kInt, List.length_map, ← ll]; exact l15, ?_⟩
        have e : upd (upd H p (.dK [])) p (.dK (mergeK [] (kInt kvs))) = upd H p (.dK (mergeK [] (kInt kvs))) := by
          funext b; unfold upd; split <;> rfl
        rw [e]
        exact fin (dicI kvs) S (upd Hd p (.dK _)) _ _ (.new sr hp) (sr.frz hp) (by simp only [dicI, Rep]; exact ⟨p, _, rfl, upd_same, rfl, rep_ints w.1⟩) w.2
      · cases h
    · cases h)

/-! ### methods of lists -/
/-- the receiver is a name, a constant, a subscript: no call of super -/
def plainRcv : Expr → Bool
  | .Name _ _ => true
  | .Constant _ _ _ => true
  | .Subscript _ _ _ => true
  | _ => false
theorem rcv_base {o : Expr} {m : Str} {env : Env} (h : plainRcv o = true) : attributeBase o m env (eval o env) = eval o env := by
  cases o <;> first | rfl | cases h
def mthSh (m : Str) (n : Nat) : Scope → Expr → Option (Expr × List Expr) := fun _ e => match e with
  | .Call (.Attribute o y apos) (a :: as) [] cpos => if (decide (y = m) && (plainRcv o && (decide ((a :: as).length = n) && (decide (n < 20) && (apos.endLine == cpos.line))))) = true then some (o, a :: as) else none
  | _ => none
def mth0Sh (m : Str) : Scope → Expr → Option (Expr × List Expr) := fun _ e => match e with
  | .Call (.Attribute o y apos) [] [] cpos => if (decide (y = m) && (plainRcv o && (apos.endLine == cpos.line))) = true then some (o, []) else none
  | _ => none
theorem mthSh_pl {m : Str} {n : Nat} (sc : Scope) (e : Expr) (p : Expr × List Expr) (h : mthSh m n sc e = some p) : plainE e = true := by
  unfold mthSh at h
  split at h
  · rfl
  · cases h
theorem mth0Sh_pl {m : Str} (sc : Scope) (e : Expr) (p : Expr × List Expr) (h : mth0Sh m sc e = some p) : plainE e = true := by
  unfold mth0Sh at h
  split at h
  · rfl
  · cases h
theorem PEs.few {X : Cx} {es : List Expr} {ts : List TE} (h : PEs X es ts) (pos : Pos) : (backTo pos (starEach es X.env)).all (fun x => !x.1) = true := by
  have := h.plain pos
  rw [List.any_eq_false] at this
  rw [List.all_eq_true]
  intro x hx
  have := this x hx
  simpa using this
/-- a method with arguments -/
def mB (m : Str) (n : Nat) (T id : String) (pa : PlainAttrs T) (slot : Slot T m id) (hty : typeOf (.builtin id) = pure (.type "method_descriptor")) (chk : D → Sto → Prop) (sem : List D → Sto → PostE → Prop)
    (ht : ∀ K pv S Hd H M d x, SR K pv S Hd H M → Rep K Hd d x → chk d S → tyV K T x H) (h : ∀ X, Amb X → MtR X id (fun x xs H Q => vSem X.K sem 0 (x :: xs) H Q)) : MNode where
  shape := mthSh m n
  chk := chk
  sem := sem
  pl := mthSh_pl
  ok := fun X e o es to ts A hs po mo p => by
    unfold mthSh at hs
    split at hs
    · split at hs
      · rename_i c
        simp only [Bool.and_eq_true, decide_eq_true_eq] at c
        obtain ⟨rfl, pr, hn, hlt, hl⟩ := c
        cases hs
        have few := p.few
        cases p with
        | cons n1 m1 p1 p =>
          refine (pe_bm pa slot hty (h X A) po (PEs.cons n1 m1 p1 p).pa (rcv_base pr) (by rw [few]; simp only [List.length_nil, List.isEmpty_nil, if_true, Bool.true_and]; refine Bool.and_eq_true_iff.mpr ⟨rfl, decide_eq_true ?_⟩; omega) hl (star_cons n1) (p.plain _)).of fun σ H Q q => ?_
          refine mo _ _ _ _ (fun x H1 q => ?_) q
          obtain ⟨⟨pv, d, S, Hd, M, r, sr, hc⟩, q⟩ := q
          exact ⟨ht _ _ _ _ _ _ _ _ sr r hc, q⟩
      · cases hs
    · cases hs
def mB0 (m : Str) (T id : String) (pa : PlainAttrs T) (slot : Slot T m id) (hty : typeOf (.builtin id) = pure (.type "method_descriptor")) (chk : D → Sto → Prop) (sem : List D → Sto → PostE → Prop)
    (ht : ∀ K pv S Hd H M d x, SR K pv S Hd H M → Rep K Hd d x → chk d S → tyV K T x H) (h : ∀ X, Amb X → MtR X id (fun x xs H Q => vSem X.K sem 0 (x :: xs) H Q)) : MNode where
  shape := mth0Sh m
  chk := chk
  sem := sem
  pl := mth0Sh_pl
  ok := fun X e o es to ts A hs po mo p => by
    unfold mth0Sh at hs
    split at hs
    · split at hs
      · rename_i apos cpos c
        simp only [Bool.and_eq_true, decide_eq_true_eq] at c
        obtain ⟨rfl, pr, hl⟩ := c
        cases hs
        cases p
        refine (pe_bm0 pa slot hty (h X A) po (rcv_base pr) hl).of fun σ H Q q => ?_
        refine mo _ _ _ _ (fun x H1 q => ?_) q
        obtain ⟨⟨pv, d, S, Hd, M, r, sr, hc⟩, q⟩ := q
        exact ⟨ht _ _ _ _ _ _ _ _ sr r hc, q⟩
      · cases hs
    · cases hs
def mutS (d : D) (S : Sto) : Prop := ∃ a xs, d = .loc a ∧ S.m a = some (.lst xs)
theorem mutS_ty {K : PySem.W.Frag} {pv : List Addr} {S : Sto} {Hd H : Hp} {M : Nat} {d : D} {x : V} (sr : SR K pv S Hd H M) (r : Rep K Hd d x) (h : mutS d S) : tyV K "list" x H := by
  obtain ⟨a, xs, rfl, hm⟩ := h
  simp only [Rep] at r; subst r
  obtain ⟨_, ho, e2, vs, rfl, rl⟩ := sr.sto _ _ hm
  exact .inl ⟨rfl, vs, .inl (.inl e2)⟩
theorem lstS_ty {K : PySem.W.Frag} {pv : List Addr} {S : Sto} {Hd H : Hp} {M : Nat} {d : D} {x : V} (sr : SR K pv S Hd H M) (r : Rep K Hd d x) (h : ∃ xs, lstS S d = some xs) : tyV K "list" x H := by
  obtain ⟨xs, hx⟩ := h
  obtain ⟨a, us, rfl, rl, st⟩ := lst_of sr r hx
  exact .inl ⟨rfl, us, .inl st⟩
theorem mut_of {K : PySem.W.Frag} {pv : List Addr} {S : Sto} {Hd H : Hp} {M : Nat} {a : Addr} {x : V} {xs : List D} (sr : SR K pv S Hd H M) (r : Rep K Hd (.loc a) x) (h : S.m a = some (.lst xs)) : ∃ vs, x = .ref a ∧ H a = some (.lst vs) ∧ RepL K Hd xs vs := by
  simp only [Rep] at r; subst r
  obtain ⟨_, ho, e2, vs, rfl, rl⟩ := sr.sto _ _ h
  exact ⟨vs, rfl, e2, rl⟩
/-- a mutable list rewritten -/
theorem fin_wr {K : PySem.W.Frag} {pv : List Addr} {S : Sto} {Hd H : Hp} {M : Nat} {Qd : PostE} {Q : VK} {a : Addr} {o : O} {xs : List D} {vs : List V} {d : D} {v : V} (fin : Fin' K pv Hd H M Qd Q) (sr : SR K pv S Hd H M) (h : S.m a = some o) (r : RepL K Hd xs vs) (rd : Rep K Hd d v) (q : Qd d (S.put a (.lst xs))) :
    Q v (upd H a (.lst vs)) :=
  fin d (S.put a (.lst xs)) Hd _ v ⟨.refl _, fun b hb => upd_ne fun e => sr.notP h (e ▸ hb)⟩ (sr.wr h (o' := .lst xs) (ho := .lst vs) ⟨vs, rfl, r⟩) rd q
def mApp : MNode := mB "append" 1 "list" "list.append" PySem.F.plainAttrs_list PySem.F.slot_list_append PySem.F.type_list_append mutS
  (fun ds S Q => ∃ a d xs, ds = [.loc a, d] ∧ S.m a = some (.lst xs) ∧ xs.length < sizeLine ∧ Q .non (S.put a (.lst (xs ++ [d]))))
  (fun _ _ _ _ _ _ _ _ sr r h => mutS_ty sr r h) fun X A pins s σ H x xs v us Q I rx rxs q => by
    obtain ⟨pv, ds, S, Hd, M, Qd, rl, sr, hc, w, fin⟩ := q
    obtain ⟨a, d, ys, rfl, hm, hl, w⟩ := w
    obtain ⟨x', y, e, r1, r2⟩ := rl.two
    cases e
    obtain ⟨vs, rfl, hH, rl'⟩ := mut_of sr r1 hm
    exact mt_append pins s σ H _ _ v us Q I rx rxs ⟨a, vs, y, rfl, rfl, hH, by rw [rl'.length]; exact hl, fin_wr fin sr hm (rl'.append (.cons r2 .nil)) (by simp only [Rep]) w⟩
def mPop : MNode := mB0 "pop" "list" "list.pop" PySem.F.plainAttrs_list PySem.F.slot_list_pop PySem.F.type_list_pop mutS
  (fun ds S Q => ∃ a d xs, ds = [.loc a] ∧ S.m a = some (.lst xs) ∧ xs[xs.length - 1]? = some d ∧ Q d (S.put a (.lst xs.dropLast)))
  (fun _ _ _ _ _ _ _ _ sr r h => mutS_ty sr r h) fun X A pins s σ H x xs v us Q I rx rxs q => by
    obtain ⟨pv, ds, S, Hd, M, Qd, rl, sr, hc, w, fin⟩ := q
    obtain ⟨a, d, ys, rfl, hm, hl, w⟩ := w
    obtain ⟨x', e, r1⟩ := rl.one
    cases e
    obtain ⟨vs, rfl, hH, rl'⟩ := mut_of sr r1 hm
    obtain ⟨u, hu, ru⟩ := rl'.get hl
    refine mt_pop pins s σ H _ _ v us Q I rx rxs ⟨a, vs, u, rfl, rfl, hH, by rw [rl'.length]; exact hu, fin_wr fin sr hm (xs := ys.dropLast) ?_ ru w⟩
    rw [List.dropLast_eq_take, List.dropLast_eq_take, rl'.length]
    exact rl'.take _
def mPopAt : MNode := mB "pop" 1 "list" "list.pop" PySem.F.plainAttrs_list PySem.F.slot_list_pop PySem.F.type_list_pop mutS
  (fun ds S Q => ∃ a d xs i k, ds = [.loc a, .int i] ∧ S.m a = some (.lst xs) ∧ (-(2 ^ 63) ≤ i ∧ i < 2 ^ 63) ∧ seqIndex? i xs.length = some k ∧ xs[k]? = some d ∧ Q d (S.put a (.lst (xs.eraseIdx k))))
  (fun _ _ _ _ _ _ _ _ sr r h => mutS_ty sr r h) fun X A pins s σ H x xs v us Q I rx rxs q => by
    obtain ⟨pv, ds, S, Hd, M, Qd, rl, sr, hc, w, fin⟩ := q
    obtain ⟨a, d, ys, i, k, rfl, hm, hi, hk, hl, w⟩ := w
    obtain ⟨x', y, e, r1, r2⟩ := rl.two
    cases e
    simp only [Rep] at r2
    subst r2
    obtain ⟨vs, rfl, hH, rl'⟩ := mut_of sr r1 hm
    obtain ⟨u, hu, ru⟩ := rl'.get hl
    exact mt_popAt pins s σ H _ _ v us Q I rx rxs ⟨a, vs, i, k, u, rfl, rfl, hH, hi.1, hi.2, by rw [rl'.length]; exact hk, hu, fin_wr fin sr hm (rl'.eraseIdx k) ru w⟩
def mIns : MNode := mB "insert" 2 "list" "list.insert" PySem.F.plainAttrs_list PySem.F.slot_list_insert PySem.F.type_list_insert mutS
  (fun ds S Q => ∃ a d xs i, ds = [.loc a, .int i, d] ∧ S.m a = some (.lst xs) ∧ xs.length < sizeLine ∧ 0 ≤ i ∧ i < 2 ^ 63 ∧ Q .non (S.put a (.lst (xs.take i.toNat ++ [d] ++ xs.drop i.toNat))))
  (fun _ _ _ _ _ _ _ _ sr r h => mutS_ty sr r h) fun X A pins s σ H x xs v us Q I rx rxs q => by
    obtain ⟨pv, ds, S, Hd, M, Qd, rl, sr, hc, w, fin⟩ := q
    obtain ⟨a, d, ys, i, rfl, hm, hl, h0, h1, w⟩ := w
    obtain ⟨x', y, z, e, r1, r2, r3⟩ := rl.three
    cases e
    simp only [Rep] at r2
    subst r2
    obtain ⟨vs, rfl, hH, rl'⟩ := mut_of sr r1 hm
    exact mt_insert pins s σ H _ _ v us Q I rx rxs ⟨a, vs, i, z, rfl, rfl, hH, by rw [rl'.length]; exact hl, h0, h1, fin_wr fin sr hm (((rl'.take _).append (.cons r3 .nil)).append (rl'.drop _)) (by simp only [Rep]) w⟩
end FP

/-! FP, part K: the deck. -/
namespace FP
open PySem PySem.Spec L2

def nAbs : Node := nB "abs" "abs" 1 (by decide +kernel) (by decide +kernel) (by decide +kernel) (fun ds S Q => ∃ i, ds = [.int i] ∧ Q (.int (if i < 0 then -i else i)) S) fun X A => callOf call_abs fun xs H Q q => by
  obtain ⟨pv, ds, S, Hd, M, Qd, rl, sr, hc, w, fin⟩ := q
  obtain ⟨i, rfl, w⟩ := w
  obtain ⟨v, rfl, r⟩ := rl.one
  simp only [Rep] at r
  subst r
  exact ⟨i, rfl, fin_val fin sr (by simp only [Rep]) w⟩
theorem iter_scr {K : PySem.W.Frag} {Hd0 : Hp} {ns : List Int} {a : Addr} (hx : ns.length ≤ MX) (r : SqL K Hd0 a (ns.map V.int)) : Iter K (ns.map D.int) (fun _ => True) Hd0 (Itl K a) := by
  refine ⟨by simpa using hx, fun pv S Hd H M le sr st i => ?_⟩
  have h := Le.sqL sr.sub (Le.sqL le r)
  refine ⟨fun hi => ?_, fun hi => ⟨_, h, by simpa using hi⟩⟩
  have hi' : i < ns.length := by simpa using hi
  have hu : (ns.map V.int)[i]? = some (V.int ns[i]) := by simp [hi']
  refine ⟨⟨_, _, h, hu⟩, fun x H' y => ?_⟩
  obtain ⟨rfl, y⟩ := y
  have e := y _ h
  rw [hu] at e; cases e
  exact ⟨Hd, .int ns[i], by simp [hi'], .refl .., sr, by simp only [Rep]⟩
/-- the script, walked -/
def iScr : INode where
  shape := fun _ e => if (notSet e && notStar e) = true then some [e] else none
  sem := fun ds S k => ∃ ns, ds = [.scr ns] ∧ ns.length ≤ sizeLine ∧ k (ns.map D.int) (fun _ => True)
  tgt := fun _ => true
  fold := fun sc e es h env x => by
    split at h
    · rename_i c
      refine foldP fun a b d z => ?_
      subst z
      simp [notSet] at c
    · cases h
  ok := fun X tg e es ts A ht hs p => by
    split at hs
    · cases hs
      cases p with
      | cons n m p1 p =>
        cases p
        refine (pi_anyS p1).of fun σ H R q => m _ _ _ _ (fun x H1 q => ?_) q
        obtain ⟨pv, ds, S, Hd, M, k, rl, sr, w, fin⟩ := q
        obtain ⟨ns, rfl, hl, w⟩ := w
        obtain ⟨v, e, r⟩ := rl.one
        cases e
        simp only [Rep] at r
        obtain ⟨a, rfl, h⟩ := r
        exact ⟨a, rfl, .inl ⟨⟨_, Le.sqL sr.sub h⟩, fin _ _ _ Hd H1 w (.refl ..) sr (iter_scr (sizeMX hl) h)⟩⟩
    · cases hs

/-! ### hidden and shown -/
/-- the store with the deck's three lists in it -/
structure Dks (S0 S : Sto) (a g c : Addr) (gs cs : List Int) (n : Int) : Prop where
  dk : S.dk = none
  a_ : S.m a = some (.lst [.loc g, .loc c, .int n])
  g_ : S.m g = some (.lst (gs.map D.int))
  c_ : S.m c = some (.lst (cs.map D.int))
  ag : a ≠ g
  ac : a ≠ c
  gc : g ≠ c
  rest : ∀ b, b ≠ a → b ≠ g → b ≠ c → S.m b = S0.m b
structure Gd (gs cs : List Int) (n : Int) : Prop where
  g : ∀ x ∈ gs, Small x
  c : ∀ x ∈ cs, Small x
  ne : cs ≠ []
  cl : cs.length ≤ 64
  gl : gs.length ≤ 63
  n0 : 0 ≤ n
theorem SR.deckIn {K : PySem.W.Frag} {pv : List Addr} {S0 S : Sto} {Hd H : Hp} {N : Nat} {a g c : Addr} {gs cs : List Int} {n : Int} (r : SR K pv S Hd H N) (d : Dks S0 S a g c gs cs n) (G : Gd gs cs n) (hn : n ≤ N) (s0 : S0.m a = none ∧ S0.m g = none ∧ S0.m c = none) :
    SR K pv { m := S0.m, dk := some a } Hd H N := by
  obtain ⟨da, ha, ea, vs, rfl, rl⟩ := r.sto _ _ d.a_
  obtain ⟨dg, hg, eg, vg, rfl, rg⟩ := r.sto _ _ d.g_
  obtain ⟨dc, hc, ec, vc, rfl, rc⟩ := r.sto _ _ d.c_
  obtain ⟨v1, v2, v3, rfl, q1, q2, q3⟩ := rl.three
  simp only [Rep] at q1 q2 q3
  subst q1 q2 q3
  have eg' := rg.ints
  have ec' := rc.ints
  subst eg' ec'
  have sub : ∀ b o, S0.m b = some o → S.m b = some o := fun b o e => by
    rw [d.rest b (fun z => by rw [z, s0.1] at e; cases e) (fun z => by rw [z, s0.2.1] at e; cases e) (fun z => by rw [z, s0.2.2] at e; cases e)]; exact e
  refine ⟨r.sub, fun b o e => r.sto b o (sub b o e), fun b e => ?_, fun b hb => ?_⟩
  · have eb : a = b := Option.some.inj e
    subst eb
    exact ⟨g, c, gs, cs, n, ea, eg, ec, d.ag, d.ac, d.gc, ⟨da, dg, dc⟩, s0, ⟨r.notP d.a_, r.notP d.g_, r.notP d.c_⟩, G.g, G.c, G.ne, G.cl, G.gl, G.n0, hn⟩
  · obtain ⟨x, y, z⟩ := r.prv b hb
    refine ⟨x, y, ?_⟩
    cases q : S0.m b with
    | none => rfl
    | some o => rw [sub b o q] at z; cases z
theorem SR.deckOut {K : PySem.W.Frag} {pv : List Addr} {S : Sto} {Hd H : Hp} {N : Nat} {a : Addr} (r : SR K pv S Hd H N) (h : S.dk = some a) :
    ∃ S' g c gs cs n, SR K pv S' Hd H N ∧ Dks S S' a g c gs cs n ∧ Gd gs cs n ∧ n ≤ N ∧ (S.m a = none ∧ S.m g = none ∧ S.m c = none) := by
  obtain ⟨g, c, gs, cs, n, h1, h2, h3, h4, h5, h6, ⟨a1, a2, a3⟩, ⟨b1, b2, b3⟩, ⟨c1, c2, c3⟩, h9, h10, h11, h12, h13, h14, h15⟩ := r.dk a h
  let S' : Sto := { m := fun b => if b = a then some (.lst [.loc g, .loc c, .int n]) else if b = g then some (.lst (gs.map D.int)) else if b = c then some (.lst (cs.map D.int)) else S.m b, dk := none }
  have ea : S'.m a = some (.lst [.loc g, .loc c, .int n]) := if_pos rfl
  have eg : S'.m g = some (.lst (gs.map D.int)) := (if_neg (Ne.symm h4)).trans (if_pos rfl)
  have ec : S'.m c = some (.lst (cs.map D.int)) := (if_neg (Ne.symm h5)).trans ((if_neg (Ne.symm h6)).trans (if_pos rfl))
  have er : ∀ b, b ≠ a → b ≠ g → b ≠ c → S'.m b = S.m b := fun b x y z => (if_neg x).trans ((if_neg y).trans (if_neg z))
  refine ⟨S', g, c, gs, cs, n, ⟨r.sub, fun b o e => ?_, fun b e => (by cases e), fun b hb => ?_⟩, ⟨rfl, ea, eg, ec, h4, h5, h6, er⟩, ⟨h9, h10, h11, h12, h13, h14⟩, h15, b1, b2, b3⟩
  · by_cases xa : b = a
    · subst xa
      rw [ea] at e; cases e
      exact ⟨a1, _, h1, _, rfl, .cons (by simp only [Rep]) (.cons (by simp only [Rep]) (.cons (by simp only [Rep]) .nil))⟩
    · by_cases xg : b = g
      · subst xg
        rw [eg] at e; cases e
        exact ⟨a2, _, h2, _, rfl, .of_ints gs⟩
      · by_cases xc : b = c
        · subst xc
          rw [ec] at e; cases e
          exact ⟨a3, _, h3, _, rfl, .of_ints cs⟩
        · rw [er b xa xg xc] at e
          exact r.sto b o e
  · obtain ⟨x, y, z⟩ := r.prv b hb
    exact ⟨x, y, (er b (fun e => c1 (e ▸ hb)) (fun e => c2 (e ▸ hb)) (fun e => c3 (e ▸ hb))).trans z⟩

/-! ### what the two defs of the deck do -/
def bDeck : List RS := [
  .asgL 1 (.lc false (.nd nAbs [.var 2]) (.nm 2) iScr [.var 0] [] [("_law_cell", 2)]),
  .ret (.nd (nLst true) [.lc true (.var 2) (.nm 2) iSeq [.var 1] [.cmp cGe (.var 2) (.nd nPow [.nd (nInt 10) [], .nd (nInt 18) []])] [("_law_cell", 2)],
    .nd (nAdd true) [.var 1, .nd (nLst false) [.nd (nAdd false) [.nd nLen [.var 1], .nd (nInt 3) []]]], .nd (nInt 0) []])]
def d0 : RE := .nd nIx [.var 0, .nd (nInt 0) []]
def d1 : RE := .nd nIx [.var 0, .nd (nInt 1) []]
def d2 : RE := .nd nIx [.var 0, .nd (nInt 2) []]
def eI (i : Int) : RE := .nd (nInt i) []
def eMul (a b : RE) : RE := .nd (nMul false) [a, b]
def eAdd (a b : RE) : RE := .nd (nAdd false) [a, b]
def eMod (a b : RE) : RE := .nd nMod [a, b]
def eDiv (a b : RE) : RE := .nd nFdiv [a, b]
def bNext : List RS := [
  .whl (.cmp cNe d0 (.nd (nLst false) [])) [
    .asg (.nm 2) (.nd nIx [d0, eI 0]),
    .ifs (.cmp cGt (.var 2) (eI 0)) [.setI (eDiv (.var 2) (.var 1)) d0 (eI 0), .ret (eMod (.var 2) (.var 1))] [],
    .expr (.mth mPopAt d0 [eI 0])],
  .setI (eAdd d2 (eI 1)) (.var 0) (eI 2),
  .asg (.nm 3) (eMod (.nd nIx [d1, eMod d2 (.nd nLen [d1])]) (eI 2147483647)),
  .asg (.nm 4) (eAdd (eAdd (eMul (.var 3) (eAdd (eI 48271) (eMul (eI 69621) d2))) (eMul (eMul (eI 40692) d2) d2)) (eI 11)),
  .asg (.nm 4) (eMod (.var 4) (eI 2147483629)),
  .ret (eMod (eDiv (eMod (eMul (.var 4) (.var 4)) (eI 2147483587)) (eI 16)) (.var 1))]
def nmDeck : List Str := ["_law_script", "_law_cells", "_law_cell"]
def nmNext : List Str := ["_law_deck_here", "_law_many", "_law_rest", "_law_cell", "_law_mixed"]

/-- what the deck's making promises -/
def pDeck (ds : List D) (S : Sto) (Q : PostE) : Prop := ∃ ns : List Int, ds = [.scr ns] ∧ ns.length ≤ 63 ∧ (∀ n ∈ ns, Builtin.Int.intBits n ≤ 1048576) ∧ S.dk = none ∧ ∀ a, S.m a = none → Q (.loc a) { S with dk := some a }
/-- what a number's drawing promises -/
def pNext (ds : List D) (S : Sto) (Q : PostE) : Prop := ∃ (a : Addr) (n : Int), ds = [.loc a, .int n] ∧ S.dk = some a ∧ 0 < n ∧ n.natAbs.log2 < 9000 ∧ ∀ k, 0 ≤ k → k < n → Q (.int k) S
end FP

/-! FP, part L: readings of loops; the deck's readings. -/
namespace FP
open PySem PySem.Spec L2

theorem lc_pure {step : D → Sto → (Option D → Sto → Prop) → Prop} {stay : Sto → Prop} {f : D → Option D} {S : Sto} {Q : List D → Sto → Prop} (st : stay S) : ∀ {items acc : List D}, (∀ x ∈ items, ∀ k : Option D → Sto → Prop, k (f x) S → step x S k) →
    Q (acc ++ items.filterMap f) S → lcRun step stay items acc S Q
  | [], acc, _, q => ⟨st, by simpa using q⟩
  | x :: xs, acc, h, q => by
    refine ⟨st, h x (by simp) _ ?_⟩
    refine lc_pure st (fun y hy => h y (by simp [hy])) ?_
    cases e : f x with
    | none => simpa [List.filterMap_cons, e] using q
    | some d => simpa [List.filterMap_cons, e] using q
/-- typed items, some kept -/
theorem lc_fm {α : Type} {emb : α → D} {p : α → Bool} {f : α → D} {step : D → Sto → (Option D → Sto → Prop) → Prop} {stay : Sto → Prop} {S : Sto} {Q : List D → Sto → Prop} (st : stay S) : ∀ {xs : List α} {acc : List D},
    (∀ x ∈ xs, ∀ k : Option D → Sto → Prop, (p x = true → k (some (f x)) S) → (p x = false → k none S) → step (emb x) S k) → Q (acc ++ (xs.filter p).map f) S → lcRun step stay (xs.map emb) acc S Q
  | [], acc, _, q => ⟨st, by simpa using q⟩
  | x :: xs, acc, h, q => by
    refine ⟨st, h x (by simp) _ (fun e => ?_) fun e => ?_⟩
    · refine lc_fm st (fun y hy => h y (by simp [hy])) ?_
      simpa [List.filter_cons, e] using q
    · refine lc_fm st (fun y hy => h y (by simp [hy])) ?_
      simpa [List.filter_cons, e] using q
theorem lc_m {α : Type} {emb : α → D} {f : α → D} {step : D → Sto → (Option D → Sto → Prop) → Prop} {stay : Sto → Prop} {S : Sto} {Q : List D → Sto → Prop} (st : stay S) {xs : List α} {acc : List D}
    (h : ∀ x ∈ xs, ∀ k : Option D → Sto → Prop, k (some (f x)) S → step (emb x) S k) (q : Q (acc ++ xs.map f) S) : lcRun step stay (xs.map emb) acc S Q :=
  lc_fm (p := fun _ => true) st (fun x hx k h1 _ => h x hx k (h1 rfl)) (by rw [show xs.filter (fun _ => true) = xs from List.filter_eq_self.mpr (by simp)]; exact q)
/-- each item is kept, as one of several -/
inductive All2 {α β : Type} (P : α → β → Prop) : List α → List β → Prop
  | nil : All2 P [] []
  | cons {a : α} {b : β} {as : List α} {bs : List β} : P a b → All2 P as bs → All2 P (a :: as) (b :: bs)
theorem lc_rel {step : D → Sto → (Option D → Sto → Prop) → Prop} {stay : Sto → Prop} {P : D → D → Prop} {S : Sto} {Q : List D → Sto → Prop} (st : stay S) : ∀ {items acc : List D}, (∀ x ∈ items, ∀ k : Option D → Sto → Prop, (∀ d, P x d → k (some d) S) → step x S k) →
    (∀ ds, All2 P items ds → Q (acc ++ ds) S) → lcRun step stay items acc S Q
  | [], acc, _, q => ⟨st, by simpa using q [] .nil⟩
  | x :: xs, acc, h, q => by
    refine ⟨st, h x (by simp) _ fun d hd => ?_⟩
    refine lc_rel st (fun y hy => h y (by simp [hy])) fun ds a => ?_
    have := q (d :: ds) (.cons hd a)
    simpa using this
theorem for_inv {step : D → En → Sto → (En → Sto → Prop) → Prop} {stay : Sto → Prop} {Q : En → Sto → Prop} {ρ : En} {S : Sto} {items : List D} (I : List D → En → Sto → Prop) (h0 : I items ρ S) (hs : ∀ xs ρ S, I xs ρ S → stay S)
    (h1 : ∀ x xs ρ S, I (x :: xs) ρ S → step x ρ S fun ρ' S' => I xs ρ' S') (mono : ∀ x ρ S (k k' : En → Sto → Prop), (∀ ρ S, k ρ S → k' ρ S) → step x ρ S k → step x ρ S k') (hq : ∀ ρ S, I [] ρ S → Q ρ S) : forRun step stay items ρ S Q := by
  induction items generalizing ρ S with
  | nil => exact ⟨hs _ _ _ h0, hq _ _ h0⟩
  | cons x xs ih => exact ⟨hs _ _ _ h0, mono _ _ _ _ _ (fun ρ' S' i => ih i) (h1 x xs ρ S h0)⟩
theorem filterMap_some {α β : Type} (f : α → β) (xs : List α) : xs.filterMap (fun x => some (f x)) = xs.map f := by
  induction xs with
  | nil => rfl
  | cons x xs ih => simp [ih]

abbrev C0 : Nat → List D → Sto → PostE → Prop := fun _ _ _ _ => False
def absI (i : Int) : Int := if i < 0 then -i else i
theorem small_abs {i : Int} (h : Builtin.Int.intBits i ≤ 1048576) : Small (absI i) := by
  unfold absI Small
  split
  · refine ⟨by omega, ?_⟩
    unfold Builtin.Int.intBits at h ⊢
    rw [Int.natAbs_neg]
    split
    · omega
    · rename_i h1
      split at h
      · rename_i h2
        simp at h1 h2
        omega
      · exact h
  · exact ⟨by omega, h⟩
theorem deck_read (ns : List Int) (S : Sto) (hl : ns.length ≤ 63) (hb : ∀ n ∈ ns, Builtin.Int.intBits n ≤ 1048576) (Q : PostE)
    (q : ∀ a g c gs cs S', Dks { S with dk := none } S' a g c gs cs 0 → S.dk = none → Gd gs cs 0 → S.m a = none → S.m g = none → S.m c = none → Q (.loc a) S') (hd : S.dk = none) :
    wSs C0 bDeck { nx := fun _ S' => Q .non S', rt := Q } [some (.scr ns), none, none] S := by
  have l0 : (100 : Nat) ≤ sizeLine := by decide +kernel
  simp only [bDeck, wSs, wS, wE, wEs]
  refine ⟨.scr ns, rfl, ns, rfl, by omega, ?_⟩
  refine ⟨by simpa using by omega, ?_⟩
  refine lc_m (f := fun i => .int (absI i)) (by exact trivial) (fun i hi k hk => ?_) ?_
  · simp only [bindT, wTs]
    exact ⟨.int i, rfl, i, rfl, hk⟩
  have e : ns.map (fun i => D.int (absI i)) = (ns.map absI).map D.int := by rw [List.map_map]; rfl
  rw [e]
  simp only [newL, Bool.false_eq_true, if_false, List.nil_append]
  refine ⟨.lst ((ns.map absI).map D.int), rfl, .lst _, _, rfl, rfl, by simpa using by omega, ?_⟩
  refine ⟨by simpa using by omega, ?_⟩
  refine lc_fm (p := fun i => decide ((10 : Int) ^ 18 ≤ i)) (f := D.int) (by exact rfl) (fun i hi k h1 h2 => ?_) ?_
  · simp only [bindT, wTs, wT, wE, wEs]
    refine ⟨.int i, rfl, 10, 18, rfl, ⟨by omega, by omega, by decide⟩, decide (((10 : Int) ^ ((18 : Int)).toNat) ≤ i), rfl, ?_⟩
    by_cases c : (10 : Int) ^ 18 ≤ i
    · have c' : decide (((10 : Int) ^ ((18 : Int)).toNat) ≤ i) = true := decide_eq_true c
      rw [if_pos c']
      exact ⟨.int i, rfl, h1 (decide_eq_true c)⟩
    · have c' : ¬ decide (((10 : Int) ^ ((18 : Int)).toNat) ≤ i) = true := by simpa using c
      rw [if_neg c']
      exact h2 (decide_eq_false c)
  simp only [newL, if_true, List.nil_append]
  intro g hg0
  generalize hgs : (ns.map absI).filter (fun i => decide ((10 : Int) ^ 18 ≤ i)) = gs
  have lgs : gs.length ≤ ns.length := by
    rw [← hgs]
    exact Nat.le_trans (List.length_filter_le _ _) (by simp)
  refine ⟨.lst ((ns.map absI).map D.int), rfl, .lst ((ns.map absI).map D.int), rfl, ?_⟩
  refine ⟨.lst _, ns.length, rfl, by simp [lenS, seqS], ?_⟩
  refine ⟨by simpa using by omega, ?_⟩
  refine ⟨(ns.map absI).map D.int, [.int (ns.length + 3)], rfl, rfl, by simp; omega, ?_⟩
  intro c hc0
  refine ⟨by simp; omega, ?_⟩
  intro a ha0
  generalize hcs : ns.map absI ++ [((ns.length : Int) + 3)] = cs
  have ecs : (ns.map absI).map D.int ++ [D.int (ns.length + 3)] = cs.map D.int := by rw [← hcs]; simp
  rw [ecs] at ha0 ⊢
  have ag : a ≠ g := fun z => by
    subst z
    by_cases h : a = c
    · subst h; simp [Sto.put] at ha0
    · simp [Sto.put, h] at ha0
  have ac : a ≠ c := fun z => by subst z; simp [Sto.put] at ha0
  have gc : g ≠ c := fun z => by subst z; simp [Sto.put] at hc0
  have hc1 : S.m c = none := by simpa [Sto.put, Ne.symm gc] using hc0
  have ha1 : S.m a = none := by simpa [Sto.put, ac, ag] using ha0
  have sm : ∀ x ∈ ns.map absI, Small x := fun x hx => by
    obtain ⟨i, hi, rfl⟩ := List.mem_map.mp hx
    exact small_abs (hb i hi)
  refine q a g c gs cs _ ⟨hd, by simp [Sto.put], ?_, ?_, ag, ac, gc, fun b x y z => by simp [Sto.put, x, y, z]⟩ hd ⟨fun x hx => ?_, fun x hx => ?_, ?_, ?_, by omega, by omega⟩ ha1 hg0 hc1
  · simp [Sto.put, Ne.symm ag, gc]
  · simp [Sto.put, Ne.symm ac]
  · rw [← hgs] at hx
    exact sm x (List.mem_filter.mp hx).1
  · rw [← hcs] at hx
    rcases List.mem_append.mp hx with hx | hx
    · exact sm x hx
    · simp only [List.mem_singleton] at hx
      subst hx
      refine ⟨by omega, ?_⟩
      have h2 : ((ns.length : Int) + 3).natAbs < 2 ^ 10 := by omega
      unfold Builtin.Int.intBits
      split
      · omega
      · have : ((ns.length : Int) + 3).natAbs.log2 < 10 := (Nat.log2_lt (by omega)).mpr h2
        omega
  · rw [← hcs]; simp
  · rw [← hcs]; simp; omega

/-! ### lists of ints as data -/
theorem pyL_ints : ∀ ns : List Int, pyL (ns.map D.int) = some (ns.map PyData.int)
  | [] => rfl
  | n :: ns => by simp only [List.map_cons, pyL, pyD, pyL_ints ns]
theorem lay_ints : ∀ ns : List Int, PyData.canLayAll0 (ns.map PyData.int) = true
  | [] => rfl
  | n :: ns => by simp only [List.map_cons, PyData.canLayAll0, PyData.canLay0, lay_ints ns, Bool.and_self]
theorem dep_ints : ∀ ns : List Int, PyData.depthAll (ns.map PyData.int) = 0
  | [] => rfl
  | n :: ns => by simp only [List.map_cons, PyData.depthAll, PyData.depth, dep_ints ns, Nat.max_self]
theorem shaped_ints (ns : List Int) : SeqAt.shaped (.list (ns.map PyData.int)) = true := by
  simp only [SeqAt.shaped, PyData.canLay0, lay_ints, PyData.depth, dep_ints, Bool.true_and]
  decide
theorem ne_nil_ints {S : Sto} {g : Addr} {gs : List Int} (h : S.m g = some (.lst (gs.map D.int))) : csE true (.loc g) (.lst []) S = some (!gs.isEmpty) := by
  have h1 : pyS S (.loc g) = some (.list (gs.map PyData.int)) := by simp only [pyS, h, pyL_ints, Option.map_some]
  have h2 : pyS S (.lst []) = some (.list []) := by simp only [pyS, pyD, pyL, Option.map_some]
  have h3 : SeqAt.shaped (.list []) = true := shaped_ints []
  show (match pyS S (.loc g), pyS S (.lst []) with
    | some a, some b => if (SeqAt.shaped a && SeqAt.shaped b) = true then some (xor true (PyData.eqv a b)) else none
    | _, _ => none) = _
  rw [h1, h2]
  simp only [shaped_ints, h3, Bool.and_self, if_true]
  cases gs with
  | nil => rfl
  | cons n gs => rfl
theorem seq_loc {S : Sto} {a : Addr} {xs : List D} (h : S.m a = some (.lst xs)) : seqS S (.loc a) = some xs := by simp only [seqS, h]
theorem atI_nat {xs : List D} {k : Nat} {d : D} (h : xs[k]? = some d) : atI xs (k : Int) = some d := by
  unfold atI ixN
  have hk : k < xs.length := (List.getElem?_eq_some_iff.mp h).1
  simp [hk]
  exact (List.getElem?_eq_some_iff.mp h).2
theorem atI_int {xs : List D} {k : Int} {d : D} (h0 : 0 ≤ k) (h : xs[k.toNat]? = some d) : atI xs k = some d := by
  have := atI_nat h
  rwa [Int.toNat_of_nonneg h0] at this

theorem small_div {x m : Int} (h : Small x) (hm : 0 < m) : Small (x / m) := by
  obtain ⟨h1, h2⟩ := h
  refine ⟨Int.ediv_nonneg h1 (by omega), ?_⟩
  unfold Builtin.Int.intBits at h2 ⊢
  split
  · omega
  · rename_i c
    have c' : x / m ≠ 0 := by simpa using c
    have le : x / m ≤ x := Int.ediv_le_self _ h1
    have p : 0 ≤ x / m := Int.ediv_nonneg h1 (by omega)
    have nx : x ≠ 0 := fun z => by subst z; simp at c'
    split at h2
    · rename_i z; simp at z; exact absurd z nx
    · have q : (x / m).natAbs ≤ x.natAbs := by omega
      have : (x / m).natAbs.log2 ≤ x.natAbs.log2 := by
        have a := Nat.log2_self_le (n := (x / m).natAbs) (by omega)
        have b := Nat.lt_log2_self (n := x.natAbs)
        by_cases hh : (x / m).natAbs.log2 ≤ x.natAbs.log2
        · exact hh
        · have : 2 ^ (x.natAbs.log2 + 1) ≤ 2 ^ (x / m).natAbs.log2 := Nat.pow_le_pow_right (by omega) (by omega)
          omega
      omega
theorem Dks.setG {S0 S : Sto} {a g c : Addr} {gs cs gs' : List Int} {n : Int} (d : Dks S0 S a g c gs cs n) : Dks S0 (S.put g (.lst (gs'.map D.int))) a g c gs' cs n :=
  ⟨d.dk, by rw [Sto.put_ne d.ag]; exact d.a_, Sto.put_same, by rw [Sto.put_ne (Ne.symm d.gc)]; exact d.c_, d.ag, d.ac, d.gc, fun b x y z => by rw [Sto.put_ne y]; exact d.rest b x y z⟩
theorem Dks.setN {S0 S : Sto} {a g c : Addr} {gs cs : List Int} {n n' : Int} (d : Dks S0 S a g c gs cs n) : Dks S0 (S.put a (.lst [.loc g, .loc c, .int n'])) a g c gs cs n' :=
  ⟨d.dk, Sto.put_same, by rw [Sto.put_ne (Ne.symm d.ag)]; exact d.g_, by rw [Sto.put_ne (Ne.symm d.ac)]; exact d.c_, d.ag, d.ac, d.gc, fun b x y z => by rw [Sto.put_ne x]; exact d.rest b x y z⟩
theorem log2_le_of_lt {i : Int} {k : Nat} (h : i.natAbs < 2 ^ (k + 1)) : i.natAbs.log2 ≤ k := by
  by_cases z : i.natAbs = 0
  · rw [z]; simp
  · have := (Nat.log2_lt z).mpr h
    omega
theorem cap_lt : CAP + 1 < 2 ^ (300000 + 1) := by
  unfold CAP
  rw [Nat.pow_succ]
  have h : 1 < 2 ^ 300000 := Nat.one_lt_two_pow (by decide)
  generalize 2 ^ 300000 = B at *
  omega
theorem cap_log {i : Int} (h0 : 0 ≤ i) (h : i ≤ (CAP : Int) + 1) : i.natAbs.log2 ≤ 300000 := by
  have h1 : i.natAbs ≤ CAP + 1 := by omega
  exact log2_le_of_lt (Nat.lt_of_le_of_lt h1 cap_lt)
theorem cap_log2 {i : Int} (h0 : 0 ≤ i) (h : i ≤ (CAP : Int) + 1) : (40692 * i).natAbs.log2 ≤ 300016 := by
  have h1 : i.natAbs ≤ CAP + 1 := by omega
  have h2 : i.natAbs < 2 ^ (300000 + 1) := Nat.lt_of_le_of_lt h1 cap_lt
  refine log2_le_of_lt ?_
  rw [Int.natAbs_mul, show 300016 + 1 = 16 + (300000 + 1) from rfl, Nat.pow_add]
  exact Nat.mul_lt_mul'' (by decide) h2
theorem next_read (S0 S : Sto) (a g c : Addr) (gs cs : List Int) (n many : Int) (d : Dks S0 S a g c gs cs n) (G : Gd gs cs n) (hn : n ≤ (CAP : Int)) (hm : 0 < many) (hm2 : many.natAbs.log2 < 9000) (Q : PostE)
    (q : ∀ k gs' n' S', 0 ≤ k → k < many → Dks S0 S' a g c gs' cs n' → Gd gs' cs n' → n' ≤ n + 1 → Q (.int k) S') :
    wSs C0 bNext { nx := fun _ S' => Q .non S', rt := Q } [some (.loc a), some (.int many), none, none, none] S := by
  simp only [bNext, wSs, wS]
  refine ⟨fun m ρ S => ∃ gs x, m = gs.length ∧ ρ = [some (.loc a), some (.int many), x, none, none] ∧ Dks S0 S a g c gs cs n ∧ Gd gs cs n, ⟨_, gs, none, rfl, rfl, d, G⟩, ?_⟩
  rintro m ρ S ⟨gs, x, rfl, rfl, d, G⟩
  simp only [wT, wE, wEs, d0]
  have A0 : seqS S (.loc a) = some [.loc g, .loc c, .int n] := seq_loc d.a_
  refine ⟨.loc a, rfl, .loc a, 0, _, _, rfl, A0, rfl, ?_⟩
  refine ⟨by simp only [List.length_nil]; omega, ?_⟩
  simp only [newL, Bool.false_eq_true, if_false]
  refine ⟨!gs.isEmpty, ne_nil_ints d.g_, ?_⟩
  cases gs with
  | cons r gs =>
    simp only [List.isEmpty_cons, Bool.not_false, if_true]
    simp only [wSs, wS, wE, wEs, bindT]
    refine ⟨.loc a, rfl, .loc a, 0, _, _, rfl, A0, rfl, ?_⟩
    refine ⟨.loc g, 0, _, .int r, rfl, seq_loc d.g_, atI_nat (k := 0) rfl, ?_⟩
    simp only [wT, wE, wEs]
    refine ⟨.int r, rfl, decide (0 < r), rfl, ?_⟩
    by_cases hr : 0 < r
    · rw [if_pos (by simpa using hr)]
      simp only [wSs, wS, wE, wEs, eDiv, eMod, eI]
      refine ⟨.int r, rfl, .int many, rfl, r, many, rfl, ⟨hm, hm2⟩, .loc a, rfl, .loc a, 0, _, _, rfl, A0, rfl, g, _, 0, 0, rfl, rfl, d.g_, by simp [ixN], ?_⟩
      refine ⟨.int r, rfl, .int many, rfl, r, many, rfl, hm, ?_⟩
      have e : ((r :: gs).map D.int).set 0 (.int (r / many)) = ((r / many) :: gs).map D.int := rfl
      rw [e]
      exact q _ _ _ _ (Int.emod_nonneg _ (by omega)) (Int.emod_lt_of_pos _ hm) d.setG ⟨fun y hy => (by
        rcases List.mem_cons.mp hy with rfl | hy
        · exact small_div (G.g r (by simp)) hm
        · exact G.g y (by simp [hy])), G.c, G.ne, G.cl, by simpa using G.gl, G.n0⟩ (by omega)
    · rw [if_neg (by simpa using hr)]
      simp only [wSs, wS, wE, wEs, eI]
      refine ⟨.loc a, rfl, .loc a, 0, _, _, rfl, A0, rfl, ⟨g, _, rfl, d.g_⟩, ?_⟩
      refine ⟨g, .int r, (r :: gs).map D.int, 0, 0, rfl, d.g_, ⟨by omega, by omega⟩, by simp [seqIndex?], rfl, ?_⟩
      have e : ((r :: gs).map D.int).eraseIdx 0 = gs.map D.int := rfl
      rw [e]
      exact ⟨gs.length, by simp, gs, some (.int r), rfl, rfl, d.setG, ⟨fun y hy => G.g y (by simp [hy]), G.c, G.ne, G.cl, by have := G.gl; simp at this; omega, G.n0⟩⟩
  | nil =>
    simp only [List.isEmpty_nil, Bool.not_true, Bool.false_eq_true, if_false]
    simp only [wE, wEs, d1, d2, eI, eAdd, eMul, eMod, eDiv]
    have hn0 := G.n0
    refine ⟨.loc a, rfl, .loc a, 2, _, _, rfl, A0, rfl, ?_⟩
    refine ⟨.loc a, rfl, a, _, 2, 2, rfl, rfl, d.a_, rfl, ?_⟩
    have e : [D.loc g, D.loc c, D.int n].set 2 (.int (n + 1)) = [.loc g, .loc c, .int (n + 1)] := rfl
    rw [e]
    have d' := d.setN (n' := n + 1)
    generalize S.put a (.lst [.loc g, .loc c, .int (n + 1)]) = S1 at d'
    have A1 : seqS S1 (.loc a) = some [.loc g, .loc c, .int (n + 1)] := seq_loc d'.a_
    have A2 : seqS S1 (.loc c) = some (cs.map D.int) := seq_loc d'.c_
    refine ⟨.loc a, rfl, .loc a, 1, _, _, rfl, A1, rfl, .loc a, rfl, .loc a, 2, _, _, rfl, A1, rfl, .loc a, rfl, .loc a, 1, _, _, rfl, A1, rfl, ?_⟩
    have lp : 0 < (cs.length : Int) := by
      have := G.ne
      cases cs <;> simp at this ⊢
    refine ⟨.loc c, cs.length, rfl, by simp [lenS, A2], n + 1, cs.length, rfl, lp, ?_⟩
    have i0 : 0 ≤ (n + 1) % (cs.length : Int) := Int.emod_nonneg _ (by omega)
    have i1 : (n + 1) % (cs.length : Int) < cs.length := Int.emod_lt_of_pos _ lp
    have hx : ∃ x, cs[((n + 1) % (cs.length : Int)).toNat]? = some x := ⟨_, List.getElem?_eq_getElem (by omega)⟩
    obtain ⟨x, hx⟩ := hx
    refine ⟨.loc c, _, _, .int x, rfl, A2, atI_int i0 (by rw [List.getElem?_map, hx]; rfl), x, 2147483647, rfl, by omega, ?_⟩
    have x0 : 0 ≤ x % 2147483647 := Int.emod_nonneg _ (by omega)
    have x1 : x % 2147483647 < 2147483647 := Int.emod_lt_of_pos _ (by omega)
    generalize x % 2147483647 = x at x0 x1
    refine ⟨.int x, rfl, ?_⟩
    refine ⟨.loc a, rfl, .loc a, 2, _, _, rfl, A1, rfl, ?_⟩
    refine ⟨Or.inl (Or.inl ⟨by omega, by omega⟩), ?_⟩
    refine ⟨Or.inl (Or.inl ⟨by omega, by omega⟩), ?_⟩
    refine ⟨.loc a, rfl, .loc a, 2, _, _, rfl, A1, rfl, ?_⟩
    refine ⟨Or.inl (Or.inl ⟨by omega, by omega⟩), ?_⟩
    refine ⟨.loc a, rfl, .loc a, 2, _, _, rfl, A1, rfl, ?_⟩
    refine ⟨Or.inr ?_, ?_⟩
    · have h1 := cap_log2 (i := n + 1) (by omega) (by omega)
      have h2 := cap_log (i := n + 1) (by omega) (by omega)
      show _ < _
      omega
    refine ⟨_, rfl, _, 2147483629, rfl, by omega, ?_⟩
    generalize hy : (x * (48271 + 69621 * (n + 1)) + 40692 * (n + 1) * (n + 1) + 11) % 2147483629 = y
    have y0 : 0 ≤ y := by rw [← hy]; exact Int.emod_nonneg _ (by omega)
    have y1 : y < 2147483629 := by rw [← hy]; exact Int.emod_lt_of_pos _ (by omega)
    refine ⟨.int y, rfl, .int y, rfl, ⟨Or.inl (Or.inl ⟨by omega, by omega⟩), ?_⟩⟩
    refine ⟨_, 2147483587, rfl, by omega, _, 16, rfl, ⟨by omega, by decide⟩, .int many, rfl, _, many, rfl, hm, ?_⟩
    exact q _ _ _ _ (Int.emod_nonneg _ (by omega)) (Int.emod_lt_of_pos _ hm) d' ⟨G.g, G.c, G.ne, G.cl, by simp, by omega⟩ (by omega)
end FP

/-! FP, part M: the deck's defs keep their promises; the law's end; the head's facts. -/
namespace FP
open PySem PySem.Spec L2

def fn0 : Nat → Str := fun _ => ("__debug__" : Str)
def cf0 : Nat → Nat := fun _ => 0
section
variable {P : Program} {w : World} {K : PySem.W.Frag} {mg : Str → Option Value} {base : Heap} {a : Addr} {fd : FuncData} {params : Arguments} {body : List Stmt} {scope : Scope}
theorem leaf_ok {d : FDef} (fr : ∀ x ∈ bNames, mg x = none) (sm : SysD K) (at_ : FAt K mg d a fd params body scope) (hm : mSs fn0 cf0 d.N d.body scope body = true) :
    FnG P w K mg base 1 a fd d.ps (spD K (fun ds S Q => ds.length = d.ps.length ∧ wSs C0 d.body { nx := fun _ S' => Q .non S', rt := Q } (startE d.N ds) S) (cSs cf0 d.body)) := by
  refine fnG_of at_.fun_ at_.sc (fun vs H Q h => ?_) fun X vs H Q e1 e2 e3 e4 e5 hr gd cl eN esc ef ex h => ?_
  · obtain ⟨pv, ds, S, Hd, M, Qd, rl, sr, hc, w', fin⟩ := h
    rw [rl.length]; exact w'.1
  · have G : GX P w K mg base 0 X := ⟨e1, e2, e3, e4, e5, hr, gd, cl, by rw [eN]; exact at_.sc.nd⟩
    have no : okName (fn0 0) = true → False := by decide +kernel
    have W : Wd C0 cf0 fn0 (GX P w K mg base 0) :=
      ⟨fun X g => g.amb fr sm, fun X g => g.nd, fun X s H scope cl c fp g => ⟨g.prog, g.w_, g.K_, g.mg_, g.base_, g.room, g.gd, g.calm, g.nd⟩, fun X f' p' pos es ts g hlt' hg hx pe => (no hx).elim, fun X f' p' g hge hg hx => (no hx).elim⟩
    obtain ⟨pv, ds, S, Hd, M, Qd, rl, sr, hc, w', fin⟩ := h
    refine ⟨_, sSs W G (by rw [ex]; exact .never) (by rw [esc]; exact at_.sc.kind) ef d.body body (by rw [eN, esc]; exact hm), ?_⟩
    rw [e3]
    exact ⟨pv, _, S, Hd, M, _, enStart rl, sr, hc, w'.2, ⟨fun ρ S' Hd' H' σ m s _ q => fin _ S' Hd' H' .non m s (by simp only [Rep]) q, fun d' S' Hd' H' v m s r q => fin d' S' Hd' H' v m s r q, fun _ _ _ _ _ _ _ _ q => q, fun _ _ _ _ _ _ _ _ q => q⟩⟩
def fdDeck : FDef := ⟨"_law_deck", ["_law_script"], nmDeck, bDeck, some pDeck, 0⟩
def fdNext : FDef := ⟨"_law_next", ["_law_deck_here", "_law_many"], nmNext, bNext, some pNext, 1⟩
theorem deck_cost : cSs cf0 bDeck = 0 := by decide +kernel
theorem next_cost : cSs cf0 bNext = 0 := by decide +kernel
theorem deck_ok (fr : ∀ x ∈ bNames, mg x = none) (sm : SysD K) (at_ : FAt K mg fdDeck a fd params body scope) (hm : mSs fn0 cf0 nmDeck bDeck scope body = true) :
    FnG P w K mg base 1 a fd fdDeck.ps (spD K (fun ds S Q => ds.length = fdDeck.ps.length ∧ pDeck ds S Q) 0) := by
  refine (leaf_ok fr sm at_ hm).imp fun vs H Q h => ?_
  obtain ⟨pv, ds, S, Hd, M, Qd, rl, sr, hc, ⟨hl, ns, rfl, l63, hb, hdk, q⟩, fin⟩ := h
  have hc0 : cSs cf0 fdDeck.body = 0 := deck_cost
  rw [hc0]
  refine ⟨pv, _, S, Hd, M, fun d S' => ∃ a g c gs cs, d = .loc a ∧ Dks { S with dk := none } S' a g c gs cs 0 ∧ Gd gs cs 0 ∧ S.m a = none ∧ S.m g = none ∧ S.m c = none, rl, sr, hc, ⟨hl, ?_⟩, fun d S' Hd' H' v mv sr' rd q' => ?_⟩
  · exact deck_read ns S l63 hb _ (fun a g c gs cs S' d _ G h1 h2 h3 => ⟨a, g, c, gs, cs, rfl, d, G, h1, h2, h3⟩) hdk
  · obtain ⟨a, g, c, gs, cs, rfl, dk, G, h1, h2, h3⟩ := q'
    exact fin (.loc a) { S with dk := some a } Hd' H' v mv (sr'.deckIn (S0 := { S with dk := none }) dk G (by omega) ⟨h1, h2, h3⟩) rd (q a h1)
theorem next_ok (fr : ∀ x ∈ bNames, mg x = none) (sm : SysD K) (at_ : FAt K mg fdNext a fd params body scope) (hm : mSs fn0 cf0 nmNext bNext scope body = true) :
    FnG P w K mg base 1 a fd fdNext.ps (spD K (fun ds S Q => ds.length = fdNext.ps.length ∧ pNext ds S Q) 1) := by
  refine (leaf_ok fr sm at_ hm).imp fun vs H Q h => ?_
  obtain ⟨pv, ds, S, Hd, M, Qd, rl, sr, hc, ⟨hl, a, many, rfl, hdk, h0, h1, q⟩, fin⟩ := h
  have hc0 : cSs cf0 fdNext.body = 0 := next_cost
  rw [hc0]
  obtain ⟨S1, g, c, gs, cs, n, sr1, dk, G, hn, s0⟩ := sr.deckOut hdk
  refine ⟨pv, _, S1, Hd, M, fun d S' => ∃ k gs' n', d = .int k ∧ 0 ≤ k ∧ k < many ∧ Dks S S' a g c gs' cs n' ∧ Gd gs' cs n' ∧ n' ≤ n + 1, rl, sr1, by omega, ⟨hl, ?_⟩, fun d S' Hd' H' v mv sr' rd q' => ?_⟩
  · exact next_read S S1 a g c gs cs n many dk G (by omega) h0 h1 _ fun k gs' n' S' k0 k1 d' G' hn' => ⟨k, gs', n', rfl, k0, k1, d', G', hn'⟩
  · obtain ⟨k, gs', n', rfl, k0, k1, d', G', hn'⟩ := q'
    have sr2 := (sr'.up (M := M + 1) (by omega)).deckIn d' G' (by omega) s0
    have e : ({ m := S.m, dk := some a } : Sto) = S := by
      cases S; simp only at hdk; subst hdk; rfl
    rw [e] at sr2
    exact fin (.int k) S Hd' H' v mv sr2 rd (q k k0 k1)
end

/-! ### the law's end -/
def S00 : Sto := ⟨fun _ => none, none⟩
section
open PySem.Calls PyProof.Rows
/-- one list at l, frozen, and nothing else -/
def lone (l : Addr) (us : List Value) (ns : List Int) : Hp := fun b => if b = l then some (.frz ⟨.type "list", none, .seq us.toArray 0, #[]⟩ (.lst (ns.map V.int))) else none
theorem lone_at {l : Addr} {us : List Value} {ns : List Int} : lone l us ns l = some (.frz ⟨.type "list", none, .seq us.toArray 0, #[]⟩ (.lst (ns.map V.int))) := by unfold lone; rw [if_pos rfl]
theorem lone_off {l b : Addr} {us : List Value} {ns : List Int} (h : b ≠ l) : lone l us ns b = none := by unfold lone; rw [if_neg h]
/-- the state behind the top, with at most the script tracked, is one in which a def may be called -/
theorem top_env {P : Program} {w : World} {K : PySem.W.Frag} {mg mb : Str → Option Value} {l : Addr} {st : Shared} {us : List Value} {T : Hp} (kIn : K.In st.heap) (nsG : st.heap.Ns mainGlobals mg) (nsB : st.heap.Ns builtinsNs mb)
    (bB : ∀ y : Str, y ≠ "__name__" → mb y = bootBuiltins y) (lim : st.heap.NoLimit) (noG : st.gens = #[]) (at_l : st.heap.get? l = some ⟨.type "list", none, .seq us.toArray 0, #[]⟩)
    (off : ∀ b, b ≠ l → T b = none) (own : T l = none ∨ K.lookup l = none) (ok : HOk P w T st.heap) :
    K.In (hidT st.heap T) ∧ (hidT st.heap T).Ns mainGlobals mg ∧ Env0 P w K mg (hidT st.heap T) callerA [] st T := by
  have seen : ∀ b r, st.heap.get? b = some r → T b = none → (hidT st.heap T).get? b = some r := fun b r g n => hidT_get g n
  have isDict : ∀ (b : Addr) (m : Str → Option Value), st.heap.Ns b m → (hidT st.heap T).Ns b m := by
    rintro b m ⟨r, es, ep, g, dd, q⟩
    have nb : b ≠ l := by
      rintro rfl
      rw [at_l] at g
      cases g
      cases dd
    exact ⟨r, es, ep, seen b r g (off b nb), dd, q⟩
  have kIn' : K.In (hidT st.heap T) := by
    intro b r g
    refine seen b r (kIn b r g) ?_
    by_cases nb : b = l
    · rcases own with n | n
      · rw [nb]; exact n
      · rw [nb, n] at g; cases g
    · exact off b nb
  obtain ⟨mc, l1, l2⟩ := lim
  refine ⟨kIn', isDict _ _ nsG, rfl, ⟨kIn', isDict _ _ nsG, ⟨mb, isDict _ _ nsB, bB⟩, ⟨mc, isDict _ _ l1, l2⟩⟩, fun b r g => of_hidT g, ?_, trivial, fun b z => (nomatch (show b ∈ ([] : List Addr) from z)), ok, .of_eq noG⟩
  rw [hidT_size]
  exact Nat.le_refl _
/-- the law's def, called on the script behind the top, tells True and leaves what stood there -/
theorem law_callG {P : Program} {w : World} {K : PySem.W.Frag} {mg mb : Str → Option Value} {k : Nat} {g l : Addr} {fd : FuncData} {x : Str} {sp : SpG} {st : Shared} {us : List Value} {ns : List Int}
    (kIn : K.In st.heap) (nsG : st.heap.Ns mainGlobals mg) (nsB : st.heap.Ns builtinsNs mb) (bB : ∀ y : Str, y ≠ "__name__" → mb y = bootBuiltins y) (lim : st.heap.NoLimit) (noG : st.gens = #[])
    (at_l : st.heap.get? l = some ⟨.type "list", none, .seq us.toArray 0, #[]⟩) (are : IntsAre us ns) (few : ns.length ≤ sizeLine) (room : Room k callerA)
    (F : ∀ base : Heap, K.In base → base.Ns mainGlobals mg → FnG P w K mg base k g fd [x] sp) (bind : ∀ (s : Shared) (u : Value), K.In s.heap → BindsTo s fd ⟨[u], []⟩ [(x, u)])
    (wish : ∀ T : Hp, SqL K T l (ns.map V.int) → sp [.ref l] T (fun v _ => v = .bl true)) :
    codeAny (model P w) callerA (.call (.ref g) ⟨[.ref l], []⟩) (fun r t => r = .ok (.ret (.bool true)) ∧ OldK st.heap t.heap ∧ t.os = st.os ∧ AllBare t.gens) st := by
  have rel : Vals (ns.map V.int) us := vals_ints are
  have many : us.length = ns.length := are.length
  suffices main : ∃ T : Hp, (∀ b, b ≠ l → T b = none) ∧ (T l = none ∨ K.lookup l = none) ∧ HOk P w T st.heap ∧ SqL K T l (ns.map V.int) ∧ (∀ r, T l = some r → ∃ ob ys, r = .frz ob (.lst ys)) by
    obtain ⟨T, off, own, ok, sq, fz⟩ := main
    obtain ⟨k1, k2, env⟩ := top_env kIn nsG nsB bB lim noG at_l off own ok
    have ran := (F _ k1 k2).run callerA [] st T ⟨[.ref l], []⟩ [.ref l] [.ref l] _ room rfl env (bind st (.ref l) kIn) (.cons rfl .nil) (wish T sq)
    refine codeAny_mono ran ?_
    rintro (bad | fl) t got
    · exact (show False from got).elim
    · cases fl <;> first | exact False.elim got | skip
      obtain ⟨v, T', os_, bare_, un, ok', rv, isT⟩ := got
      rw [show v = .bl true from isT] at rv
      have ev : _ = Value.bool true := rv
      rw [ev]
      refine ⟨rfl, OldK.of_keep ?_, os_, bare_⟩
      intro b r gb
      cases tb : T b with
      | none =>
        refine un.keep b r gb tb ?_ (by simp)
        intro z
        have z' : b ∈ ([] : List Addr) := z
        cases z'
      | some q =>
        have eb : b = l := by
          by_cases nb : b = l
          · exact nb
          · rw [off b nb] at tb; cases tb
        rw [eb] at tb gb ⊢
        obtain ⟨ob, ys, rfl⟩ := fz q tb
        have was := (ok l _ tb).1
        have now := (ok' l _ (un.frzs l ob _ tb)).1
        rw [gb] at was
        cases was
        exact now
  by_cases inK : ∃ r, K.lookup l = some r
  · obtain ⟨r, hr⟩ := inK
    have same := kIn l r hr
    rw [at_l] at same
    cases same
    refine ⟨fun _ => none, fun _ _ => rfl, .inl rfl, fun _ _ z => (nomatch (show (none : Option HO) = some _ from z)), .inr ⟨_, us.toArray, 0, hr, rfl, rfl, rfl, ?_, ?_⟩, fun _ z => (nomatch (show (none : Option HO) = some _ from z))⟩
    · rw [List.size_toArray, many]; exact few
    · simpa using rel
  · have out : K.lookup l = none := by
      cases z : K.lookup l with
      | none => rfl
      | some r => exact absurd ⟨r, z⟩ inK
    refine ⟨lone l us ns, fun b nb => lone_off nb, .inr out, ?_, .inl (.inr ⟨_, lone_at⟩), fun r z => ?_⟩
    · intro b r z
      by_cases nb : b = l
      · rw [nb, lone_at] at z
        cases z
        rw [nb]
        exact ⟨at_l, by rw [List.length_map]; exact few, us, 0, rel, at_l⟩
      · rw [lone_off nb] at z; cases z
    · rw [lone_at] at z
      cases z
      exact ⟨_, _, rfl⟩
end
/-- the law's promise at the script -/
theorem law_sp {K : PySem.W.Frag} {H : Hp} {a : Addr} {ns : List Int} {sem : List D → Sto → PostE → Prop} {c : Nat} (hS : SqL K H a (ns.map V.int)) (hc : c ≤ CAP) (h : sem [.scr ns] S00 fun d _ => d = .bl true) : spD K sem c [.ref a] H (fun v _ => v = .bl true) := by
  refine ⟨[], [.scr ns], S00, H, 0, _, .cons (by simp only [Rep]; exact ⟨a, rfl, hS⟩) .nil, ⟨fun _ _ e => e, fun _ _ e => (by cases e), fun _ e => (by cases e), fun _ e => (by cases e)⟩, by omega, h, fun d S' Hd' H' v _ _ r q => ?_⟩
  subst q
  simpa only [Rep] using r

/-! ### the head's facts, constants too -/
mutual
def vB (K : PySem.W.Frag) : D → Value → Bool
  | .non, .none => true
  | .bl b, .bool c => b == c
  | .int i, .int j _ => decide (i = j)
  | .str x, .str y _ => decide (x = y)
  | .tup xs, .ref a => (match K.lookup a with
    | some ⟨.type c, _, .seq its _, _⟩ => decide (c = "tuple") && (decide (its.size ≤ sizeLine) && vBs K xs its.toList)
    | _ => false)
  | _, _ => false
def vBs (K : PySem.W.Frag) : List D → List Value → Bool
  | [], [] => true
  | d :: ds, v :: vs => vB K d v && vBs K ds vs
  | _, _ => false
end
mutual
theorem vB_ok {K : PySem.W.Frag} : ∀ {d : D} {u : Value}, vB K d u = true → ∃ v, RelV v u ∧ ∀ H, Rep K H d v
  | .non, u, h => by cases u <;> first | (simp [vB] at h; done) | exact ⟨.non, rfl, fun H => by simp only [Rep]⟩
  | .bl b, u, h => by
    cases u <;> first | (simp [vB] at h; done) | skip
    simp only [vB, beq_iff_eq] at h
    subst h
    exact ⟨.bl b, rfl, fun H => by simp only [Rep]⟩
  | .int b, u, h => by
    cases u <;> first | (simp [vB] at h; done) | skip
    simp only [vB, decide_eq_true_eq] at h
    subst h
    exact ⟨.int b, ⟨_, rfl⟩, fun H => by simp only [Rep]⟩
  | .str b, u, h => by
    cases u <;> first | (simp [vB] at h; done) | skip
    simp only [vB, decide_eq_true_eq] at h
    subst h
    exact ⟨.str b, ⟨_, rfl⟩, fun H => by simp only [Rep]⟩
  | .tup xs, u, h => by
    cases u <;> first | (simp [vB] at h; done) | skip
    rename_i a
    simp only [vB] at h
    split at h
    · rename_i c dd its n sl e
      simp only [Bool.and_eq_true, decide_eq_true_eq] at h
      obtain ⟨h1, h2, h3⟩ := h
      obtain ⟨vs, r, q⟩ := vBs_ok h3
      exact ⟨.ref a, rfl, fun H => by simp only [Rep]; exact ⟨a, vs, rfl, .inr ⟨_, its, n, e, congrArg Value.type h1, rfl, h2, r⟩, q H⟩⟩
    · cases h
  | .ty _, u, h => by simp [vB] at h
  | .lst _, u, h => by simp [vB] at h
  | .dic _ _, u, h => by simp [vB] at h
  | .loc _, u, h => by simp [vB] at h
  | .scr _, u, h => by simp [vB] at h
  | .obj _ _ _, u, h => by simp [vB] at h
theorem vBs_ok {K : PySem.W.Frag} : ∀ {ds : List D} {us : List Value}, vBs K ds us = true → ∃ vs, Vals vs us ∧ ∀ H, RepL K H ds vs
  | [], [], h => ⟨[], .nil, fun H => .nil⟩
  | [], _ :: _, h => by simp [vBs] at h
  | _ :: _, [], h => by simp [vBs] at h
  | d :: ds, u :: us, h => by
    simp only [vBs, Bool.and_eq_true] at h
    obtain ⟨v, r, q⟩ := vB_ok h.1
    obtain ⟨vs, rs, qs⟩ := vBs_ok h.2
    exact ⟨v :: vs, .cons r rs, fun H => .cons (q H) (qs H)⟩
end
def gcB (K : PySem.W.Frag) (p : Str × D) : Bool := match PySem.W.nsIn K mainGlobals p.1 with
  | some (some u) => vB K p.2 u
  | _ => false
theorem gcB_ok {K : PySem.W.Frag} {h : Heap} {mg : Str → Option Value} {p : Str × D} (X : K.In h) (G : h.Ns mainGlobals mg) (c : gcB K p = true) : ∃ u v, mg p.1 = some u ∧ RelV v u ∧ ∀ H, Rep K H p.2 v := by
  unfold gcB at c
  split at c
  · rename_i u e
    obtain ⟨v, r, q⟩ := vB_ok c
    exact ⟨u, v, PySem.W.mg_of X G e, r, q⟩
  · cases c
theorem cAt_of {K : PySem.W.Frag} {h : Heap} {mg : Str → Option Value} {d : FDef} {dd : D} (X : K.In h) (G : h.Ns mainGlobals mg) (c : gcB K (d.name, dd) = true) (hp : d.prim = some (fun _ S Q => Q dd S)) (hc : d.pc = 0) : CAt K mg d := by
  obtain ⟨u, v, h1, h2, h3⟩ := gcB_ok X G c
  exact ⟨⟨u, v, dd, h1, h2, h3, hp⟩, hc⟩
def smB (K : PySem.W.Frag) : Bool := match K.lookup sysModules with
  | some ⟨_, _, .dict _ _, _⟩ => true
  | _ => false
theorem smB_ok {K : PySem.W.Frag} (h : smB K = true) : SysD K := by
  unfold smB at h
  split at h
  · rename_i e; exact ⟨_, _, _, e, rfl⟩
  · cases h
abbrev AlC : Type := He.AlD × Bool
def obsC (fa : List He.Fa) (fn : List He.DefD) (gs : List (Str × D)) (K : PySem.W.Frag) : AlC := (He.obsD fa fn K, smB K && gs.all (gcB K))
def SaysC (fa : List He.Fa) (fn : List He.DefD) (gs : List (Str × D)) (K : PySem.W.Frag) : Prop := obsC fa fn gs K = (He.valD fn, true)
def obsCG (n : Nat) (fa : List He.Fa) (fn : List He.DefD) (gs : List (Str × D)) (g : Addr → Option Obj) : AlC := obsC fa fn gs (He.frG g (sysModules :: He.asD g n))
def hookC (n : Nat) (fa : List He.Fa) (fn : List He.DefD) (gs : List (Str × D)) : PySem.W.Hook where
  α := AlC
  obs := fun s => obsCG n fa fn gs s.heap.get?
  val := fun _ => (He.valD fn, true)
  says := fun _ h => ∃ K : PySem.W.Frag, K.In h ∧ SaysC fa fn gs K
  of := fun _ _ e => ⟨_, He.frG_in, e⟩
  keeps := fun _ _ _ ⟨K, hK, c⟩ k => ⟨K, PySem.W.Frag.In.keeps hK k, c⟩
theorem obsCG_eq {n : Nat} {fa : List He.Fa} {fn : List He.DefD} {gs : List (Str × D)} {g : Addr → Option Obj} {s : Shared} (h : ∀ a, g a = s.heap.get? a) : obsCG n fa fn gs g = (hookC n fa fn gs).obs s := by
  have e : g = s.heap.get? := funext h
  rw [e] <;> rfl
theorem SaysC.d {fa : List He.Fa} {fn : List He.DefD} {gs : List (Str × D)} {K : PySem.W.Frag} (c : SaysC fa fn gs K) : He.SaysD fa fn K := congrArg (fun z : AlC => z.1) c
theorem SaysC.c {fa : List He.Fa} {fn : List He.DefD} {gs : List (Str × D)} {K : PySem.W.Frag} (c : SaysC fa fn gs K) (i : Nat) {p : Str × D} (h : gs[i]? = some p) : gcB K p = true := by
  have c1 := (Bool.and_eq_true_iff.mp (show (smB K && gs.all (gcB K)) = true from congrArg (fun z : AlC => z.2) c)).2
  exact List.all_eq_true.mp c1 p (List.mem_of_getElem? h)
theorem SaysC.sm {fa : List He.Fa} {fn : List He.DefD} {gs : List (Str × D)} {K : PySem.W.Frag} (c : SaysC fa fn gs K) : SysD K :=
  smB_ok (Bool.and_eq_true_iff.mp (show (smB K && gs.all (gcB K)) = true from congrArg (fun z : AlC => z.2) c)).1
/-- the goal that the head leaves -/
theorem walk_ofG {l : PySem.W.OpenLaw} {n k : Nat} {q : Program} {loose : List Str} {XP : (Str → Option Value) → Heap → Prop} {YP : World → Heap → Prop} {d : PySem.DefRec} {x : Str}
    (most : l.most = some n) (small : n ≤ sizeLine) (noD : d.params.defaults = []) (room : Room k callerA)
    (F : ∀ (w : World) (mg : Str → Option Value) (g : Addr) (h : Heap), YP w h → h.Ns mainGlobals mg → mg d.name = some (.ref g) → ∃ (K : PySem.W.Frag) (fd : FuncData) (sp : SpG), K.In h ∧ (∀ (s : Shared) (u : Value), K.In s.heap → BindsTo s fd ⟨[u], []⟩ [(x, u)]) ∧
      (∀ (T : Hp) (a : Addr) (ns : List Int), ns.length ≤ n → (∀ z ∈ ns, Builtin.Int.intBits z ≤ 1048576) → SqL K T a (ns.map V.int) → sp [.ref a] T (fun v _ => v = .bl true)) ∧
      ∀ base : Heap, K.In base → base.Ns mainGlobals mg → FnG l.prog w K mg base k g fd [x] sp) :
    PySem.W.WalkO q loose XP YP l.row.toRowW d [] (fun f vs => PySem.call f vs) :=
  Att.attach_callB most noD fun w _ st mg _ g _ _ _ _ a us ns G Y _ _ _ at_g at_a are few bits noG => by
    obtain ⟨K, fd, sp, kIn, bind, wish, ran⟩ := F w mg g _ Y G.T.g at_g
    refine law_callG kIn G.T.g G.T.b G.T.builtins G.T.nolimit noG at_a are (Nat.le_trans few small) room ran bind fun T sq => ?_
    exact wish T a ns few bits sq
end FP

/-! FP, part N: what each law's text uses. -/
namespace FP
open PySem PySem.Spec L2

def tyInt : Node := nTy "int" "int" (by decide +kernel) (by decide +kernel) (by decide +kernel)
def tyBool : Node := nTy "bool" "bool" (by decide +kernel) (by decide +kernel) (by decide +kernel)
def tyTuple : Node := nTy "tuple" "tuple" (by decide +kernel) (by decide +kernel) (by decide +kernel)
def tyList : Node := nTy "list" "list" (by decide +kernel) (by decide +kernel) (by decide +kernel)
def tyStr : Node := nTy "str" "str" (by decide +kernel) (by decide +kernel) (by decide +kernel)
def tyDict : Node := nTy "dict" "dict" (by decide +kernel) (by decide +kernel) (by decide +kernel)
theorem fact_mem {fa : List He.Fa} {fn : List He.DefD} {K : PySem.W.Frag} (c : He.SaysD fa fn K) {f : He.Fa} (h : f ∈ fa) : f.ok K = true := by
  obtain ⟨i, hi, e⟩ := List.getElem_of_mem h
  exact He.SaysD.fact c i (by rw [List.getElem?_eq_getElem hi, e])
theorem free_all {fa : List He.Fa} {fn : List He.DefD} {gs : List (Str × D)} {K : PySem.W.Frag} {h : Heap} {mg : Str → Option Value} (X : K.In h) (G : h.Ns mainGlobals mg) (c : SaysC fa fn gs K) (hs : ∀ x ∈ bNames, He.Fa.free x ∈ fa) : ∀ x ∈ bNames, mg x = none :=
  fun x hx => He.free_ok X G (fact_mem c.d (hs x hx))
theorem fAt_of {fa : List He.Fa} {fn : List He.DefD} {gs : List (Str × D)} {K : PySem.W.Frag} {h : Heap} {mg : Str → Option Value} (X : K.In h) (G : h.Ns mainGlobals mg) (c : SaysC fa fn gs K) {d : FDef} (i : Nat) {params : Arguments} {body : List Stmt} {scope : Scope}
    (hd : fn[i]? = some ⟨(d.name, none), d.name, d.name, params, body, scope, [], []⟩) (hg : fa[i]? = some (.glo d.name)) (sc : FnScope d.N d.ps scope)
    (hb : ∀ (kV doc pm : Value) (an : Option Addr) (cdv ct : Value) (us : List Value), us.length = d.ps.length → bindArgs (PySem.W.fnOf d.name d.name params body scope .none kV doc pm an cdv ct) ⟨us, []⟩ = pure (d.ps.zip us)) :
    ∃ a fd, FAt K mg d a fd params body scope := by
  obtain ⟨fd, F⟩ := c.d.def_ i hd
  exact ⟨_, fd, F, He.glo_ok X G (He.SaysD.fact c.d i hg), F.bindsN hb, sc⟩
/-- all of a law -/
theorem law_all {l : PySem.W.OpenLaw} {q : Program} {loose : List Str} {XP : (Str → Option Value) → Heap → Prop} {d : PySem.DefRec} {fa : List He.Fa} {fn : List He.DefD} {gs : List (Str × D)} {m : Nat} (T : Nat → Option FDef) (k f : Nat) (dl : FDef)
    (hn : l.most = some 63) (hdf : d.params.defaults = []) (hr : Room k callerA) (hnm : d.name = dl.name) (hT : T f = some dl) (hf : f < GB) (hps : dl.ps = [("_law_script" : Str)]) (hfree : ∀ x ∈ bNames, He.Fa.free x ∈ fa)
    (hb : ∀ (w : World) (mg : Str → Option Value) (h : Heap) (K : PySem.W.Frag) (base : Heap), K.In h → h.Ns mainGlobals mg → SaysC fa fn gs K → (∀ x ∈ bNames, mg x = none) → SysD K → (∀ f d, GB ≤ f → T f = some d → CAt K mg d) ∧
      (∀ f d, f < GB → T f = some d → ∃ a fd params body scope, FAt K mg d a fd params body scope ∧ ((d.prim = none ∧ ∀ k' < k, mSs (fnm T) (cF T k') d.N d.body scope body = true) ∨
        ∃ p, d.prim = some p ∧ FnG l.prog w K mg base 1 a fd d.ps (spD K (fun ds S Q => ds.length = d.ps.length ∧ p ds S Q) d.pc))))
    (hc : cF T k f ≤ CAP)
    (law : ∀ ns : List Int, ns.length ≤ 63 → (∀ z ∈ ns, Builtin.Int.intBits z ≤ 1048576) → wC T k f [.scr ns] S00 fun d _ => d = .bl true) :
    PySem.W.WalkO q loose XP (hookC m fa fn gs).says l.row.toRowW d [] (fun f vs => PySem.call f vs) := by
  refine walk_ofG (x := "_law_script") hn (by decide +kernel) hdf hr fun w mg fad h Y G hmg => ?_
  obtain ⟨K, X, c⟩ := Y
  have fr := free_all X G c hfree
  obtain ⟨a, fd, params, body, scope, at_, _⟩ := (hb w mg h K h X G c fr c.sm).2 f dl hf hT
  rw [hnm] at hmg
  have ea : fad = a := by
    have := hmg.symm.trans at_.glob
    cases this; rfl
  subst ea
  refine ⟨K, fd, _, X, fun s u KI => ?_, fun H a ns hl hbits hS => law_sp hS hc (law ns hl hbits), fun base KB GB' => ?_⟩
  · have b := at_.binds s [u] KI (by rw [hps]; rfl)
    rw [hps] at b
    exact b
  · obtain ⟨h1, h2⟩ := hb w mg h K base X G c fr c.sm
    obtain ⟨a', fd', ⟨_, _, _, at'⟩, F⟩ := all_ok (P := l.prog) (w := w) (K := K) (mg := mg) (base := base) T k fr c.sm h1 h2 k (Nat.le_refl k) f dl hf hT
    obtain ⟨e1, e2⟩ := at_.inj at'
    subst e1 e2
    rw [hps] at F
    exact F
end FP

/-! FP, part O: lemmas for the laws' readings. -/
namespace FP
open PySem PySem.Spec L2

theorem wC_body {T : Nat → Option FDef} {k f : Nat} {d : FDef} {ds : List D} {S : Sto} {Q : PostE} (hT : T f = some d) (hp : d.prim = none) (h : ds.length = d.ps.length ∧ wSs (wC T k) d.body { nx := fun _ S' => Q .non S', rt := Q } (startE d.N ds) S) : wC T (k + 1) f ds S Q := by
  simpa only [wC, hT, hp] using h
theorem wC_prim {T : Nat → Option FDef} {k f : Nat} {d : FDef} {p : List D → Sto → PostE → Prop} {ds : List D} {S : Sto} {Q : PostE} (hT : T f = some d) (hp : d.prim = some p) (h : ds.length = d.ps.length ∧ p ds S Q) : wC T (k + 1) f ds S Q := by
  simpa only [wC, hT, hp] using h
/-- a for, turn by turn -/
theorem for_cps {step : D → En → Sto → (En → Sto → Prop) → Prop} {stay : Sto → Prop} {Q : En → Sto → Prop} (I : List D → En → Sto → Prop) (hs : ∀ xs ρ S, I xs ρ S → stay S)
    (h1 : ∀ x xs ρ S (k : En → Sto → Prop), I (x :: xs) ρ S → (∀ ρ' S', I xs ρ' S' → k ρ' S') → step x ρ S k) (hq : ∀ ρ S, I [] ρ S → Q ρ S) : ∀ {items : List D} {ρ : En} {S : Sto}, I items ρ S → forRun step stay items ρ S Q
  | [], ρ, S, i => ⟨hs _ _ _ i, hq _ _ i⟩
  | x :: xs, ρ, S, i => ⟨hs _ _ _ i, h1 x xs ρ S _ i fun ρ' S' i' => for_cps I hs h1 hq i'⟩
theorem for_ix' {step : D → En → Sto → (En → Sto → Prop) → Prop} {stay : Sto → Prop} {Q : En → Sto → Prop} (I : Nat → En → Sto → Prop) (hs : ∀ j ρ S, I j ρ S → stay S) : ∀ {items : List D} (m : Nat) {ρ : En} {S : Sto},
    (∀ j (h : j < items.length) ρ S (k : En → Sto → Prop), I (m + j) ρ S → (∀ ρ' S', I (m + j + 1) ρ' S' → k ρ' S') → step items[j] ρ S k) → (∀ ρ S, I (m + items.length) ρ S → Q ρ S) → I m ρ S → forRun step stay items ρ S Q
  | [], m, ρ, S, h1, hq, h0 => ⟨hs _ _ _ h0, hq _ _ h0⟩
  | x :: xs, m, ρ, S, h1, hq, h0 => ⟨hs _ _ _ h0, h1 0 (by simp) ρ S _ h0 fun ρ' S' i' => for_ix' I hs (m + 1) (fun j hj ρ S k i g => h1 (j + 1) (by simpa using hj) ρ S k (by rw [show m + (j + 1) = m + 1 + j by omega]; exact i) (fun ρ' S' i2 => g ρ' S' (by rw [show m + 1 + j + 1 = m + (j + 1) + 1 by omega]; exact i2)))
      (fun ρ S i => hq ρ S (by rw [show m + (x :: xs).length = m + 1 + xs.length by simp; omega]; exact i)) i'⟩
/-- a for by the number of turns that are through -/
theorem for_ix {step : D → En → Sto → (En → Sto → Prop) → Prop} {stay : Sto → Prop} {Q : En → Sto → Prop} {items : List D} {ρ : En} {S : Sto} (I : Nat → En → Sto → Prop) (hs : ∀ j ρ S, I j ρ S → stay S)
    (h1 : ∀ j (h : j < items.length) ρ S (k : En → Sto → Prop), I j ρ S → (∀ ρ' S', I (j + 1) ρ' S' → k ρ' S') → step items[j] ρ S k) (hq : ∀ ρ S, I items.length ρ S → Q ρ S) (h0 : I 0 ρ S) : forRun step stay items ρ S Q :=
  for_ix' I hs 0 (fun j h ρ S k i g => h1 j h ρ S k (by rw [Nat.zero_add] at i; exact i) (fun ρ' S' i2 => g ρ' S' (by rw [Nat.zero_add]; exact i2))) (fun ρ S i => hq ρ S (by rw [Nat.zero_add] at i; exact i)) h0
theorem rgD_len {a b : Int} : (rgD a b).length = (b - a).toNat := by simp [rgD]
theorem rgD_get {a b : Int} {j : Nat} (h : j < (rgD a b).length) : (rgD a b)[j] = .int (a + (j : Nat)) := by simp [rgD]
/-- a for over a range, by the number -/
theorem for_rg {step : D → En → Sto → (En → Sto → Prop) → Prop} {Q : En → Sto → Prop} {ρ : En} {S : Sto} {a b : Int} (I : Int → En → Sto → Prop) (le : a ≤ b)
    (h1 : ∀ i ρ S (k : En → Sto → Prop), a ≤ i → i < b → I i ρ S → (∀ ρ' S', I (i + 1) ρ' S' → k ρ' S') → step (.int i) ρ S k) (hq : ∀ ρ S, I b ρ S → Q ρ S) (h0 : I a ρ S) : forRun step (fun _ => True) (rgD a b) ρ S Q := by
  refine for_ix (fun j ρ S => I (a + (j : Nat)) ρ S) (fun _ _ _ _ => trivial) (fun j h ρ S k i g => ?_) (fun ρ S i => ?_) (by simpa using h0)
  · rw [rgD_get h]
    rw [rgD_len] at h
    exact h1 _ ρ S k (by omega) (by omega) i fun ρ' S' i2 => g ρ' S' (by rw [show a + ((j + 1 : Nat) : Int) = a + (j : Nat) + 1 by omega]; exact i2)
  · rw [rgD_len] at i
    rw [show a + (((b - a).toNat : Nat) : Int) = b by omega] at i
    exact hq ρ S i
/-- nothing that was known is lost, the deck stays -/
structure Ext (S S' : Sto) : Prop where
  dk : S'.dk = S.dk
  m : ∀ b o, S.m b = some o → S'.m b = some o
theorem Ext.refl (S : Sto) : Ext S S := ⟨rfl, fun _ _ h => h⟩
theorem Ext.trans {A B C : Sto} (p : Ext A B) (q : Ext B C) : Ext A C := ⟨q.dk.trans p.dk, fun b o h => q.m b o (p.m b o h)⟩
theorem Ext.put {S S' : Sto} {l : Addr} {o : O} (e : Ext S S') (h : S'.m l = none) : Ext S (S'.put l o) := ⟨e.dk, fun b u z => by
  have z' := e.m b u z
  rw [Sto.put_ne (fun q => by rw [q, h] at z'; cases z')]; exact z'⟩
/-- own lists (not of S) rewritten -/
theorem Ext.wr {S S' : Sto} {l : Addr} {o : O} (e : Ext S S') (h : S.m l = none) : Ext S (S'.put l o) := ⟨e.dk, fun b u z => by
  rw [Sto.put_ne (fun q => by rw [q, h] at z; cases z)]; exact e.m b u z⟩
/-- data of known types, none of which changes -/
def isKn : D → Bool
  | .non => true
  | .bl _ => true
  | .int _ => true
  | .str _ => true
  | .tup _ => true
  | .lst _ => true
  | .dic _ _ => true
  | _ => false
def kn : D → String
  | .non => "NoneType"
  | .bl _ => "bool"
  | .int _ => "int"
  | .str _ => "str"
  | .tup _ => "tuple"
  | .lst _ => "list"
  | _ => "dict"
theorem kn_ok {S : Sto} {d : D} (h : isKn d = true) : tyN S d = some (kn d) := by
  cases d <;> first | rfl | cases h
def whole : D → Bool
  | .int _ => true
  | _ => false
theorem isi_int {S : Sto} {d : D} {Q : PostE} (h : isKn d = true) (q : Q (.bl (isT (kn d) "int")) S) : nIsi.sem [d, .ty "int"] S Q := ⟨d, "int", kn d, rfl, kn_ok h, by decide, q⟩
theorem isi_bool {S : Sto} {d : D} {Q : PostE} (h : isKn d = true) (q : Q (.bl (isT (kn d) "bool")) S) : nIsi.sem [d, .ty "bool"] S Q := ⟨d, "bool", kn d, rfl, kn_ok h, by decide, q⟩
theorem isi_tuple {S : Sto} {d : D} {Q : PostE} (h : isKn d = true) (q : Q (.bl (isT (kn d) "tuple")) S) : nIsi.sem [d, .ty "tuple"] S Q := ⟨d, "tuple", kn d, rfl, kn_ok h, by decide, q⟩
theorem sz {n : Nat} (h : Nat.ble n 1000 = true) : n ≤ sizeLine := Nat.le_trans (Nat.le_of_ble_eq_true h) (by decide +kernel)
/-! ### what nodes do with known values -/
section
variable {S : Sto} {Q : PostE} {o : Bool} {d e : D} {i j : Int} {x y : Str} {xs ys ds : List D} {b c : Bool} {n : String}
theorem sem_tyInt : tyInt.sem ds S Q = Q (.ty "int") S := rfl
theorem sem_tyBool : tyBool.sem ds S Q = Q (.ty "bool") S := rfl
theorem sem_tyTuple : tyTuple.sem ds S Q = Q (.ty "tuple") S := rfl
theorem sem_tyList : tyList.sem ds S Q = Q (.ty "list") S := rfl
theorem sem_tyStr : tyStr.sem ds S Q = Q (.ty "str") S := rfl
theorem sem_tyDict : tyDict.sem ds S Q = Q (.ty "dict") S := rfl
theorem sem_int : (nInt i).sem ds S Q = Q (.int i) S := rfl
theorem sem_str : (nStr x).sem ds S Q = Q (.str x) S := rfl
theorem sem_bl : (nBl b).sem ds S Q = Q (.bl b) S := rfl
theorem sem_non : nNon.sem ds S Q = Q .non S := rfl
theorem sem_dic0 : nDic0.sem ds S Q = Q (.dic [] []) S := rfl
theorem sem_tup : nTup.sem ds S Q = (ds.length ≤ sizeLine ∧ Q (.tup ds) S) := rfl
theorem sem_lst : (nLst false).sem ds S Q = (ds.length ≤ sizeLine ∧ Q (.lst ds) S) := rfl
theorem sem_lstO : (nLst true).sem ds S Q = (ds.length ≤ sizeLine ∧ ∀ l, S.m l = none → Q (.loc l) (S.put l (.lst ds))) := rfl
theorem sem_isi : nIsi.sem [d, .ty n] S Q = ∃ t, tyN S d = some t ∧ n ∈ clsNames ∧ Q (.bl (isT t n)) S := by
  refine propext ⟨fun ⟨d', n', t, e, h⟩ => ?_, fun ⟨t, h⟩ => ⟨d, n, t, rfl, h⟩⟩
  cases e
  exact ⟨t, h⟩
theorem sem_sub : nSub.sem [.int i, .int j] S Q = Q (.int (i - j)) S := by
  refine propext ⟨fun ⟨d', n', e, _, h⟩ => ?_, fun h => ⟨i, j, rfl, trivial, h⟩⟩
  cases e
  exact h
theorem sem_mod : nMod.sem [.int i, .int j] S Q = (0 < j ∧ Q (.int (i % j)) S) := by
  refine propext ⟨fun ⟨d', n', e, h⟩ => ?_, fun h => ⟨i, j, rfl, h⟩⟩
  cases e
  exact h
theorem sem_fdiv : nFdiv.sem [.int i, .int j] S Q = (CDivW i j ∧ Q (.int (i / j)) S) := by
  refine propext ⟨fun ⟨d', n', e, h⟩ => ?_, fun h => ⟨i, j, rfl, h⟩⟩
  cases e
  exact h
theorem sem_pow : nPow.sem [.int i, .int j] S Q = (CPow i j ∧ Q (.int (i ^ j.toNat)) S) := by
  refine propext ⟨fun ⟨d', n', e, h⟩ => ?_, fun h => ⟨i, j, rfl, h⟩⟩
  cases e
  exact h
theorem sem_neg : nNeg.sem [.int i] S Q = Q (.int (-i)) S := by
  refine propext ⟨fun ⟨d', e, h⟩ => ?_, fun h => ⟨i, rfl, h⟩⟩
  cases e
  exact h
theorem sem_add : (nAdd o).sem [.int i, .int j] S Q = Q (.int (i + j)) S := rfl
theorem sem_addT : (nAdd o).sem [.tup xs, .tup ys] S Q = (xs.length + ys.length ≤ sizeLine ∧ Q (.tup (xs ++ ys)) S) := rfl
theorem sem_addL : (nAdd false).sem [.lst xs, .lst ys] S Q = (xs.length + ys.length ≤ sizeLine ∧ Q (.lst (xs ++ ys)) S) := by
  refine propext ⟨fun ⟨a, b, h1, h2, h3, h4⟩ => ?_, fun h => ⟨xs, ys, rfl, rfl, h.1, h.2⟩⟩
  cases h1; cases h2
  exact ⟨h3, h4⟩
theorem sem_mul : (nMul o).sem [.int i, .int j] S Q = ((CMul i j ∨ CMulW i j) ∧ Q (.int (i * j)) S) := rfl
theorem sem_mulT : (nMul o).sem [.tup xs, .int j] S Q = (-1000 ≤ j ∧ j ≤ 1000 ∧ xs.length ≤ 1000 ∧ Q (.tup (List.replicate j.toNat xs).flatten) S) := rfl
theorem sem_ix : nIx.sem [d, .int i] S Q = ∃ xs v, seqS S d = some xs ∧ atI xs i = some v ∧ Q v S := by
  refine propext ⟨fun ⟨d', n', xs, v, e, h⟩ => ?_, fun ⟨xs, v, h⟩ => ⟨d, i, xs, v, rfl, h⟩⟩
  cases e
  exact ⟨xs, v, h⟩
theorem sem_len : nLen.sem [d] S Q = ∃ n, lenS S d = some n ∧ Q (.int n) S := by
  refine propext ⟨fun ⟨d', n', e, h⟩ => ?_, fun ⟨n, h⟩ => ⟨d, n, rfl, h⟩⟩
  cases e
  exact ⟨n', h⟩
theorem sem_tuple : nTuple.sem [d] S Q = ∃ xs, seqS S d = some xs ∧ Q (.tup xs) S := by
  refine propext ⟨fun ⟨d', n', e, h⟩ => ?_, fun ⟨n, h⟩ => ⟨d, n, rfl, h⟩⟩
  cases e
  exact ⟨n', h⟩
theorem sem_repr : nRepr.sem [d] S Q = ∃ p, isSeq d = true ∧ pyS S d = some p ∧ reprOk p ∧ Q (.str p.shown) S := by
  refine propext ⟨fun ⟨d', n', e, h⟩ => ?_, fun ⟨n, h⟩ => ⟨d, n, rfl, h⟩⟩
  cases e
  exact ⟨n', h⟩
theorem sem_intI : nIntOf.sem [.int i] S Q = Q (.int i) S := rfl
theorem sem_intB : nIntOf.sem [.bl b] S Q = Q (.int (if b then 1 else 0)) S := rfl
theorem sem_lrg2 : (nListRg2 false).sem [.int i, .int j] S Q = (RgOk i j ∧ Q (.lst (rgD i j)) S) := by
  refine propext ⟨fun ⟨d', n', e, h⟩ => ?_, fun h => ⟨i, j, rfl, h⟩⟩
  cases e
  exact h
theorem sem_lrg1 : (nListRg1 false).sem [.int i] S Q = (RgOk 0 i ∧ Q (.lst (rgD 0 i)) S) := by
  refine propext ⟨fun ⟨n', e, h⟩ => ?_, fun h => ⟨i, rfl, h⟩⟩
  cases e
  exact h
theorem tr_bl : truth S (.bl b) = some b := rfl
theorem tr_int : truth S (.int i) = some (i != 0) := rfl
theorem tr_tup : truth S (.tup xs) = some (!xs.isEmpty) := rfl
theorem tr_lst : truth S (.lst xs) = some (!xs.isEmpty) := rfl
theorem cs_lt : cLt.cs (.int i) (.int j) S = some (decide (i < j)) := rfl
theorem cs_le : cLe.cs (.int i) (.int j) S = some (decide (i ≤ j)) := rfl
theorem cs_gt : cGt.cs (.int i) (.int j) S = some (decide (j < i)) := rfl
theorem cs_ge : cGe.cs (.int i) (.int j) S = some (decide (j ≤ i)) := rfl
theorem cs_eqI : cEq.cs (.int i) (.int j) S = some (decide (i = j)) := by show some (xor false _) = _; simp
theorem cs_eqB : cEq.cs (.bl b) (.bl c) S = some (decide (b = c)) := by show some (xor false _) = _; simp
theorem cs_eqS : cEq.cs (.str x) (.str y) S = some (decide (x = y)) := by show some (xor false _) = _; simp
theorem cs_neI : cNe.cs (.int i) (.int j) S = some (!decide (i = j)) := by show some (xor true _) = _; simp
theorem cs_neB : cNe.cs (.bl b) (.bl c) S = some (!decide (b = c)) := by show some (xor true _) = _; simp
theorem cs_neS : cNe.cs (.str x) (.str y) S = some (!decide (x = y)) := by show some (xor true _) = _; simp
theorem cs_in : cIn.cs d e S = csIn false d e S := rfl
theorem cs_isB : cIs.cs (.bl b) (.bl c) S = some (decide (b = c)) := by show some (xor false _) = _; simp
theorem cs_isNotB : cIsNot.cs (.bl b) (.bl c) S = some (!decide (b = c)) := by show some (xor true _) = _; simp
end

/-! ### defs that all laws have -/
theorem next_at {T : Nat → Option FDef} {k f : Nat} {a : Addr} {n : Int} {S : Sto} {Q : PostE} (hT : T f = some fdNext) (hd : S.dk = some a) (h0 : 0 < n) (h1 : n.natAbs.log2 < 9000) (q : ∀ i, 0 ≤ i → i < n → Q (.int i) S) : wC T (k + 1) f [.loc a, .int n] S Q :=
  wC_prim (p := pNext) hT rfl ⟨rfl, a, n, rfl, hd, h0, h1, q⟩
/-- a bound of below 2^64 -/
theorem next_sm {T : Nat → Option FDef} {k f : Nat} {a : Addr} {n : Int} {S : Sto} {Q : PostE} (hT : T f = some fdNext) (hd : S.dk = some a) (h0 : 0 < n) (h1 : n < 2 ^ 64) (q : ∀ i, 0 ≤ i → i < n → Q (.int i) S) : wC T (k + 1) f [.loc a, .int n] S Q :=
  next_at hT hd h0 (Nat.lt_of_le_of_lt (log2_le_of_lt (k := 63) (by omega)) (by omega)) q
theorem deck_at {T : Nat → Option FDef} {k f : Nat} {ns : List Int} {S : Sto} {Q : PostE} (hT : T f = some fdDeck) (hl : ns.length ≤ 63) (hb : ∀ z ∈ ns, Builtin.Int.intBits z ≤ 1048576) (hd : S.dk = none) (q : ∀ a S', S'.m = S.m → S'.dk = some a → Q (.loc a) S') : wC T (k + 1) f [.scr ns] S Q :=
  wC_prim (p := pDeck) hT rfl ⟨rfl, ns, rfl, hl, hb, hd, fun a _ => q a _ rfl rfl⟩
/-- isinstance(x, int) and not isinstance(x, bool) -/
def bWhole : List RS := (.ret (.and [.nd nIsi [.var 0, .nd tyInt []], .not (.nd nIsi [.var 0, .nd tyBool []])])) :: []
theorem whole_at {T : Nat → Option FDef} {k f : Nat} {x y : Str} {d : D} {S : Sto} {Q : PostE} (hT : T f = some ⟨x, [y], [y], bWhole, none, 0⟩) (h : isKn d = true) (q : Q (.bl (whole d)) S) : wC T (k + 1) f [d] S Q := by
  refine wC_body hT rfl ⟨rfl, ?_⟩
  show wSs _ bWhole _ [some d] S
  simp only [bWhole, wSs, wS, wE, wEs, wAnd, sem_tyInt, sem_tyBool, sem_isi, List.getElem?_cons_zero, Option.some.injEq, exists_eq_left']
  refine ⟨_, kn_ok h, by decide, _, rfl, ?_⟩
  cases d <;> first | (cases h; done) | skip
  case int i => exact ⟨_, rfl, by decide, _, rfl, q⟩
  case bl b => exact ⟨_, rfl, by decide, _, rfl, q⟩
  all_goals exact q
section
variable {S : Sto} {Q : PostE} {a : Addr} {d : D} {i j : Int} {xs : List D} {k : List D → (Sto → Prop) → Prop}
theorem chk_app (h : S.m a = some (.lst xs)) : mApp.chk (.loc a) S := ⟨a, xs, rfl, h⟩
theorem do_app (h : S.m a = some (.lst xs)) (hl : xs.length < sizeLine) (q : Q .non (S.put a (.lst (xs ++ [d])))) : mApp.sem [.loc a, d] S Q := ⟨a, d, xs, rfl, h, hl, q⟩
theorem it_seq (h : seqS S d = some xs) (hl : xs.length ≤ sizeLine) (q : k xs (stayS d xs)) : iSeq.sem [d] S k := ⟨d, xs, rfl, h, hl, q⟩
theorem it_rg1 (h : Rg62 i) (q : k (rgD 0 i) (fun _ => True)) : iRg1.sem [.int i] S k := ⟨i, rfl, h, q⟩
theorem it_rg2 (h : Rg62 i) (h' : Rg62 j) (q : k (rgD i j) (fun _ => True)) : iRg2.sem [.int i, .int j] S k := ⟨i, j, rfl, h, h', q⟩
theorem do_revL (h : lstS S d = some xs) (q : Q (.lst xs.reverse) S) : (nRevL false).sem [d] S Q := ⟨d, xs, rfl, h, q⟩
end
theorem rg62 {i : Int} (h0 : -1000000 ≤ i) (h1 : i ≤ 1000000) : Rg62 i := ⟨by omega, by omega⟩
end FP

/-! FP, part P: data that repr shows and == compares. -/
namespace FP
open PySem PySem.Spec L2

mutual
/-- plain data: whole numbers of at most forty figures, no objects -/
def dok : D → Bool
  | .non => true
  | .bl _ => true
  | .int i => decide (i.natAbs < 10 ^ 45)
  | .str x => PyData.canLay0 (.str x)
  | .tup xs => doks xs
  | .lst xs => doks xs
  | _ => false
def doks : List D → Bool
  | [] => true
  | d :: ds => dok d && doks ds
end
mutual
def toP : D → PyData
  | .bl b => .bool b
  | .int i => .int i
  | .str x => .str x
  | .tup xs => .tuple (toPs xs)
  | .lst xs => .list (toPs xs)
  | _ => .none
def toPs : List D → List PyData
  | [] => []
  | d :: ds => toP d :: toPs ds
end
mutual
def dsz : D → Nat
  | .str x => x.cps.size
  | .tup xs => dszs xs
  | .lst xs => dszs xs
  | _ => 0
def dszs : List D → Nat
  | [] => 0
  | d :: ds => dsz d + 1 + dszs ds
end
mutual
def ddp : D → Nat
  | .tup xs => ddps xs + 1
  | .lst xs => ddps xs + 1
  | _ => 0
def ddps : List D → Nat
  | [] => 0
  | d :: ds => max (ddp d) (ddps ds)
end
theorem int_short {i : Int} (h : i.natAbs < 10 ^ 45) : ((PyData.int i).shown).length ≤ 46 := by
  have e := int_text_length_le10 (k := 45) (by decide) h
  show (Str.ofString (toString i)).length ≤ 46
  rw [ofString_length]; exact e
theorem int_log {i : Int} (h : i.natAbs < 10 ^ 45) : i.natAbs.log2 < 1920 := by
  have : i.natAbs < 2 ^ (180 + 1) := Nat.lt_of_lt_of_le h (by decide +kernel)
  exact Nat.lt_of_le_of_lt (log2_le_of_lt this) (by omega)
mutual
theorem dok_all : ∀ {d : D}, dok d = true → pyD d = some (toP d) ∧ (toP d).showable = true ∧ (toP d).leavesShort 46 = true ∧ (toP d).bulk = dsz d ∧ (toP d).depth = ddp d ∧ (toP d).canLay0 = true
  | .non, _ => ⟨rfl, rfl, rfl, rfl, rfl, rfl⟩
  | .bl _, _ => ⟨rfl, rfl, rfl, rfl, rfl, rfl⟩
  | .int i, h => by
    simp only [dok, decide_eq_true_eq] at h
    refine ⟨rfl, ?_, ?_, rfl, rfl, rfl⟩
    · simp only [toP, PyData.showable, decide_eq_true_eq]; exact int_log h
    · simp only [toP, PyData.leavesShort, decide_eq_true_eq]; exact int_short h
  | .str x, h => by
    have h' : PyData.canLay0 (.str x) = true := by simpa only [dok] using h
    exact ⟨rfl, rfl, PyData.leavesShort_of_canLay0 46 (.str x) h' (by simp only [PyData.intsShort]), rfl, rfl, h'⟩
  | .tup xs, h => by
    simp only [dok] at h
    obtain ⟨a, b, c, d, e, f⟩ := doks_all h
    exact ⟨by simp only [pyD, a, Option.map_some, toP], by simpa only [toP, PyData.showable] using b, by simpa only [toP, PyData.leavesShort] using c, by simpa only [toP, PyData.bulk, dsz] using d,
      by simp only [toP, PyData.depth, ddp, e], by simpa only [toP, PyData.canLay0] using f⟩
  | .lst xs, h => by
    simp only [dok] at h
    obtain ⟨a, b, c, d, e, f⟩ := doks_all h
    exact ⟨by simp only [pyD, a, Option.map_some, toP], by simpa only [toP, PyData.showable] using b, by simpa only [toP, PyData.leavesShort] using c, by simpa only [toP, PyData.bulk, dsz] using d,
      by simp only [toP, PyData.depth, ddp, e], by simpa only [toP, PyData.canLay0] using f⟩
  | .ty _, h => by simp [dok] at h
  | .dic _ _, h => by simp [dok] at h
  | .loc _, h => by simp [dok] at h
  | .scr _, h => by simp [dok] at h
  | .obj _ _ _, h => by simp [dok] at h
theorem doks_all : ∀ {ds : List D}, doks ds = true → pyL ds = some (toPs ds) ∧ PyData.showableAll (toPs ds) = true ∧ PyData.leavesShortAll 46 (toPs ds) = true ∧ PyData.bulkAll (toPs ds) = dszs ds ∧ PyData.depthAll (toPs ds) = ddps ds ∧ PyData.canLayAll0 (toPs ds) = true
  | [], _ => ⟨rfl, rfl, rfl, rfl, rfl, rfl⟩
  | x :: xs, h => by
    simp only [doks, Bool.and_eq_true] at h
    obtain ⟨a, b, c, d, e, f⟩ := dok_all h.1
    obtain ⟨a', b', c', d', e', f'⟩ := doks_all h.2
    refine ⟨?_, ?_, ?_, ?_, ?_, ?_⟩
    · simp only [pyL, a, a', toPs]
    · simp only [toPs, PyData.showableAll, b, b', Bool.and_self]
    · simp only [toPs, PyData.leavesShortAll, c, c', Bool.and_self]
    · simp only [toPs, PyData.bulkAll, d, d', dszs]
    · simp only [toPs, PyData.depthAll, e, e', ddps]
    · simp only [toPs, PyData.canLayAll0, f, f', Bool.and_self]
end
/-- plain data of at most c items and h levels -/
structure Nc (c h : Nat) (d : D) : Prop where
  ok : dok d = true
  sz : dsz d ≤ c
  dp : ddp d ≤ h
theorem Nc.mono {c h c' h' : Nat} {d : D} (n : Nc c h d) (hc : c ≤ c') (hh : h ≤ h') : Nc c' h' d := ⟨n.ok, Nat.le_trans n.sz hc, Nat.le_trans n.dp hh⟩
theorem Nc.int {i : Int} (h : i.natAbs < 10 ^ 45) : Nc 0 0 (.int i) := ⟨by simp only [dok, decide_eq_true_eq]; exact h, Nat.le_refl _, Nat.le_refl _⟩
theorem ncs {c h : Nat} : ∀ {xs : List D}, (∀ x ∈ xs, Nc c h x) → doks xs = true ∧ dszs xs ≤ (c + 1) * xs.length ∧ ddps xs ≤ h
  | [], _ => ⟨rfl, by simp [dszs], Nat.zero_le _⟩
  | x :: xs, n => by
    obtain ⟨a, b, d⟩ := ncs (xs := xs) fun y hy => n y (by simp [hy])
    have hx := n x (by simp)
    refine ⟨by simp only [doks, hx.ok, a, Bool.and_self], ?_, ?_⟩
    · simp only [dszs, List.length_cons, Nat.mul_succ]
      have := hx.sz
      omega
    · simp only [ddps]
      have := hx.dp
      omega
theorem Nc.tup {c h : Nat} {xs : List D} (n : ∀ x ∈ xs, Nc c h x) : Nc ((c + 1) * xs.length) (h + 1) (.tup xs) := by
  obtain ⟨a, b, d⟩ := ncs n
  exact ⟨by simpa only [dok] using a, by simpa only [dsz] using b, by simp only [ddp]; omega⟩
theorem Nc.lst {c h : Nat} {xs : List D} (n : ∀ x ∈ xs, Nc c h x) : Nc ((c + 1) * xs.length) (h + 1) (.lst xs) := by
  obtain ⟨a, b, d⟩ := ncs n
  exact ⟨by simpa only [dok] using a, by simpa only [dsz] using b, by simp only [ddp]; omega⟩
theorem Nc.py {c h : Nat} {d : D} (n : Nc c h d) : pyD d = some (toP d) := (dok_all n.ok).1
theorem Nc.pyS {c h : Nat} {d : D} {S : Sto} (n : Nc c h d) : pyS S d = some (toP d) := by
  have := n.py
  have ok := n.ok
  cases d <;> first | exact this | (simp [dok] at ok)
theorem Nc.repr {c h : Nat} {d : D} (n : Nc c h d) (hc : c ≤ 200000) (hh : h ≤ 50) : reprOk (toP d) := by
  obtain ⟨_, b, l, e, f, _⟩ := dok_all n.ok
  refine ⟨b, by rw [f]; exact Nat.le_trans n.dp hh, ?_⟩
  have := PyData.shown_le_bulk 46 (by omega) (toP d) l
  rw [e] at this
  have hs : 48 * 200000 + 46 ≤ sizeLine := by decide +kernel
  have := n.sz
  omega
theorem do_repr {c h : Nat} {d : D} {S : Sto} {Q : PostE} (n : Nc c h d) (hs : isSeq d = true) (hc : c ≤ 200000) (hh : h ≤ 50) (q : Q (.str (toP d).shown) S) : nRepr.sem [d] S Q := by
  rw [sem_repr]
  exact ⟨_, hs, n.pyS, n.repr hc hh, q⟩
end FP

/-! FP, part Q: rows. -/
namespace FP
open PySem PySem.Spec L2
def g_nought : List RS := (.ret (.nd (nMul false) [.nd nTup [.nd nTup [eI 0, eI 0]], .var 0])) :: []
def gn_nought : List Str := ["posts"]
def g_added : List RS := (.ret (.nd nTuple [.lc false (.nd nTup [.nd nMod [.nd (nAdd false) [.var 3, .var 5], .var 0], .nd nMod [.nd (nAdd false) [.var 4, .var 6], .var 0]]) (.tup [.tup [.nm 3, .nm 4], .tup [.nm 5, .nm 6]]) iZip [.var 1, .var 2] [] [("x", 3), ("y", 4), ("right", 5), ("down", 6)]])) :: []
def gn_added : List Str := ["p", "one", "other", "x", "y", "right", "down"]
def g_times : List RS := (.ret (.nd nTuple [.lc false (.nd nTup [.nd nMod [.nd (nMul false) [.var 1, .var 3], .var 0], .nd nMod [.nd (nMul false) [.var 1, .var 4], .var 0]]) (.tup [.nm 3, .nm 4]) iSeq [.var 2] [] [("x", 3), ("y", 4)]])) :: []
def gn_times : List Str := ["p", "number", "row", "x", "y"]
def g_meet : List RS := (.ret (.nd nMod [.nd nSum [.lc false (.nd nSub [.nd (nMul false) [.var 3, .var 6], .nd (nMul false) [.var 5, .var 4]]) (.tup [.tup [.nm 3, .nm 4], .tup [.nm 5, .nm 6]]) iZip [.var 1, .var 2] [] [("x", 3), ("y", 4), ("right", 5), ("down", 6)]], .var 0])) :: []
def gn_meet : List Str := ["p", "one", "other", "x", "y", "right", "down"]
def g_part : List RS := (.ret (.nd nTuple [.lc false (.nd nIx [.var 0, .var 2]) (.nm 2) iSeq [.var 1] [] [("post", 2)]])) :: []
def gn_part : List Str := ["row", "posts", "post"]
def g__law_prime (c__law_next : Nat) : List RS := (.ret (.nd nIx [.nd nTup [eI 2, eI 3, eI 5, eI 7, eI 11, eI 13], .call c__law_next [.var 0, eI 6]])) :: []
def gn__law_prime : List Str := ["_law_deck_here"]
def g__law_numbers (c__law_next : Nat) : List RS := (.ret (.nd nTuple [.lc false (.nd (nMul false) [.call c__law_next [.var 0, .var 1], .nd nIntOf [.cmp cGt (.call c__law_next [.var 0, eI 4]) (eI 0)]]) (.nm 3) iRg1 [.var 2] [] [("_law_k", 3)]])) :: []
def gn__law_numbers : List Str := ["_law_deck_here", "_law_p", "_law_many", "_law_k"]
def g__law_row (c__law_numbers : Nat) : List RS := (.ret (.nd nTuple [.lc false (.call c__law_numbers [.var 0, .var 1, eI 2]) (.nm 3) iRg1 [.var 2] [] [("_law_k", 3)]])) :: []
def gn__law_row : List Str := ["_law_deck_here", "_law_p", "_law_posts", "_law_k"]
local macro_rules
  | `(tactic| symm_saturate) => `(tactic| simp only [wipeE, List.map_cons, List.map_nil, wSs, wS, wE, wEs, wAnd, wOr, wT, wAndT, wOrT, wTs, bindT, bindTs, eI, Bool.false_eq_true, Bool.not_true, Bool.not_false, if_true, if_false, tr_bl, tr_int, tr_tup, tr_lst, List.getElem?_cons_zero, List.getElem?_cons_succ, Option.some.injEq, exists_eq_left', exists_eq_left, List.set_cons_zero, List.set_cons_succ, sem_tyInt, sem_tyBool, sem_tyTuple,
      sem_int, sem_str, sem_bl, sem_non, sem_dic0, sem_isi, sem_sub, sem_mod, sem_fdiv, sem_pow, sem_neg, sem_add, sem_addT, sem_mul, sem_mulT, sem_ix, sem_len, sem_tuple, sem_lst, sem_tup, sem_lstO, sem_intI, sem_intB, cs_lt, cs_le, cs_gt, cs_ge, cs_eqI, cs_eqB, cs_eqS, cs_neI, cs_neB, cs_neS, cs_in, cs_isB, cs_isNotB])

/-! ### rows as numbers -/
abbrev Rw := List (Int × Int)
def prD (q : Int × Int) : D := .tup [.int q.1, .int q.2]
def rowD (r : Rw) : D := .tup (r.map prD)
/-- within p -/
def In (p : Int) (r : Rw) : Prop := ∀ q ∈ r, 0 ≤ q.1 ∧ q.1 < p ∧ 0 ≤ q.2 ∧ q.2 < p
theorem seq_row {S : Sto} {r : Rw} : seqS S (rowD r) = some (r.map prD) := rfl
theorem lim20 {n : Nat} (h : n ≤ 100000) : n ≤ sizeLine := Nat.le_trans h (by decide +kernel)
theorem zip_rows (r s : Rw) : zipD (r.map prD) (s.map prD) = (r.zip s).map fun q => D.tup [prD q.1, prD q.2] := by
  unfold zipD
  induction r generalizing s with
  | nil => rfl
  | cons a r ih => cases s with
    | nil => rfl
    | cons b s => simp only [List.map_cons, List.zipWith_cons_cons, List.zip_cons_cons, ih]
theorem it_zip {S : Sto} {d e : D} {xs ys : List D} {k : List D → (Sto → Prop) → Prop} (h1 : seqS S d = some xs) (h2 : seqS S e = some ys) (hb : isTupD d = isTupD e) (hl : xs.length ≤ sizeLine) (q : k (zipD xs ys) (fun S => stayS d xs S ∧ stayS e ys S)) : iZip.sem [d, e] S k :=
  ⟨d, e, xs, ys, rfl, h1, h2, hb, hl, q⟩
theorem do_sum {S : Sto} {Q : PostE} {d : D} {ns : List Int} (h : lstS S d = some (ns.map D.int)) (q : Q (.int ns.sum) S) : nSum.sem [d] S Q := ⟨d, ns, rfl, h, q⟩
theorem do_all {S : Sto} {Q : PostE} {d : D} {bs : List Bool} (h : lstS S d = some (bs.map D.bl)) (q : Q (.bl (bs.all id)) S) : nAll.sem [d] S Q := ⟨d, bs, rfl, h, q⟩
/-- items of one kind -/
theorem map_of {α : Type} {f : α → D} {R : α → Prop} : ∀ {ds : List D}, (∀ d ∈ ds, ∃ a, R a ∧ d = f a) → ∃ as : List α, ds = as.map f ∧ (∀ a ∈ as, R a)
  | [], _ => ⟨[], rfl, by simp⟩
  | d :: ds, h => by
    obtain ⟨a, ra, rfl⟩ := h d (by simp)
    obtain ⟨as, e2, ras⟩ := map_of (f := f) (R := R) (ds := ds) fun e he => h e (by simp [he])
    subst e2
    exact ⟨a :: as, rfl, by simpa using ⟨ra, fun b c => ras b c⟩⟩
theorem all2_len {α β : Type} {P : α → β → Prop} {xs : List α} {ys : List β} (h : All2 P xs ys) : ys.length = xs.length := by
  induction h with
  | nil => rfl
  | cons _ _ ih => simp [ih]
theorem all2_mem {α β : Type} {P : α → β → Prop} {xs : List α} {ys : List β} (h : All2 P xs ys) {R : β → Prop} (i : ∀ x y, P x y → R y) : ∀ y ∈ ys, R y := by
  induction h with
  | nil => simp
  | cons a _ ih =>
    intro y hy
    rcases List.mem_cons.mp hy with rfl | hy
    · exact i _ _ a
    · exact ih y hy

section
variable {T : Nat → Option FDef} {k f : Nat} {S : Sto} {Q : PostE}
theorem nought_at {n : Int} (hT : T f = some ⟨"nought", ["posts"], gn_nought, g_nought, none, 0⟩) (h0 : 0 ≤ n) (h1 : n ≤ 1000) (q : Q (rowD (List.replicate n.toNat (0, 0))) S) : wC T (k + 1) f [.int n] S Q := by
  refine wC_body hT rfl ⟨rfl, ?_⟩
  show wSs _ g_nought _ [some (.int n)] S
  simp only [g_nought]
  symm_saturate
  refine ⟨sz rfl, sz rfl, by omega, by omega, by simp, ?_⟩
  have e : (List.replicate n.toNat [D.tup [.int 0, .int 0]]).flatten = (List.replicate n.toNat ((0 : Int), (0 : Int))).map prD := by
    generalize n.toNat = m
    induction m with
    | zero => rfl
    | succ m ih => simp only [List.replicate_succ, List.flatten_cons, List.map_cons, ih]; rfl
  rw [e]
  exact q
def addR (p : Int) (r s : Rw) : Rw := (r.zip s).map fun q => ((q.1.1 + q.2.1) % p, (q.1.2 + q.2.2) % p)
def mulR (p n : Int) (r : Rw) : Rw := r.map fun q => (n * q.1 % p, n * q.2 % p)
def meetI (r s : Rw) : Int := ((r.zip s).map fun q => q.1.1 * q.2.2 - q.2.1 * q.1.2).sum
theorem added_at {p : Int} {r s : Rw} (hT : T f = some ⟨"added", ["p", "one", "other"], gn_added, g_added, none, 0⟩) (hp : 0 < p) (hl : r.length ≤ 1000) (q : Q (rowD (addR p r s)) S) : wC T (k + 1) f [.int p, rowD r, rowD s] S Q := by
  refine wC_body hT rfl ⟨rfl, ?_⟩
  show wSs _ g_added _ [some (.int p), some (rowD r), some (rowD s), none, none, none, none] S
  simp only [g_added]
  symm_saturate
  refine it_zip (xs := r.map prD) (ys := s.map prD) rfl rfl rfl (by simpa using lim20 (by omega)) ⟨?_, ?_⟩
  · rw [zipD_len]; simpa using lim20 (by omega)
  rw [zip_rows]
  refine lc_m (f := fun q => prD ((q.1.1 + q.2.1) % p, (q.1.2 + q.2.2) % p)) (by exact ⟨rfl, rfl⟩) (fun z _ k hk => ?_) ?_
  · refine ⟨[prD z.1, prD z.2], rfl, rfl, _, _, rfl, ⟨[.int z.1.1, .int z.1.2], rfl, rfl, _, _, rfl, _, _, rfl, _, _, rfl, ⟨[.int z.2.1, .int z.2.2], rfl, rfl, _, _, rfl, _, _, rfl, ?_⟩⟩⟩
    symm_saturate
    exact ⟨hp, hp, sz rfl, hk⟩
  · simp only [newL, Bool.false_eq_true, if_false, List.nil_append]
    symm_saturate
    refine ⟨_, rfl, ?_⟩
    have e : (r.zip s).map (fun q => prD ((q.1.1 + q.2.1) % p, (q.1.2 + q.2.2) % p)) = (addR p r s).map prD := by simp [addR, List.map_map, Function.comp_def]
    rw [e]
    exact q
theorem times_at {p n : Int} {r : Rw} (hT : T f = some ⟨"times", ["p", "number", "row"], gn_times, g_times, none, 0⟩) (hp : 0 < p) (hn : -1000000 ≤ n ∧ n ≤ 1000000) (hl : r.length ≤ 1000) (q : Q (rowD (mulR p n r)) S) : wC T (k + 1) f [.int p, .int n, rowD r] S Q := by
  refine wC_body hT rfl ⟨rfl, ?_⟩
  show wSs _ g_times _ [some (.int p), some (.int n), some (rowD r), none, none] S
  simp only [g_times]
  symm_saturate
  refine it_seq (xs := r.map prD) rfl (by simpa using lim20 (by omega)) ⟨by simpa using lim20 (by omega), ?_⟩
  refine lc_m (f := fun q => prD (n * q.1 % p, n * q.2 % p)) (by exact rfl) (fun z _ k hk => ?_) ?_
  · refine ⟨[.int z.1, .int z.2], rfl, rfl, _, _, rfl, _, _, rfl, ?_⟩
    symm_saturate
    exact ⟨.inl (.inl ⟨by omega, by omega⟩), hp, .inl (.inl ⟨by omega, by omega⟩), hp, sz rfl, hk⟩
  · simp only [newL, Bool.false_eq_true, if_false, List.nil_append]
    symm_saturate
    refine ⟨_, rfl, ?_⟩
    have e : r.map (fun q => prD (n * q.1 % p, n * q.2 % p)) = (mulR p n r).map prD := by simp [mulR, List.map_map, Function.comp_def]
    rw [e]
    exact q
theorem meet_at {p b : Int} {r s : Rw} (hT : T f = some ⟨"meet", ["p", "one", "other"], gn_meet, g_meet, none, 0⟩) (hp : 0 < p) (hb : b ≤ 1000000) (hr : In b r) (hs : In b s) (hl : r.length ≤ 1000) (q : Q (.int (meetI r s % p)) S) : wC T (k + 1) f [.int p, rowD r, rowD s] S Q := by
  refine wC_body hT rfl ⟨rfl, ?_⟩
  show wSs _ g_meet _ [some (.int p), some (rowD r), some (rowD s), none, none, none, none] S
  simp only [g_meet]
  symm_saturate
  refine it_zip (xs := r.map prD) (ys := s.map prD) rfl rfl rfl (by simpa using lim20 (by omega)) ⟨?_, ?_⟩
  · rw [zipD_len]; simpa using lim20 (by omega)
  rw [zip_rows]
  refine lc_m (f := fun q => .int (q.1.1 * q.2.2 - q.2.1 * q.1.2)) (by exact ⟨rfl, rfl⟩) (fun z hz k hk => ?_) ?_
  · obtain ⟨h1, h2⟩ := List.of_mem_zip (a := z.1) (b := z.2) hz
    have z1 := hr _ h1
    have z2 := hs _ h2
    refine ⟨[prD z.1, prD z.2], rfl, rfl, _, _, rfl, ⟨[.int z.1.1, .int z.1.2], rfl, rfl, _, _, rfl, _, _, rfl, _, _, rfl, ⟨[.int z.2.1, .int z.2.2], rfl, rfl, _, _, rfl, _, _, rfl, ?_⟩⟩⟩
    symm_saturate
    exact ⟨.inl (.inl ⟨by omega, by omega⟩), .inl (.inl ⟨by omega, by omega⟩), hk⟩
  · simp only [newL, Bool.false_eq_true, if_false, List.nil_append]
    refine do_sum (ns := (r.zip s).map fun q => q.1.1 * q.2.2 - q.2.1 * q.1.2) ?_ ?_
    · show some _ = some _
      rw [List.map_map]
      rfl
    · symm_saturate
      exact ⟨hp, q⟩
def partR (r : Rw) (ks : List Nat) : Rw := ks.map fun k => r.getD k (0, 0)
theorem part_at {r : Rw} {ks : List Nat} (hT : T f = some ⟨"part", ["row", "posts"], gn_part, g_part, none, 0⟩) (hk : ∀ k ∈ ks, k < r.length) (hl : ks.length ≤ 1000) (q : Q (rowD (partR r ks)) S) : wC T (k + 1) f [rowD r, .tup (ks.map fun k => .int (k : Nat))] S Q := by
  refine wC_body hT rfl ⟨rfl, ?_⟩
  show wSs _ g_part _ [some (rowD r), some (.tup (ks.map fun k => .int (k : Nat))), none] S
  simp only [g_part]
  symm_saturate
  refine it_seq (xs := ks.map fun k => D.int (k : Nat)) rfl (by simpa using lim20 (by omega)) ⟨by simpa using lim20 (by omega), ?_⟩
  refine lc_m (f := fun k => prD (r.getD k (0, 0))) (by exact rfl) (fun z hz k' hk' => ?_) ?_
  · symm_saturate
    have hlt := hk z hz
    refine ⟨_, prD (r.getD z (0, 0)), rfl, atI_nat (k := z) ?_, hk'⟩
    rw [List.getElem?_map, List.getElem?_eq_getElem hlt, List.getD_eq_getElem?_getD, List.getElem?_eq_getElem hlt]
    rfl
  · simp only [newL, Bool.false_eq_true, if_false, List.nil_append]
    symm_saturate
    refine ⟨_, rfl, ?_⟩
    have e : ks.map (fun k => prD (r.getD k (0, 0))) = (partR r ks).map prD := by simp [partR, List.map_map, Function.comp_def]
    rw [e]
    exact q
def isPr (p : Int) : Prop := p = 2 ∨ p = 3 ∨ p = 5 ∨ p = 7 ∨ p = 11 ∨ p = 13
theorem isPr_b {p : Int} (h : isPr p) : 2 ≤ p ∧ p ≤ 13 := by unfold isPr at h; omega
theorem prime_at {c : Nat} {a : Addr} (hT : T f = some ⟨"_law_prime", ["_law_deck_here"], gn__law_prime, g__law_prime c, none, 0⟩) (hc : T c = some fdNext) (hd : S.dk = some a) (q : ∀ p, isPr p → Q (.int p) S) : wC T (k + 2) f [.loc a] S Q := by
  refine wC_body hT rfl ⟨rfl, ?_⟩
  show wSs _ (g__law_prime c) _ [some (.loc a)] S
  simp only [g__law_prime]
  symm_saturate
  refine ⟨sz rfl, next_sm hc hd (by omega) (by omega) fun i i0 i1 => ?_⟩
  symm_saturate
  have : i = 0 ∨ i = 1 ∨ i = 2 ∨ i = 3 ∨ i = 4 ∨ i = 5 := by omega
  rcases this with rfl | rfl | rfl | rfl | rfl | rfl
  · exact ⟨_, _, rfl, rfl, q 2 (by unfold isPr; omega)⟩
  · exact ⟨_, _, rfl, rfl, q 3 (by unfold isPr; omega)⟩
  · exact ⟨_, _, rfl, rfl, q 5 (by unfold isPr; omega)⟩
  · exact ⟨_, _, rfl, rfl, q 7 (by unfold isPr; omega)⟩
  · exact ⟨_, _, rfl, rfl, q 11 (by unfold isPr; omega)⟩
  · exact ⟨_, _, rfl, rfl, q 13 (by unfold isPr; omega)⟩
theorem numbers_at {c : Nat} {a : Addr} {p n : Int} (hT : T f = some ⟨"_law_numbers", ["_law_deck_here", "_law_p", "_law_many"], gn__law_numbers, g__law_numbers c, none, 0⟩) (hc : T c = some fdNext) (hd : S.dk = some a) (p0 : 0 < p) (p1 : p ≤ 1000000) (h0 : 0 ≤ n) (h1 : n ≤ 1000)
    (q : ∀ ns : List Int, ns.length = n.toNat → (∀ x ∈ ns, 0 ≤ x ∧ x < p) → Q (.tup (ns.map D.int)) S) : wC T (k + 2) f [.loc a, .int p, .int n] S Q := by
  refine wC_body hT rfl ⟨rfl, ?_⟩
  show wSs _ (g__law_numbers c) _ [some (.loc a), some (.int p), some (.int n), none] S
  simp only [g__law_numbers]
  symm_saturate
  refine it_rg1 (rg62 (by omega) (by omega)) ⟨by rw [rgD_len]; exact lim20 (by omega), ?_⟩
  refine lc_rel (P := fun _ d => ∃ x, (0 ≤ x ∧ x < p) ∧ d = D.int x) (by exact trivial) (fun z hz k' hk' => ?_) fun ds all => ?_
  · refine next_sm hc hd p0 (by omega) fun x x0 x1 => ?_
    refine next_sm hc hd (by omega) (by omega) fun y y0 y1 => ?_
    symm_saturate
    refine ⟨.inl (.inl ⟨by omega, by omega⟩), hk' _ ⟨_, ?_, rfl⟩⟩
    by_cases c : 0 < y
    · simp [c]; omega
    · simp [c]; omega
  · obtain ⟨ns, rfl, hns⟩ := map_of (all2_mem all fun _ _ h => h)
    have hl := all2_len all
    simp only [newL, Bool.false_eq_true, if_false, List.nil_append]
    symm_saturate
    refine ⟨_, rfl, q ns ?_ hns⟩
    rw [List.length_map, rgD_len] at hl
    omega
theorem row_at {c c' : Nat} {a : Addr} {p n : Int} (hT : T f = some ⟨"_law_row", ["_law_deck_here", "_law_p", "_law_posts"], gn__law_row, g__law_row c, none, 0⟩) (hT' : T c = some ⟨"_law_numbers", ["_law_deck_here", "_law_p", "_law_many"], gn__law_numbers, g__law_numbers c', none, 0⟩) (hc : T c' = some fdNext)
    (hd : S.dk = some a) (p0 : 0 < p) (p1 : p ≤ 1000000) (h0 : 0 ≤ n) (h1 : n ≤ 1000) (q : ∀ r : Rw, r.length = n.toNat → In p r → Q (rowD r) S) : wC T (k + 3) f [.loc a, .int p, .int n] S Q := by
  refine wC_body hT rfl ⟨rfl, ?_⟩
  show wSs _ (g__law_row c) _ [some (.loc a), some (.int p), some (.int n), none] S
  simp only [g__law_row]
  symm_saturate
  refine it_rg1 (rg62 (by omega) (by omega)) ⟨by rw [rgD_len]; exact lim20 (by omega), ?_⟩
  refine lc_rel (P := fun _ d => ∃ x : Int × Int, (0 ≤ x.1 ∧ x.1 < p ∧ 0 ≤ x.2 ∧ x.2 < p) ∧ d = prD x) (by exact trivial) (fun z hz k' hk' => ?_) fun ds all => ?_
  · refine numbers_at hT' hc hd p0 p1 (by omega) (by omega) fun ns hn hx => ?_
    match ns, hn, hx with
    | [x, y], _, hx =>
      have a1 := hx x (by simp)
      have a2 := hx y (by simp)
      exact hk' _ ⟨(x, y), ⟨a1.1, a1.2, a2.1, a2.2⟩, rfl⟩
  · obtain ⟨ns, rfl, hns⟩ := map_of (all2_mem all fun _ _ h => h)
    have hl := all2_len all
    simp only [newL, Bool.false_eq_true, if_false, List.nil_append]
    symm_saturate
    refine ⟨_, rfl, q ns ?_ hns⟩
    rw [List.length_map, rgD_len] at hl
    omega
end
/-! ### rows as plain data -/
theorem nc_small {x p : Int} (h0 : 0 ≤ x) (h1 : x < p) (hp : p ≤ 1000000) : Nc 0 0 (.int x) := .int (by
  have : x.natAbs < 1000000 := by omega
  exact Nat.lt_trans this (by decide +kernel))
theorem nc_pr {x y p : Int} (h0 : 0 ≤ x) (h1 : x < p) (h2 : 0 ≤ y) (h3 : y < p) (hp : p ≤ 1000000) : Nc 2 1 (prD (x, y)) := by
  refine (Nc.tup (c := 0) (h := 0) (xs := [.int x, .int y]) fun z hz => ?_).mono (by simp) (by omega)
  simp only [List.mem_cons, List.not_mem_nil, or_false] at hz
  rcases hz with rfl | rfl
  · exact nc_small h0 h1 hp
  · exact nc_small h2 h3 hp
theorem nc_row {r : Rw} {p : Int} (h : In p r) (hp : p ≤ 1000000) (hl : r.length ≤ 1000) : Nc 3000 2 (rowD r) := by
  refine (Nc.tup (c := 2) (h := 1) (xs := r.map prD) fun z hz => ?_).mono (by simp; omega) (by omega)
  obtain ⟨q, hq, rfl⟩ := List.mem_map.mp hz
  obtain ⟨a, b, c, d⟩ := h q hq
  exact nc_pr a b c d hp
theorem addR_in {p : Int} {r s : Rw} (hp : 0 < p) : In p (addR p r s) := fun q hq => by
  obtain ⟨z, _, rfl⟩ := List.mem_map.mp hq
  exact ⟨Int.emod_nonneg _ (by omega), Int.emod_lt_of_pos _ hp, Int.emod_nonneg _ (by omega), Int.emod_lt_of_pos _ hp⟩
theorem mulR_in {p n : Int} {r : Rw} (hp : 0 < p) : In p (mulR p n r) := fun q hq => by
  obtain ⟨z, _, rfl⟩ := List.mem_map.mp hq
  exact ⟨Int.emod_nonneg _ (by omega), Int.emod_lt_of_pos _ hp, Int.emod_nonneg _ (by omega), Int.emod_lt_of_pos _ hp⟩
theorem nought_in {p : Int} {n : Nat} (hp : 0 < p) : In p (List.replicate n (0, 0)) := fun q hq => by
  rw [List.eq_of_mem_replicate hq]
  exact ⟨by omega, hp, by omega, hp⟩
theorem addR_len {p : Int} {r s : Rw} : (addR p r s).length = min r.length s.length := by simp [addR]
theorem mulR_len {p n : Int} {r : Rw} : (mulR p n r).length = r.length := by simp [mulR]
theorem partR_in {p : Int} {r : Rw} {ks : List Nat} (h : In p r) (hk : ∀ k ∈ ks, k < r.length) : In p (partR r ks) := fun q hq => by
  obtain ⟨z, hz, rfl⟩ := List.mem_map.mp hq
  have := hk z hz
  refine h _ ?_
  rw [List.getD_eq_getElem?_getD, List.getElem?_eq_getElem this]
  exact List.getElem_mem this
end FP

/-! FP, part R: repr of all data, dicts within; == with an empty tuple. -/
namespace FP
open PySem PySem.Spec L2

def kP : Key → PyData
  | .inl i => .int i
  | .inr x => .str x
mutual
/-- data as repr shows it -/
def xD : D → Option PyData
  | .non => some .none
  | .bl b => some (.bool b)
  | .int i => some (.int i)
  | .str s => some (.str s)
  | .tup xs => (xL xs).map .tuple
  | .lst xs => (xL xs).map .list
  | .dic ks ds => (xL ds).map fun vs => .dict ((ks.map kP).zip vs)
  | _ => none
def xL : List D → Option (List PyData)
  | [] => some []
  | x :: xs => match xD x, xL xs with
    | some a, some b => some (a :: b)
    | _, _ => none
end
def xS (S : Sto) : D → Option PyData
  | .loc a => match S.m a with
    | some (.lst xs) => (xL xs).map .list
    | _ => none
  | d => xD d
section
variable {X : Cx} {pins : List (Addr × Obj)} {σ : St} {H Hd : Hp} {s : Shared}
theorem not_sys {a : Addr} {its : Array Value} (I : Inv X pins σ H s) (sm : SysD X.K) (h : PlainL s.heap a its) : a ≠ sysModules := by
  rintro rfl
  obtain ⟨o, es, n, lk, hd⟩ := sm
  obtain ⟨o2, m, e, _, _, hd2⟩ := h
  have := I.kIn _ _ lk
  rw [e] at this
  cases this
  rw [hd] at hd2
  cases hd2
theorem keys_read {P : Program} {w : World} {h : Heap} : ∀ {es : List DictEntry} {rs : List (Key × Value)}, Pairs (mixKind P w) es rs → ReadsAll h (es.map (·.key)) (rs.map fun p => kP p.1) []
  | [], _, p => by cases p; exact .nil
  | e :: es, _, p => by
    cases p with
    | @cons _ kv _ kvs h1 h2 hr =>
      have r := keys_read (h := h) hr
      have e1 : Reads h e.key (kP kv.1) [] := by
        have h1' : keyIs kv.1 e.key = true := h1
        rcases keyIs_shape h1' with ⟨i, t, ek, ev⟩ | ⟨x, t, ek, ev⟩
        · rw [ek, ev]; exact Reads.int i t
        · rw [ek, ev]; exact Reads.str x t
      exact ReadsAll.cons (as := []) (bs := []) e1 r
theorem zip_fst {α β : Type} : ∀ {as : List α} {bs : List β}, as.length = bs.length → (as.zip bs).map (·.1) = as ∧ (as.zip bs).map (·.2) = bs
  | [], [], _ => ⟨rfl, rfl⟩
  | [], _ :: _, h => by simp at h
  | _ :: _, [], h => by simp at h
  | a :: as, b :: bs, h => by
    obtain ⟨x, y⟩ := zip_fst (as := as) (bs := bs) (by simpa using h)
    simp [x, y]
theorem kv_vals : ∀ {kvs : List (Key × V)} {rs : List (Key × Value)}, KV kvs rs → Vals (kvs.map (·.2)) (rs.map (·.2)) ∧ kvs.map (·.1) = rs.map (·.1)
  | [], _, h => by cases h; exact ⟨.nil, rfl⟩
  | p :: kvs, _, h => by
    cases h with
    | cons a b =>
      obtain ⟨x, y⟩ := kv_vals b
      exact ⟨.cons a.2 x, by simp only [List.map_cons, y, a.1]⟩
theorem pair_vals {P : Program} {w : World} : ∀ {es : List DictEntry} {rs : List (Key × Value)}, Pairs (mixKind P w) es rs → es.map (·.val) = rs.map (·.2)
  | [], _, p => by cases p; rfl
  | e :: es, _, p => by
    cases p with
    | cons h1 h2 hr => simp only [List.map_cons, pair_vals hr, h2]
theorem xL_len : ∀ {ds : List D} {ps : List PyData}, xL ds = some ps → ps.length = ds.length
  | [], _, h => by simp only [xL] at h; cases h; rfl
  | d :: ds, _, h => by
    simp only [xL] at h
    split at h
    · rename_i a b q1 q2
      cases h
      simp [xL_len q2]
    · cases h
mutual
theorem x_reads (I : Inv X pins σ H s) (sm : SysD X.K) (le : Le Hd H) : ∀ {d : D} {v : V} {u : Value} {p : PyData}, Rep X.K Hd d v → RelV v u → xD d = some p → ∃ as, Reads s.heap u p as ∧ sysModules ∉ as
  | .non, _, _, _, r, rv, e => by simp only [Rep] at r; subst r; simp only [xD] at e; cases e; cases rv; exact ⟨_, .none, by simp⟩
  | .bl b, _, _, _, r, rv, e => by simp only [Rep] at r; subst r; simp only [xD] at e; cases e; cases rv; exact ⟨_, .bool b, by simp⟩
  | .int i, _, _, _, r, rv, e => by simp only [Rep] at r; subst r; simp only [xD] at e; cases e; obtain ⟨t, rfl⟩ := rv; exact ⟨_, .int i t, by simp⟩
  | .str x, _, _, _, r, rv, e => by simp only [Rep] at r; subst r; simp only [xD] at e; cases e; obtain ⟨t, rfl⟩ := rv; exact ⟨_, .str x t, by simp⟩
  | .ty _, _, _, _, _, _, e => by simp [xD] at e
  | .loc _, _, _, _, _, _, e => by simp [xD] at e
  | .obj _ _ _, _, _, _, _, _, e => by simp [xD] at e
  | .scr _, _, _, _, _, _, e => by simp [xD] at e
  | .tup xs, _, _, _, r, rv, e => by
    simp only [Rep] at r
    obtain ⟨a, vs, rfl, st, rl⟩ := r
    simp only [xD] at e
    cases q : xL xs with
    | none => rw [q] at e; cases e
    | some ps =>
      rw [q] at e
      cases e
      cases rv
      obtain ⟨its, rel, ⟨o, ho, hc, n, hd⟩, _⟩ := I.tuple (le.sqT st)
      obtain ⟨as, ra, na⟩ := x_readsL I sm le rl rel q
      exact ⟨_, .tuple ho hc hd ra, na⟩
  | .lst xs, _, _, _, r, rv, e => by
    simp only [Rep] at r
    obtain ⟨a, vs, rfl, st, rl⟩ := r
    simp only [xD] at e
    cases q : xL xs with
    | none => rw [q] at e; cases e
    | some ps =>
      rw [q] at e
      cases e
      cases rv
      obtain ⟨its, rel, pl, _⟩ := I.list (.inl (le.rd st))
      have ns := not_sys I sm pl
      obtain ⟨o, n, ho, hc, _, hd⟩ := pl
      obtain ⟨as, ra, na⟩ := x_readsL I sm le rl rel q
      exact ⟨_, .list ho hc hd ra, by simp only [List.mem_cons, not_or]; exact ⟨Ne.symm ns, na⟩⟩
  | .dic ks ds, _, _, _, r, rv, e => by
    simp only [Rep] at r
    obtain ⟨a, kvs, rfl, st, hk, rl⟩ := r
    simp only [xD] at e
    cases q : xL ds with
    | none => rw [q] at e; cases e
    | some ps =>
      rw [q] at e
      cases e
      cases rv
      obtain ⟨_, ns, rs, kv, o, es, ep, ho, ex, hd, _, pr, _⟩ := dk_of I.hok (le _ _ st)
      obtain ⟨rel, ek⟩ := kv_vals kv
      have rk := keys_read (h := s.heap) pr
      have rel' : Vals (kvs.map (·.2)) (es.toList.map (·.val)) := by rw [pair_vals pr]; exact rel
      obtain ⟨as, ra, na⟩ := x_readsL I sm le rl rel' q
      have hl : (ks.map kP).length = ps.length := by
        rw [List.length_map, ← hk, List.length_map, xL_len q, ← rl.length, List.length_map]
      obtain ⟨z1, z2⟩ := zip_fst hl
      refine ⟨a :: [] ++ as, .dict (kvs := (ks.map kP).zip ps) ho ex.1 hd ?_ ?_, ?_⟩
      · rw [z1, ← hk, ek, List.map_map]; exact rk
      · rw [z2]; exact ra
      · simp only [List.cons_append, List.nil_append, List.mem_cons, not_or]
        exact ⟨fun z => by rw [← z] at ns; simp at ns, na⟩
theorem x_readsL (I : Inv X pins σ H s) (sm : SysD X.K) (le : Le Hd H) : ∀ {ds : List D} {vs : List V} {us : List Value} {ps : List PyData}, RepL X.K Hd ds vs → Vals vs us → xL ds = some ps → ∃ as, ReadsAll s.heap us ps as ∧ sysModules ∉ as
  | [], _, _, _, r, rv, e => by simp only [RepL] at r; subst r; cases rv; simp only [xL] at e; cases e; exact ⟨_, .nil, by simp⟩
  | d :: ds, _, _, _, r, rv, e => by
    simp only [RepL] at r
    obtain ⟨v, vr, rfl, ra, rb⟩ := r
    cases rv with
    | cons r1 r2 =>
      simp only [xL] at e
      split at e
      · rename_i a b q1 q2
        cases e
        obtain ⟨as, h1, n1⟩ := x_reads I sm le ra r1 q1
        obtain ⟨bs, h2, n2⟩ := x_readsL I sm le rb r2 q2
        exact ⟨_, .cons h1 h2, by simp only [List.mem_append, not_or]; exact ⟨n1, n2⟩⟩
      · cases e
end
end
/-- repr of anything that is shown -/
theorem call_reprX {X : Cx} (A : Amb X) : CallR X (.builtin "repr") (fun xs H Q => vSem X.K (fun ds S Q => ∃ d p, ds = [d] ∧ xS S d = some p ∧ reprOk p ∧ Q (.str p.shown) S) 0 xs H Q) := by
  intro pins s σ H xs us Q I r h
  obtain ⟨pv, ds, S, Hd, M, Qd, rl, sr, hc, w, fin⟩ := h
  obtain ⟨d, p, rfl, hp, ok, w⟩ := w
  obtain ⟨v, rfl, rd⟩ := rl.one
  obtain ⟨u, rfl, ru⟩ := vals1 r
  have f := fin_val fin sr (d := .str p.shown) (v := .str p.shown) (by simp only [Rep]) w
  have box : (∃ a as, u = .ref a ∧ Reads s.heap u p as ∧ sysModules ∉ as) → wpAny (model X.prog X.w) X.A (call (.builtin "repr") [u]) (EP X pins σ Q) X.xe s := by
    rintro ⟨a, as, rfl, rs, na⟩
    refine repr_of_reads' rs ok.1 (fun _ => na) A.gd (by have := A.un; have := ok.2.1; omega) (fun b o e => e) (fun h' t tk hk => ⟨.str p.shown, H, I.kept hk, ⟨t, rfl⟩, f⟩) ok.2.2
  have plain : xD d = some p → wpAny (model X.prog X.w) X.A (call (.builtin "repr") [u]) (EP X pins σ Q) X.xe s := fun hx => by
    cases d with
    | non =>
      simp only [Rep] at rd; subst rd; simp only [xD] at hx; cases hx; cases ru
      exact PySem.P.repr_of_none ⟨.str _, H, I.tok _, ⟨_, rfl⟩, by simpa only [PyData.shown_none] using f⟩
    | bl b =>
      simp only [Rep] at rd; subst rd; simp only [xD] at hx; cases hx; cases ru
      refine PySem.P.repr_of_bool ⟨.str _, H, I.tok _, ⟨_, rfl⟩, ?_⟩
      have := f
      rw [PyData.shown_bool] at this
      exact this
    | int i =>
      simp only [Rep] at rd; subst rd; simp only [xD] at hx; cases hx; obtain ⟨t, rfl⟩ := ru
      have h1 := ok.1
      simp only [PyData.showable, decide_eq_true_eq] at h1
      refine PySem.P.repr_of_int h1 ⟨.str _, H, I.tok _, ⟨_, rfl⟩, ?_⟩
      have := f
      rw [PyData.shown_int] at this
      exact this
    | str x =>
      simp only [Rep] at rd; subst rd; simp only [xD] at hx; cases hx; obtain ⟨t, rfl⟩ := ru
      have h2 := ok.2.2
      rw [PyData.shown_str] at h2 f
      exact PySem.P.repr_of_str ⟨.str _, H, I.tok _, ⟨_, rfl⟩, f⟩ h2
    | tup xs =>
      obtain ⟨as, rs, na⟩ := x_reads I A.sm sr.sub rd ru hx
      simp only [Rep] at rd; obtain ⟨a, vs, rfl, _⟩ := rd; cases ru
      exact box ⟨a, as, rfl, rs, na⟩
    | lst xs =>
      obtain ⟨as, rs, na⟩ := x_reads I A.sm sr.sub rd ru hx
      simp only [Rep] at rd; obtain ⟨a, vs, rfl, _⟩ := rd; cases ru
      exact box ⟨a, as, rfl, rs, na⟩
    | dic ks es =>
      obtain ⟨as, rs, na⟩ := x_reads I A.sm sr.sub rd ru hx
      simp only [Rep] at rd; obtain ⟨a, vs, rfl, _⟩ := rd; cases ru
      exact box ⟨a, as, rfl, rs, na⟩
    | _ => simp [xD] at hx
  unfold xS at hp
  split at hp
  · rename_i a
    split at hp
    · rename_i xs hm
      cases q : xL xs with
      | none => rw [q] at hp; cases hp
      | some ps =>
        rw [q] at hp
        cases hp
        simp only [Rep] at rd; subst rd; cases ru
        obtain ⟨_, ho, e2, vs, rfl, rl'⟩ := sr.sto _ _ hm
        obtain ⟨its, rel, pl, _⟩ := I.list (.inl (.of e2))
        have ns := not_sys I A.sm pl
        obtain ⟨o, n, ho, hc, _, hd⟩ := pl
        obtain ⟨as, ra, na⟩ := x_readsL I A.sm sr.sub rl' rel q
        exact box ⟨a, a :: as, rfl, .list ho hc hd ra, by simp only [List.mem_cons, not_or]; exact ⟨Ne.symm ns, na⟩⟩
    · cases hp
  · exact plain hp
def nReprX : Node := nB "repr" "repr" 1 (by decide +kernel) (by decide +kernel) (by decide +kernel) (fun ds S Q => ∃ d p, ds = [d] ∧ xS S d = some p ∧ reprOk p ∧ Q (.str p.shown) S) fun X A => call_reprX A

/-- == and != with an empty tuple -/
def csT0 (neg : Bool) (d e : D) (_ : Sto) : Option Bool := match d, e with
  | .tup xs, .tup [] => some (xor neg xs.isEmpty)
  | _, _ => none
theorem empty_right {α : Type} {n : Nat} {e : Nat → Bool} {xs : List α} (h : n = xs.length) : ((List.range (min n 0)).all e && n == 0) = xs.isEmpty := by
  subst h
  cases xs <;> simp
theorem t0_of {X : Cx} {pins : List (Addr × Obj)} {σ : St} {H Hd : Hp} {s : Shared} {xs : List D} {x : V} {v : Value} (I : Inv X pins σ H s) (le : Le Hd H) (r : Rep X.K Hd (.tup xs) x) (rv : RelV x v) : ∃ a its, v = .ref a ∧ s.heap.IsTuple a its ∧ its.size = xs.length := by
  simp only [Rep] at r
  obtain ⟨a, vs, rfl, st, rl⟩ := r
  cases rv
  obtain ⟨its, rel, at_a, _⟩ := I.tuple (le.sqT st)
  exact ⟨a, its.toArray, rfl, at_a, by rw [List.size_toArray, ← rel.length, rl.length]⟩
theorem csT0_inv {neg b : Bool} {d e : D} {S : Sto} (h : csT0 neg d e S = some b) : ∃ xs, d = .tup xs ∧ e = .tup [] ∧ b = xor neg xs.isEmpty := by
  unfold csT0 at h
  split at h
  · rename_i xs
    cases h
    exact ⟨xs, rfl, rfl, rfl⟩
  · cases h
def cEqT0 : CNode := ⟨.Eq, csT0 false, fun X A pins s σ H x y v u Q I rx ry q => by
  obtain ⟨pv, d, e, S, Hd, M, b, r1, r2, sr, hb, q⟩ := q
  obtain ⟨xs, rfl, rfl, rfl⟩ := csT0_inv hb
  obtain ⟨a1, i1, rfl, t1, l1⟩ := t0_of I sr.sub r1 rx
  obtain ⟨a2, i2, rfl, t2, l2⟩ := t0_of I sr.sub r2 ry
  have z : i2.size = 0 := by simpa using l2
  refine PySem.SeqAt.eq_tupleAt (e := fun _ => true) t1 t2 (by have := A.un; omega) (fun j _ h2 => by omega) ⟨.bl _, H, I, rfl, ?_⟩
  rw [z, empty_right l1]
  simpa using q⟩
def cNeT0 : CNode := ⟨.NotEq, csT0 true, fun X A pins s σ H x y v u Q I rx ry q => by
  obtain ⟨pv, d, e, S, Hd, M, b, r1, r2, sr, hb, q⟩ := q
  obtain ⟨xs, rfl, rfl, rfl⟩ := csT0_inv hb
  obtain ⟨a1, i1, rfl, t1, l1⟩ := t0_of I sr.sub r1 rx
  obtain ⟨a2, i2, rfl, t2, l2⟩ := t0_of I sr.sub r2 ry
  have z : i2.size = 0 := by simpa using l2
  refine PySem.SeqAt.RcNeAt.tuples (e := fun _ => true) t1 t2 (by have := A.un; omega) (fun j _ h2 => by omega) _ _ _ _ ⟨.bl _, H, I, rfl, ?_⟩
  rw [z, empty_right l1]
  simpa using q⟩
end FP

/-! FP, part S: slices with steps. -/
namespace FP
open PySem PySem.Spec L2

/-! ### tuple[::-1] -/
section
variable {prog : Program} {w : World} {A : Around} {E : Value → Shared → Prop} {s : Shared}
theorem adj_back (n : Nat) : Builtin.Slice.sliceAdjust none none (-1) (n : Int) = ((n : Int) - 1, -1) := by
  unfold Builtin.Slice.sliceAdjust
  have h1 : ((-1 : Int) < 0) := by omega
  simp only [h1, if_true]
theorem plc_back (n : Nat) : Builtin.Slice.slicePlaces ((n : Int) - 1) (-1) (-1) = n := by
  unfold Builtin.Slice.slicePlaces
  have h1 : ¬ ((-1 : Int) > 0) := by omega
  simp only [h1, if_false, Int.neg_neg, Int.ediv_one]
  split <;> omega
theorem app_back {sl : Addr} {vs : Value} {n : Nat} {Q : Int × Int × Nat → Shared → Prop} (hs : s.heap.IsSliceOf sl .none .none vs) (ps : IsPart vs (some (-1))) (h : Q ((n : Int) - 1, -1, n) s) :
    wpAny (model prog w) A (Builtin.Slice.sliceApplied (.ref sl) (pure (n : Int))) Q E s := by
  obtain ⟨ob, at_sl, _, parts⟩ := id hs
  cases ps with
  | int _ tk =>
    unfold Builtin.Slice.sliceApplied Builtin.Slice.sliceFields
    refine wpAny_bind (wpAny_bind (wpAny_field at_sl parts (x := .none) rfl (wpAny_bind (wpAny_field at_sl parts (x := .none) rfl (wpAny_bind (wpAny_field at_sl parts (x := .int (-1) tk) rfl (wpAny_pure ?_)))))))
    refine wpAny_bind (HT.slicePart_ (.int (-1) tk) ?_)
    show wpAny _ _ (if ((-1 : Int) == 0) = true then _ else _) _ _ s
    rw [if_neg (by decide)]
    refine wpAny_bind (HT.slicePart_ .none (wpAny_bind (HT.slicePart_ .none (wpAny_bind (wpAny_pure ?_)))))
    show wpAny _ _ (match Builtin.Slice.sliceAdjust none none (-1) (n : Int) with | (lo, hi) => pure (lo, (-1 : Int), Builtin.Slice.slicePlaces lo hi (-1))) _ _ s
    rw [adj_back n]
    show wpAny _ _ (pure ((n : Int) - 1, (-1 : Int), Builtin.Slice.slicePlaces ((n : Int) - 1) (-1) (-1))) _ _ s
    rw [plc_back]
    exact wpAny_pure h
theorem fm_congr {α β : Type} {f g : α → Option β} : ∀ {xs : List α}, (∀ x ∈ xs, f x = g x) → xs.filterMap f = xs.filterMap g
  | [], _ => rfl
  | x :: xs, h => by rw [List.filterMap_cons, List.filterMap_cons, h x (by simp), fm_congr fun y hy => h y (by simp [hy])]
theorem pick_back (xs : Array Value) : ((List.range xs.size).filterMap fun (m : Nat) => xs[(((xs.size : Nat) : Int) - 1 + (m : Int) * (-1)).toNat]?).toArray = xs.toList.reverse.toArray := by
  congr 1
  apply List.ext_getElem?
  intro i
  have e : ∀ m : Nat, m < xs.size → xs[(((xs.size : Nat) : Int) - 1 + (m : Int) * (-1)).toNat]? = some (xs[xs.size - 1 - m]?.getD .none) := fun m hm => by
    rw [show (((xs.size : Nat) : Int) - 1 + (m : Int) * (-1)).toNat = xs.size - 1 - m by omega]
    have : xs.size - 1 - m < xs.size := by omega
    simp [this]
  have e2 : (List.range xs.size).filterMap (fun (m : Nat) => xs[(((xs.size : Nat) : Int) - 1 + (m : Int) * (-1)).toNat]?) = (List.range xs.size).map fun m => xs[xs.size - 1 - m]?.getD .none := by
    rw [← filterMap_some]
    exact fm_congr fun m hm => e m (List.mem_range.mp hm)
  rw [e2]
  by_cases hi : i < xs.size
  · have h2 : xs.size - 1 - i < xs.size := by omega
    rw [List.getElem?_map, List.getElem?_range hi, List.getElem?_reverse (by simpa using hi)]
    simp [h2]
  · rw [List.getElem?_eq_none (by simp; omega), List.getElem?_eq_none (by simp; omega)]
theorem getItem_back {t sl : Addr} {its : Array Value} {vs : Value} {Q : Value → Shared → Prop} (ht : PyProof.Rows.IsTup s.heap t its) (hs : s.heap.IsSliceOf sl .none .none vs) (ps : IsPart vs (some (-1)))
    (h : Q (.ref s.heap.objs.size) { s with heap := s.heap.push { cls := .type "tuple", data := .seq its.toList.reverse.toArray } }) (few : its.size ≤ sizeLine) : wpAny (model prog w) A (getItem (.ref t) (.ref sl)) Q E s := by
  have okSize : sizeOk (.seq its.toList.reverse.toArray) := by
    show its.toList.reverse.toArray.size ≤ sizeLine
    simpa using few
  obtain ⟨ob, at_sl, isS, parts⟩ := id hs
  have ty : s.TypeIs (.ref sl) "slice" := ⟨ob, at_sl, isS⟩
  unfold getItem
  try with_reducible refine wpAny_holding ?_
  first | refine wpAny_bind (wpAny_pure ?_) | skip
  refine wpAny_bind (wpAny_sequenceKey ht.typeIs (by decide) (wpAny_bind (wpAny_callSpecial?_slot (name := Str.ofString "__getitem__") ht.typeIs PyProof.Rows.slot_tuple_getitem
    (wpAny_call_entry PyProof.Rows.slot_tuple_getitem ht.typeIs PyProof.Rows.entry_tuple_getitem ?_ (PyProof.Rows.args_tuple_getitem _ _)))))
  show wpAny _ _ (Builtin.Tuple.tupleItemsOf (.ref t) >>= _) _ _ s
  refine wpAny_bind (PyProof.Rows.tupleItemsOf_ ht (wpAny_bind (wpAny_typeOf ty ?_)))
  rw [if_pos (by decide)]
  refine wpAny_bind (app_back hs ps ?_)
  have no : ¬ (((((its.size : Nat) : Int) - 1) == 0 && (-1 : Int) == 1 && its.size == its.size) = true) := by simp
  show wpAny _ _ (if ((((its.size : Nat) : Int) - 1) == 0 && (-1 : Int) == 1 && its.size == its.size) = true then _ else _) _ _ s
  rw [if_neg no, pick_back]
  first
    | exact wpAny_bind (m := Builtin.Tuple.tupleExact _) (wpAny_newObj_type (wpAny_pure ⟨_, rfl, wpAny_pure h⟩) okSize)
    | exact wpAny_bind (m := Builtin.Tuple.tupleExact _) (wpAny_newObj_type (wpAny_bind (wpAny_pure (wpAny_pure ⟨_, rfl, wpAny_pure h⟩))) okSize)
    | exact wpAny_bind (wpAny_bind (m := Builtin.Tuple.tupleExact _) (wpAny_newObj_type (wpAny_pure (wpAny_pure ⟨_, rfl, wpAny_pure h⟩)) okSize))
    | exact wpAny_bind (wpAny_bind (m := Builtin.Tuple.tupleExact _) (wpAny_newObj_type (wpAny_pure ⟨_, rfl, wpAny_pure h⟩) okSize))
end
/-- xs[::c], both ends left out; what c is is looked at when it has come -/
theorem pe_stepAll {X : Cx} {e c : Expr} {te tc : TE} {p3 pos : Pos} {r : V → Int → Hp → VK → Prop} (he : PE X e te) (hc : PE X c tc)
    (hr : ∀ (pins : List (Addr × Obj)) (s : Shared) (σ : St) (H : Hp) (x : V) (v vs : Value) (i : Int) (sl : Addr) (Q : VK), Inv X pins σ H s → RelV x v → s.heap.IsSliceOf sl .none .none vs → IsPart vs (some i) → r x i H Q →
      ∃ T id, typeLookup (.type T) "__getitem__" = pure (some (.builtin id)) ∧ s.TypeIs v T ∧ wpAny (model X.prog X.w) X.A (getItem v (.ref sl)) (EP X pins σ Q) X.xe s) :
    PE X (.Subscript e (.Slice none none (some c) p3) pos) (fun σ H Q => te σ H fun x H1 => tc σ H1 fun y H2 => ∃ i, y = .int i ∧ r x i H2 Q) := by
  constructor
  intro pins st σ T Q I wish
  refine PyProof.Rows.Subscript_ (thn (he.run pins st σ T _ I wish) ?_)
  rintro v st1 ⟨x, T1, I1, rv, wish⟩
  refine wpAny_Slice ?_
  rw [evalPart_none]
  refine wpAny_pure (wpAny_pure ?_)
  rw [evalPart_some]
  refine thn (hc.run pins st1 σ T1 _ I1 wish) ?_
  rintro u st2 ⟨y, T2, I2, ru, i, rfl, wish⟩
  obtain ⟨tk, rfl⟩ := ru
  have I3 : Inv X pins σ T2 { st2 with heap := st2.heap.push { cls := .type "slice", data := .fields #[.none, .none, .int i tk] } } := Inv.kept (t' := st2.toks) I2 fun _ _ g => Heap.get?_push_of_some _ g
  obtain ⟨Ty, id, hT, ht, hg⟩ := hr pins _ σ T2 x v (.int i tk) i st2.heap.objs.size Q I3 rv (Heap.IsSliceOf.new ..) (.int i tk) wish
  exact PyProof.Rows.tail_any (ops := [v, .ref st2.heap.objs.size]) ht hT hg (by with_unfolding_all rfl)
/-- a tuple turned round, or as it stands -/
def nStepT : Node := .plain (fun _ e => match e with
    | .Subscript a (.Slice none none (some c) _) _ => some [a, c]
    | _ => none) (fun ds S Q => ∃ xs, ds = [.tup xs, .int (-1)] ∧ Q (.tup xs.reverse) S)
  (fun sc e es h => by cases e <;> first | rfl | (simp at h))
  (fun X e es ts A hs p => by
    split at hs
    · cases hs
      cases p with
      | cons n1 m1 p1 p =>
        cases p with
        | cons n2 m2 p2 p =>
          cases p
          refine (pe_stepAll (r := fun x i H Q => i = -1 ∧ ∃ a us, x = .ref a ∧ SqT X.K H a us ∧ ∀ p, H p = none → Q (.ref p) (upd H p (.tup us.reverse))) p1 p2 ?_).of fun σ H Q q => m1 _ _ _ _ (fun x H1 q => m2 _ _ _ _ (fun y H2 q => ?_) q) q
          · rintro pins st σ T x v vs i sl Q I rv hs ps ⟨rfl, a, us, rfl, sq, q⟩
            cases rv
            obtain ⟨its, rel, at_a, few⟩ := I.tuple sq
            refine ⟨"tuple", _, PyProof.Rows.slot_tuple_getitem.lookup, at_a.typeIs, getItem_back at_a hs ps ?_ (by rw [List.size_toArray, ← rel.length]; exact few)⟩
            have I2 := I.laid (t' := st.toks) (o := .tup us.reverse) (fun b r g => Heap.get?_push_of_some _ g) (Nat.le_refl _) ⟨by rw [List.length_reverse]; exact few, its.reverse, rel.reverse, PyProof.Rows.IsTup.new st.heap _⟩
            exact ⟨.ref st.heap.objs.size, _, I2, rfl, q _ I.fresh⟩
          · obtain ⟨pv, ds, S, Hd, M, Qd, rl, sr, hc, w, fin⟩ := q
            obtain ⟨xs, rfl, w⟩ := w
            obtain ⟨x', y', e, r1, r2⟩ := rl.two
            simp only [List.cons.injEq, and_true] at e
            obtain ⟨rfl, rfl⟩ := e
            simp only [Rep] at r2
            obtain ⟨a, us, rfl, rl', st⟩ := tup_of sr r1 rfl
            exact ⟨-1, r2, rfl, a, us, rfl, st, fun p hp => fin_tup fin sr rl'.reverse w hp⟩
    · cases hs)
end FP

/-! FP, part T: data with empty dicts, shown. -/
namespace FP
open PySem PySem.Spec L2

mutual
def xok : D → Bool
  | .non => true
  | .bl _ => true
  | .int i => decide (i.natAbs < 10 ^ 45)
  | .str x => PyData.canLay0 (.str x)
  | .tup xs => xoks xs
  | .lst xs => xoks xs
  | .dic ks ds => ks.isEmpty && ds.isEmpty
  | _ => false
def xoks : List D → Bool
  | [] => true
  | d :: ds => xok d && xoks ds
end
mutual
def toX : D → PyData
  | .bl b => .bool b
  | .int i => .int i
  | .str x => .str x
  | .tup xs => .tuple (toXs xs)
  | .lst xs => .list (toXs xs)
  | .dic _ _ => .dict []
  | _ => .none
def toXs : List D → List PyData
  | [] => []
  | d :: ds => toX d :: toXs ds
end
mutual
def xsz : D → Nat
  | .str x => x.cps.size
  | .tup xs => xszs xs
  | .lst xs => xszs xs
  | _ => 0
def xszs : List D → Nat
  | [] => 0
  | d :: ds => xsz d + 1 + xszs ds
end
mutual
def xdp : D → Nat
  | .tup xs => xdps xs + 1
  | .lst xs => xdps xs + 1
  | .dic _ _ => 1
  | _ => 0
def xdps : List D → Nat
  | [] => 0
  | d :: ds => max (xdp d) (xdps ds)
end
mutual
theorem xok_all : ∀ {d : D}, xok d = true → xD d = some (toX d) ∧ (toX d).showable = true ∧ (toX d).leavesShort 46 = true ∧ (toX d).bulk = xsz d ∧ (toX d).depth = xdp d
  | .non, _ => ⟨rfl, rfl, rfl, rfl, rfl⟩
  | .bl _, _ => ⟨rfl, rfl, rfl, rfl, rfl⟩
  | .int i, h => by
    simp only [xok, decide_eq_true_eq] at h
    refine ⟨rfl, ?_, ?_, rfl, rfl⟩
    · simp only [toX, PyData.showable, decide_eq_true_eq]; exact int_log h
    · simp only [toX, PyData.leavesShort, decide_eq_true_eq]; exact int_short h
  | .str x, h => by
    have h' : PyData.canLay0 (.str x) = true := by simpa only [xok] using h
    exact ⟨rfl, rfl, PyData.leavesShort_of_canLay0 46 (.str x) h' (by simp only [PyData.intsShort]), rfl, rfl⟩
  | .tup xs, h => by
    simp only [xok] at h
    obtain ⟨a, b, c, d, e⟩ := xoks_all h
    exact ⟨by simp only [xD, a, Option.map_some, toX], by simpa only [toX, PyData.showable] using b, by simpa only [toX, PyData.leavesShort] using c, by simpa only [toX, PyData.bulk, xsz] using d,
      by simp only [toX, PyData.depth, xdp, e]⟩
  | .lst xs, h => by
    simp only [xok] at h
    obtain ⟨a, b, c, d, e⟩ := xoks_all h
    exact ⟨by simp only [xD, a, Option.map_some, toX], by simpa only [toX, PyData.showable] using b, by simpa only [toX, PyData.leavesShort] using c, by simpa only [toX, PyData.bulk, xsz] using d,
      by simp only [toX, PyData.depth, xdp, e]⟩
  | .dic ks ds, h => by
    simp only [xok, Bool.and_eq_true, List.isEmpty_iff] at h
    obtain ⟨rfl, rfl⟩ := h
    exact ⟨rfl, rfl, rfl, rfl, rfl⟩
  | .ty _, h => by simp [xok] at h
  | .loc _, h => by simp [xok] at h
  | .scr _, h => by simp [xok] at h
  | .obj _ _ _, h => by simp [xok] at h
theorem xoks_all : ∀ {ds : List D}, xoks ds = true → xL ds = some (toXs ds) ∧ PyData.showableAll (toXs ds) = true ∧ PyData.leavesShortAll 46 (toXs ds) = true ∧ PyData.bulkAll (toXs ds) = xszs ds ∧ PyData.depthAll (toXs ds) = xdps ds
  | [], _ => ⟨rfl, rfl, rfl, rfl, rfl⟩
  | x :: xs, h => by
    simp only [xoks, Bool.and_eq_true] at h
    obtain ⟨a, b, c, d, e⟩ := xok_all h.1
    obtain ⟨a', b', c', d', e'⟩ := xoks_all h.2
    refine ⟨?_, ?_, ?_, ?_, ?_⟩
    · simp only [xL, a, a', toXs]
    · simp only [toXs, PyData.showableAll, b, b', Bool.and_self]
    · simp only [toXs, PyData.leavesShortAll, c, c', Bool.and_self]
    · simp only [toXs, PyData.bulkAll, d, d', xszs]
    · simp only [toXs, PyData.depthAll, e, e', xdps]
end
/-- data of at most c items and h levels -/
structure Xc (c h : Nat) (d : D) : Prop where
  ok : xok d = true
  sz : xsz d ≤ c
  dp : xdp d ≤ h
/-- several -/
structure Xs (c h : Nat) (ds : List D) : Prop where
  ok : xoks ds = true
  sz : xszs ds ≤ c
  dp : xdps ds ≤ h
theorem Xc.mono {c h c' h' : Nat} {d : D} (n : Xc c h d) (hc : c ≤ c') (hh : h ≤ h') : Xc c' h' d := ⟨n.ok, Nat.le_trans n.sz hc, Nat.le_trans n.dp hh⟩
theorem Xs.mono {c h c' h' : Nat} {d : List D} (n : Xs c h d) (hc : c ≤ c') (hh : h ≤ h') : Xs c' h' d := ⟨n.ok, Nat.le_trans n.sz hc, Nat.le_trans n.dp hh⟩
theorem Xs.nil : Xs 0 0 [] := ⟨rfl, Nat.le_refl _, Nat.le_refl _⟩
theorem Xs.cons {c c' h : Nat} {d : D} {ds : List D} (n : Xc c h d) (m : Xs c' h ds) : Xs (c + 1 + c') h (d :: ds) :=
  ⟨by simp only [xoks, n.ok, m.ok, Bool.and_self], by simp only [xszs]; have := n.sz; have := m.sz; omega, by simp only [xdps]; have := n.dp; have := m.dp; omega⟩
theorem xoks_app {xs ys : List D} : xoks (xs ++ ys) = (xoks xs && xoks ys) := by
  induction xs with
  | nil => rfl
  | cons x xs ih => simp only [List.cons_append, xoks, ih, Bool.and_assoc]
theorem xszs_app {xs ys : List D} : xszs (xs ++ ys) = xszs xs + xszs ys := by
  induction xs with
  | nil => simp [xszs]
  | cons x xs ih => simp only [List.cons_append, xszs, ih]; omega
theorem xdps_app {xs ys : List D} : xdps (xs ++ ys) = max (xdps xs) (xdps ys) := by
  induction xs with
  | nil => simp [xdps]
  | cons x xs ih => simp only [List.cons_append, xdps, ih]; omega
theorem Xs.app {c c' h : Nat} {xs ys : List D} (n : Xs c h xs) (m : Xs c' h ys) : Xs (c + c') h (xs ++ ys) :=
  ⟨by rw [xoks_app, n.ok, m.ok]; rfl, by rw [xszs_app]; have := n.sz; have := m.sz; omega, by rw [xdps_app]; have := n.dp; have := m.dp; omega⟩
theorem Xs.sub {c h : Nat} {xs ys zs : List D} (n : Xs c h (xs ++ ys ++ zs)) : Xs c h xs ∧ Xs c h ys ∧ Xs c h zs := by
  obtain ⟨a, b, d⟩ := n
  rw [xoks_app, xoks_app, Bool.and_eq_true, Bool.and_eq_true] at a
  rw [xszs_app, xszs_app] at b
  rw [xdps_app, xdps_app] at d
  exact ⟨⟨a.1.1, by omega, by omega⟩, ⟨a.1.2, by omega, by omega⟩, ⟨a.2, by omega, by omega⟩⟩
theorem Xs.take {c h : Nat} {xs : List D} (n : Xs c h xs) (i : Nat) : Xs c h (xs.take i) := (Xs.sub (xs := []) (zs := xs.drop i) (by rw [List.nil_append, List.take_append_drop]; exact n)).2.1
theorem Xs.drop {c h : Nat} {xs : List D} (n : Xs c h xs) (i : Nat) : Xs c h (xs.drop i) := (Xs.sub (xs := xs.take i) (ys := xs.drop i) (zs := []) (by rw [List.append_nil, List.take_append_drop]; exact n)).2.1
theorem Xs.mem {c h : Nat} : ∀ {xs : List D} {d : D}, Xs c h xs → d ∈ xs → Xc c h d
  | x :: xs, d, n, hd => by
    obtain ⟨a, b, e⟩ := n
    simp only [xoks, Bool.and_eq_true] at a
    simp only [xszs] at b
    simp only [xdps] at e
    rcases List.mem_cons.mp hd with rfl | hd
    · exact ⟨a.1, by omega, by omega⟩
    · exact Xs.mem (xs := xs) ⟨a.2, by omega, by omega⟩ hd
theorem Xs.rev {c h : Nat} : ∀ {xs : List D}, Xs c h xs → Xs c h xs.reverse
  | [], n => n
  | x :: xs, n => by
    obtain ⟨a, b, e⟩ := n
    simp only [xoks, Bool.and_eq_true] at a
    simp only [xszs] at b
    simp only [xdps] at e
    have m : Xs (xszs xs) h xs := ⟨a.2, Nat.le_refl _, by omega⟩
    have x1 : Xs (xsz x + 1 + 0) h [x] := .cons ⟨a.1, Nat.le_refl _, by omega⟩ (Xs.nil.mono (Nat.le_refl _) (Nat.zero_le _))
    rw [List.reverse_cons]
    exact (m.rev.app x1).mono (by omega) (Nat.le_refl _)
theorem Xc.tup {c h : Nat} {xs : List D} (n : Xs c h xs) : Xc c (h + 1) (.tup xs) := ⟨by simpa only [xok] using n.ok, by simpa only [xsz] using n.sz, by simp only [xdp]; have := n.dp; omega⟩
theorem Xc.lst {c h : Nat} {xs : List D} (n : Xs c h xs) : Xc c (h + 1) (.lst xs) := ⟨by simpa only [xok] using n.ok, by simpa only [xsz] using n.sz, by simp only [xdp]; have := n.dp; omega⟩
theorem Xc.untup {c h : Nat} {xs : List D} (n : Xc c h (.tup xs)) : Xs c h xs := ⟨by simpa only [xok] using n.ok, by simpa only [xsz] using n.sz, by have := n.dp; simp only [xdp] at this; omega⟩
theorem Xc.int {i : Int} (h : i.natAbs < 10 ^ 45) : Xc 0 0 (.int i) := ⟨by simp only [xok, decide_eq_true_eq]; exact h, Nat.le_refl _, Nat.le_refl _⟩
theorem Xc.small {i : Int} (h : -1000000 ≤ i) (h2 : i ≤ 1000000) : Xc 0 0 (.int i) := .int (by
  have : i.natAbs < 1000001 := by omega
  exact Nat.lt_trans this (by decide +kernel))
theorem Xc.kn {c h : Nat} {d : D} (n : Xc c h d) : isKn d = true := by
  have := n.ok
  cases d <;> first | rfl | (simp [xok] at this)
theorem do_reprX {c h : Nat} {d : D} {S : Sto} {Q : PostE} (n : Xc c h d) (hc : c ≤ 200000) (hh : h ≤ 50) (q : Q (.str (toX d).shown) S) : nReprX.sem [d] S Q := by
  obtain ⟨a, b, l, e, f⟩ := xok_all n.ok
  have hx : xS S d = some (toX d) := by
    have ok := n.ok
    cases d <;> first | exact a | (simp [xok] at ok)
  refine ⟨d, toX d, rfl, hx, ⟨b, by rw [f]; exact Nat.le_trans n.dp hh, ?_⟩, q⟩
  have := PyData.shown_le_bulk 46 (by omega) (toX d) l
  rw [e] at this
  have hs : 48 * 200000 + 46 ≤ sizeLine := by decide +kernel
  have := n.sz
  omega
theorem cs_eqT0 {S : Sto} {xs : List D} : cEqT0.cs (.tup xs) (.tup []) S = some xs.isEmpty := by show some (xor false _) = _; simp
theorem cs_neT0 {S : Sto} {xs : List D} : cNeT0.cs (.tup xs) (.tup []) S = some (!xs.isEmpty) := by show some (xor true _) = _; simp
theorem do_revT {S : Sto} {Q : PostE} {xs : List D} (q : Q (.tup xs.reverse) S) : nStepT.sem [.tup xs, .int (-1)] S Q := ⟨xs, rfl, q⟩
end FP

namespace FP.Law
open PySem PySem.Spec L2
abbrev prg : PySem.Program := PySem.Challenge.pw_fairposts_k03_rows_or_not
def top (i : Nat) : Stmt := prg.main.body.getD i (.Pass ⟨0, 0, 0, 0⟩)
def b_is_whole : List RS := (.ret (.and [.nd nIsi [.var 0, .nd tyInt []], .not (.nd nIsi [.var 0, .nd tyBool []])])) :: []
def n_is_whole : List Str := ["thing"]
def b_is_from : List RS := (.ret (.and [.call 0 [.var 0], .ch cLe cLe (.var 1) (.var 0) (.var 2)])) :: []
def n_is_from : List Str := ["thing", "low", "high"]
def b_is_round : List RS := (.ret (.call 1 [.var 1, eI 0, .nd nSub [.var 0, eI 1]])) :: []
def n_is_round : List Str := ["p", "thing"]
def b_is_pair : List RS := (.ret (.and [.nd nIsi [.var 1, .nd tyTuple []], .cmp cEq (.nd nLen [.var 1]) (eI 2), .call 2 [.var 0, .nd nIx [.var 1, eI 0]], .call 2 [.var 0, .nd nIx [.var 1, eI 1]]])) :: []
def n_is_pair : List Str := ["p", "thing"]
def b_is_row : List RS := (.ret (.and [.nd nIsi [.var 2, .nd tyTuple []], .cmp cEq (.nd nLen [.var 2]) (.var 1), .nd nAll [.lc false (.call 3 [.var 0, .var 3]) (.nm 3) iSeq [.var 2] [] [("pair", 3)]]])) :: []
def n_is_row : List Str := ["p", "posts", "thing", "pair"]
def b__law_is_number : List RS := (.ret (.and [.nd nIsi [.var 1, .nd tyInt []], .not (.nd nIsi [.var 1, .nd tyBool []]), .ch cLe cLt (eI 0) (.var 1) (.var 0)])) :: []
def n__law_is_number : List Str := ["_law_p", "_law_thing"]
def b__law_is_row_2 : List RS := (.ret (.nd (nBl true) [])) :: []
def b__law_is_row_1b_1t : List RS := (.ret (.nd (nBl false) [])) :: []
def b__law_is_row_1b_1 : List RS := (.ifs (.or [.not (.call 10 [.var 0, .nd nIx [.var 3, eI 0]]), .not (.call 10 [.var 0, .nd nIx [.var 3, eI 1]])]) b__law_is_row_1b_1t []) :: []
def b__law_is_row_1b_0t : List RS := (.ret (.nd (nBl false) [])) :: []
def b__law_is_row_1b : List RS := (.ifs (.or [.not (.nd nIsi [.var 3, .nd tyTuple []]), .cmp cNe (.nd nLen [.var 3]) (eI 2)]) b__law_is_row_1b_0t []) :: b__law_is_row_1b_1
def b__law_is_row_1 : List RS := (.for_ (.nm 3) iSeq [.var 2] b__law_is_row_1b) :: b__law_is_row_2
def b__law_is_row_0t : List RS := (.ret (.nd (nBl false) [])) :: []
def b__law_is_row : List RS := (.ifs (.or [.not (.nd nIsi [.var 2, .nd tyTuple []]), .cmp cNe (.nd nLen [.var 2]) (.var 1)]) b__law_is_row_0t []) :: b__law_is_row_1
def n__law_is_row : List Str := ["_law_p", "_law_posts", "_law_thing", "_law_pair"]
def b__law_odd_1 : List RS := (.ret (.nd nIx [.nd (nAdd false) [.var 2, .nd (nLst false) [eI 0, .nd nSub [.var 1, eI 1]]], .call 6 [.var 0, eI 18]])) :: []
def b__law_odd : List RS := (.asg (.nm 2) (.nd (nLst false) [.var 1, .nd (nAdd false) [.var 1, eI 1], .nd nNeg [eI 1], .nd (nBl true) [], .nd (nBl false) [], .nd nNon [], .nd (nStr "0") [], .nd (nStr "") [], .nd nTup [eI 0], .nd nTup [eI 0, eI 0, eI 0], .nd (nLst false) [eI 0, eI 0], .nd nTup [], .nd nDic0 [], .nd nPow [eI 10, eI 30], .nd (nLst false) [], .nd nTup [.nd nTup [eI 0, eI 0]]])) :: b__law_odd_1
def n__law_odd : List Str := ["_law_deck_here", "_law_p", "_law_some"]
def b__law_bent_7 : List RS := (.ret (.nd (nAdd false) [.nd (nAdd false) [.nd (nSlB false) [.var 2, .var 4], .nd nTup [.nd nIx [.var 5, .nd nSub [.var 3, eI 3]]]], .nd (nSlA false) [.var 2, .nd (nAdd false) [.var 4, eI 1]]])) :: []
def b__law_bent_6 : List RS := (.asg (.nm 5) (.nd (nLst false) [.nd nTup [.var 6, .call 12 [.var 0, .var 1]], .nd nTup [.call 12 [.var 0, .var 1], .var 7], .nd nTup [.var 6, .var 7, .var 6], .nd nTup [.var 7], .nd (nLst false) [.var 6, .var 7], .nd nTup [.var 7, .var 6]])) :: b__law_bent_7
def b__law_bent_5 : List RS := (.asg (.tup [.nm 6, .nm 7]) (.nd nIx [.var 2, .var 4])) :: b__law_bent_6
def b__law_bent_4t : List RS := (.ret (.nd (nAdd false) [.nd (nAdd false) [.nd (nSlB false) [.var 2, .var 4], .nd nTup [.call 12 [.var 0, .var 1]]], .nd (nSlA false) [.var 2, .nd (nAdd false) [.var 4, eI 1]]])) :: []
def b__law_bent_4 : List RS := (.ifs (.or [.cmp cEq (.var 3) (eI 2), .not (.nd nIsi [.nd nIx [.var 2, .var 4], .nd tyTuple []]), .cmp cNe (.nd nLen [.nd nIx [.var 2, .var 4]]) (eI 2)]) b__law_bent_4t []) :: b__law_bent_5
def b__law_bent_3t : List RS := (.ret (.nd nIx [.nd (nLst false) [.nd (nList false) [.var 2], .nd (nAdd false) [.var 2, .nd nTup [.nd nTup [eI 0, eI 0]]], .nd (nAdd false) [.nd (nSlB false) [.var 2, .var 4], .nd (nSlA false) [.var 2, .nd (nAdd false) [.var 4, eI 1]]], .nd nStepT [.var 2, .nd nNeg [eI 1]]], .call 6 [.var 0, eI 4]])) :: []
def b__law_bent_3 : List RS := (.ifs (.cmp cEq (.var 3) (eI 1)) b__law_bent_3t []) :: b__law_bent_4
def b__law_bent_2 : List RS := (.asg (.nm 4) (.call 6 [.var 0, .nd nLen [.var 2]])) :: b__law_bent_3
def b__law_bent_1t : List RS := (.ret (.nd nIx [.nd (nLst false) [.call 12 [.var 0, .var 1], .var 2], .nd nIntOf [.cmp cGt (.var 3) (eI 4)]])) :: []
def b__law_bent_1 : List RS := (.ifs (.or [.not (.nd nIsi [.var 2, .nd tyTuple []]), .cmp cEqT0 (.var 2) (.nd nTup []), .cmp cEq (.var 3) (eI 0)]) b__law_bent_1t []) :: b__law_bent_2
def b__law_bent : List RS := (.asg (.nm 3) (.call 6 [.var 0, eI 8])) :: b__law_bent_1
def n__law_bent : List Str := ["_law_deck_here", "_law_p", "_law_row_here", "_law_kind", "_law_at", "_law_some", "_law_x", "_law_y"]
def b_law_2 : List RS := (.ret (.nd (nBl true) [])) :: []
def b_law_1b_6t : List RS := (.ret (.nd (nBl false) [])) :: []
def b_law_1b_6 : List RS := (.ifs (.cmp cIsNot (.call 4 [.var 3, .var 4, .var 5]) (.nd (nBl true) [])) b_law_1b_6t []) :: []
def b_law_1b_5b_2t : List RS := (.ret (.nd (nBl false) [])) :: []
def b_law_1b_5b_2 : List RS := (.ifs (.cmp cNe (.nd nReprX [.var 8]) (.var 9)) b_law_1b_5b_2t []) :: []
def b_law_1b_5b_1b_0b_1t : List RS := (.ret (.nd (nBl false) [])) :: []
def b_law_1b_5b_1b_0b_1 : List RS := (.ifs (.or [.not (.nd nIsi [.var 12, .nd tyBool []]), .cmp cNe (.var 12) (.call 11 [.var 11, .var 10, .var 8])]) b_law_1b_5b_1b_0b_1t []) :: []
def b_law_1b_5b_1b_0b : List RS := (.asg (.nm 12) (.call 4 [.var 11, .var 10, .var 8])) :: b_law_1b_5b_1b_0b_1
def b_law_1b_5b_1b : List RS := (.for_ (.nm 11) iSeq [.nd (nLst false) [.var 3, eI 2, eI 13]] b_law_1b_5b_1b_0b) :: []
def b_law_1b_5b_1 : List RS := (.for_ (.nm 10) iSeq [.nd (nLst false) [.var 4, .nd nMin [eI 20, .nd (nAdd false) [.var 4, eI 1]], .nd nMax [eI 0, .nd nSub [.var 4, eI 1]]]] b_law_1b_5b_1b) :: b_law_1b_5b_2
def b_law_1b_5b : List RS := (.asg (.nm 9) (.nd nReprX [.var 8])) :: b_law_1b_5b_1
def b_law_1b_5 : List RS := (.for_ (.nm 8) iSeq [.nd (nLst false) [.var 5, .var 6, .var 7, .call 13 [.var 1, .var 3, .var 7], .call 12 [.var 1, .var 3]]] b_law_1b_5b) :: b_law_1b_6
def b_law_1b_4 : List RS := (.asg (.nm 7) (.call 13 [.var 1, .var 3, .var 6])) :: b_law_1b_5
def b_law_1b_3 : List RS := (.asg (.nm 6) (.call 13 [.var 1, .var 3, .var 5])) :: b_law_1b_4
def b_law_1b_2 : List RS := (.asg (.nm 5) (.call 9 [.var 1, .var 3, .var 4])) :: b_law_1b_3
def b_law_1b_1 : List RS := (.asg (.nm 4) (.nd nIx [.nd (nLst false) [.call 6 [.var 1, eI 4], .call 6 [.var 1, eI 21]], .call 6 [.var 1, eI 2]])) :: b_law_1b_2
def b_law_1b : List RS := (.asg (.nm 3) (.call 7 [.var 1])) :: b_law_1b_1
def b_law_1 : List RS := (.for_ (.nm 2) iRg1 [eI 8] b_law_1b) :: b_law_2
def b_law : List RS := (.asg (.nm 1) (.call 5 [.var 0])) :: b_law_1
def n_law : List Str := ["_law_script", "_law_deck_here", "_law_turn", "_law_p", "_law_posts", "_law_row_here", "_law_bent_here", "_law_again", "_law_thing", "_law_held", "_law_many", "_law_prime_here", "_law_found"]
def tab : List FDef := [
  ⟨"is_whole", ["thing"], n_is_whole, b_is_whole, none, 0⟩,
  ⟨"is_from", ["thing", "low", "high"], n_is_from, b_is_from, none, 0⟩,
  ⟨"is_round", ["p", "thing"], n_is_round, b_is_round, none, 0⟩,
  ⟨"is_pair", ["p", "thing"], n_is_pair, b_is_pair, none, 0⟩,
  ⟨"is_row", ["p", "posts", "thing"], n_is_row, b_is_row, none, 0⟩,
  fdDeck,
  fdNext,
  ⟨"_law_prime", ["_law_deck_here"], gn__law_prime, (g__law_prime 6), none, 0⟩,
  ⟨"_law_numbers", ["_law_deck_here", "_law_p", "_law_many"], gn__law_numbers, (g__law_numbers 6), none, 0⟩,
  ⟨"_law_row", ["_law_deck_here", "_law_p", "_law_posts"], gn__law_row, (g__law_row 8), none, 0⟩,
  ⟨"_law_is_number", ["_law_p", "_law_thing"], n__law_is_number, b__law_is_number, none, 0⟩,
  ⟨"_law_is_row", ["_law_p", "_law_posts", "_law_thing"], n__law_is_row, b__law_is_row, none, 0⟩,
  ⟨"_law_odd", ["_law_deck_here", "_law_p"], n__law_odd, b__law_odd, none, 0⟩,
  ⟨"_law_bent", ["_law_deck_here", "_law_p", "_law_row_here"], n__law_bent, b__law_bent, none, 0⟩,
  ⟨"law", ["_law_script"], n_law, b_law, none, 0⟩]
def ctab : List FDef := []
def gcs : List (Str × D) := []
def T : Nat → Option FDef := fun f => if f < GB then tab[f]? else ctab[f - GB]?
abbrev dep : Nat := 6
def dfs : List He.DefD := [
  ⟨("is_whole", none), "is_whole", "is_whole", defArgs (top 1), defBody (top 1), defScope (top 1), [], []⟩,
  ⟨("is_from", none), "is_from", "is_from", defArgs (top 2), defBody (top 2), defScope (top 2), [], []⟩,
  ⟨("is_round", none), "is_round", "is_round", defArgs (top 3), defBody (top 3), defScope (top 3), [], []⟩,
  ⟨("is_pair", none), "is_pair", "is_pair", defArgs (top 5), defBody (top 5), defScope (top 5), [], []⟩,
  ⟨("is_row", none), "is_row", "is_row", defArgs (top 6), defBody (top 6), defScope (top 6), [], []⟩,
  ⟨("_law_deck", none), "_law_deck", "_law_deck", defArgs (top 8), defBody (top 8), defScope (top 8), [], []⟩,
  ⟨("_law_next", none), "_law_next", "_law_next", defArgs (top 9), defBody (top 9), defScope (top 9), [], []⟩,
  ⟨("_law_prime", none), "_law_prime", "_law_prime", defArgs (top 10), defBody (top 10), defScope (top 10), [], []⟩,
  ⟨("_law_numbers", none), "_law_numbers", "_law_numbers", defArgs (top 11), defBody (top 11), defScope (top 11), [], []⟩,
  ⟨("_law_row", none), "_law_row", "_law_row", defArgs (top 12), defBody (top 12), defScope (top 12), [], []⟩,
  ⟨("_law_is_number", none), "_law_is_number", "_law_is_number", defArgs (top 13), defBody (top 13), defScope (top 13), [], []⟩,
  ⟨("_law_is_row", none), "_law_is_row", "_law_is_row", defArgs (top 14), defBody (top 14), defScope (top 14), [], []⟩,
  ⟨("_law_odd", none), "_law_odd", "_law_odd", defArgs (top 15), defBody (top 15), defScope (top 15), [], []⟩,
  ⟨("_law_bent", none), "_law_bent", "_law_bent", defArgs (top 16), defBody (top 16), defScope (top 16), [], []⟩,
  ⟨("law", none), "law", "law", defArgs (top 17), defBody (top 17), defScope (top 17), [], []⟩]
def fas : List He.Fa := [.glo "is_whole", .glo "is_from", .glo "is_round", .glo "is_pair", .glo "is_row", .glo "_law_deck", .glo "_law_next", .glo "_law_prime", .glo "_law_numbers", .glo "_law_row", .glo "_law_is_number", .glo "_law_is_row", .glo "_law_odd", .glo "_law_bent", .glo "law"] ++ bNames.map He.Fa.free
theorem m_0 : ∀ k < dep, mSs (fnm T) (cF T k) n_is_whole b_is_whole (defScope (top 1)) (defBody (top 1)) = true := by decide +kernel
theorem a_0 {K : PySem.W.Frag} {h : Heap} {mg : Str → Option Value} (X : K.In h) (G : h.Ns mainGlobals mg) (c : SaysC fas dfs gcs K) : ∃ a fd, FAt K mg (⟨"is_whole", ["thing"], n_is_whole, b_is_whole, none, 0⟩ : FDef) a fd (defArgs (top 1)) (defBody (top 1)) (defScope (top 1)) :=
  fAt_of X G c 0 rfl rfl ⟨rfl, rfl, rfl, by decide +kernel, rfl, by decide +kernel, by decide +kernel⟩ fun _ _ _ _ _ _ us hl => match us, hl with | [_], _ => rfl
theorem m_1 : ∀ k < dep, mSs (fnm T) (cF T k) n_is_from b_is_from (defScope (top 2)) (defBody (top 2)) = true := by decide +kernel
theorem a_1 {K : PySem.W.Frag} {h : Heap} {mg : Str → Option Value} (X : K.In h) (G : h.Ns mainGlobals mg) (c : SaysC fas dfs gcs K) : ∃ a fd, FAt K mg (⟨"is_from", ["thing", "low", "high"], n_is_from, b_is_from, none, 0⟩ : FDef) a fd (defArgs (top 2)) (defBody (top 2)) (defScope (top 2)) :=
  fAt_of X G c 1 rfl rfl ⟨rfl, rfl, rfl, by decide +kernel, rfl, by decide +kernel, by decide +kernel⟩ fun _ _ _ _ _ _ us hl => match us, hl with | [_, _, _], _ => rfl
theorem m_2 : ∀ k < dep, mSs (fnm T) (cF T k) n_is_round b_is_round (defScope (top 3)) (defBody (top 3)) = true := by decide +kernel
theorem a_2 {K : PySem.W.Frag} {h : Heap} {mg : Str → Option Value} (X : K.In h) (G : h.Ns mainGlobals mg) (c : SaysC fas dfs gcs K) : ∃ a fd, FAt K mg (⟨"is_round", ["p", "thing"], n_is_round, b_is_round, none, 0⟩ : FDef) a fd (defArgs (top 3)) (defBody (top 3)) (defScope (top 3)) :=
  fAt_of X G c 2 rfl rfl ⟨rfl, rfl, rfl, by decide +kernel, rfl, by decide +kernel, by decide +kernel⟩ fun _ _ _ _ _ _ us hl => match us, hl with | [_, _], _ => rfl
theorem m_3 : ∀ k < dep, mSs (fnm T) (cF T k) n_is_pair b_is_pair (defScope (top 5)) (defBody (top 5)) = true := by decide +kernel
theorem a_3 {K : PySem.W.Frag} {h : Heap} {mg : Str → Option Value} (X : K.In h) (G : h.Ns mainGlobals mg) (c : SaysC fas dfs gcs K) : ∃ a fd, FAt K mg (⟨"is_pair", ["p", "thing"], n_is_pair, b_is_pair, none, 0⟩ : FDef) a fd (defArgs (top 5)) (defBody (top 5)) (defScope (top 5)) :=
  fAt_of X G c 3 rfl rfl ⟨rfl, rfl, rfl, by decide +kernel, rfl, by decide +kernel, by decide +kernel⟩ fun _ _ _ _ _ _ us hl => match us, hl with | [_, _], _ => rfl
theorem m_4 : ∀ k < dep, mSs (fnm T) (cF T k) n_is_row b_is_row (defScope (top 6)) (defBody (top 6)) = true := by decide +kernel
theorem a_4 {K : PySem.W.Frag} {h : Heap} {mg : Str → Option Value} (X : K.In h) (G : h.Ns mainGlobals mg) (c : SaysC fas dfs gcs K) : ∃ a fd, FAt K mg (⟨"is_row", ["p", "posts", "thing"], n_is_row, b_is_row, none, 0⟩ : FDef) a fd (defArgs (top 6)) (defBody (top 6)) (defScope (top 6)) :=
  fAt_of X G c 4 rfl rfl ⟨rfl, rfl, rfl, by decide +kernel, rfl, by decide +kernel, by decide +kernel⟩ fun _ _ _ _ _ _ us hl => match us, hl with | [_, _, _], _ => rfl
theorem a_5 {K : PySem.W.Frag} {h : Heap} {mg : Str → Option Value} (X : K.In h) (G : h.Ns mainGlobals mg) (c : SaysC fas dfs gcs K) : ∃ a fd, FAt K mg fdDeck a fd (defArgs (top 8)) (defBody (top 8)) (defScope (top 8)) :=
  fAt_of X G c 5 rfl rfl ⟨rfl, rfl, rfl, by decide +kernel, rfl, by decide +kernel, by decide +kernel⟩ fun _ _ _ _ _ _ us hl => match us, hl with | [_], _ => rfl
theorem a_6 {K : PySem.W.Frag} {h : Heap} {mg : Str → Option Value} (X : K.In h) (G : h.Ns mainGlobals mg) (c : SaysC fas dfs gcs K) : ∃ a fd, FAt K mg fdNext a fd (defArgs (top 9)) (defBody (top 9)) (defScope (top 9)) :=
  fAt_of X G c 6 rfl rfl ⟨rfl, rfl, rfl, by decide +kernel, rfl, by decide +kernel, by decide +kernel⟩ fun _ _ _ _ _ _ us hl => match us, hl with | [_, _], _ => rfl
theorem m_7 : ∀ k < dep, mSs (fnm T) (cF T k) gn__law_prime (g__law_prime 6) (defScope (top 10)) (defBody (top 10)) = true := by decide +kernel
theorem a_7 {K : PySem.W.Frag} {h : Heap} {mg : Str → Option Value} (X : K.In h) (G : h.Ns mainGlobals mg) (c : SaysC fas dfs gcs K) : ∃ a fd, FAt K mg (⟨"_law_prime", ["_law_deck_here"], gn__law_prime, (g__law_prime 6), none, 0⟩ : FDef) a fd (defArgs (top 10)) (defBody (top 10)) (defScope (top 10)) :=
  fAt_of X G c 7 rfl rfl ⟨rfl, rfl, rfl, by decide +kernel, rfl, by decide +kernel, by decide +kernel⟩ fun _ _ _ _ _ _ us hl => match us, hl with | [_], _ => rfl
theorem m_8 : ∀ k < dep, mSs (fnm T) (cF T k) gn__law_numbers (g__law_numbers 6) (defScope (top 11)) (defBody (top 11)) = true := by decide +kernel
theorem a_8 {K : PySem.W.Frag} {h : Heap} {mg : Str → Option Value} (X : K.In h) (G : h.Ns mainGlobals mg) (c : SaysC fas dfs gcs K) : ∃ a fd, FAt K mg (⟨"_law_numbers", ["_law_deck_here", "_law_p", "_law_many"], gn__law_numbers, (g__law_numbers 6), none, 0⟩ : FDef) a fd (defArgs (top 11)) (defBody (top 11)) (defScope (top 11)) :=
  fAt_of X G c 8 rfl rfl ⟨rfl, rfl, rfl, by decide +kernel, rfl, by decide +kernel, by decide +kernel⟩ fun _ _ _ _ _ _ us hl => match us, hl with | [_, _, _], _ => rfl
theorem m_9 : ∀ k < dep, mSs (fnm T) (cF T k) gn__law_row (g__law_row 8) (defScope (top 12)) (defBody (top 12)) = true := by decide +kernel
theorem a_9 {K : PySem.W.Frag} {h : Heap} {mg : Str → Option Value} (X : K.In h) (G : h.Ns mainGlobals mg) (c : SaysC fas dfs gcs K) : ∃ a fd, FAt K mg (⟨"_law_row", ["_law_deck_here", "_law_p", "_law_posts"], gn__law_row, (g__law_row 8), none, 0⟩ : FDef) a fd (defArgs (top 12)) (defBody (top 12)) (defScope (top 12)) :=
  fAt_of X G c 9 rfl rfl ⟨rfl, rfl, rfl, by decide +kernel, rfl, by decide +kernel, by decide +kernel⟩ fun _ _ _ _ _ _ us hl => match us, hl with | [_, _, _], _ => rfl
theorem m_10 : ∀ k < dep, mSs (fnm T) (cF T k) n__law_is_number b__law_is_number (defScope (top 13)) (defBody (top 13)) = true := by decide +kernel
theorem a_10 {K : PySem.W.Frag} {h : Heap} {mg : Str → Option Value} (X : K.In h) (G : h.Ns mainGlobals mg) (c : SaysC fas dfs gcs K) : ∃ a fd, FAt K mg (⟨"_law_is_number", ["_law_p", "_law_thing"], n__law_is_number, b__law_is_number, none, 0⟩ : FDef) a fd (defArgs (top 13)) (defBody (top 13)) (defScope (top 13)) :=
  fAt_of X G c 10 rfl rfl ⟨rfl, rfl, rfl, by decide +kernel, rfl, by decide +kernel, by decide +kernel⟩ fun _ _ _ _ _ _ us hl => match us, hl with | [_, _], _ => rfl
theorem m_11 : ∀ k < dep, mSs (fnm T) (cF T k) n__law_is_row b__law_is_row (defScope (top 14)) (defBody (top 14)) = true := by decide +kernel
theorem a_11 {K : PySem.W.Frag} {h : Heap} {mg : Str → Option Value} (X : K.In h) (G : h.Ns mainGlobals mg) (c : SaysC fas dfs gcs K) : ∃ a fd, FAt K mg (⟨"_law_is_row", ["_law_p", "_law_posts", "_law_thing"], n__law_is_row, b__law_is_row, none, 0⟩ : FDef) a fd (defArgs (top 14)) (defBody (top 14)) (defScope (top 14)) :=
  fAt_of X G c 11 rfl rfl ⟨rfl, rfl, rfl, by decide +kernel, rfl, by decide +kernel, by decide +kernel⟩ fun _ _ _ _ _ _ us hl => match us, hl with | [_, _, _], _ => rfl
theorem m_12 : ∀ k < dep, mSs (fnm T) (cF T k) n__law_odd b__law_odd (defScope (top 15)) (defBody (top 15)) = true := by decide +kernel
theorem a_12 {K : PySem.W.Frag} {h : Heap} {mg : Str → Option Value} (X : K.In h) (G : h.Ns mainGlobals mg) (c : SaysC fas dfs gcs K) : ∃ a fd, FAt K mg (⟨"_law_odd", ["_law_deck_here", "_law_p"], n__law_odd, b__law_odd, none, 0⟩ : FDef) a fd (defArgs (top 15)) (defBody (top 15)) (defScope (top 15)) :=
  fAt_of X G c 12 rfl rfl ⟨rfl, rfl, rfl, by decide +kernel, rfl, by decide +kernel, by decide +kernel⟩ fun _ _ _ _ _ _ us hl => match us, hl with | [_, _], _ => rfl
theorem m_13 : ∀ k < dep, mSs (fnm T) (cF T k) n__law_bent b__law_bent (defScope (top 16)) (defBody (top 16)) = true := by decide +kernel
theorem a_13 {K : PySem.W.Frag} {h : Heap} {mg : Str → Option Value} (X : K.In h) (G : h.Ns mainGlobals mg) (c : SaysC fas dfs gcs K) : ∃ a fd, FAt K mg (⟨"_law_bent", ["_law_deck_here", "_law_p", "_law_row_here"], n__law_bent, b__law_bent, none, 0⟩ : FDef) a fd (defArgs (top 16)) (defBody (top 16)) (defScope (top 16)) :=
  fAt_of X G c 13 rfl rfl ⟨rfl, rfl, rfl, by decide +kernel, rfl, by decide +kernel, by decide +kernel⟩ fun _ _ _ _ _ _ us hl => match us, hl with | [_, _, _], _ => rfl
theorem m_14 : ∀ k < dep, mSs (fnm T) (cF T k) n_law b_law (defScope (top 17)) (defBody (top 17)) = true := by decide +kernel
theorem a_14 {K : PySem.W.Frag} {h : Heap} {mg : Str → Option Value} (X : K.In h) (G : h.Ns mainGlobals mg) (c : SaysC fas dfs gcs K) : ∃ a fd, FAt K mg (⟨"law", ["_law_script"], n_law, b_law, none, 0⟩ : FDef) a fd (defArgs (top 17)) (defBody (top 17)) (defScope (top 17)) :=
  fAt_of X G c 14 rfl rfl ⟨rfl, rfl, rfl, by decide +kernel, rfl, by decide +kernel, by decide +kernel⟩ fun _ _ _ _ _ _ us hl => match us, hl with | [_], _ => rfl
theorem tabs {P : Program} {w : World} {K : PySem.W.Frag} {mg : Str → Option Value} {h base : Heap} (X : K.In h) (G : h.Ns mainGlobals mg) (c : SaysC fas dfs gcs K) (fr : ∀ x ∈ bNames, mg x = none) (sm : SysD K) : (∀ f d, GB ≤ f → T f = some d → CAt K mg d) ∧
    (∀ f d, f < GB → T f = some d → ∃ a fd params body scope, FAt K mg d a fd params body scope ∧ ((d.prim = none ∧ ∀ k < dep, mSs (fnm T) (cF T k) d.N d.body scope body = true) ∨
      ∃ p, d.prim = some p ∧ FnG P w K mg base 1 a fd d.ps (spD K (fun ds S Q => ds.length = d.ps.length ∧ p ds S Q) d.pc))) := by
  refine ⟨fun f d hf h => ?_, fun f d hf h => ?_⟩
  · have h2 : ctab[f - GB]? = some d := (if_neg (Nat.not_lt.mpr hf)).symm.trans h
    generalize f - GB = i at h2
    match i, h2 with
    | n + 0, h2 => cases h2
  · have h2 : tab[f]? = some d := (if_pos hf).symm.trans h
    match f, h2 with
    | 0, h2 =>
      cases Option.some.inj h2
      obtain ⟨a, fd, q⟩ := a_0 X G c
      exact ⟨a, fd, _, _, _, q, .inl ⟨rfl, m_0⟩⟩
    | 1, h2 =>
      cases Option.some.inj h2
      obtain ⟨a, fd, q⟩ := a_1 X G c
      exact ⟨a, fd, _, _, _, q, .inl ⟨rfl, m_1⟩⟩
    | 2, h2 =>
      cases Option.some.inj h2
      obtain ⟨a, fd, q⟩ := a_2 X G c
      exact ⟨a, fd, _, _, _, q, .inl ⟨rfl, m_2⟩⟩
    | 3, h2 =>
      cases Option.some.inj h2
      obtain ⟨a, fd, q⟩ := a_3 X G c
      exact ⟨a, fd, _, _, _, q, .inl ⟨rfl, m_3⟩⟩
    | 4, h2 =>
      cases Option.some.inj h2
      obtain ⟨a, fd, q⟩ := a_4 X G c
      exact ⟨a, fd, _, _, _, q, .inl ⟨rfl, m_4⟩⟩
    | 5, h2 =>
      cases Option.some.inj h2
      obtain ⟨a, fd, q⟩ := a_5 X G c
      exact ⟨a, fd, _, _, _, q, .inr ⟨pDeck, rfl, deck_ok fr sm q (by decide +kernel)⟩⟩
    | 6, h2 =>
      cases Option.some.inj h2
      obtain ⟨a, fd, q⟩ := a_6 X G c
      exact ⟨a, fd, _, _, _, q, .inr ⟨pNext, rfl, next_ok fr sm q (by decide +kernel)⟩⟩
    | 7, h2 =>
      cases Option.some.inj h2
      obtain ⟨a, fd, q⟩ := a_7 X G c
      exact ⟨a, fd, _, _, _, q, .inl ⟨rfl, m_7⟩⟩
    | 8, h2 =>
      cases Option.some.inj h2
      obtain ⟨a, fd, q⟩ := a_8 X G c
      exact ⟨a, fd, _, _, _, q, .inl ⟨rfl, m_8⟩⟩
    | 9, h2 =>
      cases Option.some.inj h2
      obtain ⟨a, fd, q⟩ := a_9 X G c
      exact ⟨a, fd, _, _, _, q, .inl ⟨rfl, m_9⟩⟩
    | 10, h2 =>
      cases Option.some.inj h2
      obtain ⟨a, fd, q⟩ := a_10 X G c
      exact ⟨a, fd, _, _, _, q, .inl ⟨rfl, m_10⟩⟩
    | 11, h2 =>
      cases Option.some.inj h2
      obtain ⟨a, fd, q⟩ := a_11 X G c
      exact ⟨a, fd, _, _, _, q, .inl ⟨rfl, m_11⟩⟩
    | 12, h2 =>
      cases Option.some.inj h2
      obtain ⟨a, fd, q⟩ := a_12 X G c
      exact ⟨a, fd, _, _, _, q, .inl ⟨rfl, m_12⟩⟩
    | 13, h2 =>
      cases Option.some.inj h2
      obtain ⟨a, fd, q⟩ := a_13 X G c
      exact ⟨a, fd, _, _, _, q, .inl ⟨rfl, m_13⟩⟩
    | 14, h2 =>
      cases Option.some.inj h2
      obtain ⟨a, fd, q⟩ := a_14 X G c
      exact ⟨a, fd, _, _, _, q, .inl ⟨rfl, m_14⟩⟩
    | n + 15, h2 => cases h2
/-! the head -/
abbrev R : PySem.W.OpenRow := PySem.W.OpenLaw.row PySem.Challenge.rw_fairposts_k03_rows_or_not
abbrev hk : PySem.W.Hook := hookC 4 fas dfs gcs
def ob (s : PySem.W.SharedT) : AlC := obsCG 4 fas dfs gcs (HandSHeadRun.getT s)
theorem ob_eq (s : PySem.W.SharedT) : ob s = hk.obs s.abs := obsCG_eq (HandSHeadRun.getT_eq s)
def loose : List Str := (["is_whole", "is_from", "is_round", "is_pair", "is_row", "_law_deck", "_law_next", "_law_prime", "_law_numbers", "_law_row", "_law_is_number", "_law_is_row", "_law_odd", "_law_bent"] : List Str)
theorem run (w : World) : HandSHeadRun.RunEq R (PySem.W.view R.prog [17]) hk ob 820 loose w := by
  intro os
  kernel_rfl
end FP.Law

namespace FP.Law
open PySem PySem.Spec L2
local macro_rules
  | `(tactic| symm_saturate) => `(tactic| simp only [wipeE, List.map_cons, List.map_nil, wSs, wS, wE, wEs, wAnd, wOr, wT, wAndT, wOrT, wTs, bindT, bindTs, eI, Bool.false_eq_true, Bool.not_true, Bool.not_false, if_true, if_false, decide_true, tr_bl, tr_int, tr_tup, tr_lst, List.getElem?_cons_zero, List.getElem?_cons_succ, Option.some.injEq, exists_eq_left', exists_eq_left, List.set_cons_zero, List.set_cons_succ, sem_tyInt, sem_tyBool, sem_tyTuple,
      sem_int, sem_str, sem_bl, sem_non, sem_dic0, sem_isi, sem_sub, sem_mod, sem_fdiv, sem_pow, sem_neg, sem_add, sem_addT, sem_mul, sem_mulT, sem_ix, sem_len, sem_tuple, sem_lst, sem_tup, sem_lstO, sem_intI, sem_intB, cs_lt, cs_le, cs_gt, cs_ge, cs_eqI, cs_eqB, cs_eqS, cs_neI, cs_neB, cs_neS, cs_in, cs_isB, cs_isNotB, cs_eqT0, cs_neT0])

/-! ### what is asked -/
def rnd (p : Int) (d : D) : Bool := match d with
  | .int i => decide (0 ≤ i) && decide (i ≤ p - 1)
  | _ => false
def prB (p : Int) (d : D) : Bool := match d with
  | .tup [a, b] => rnd p a && rnd p b
  | _ => false
def rwB (p n : Int) (d : D) : Bool := match d with
  | .tup xs => decide ((xs.length : Int) = n) && xs.all (prB p)
  | _ => false
theorem isT_tup {d : D} (h : isKn d = true) : isT (kn d) "tuple" = isTupD d := by
  cases d <;> first | rfl | cases h
def frm (a b : Int) (d : D) : Bool := match d with
  | .int i => decide (a ≤ i) && decide (i ≤ b)
  | _ => false
theorem c_from {k : Nat} {d : D} {a b : Int} {S : Sto} {Q : PostE} (h : isKn d = true) (q : Q (.bl (frm a b d)) S) : wC T (k + 2) 1 [d, .int a, .int b] S Q := by
  refine wC_body rfl rfl ⟨rfl, ?_⟩
  show wSs _ b_is_from _ [some d, some (.int a), some (.int b)] S
  simp only [b_is_from]
  symm_saturate
  refine whole_at (T := T) rfl h ⟨_, rfl, ?_⟩
  cases d <;> first | (cases h; done) | skip
  case int i =>
    show if true = true then _ else _
    rw [if_pos rfl]
    symm_saturate
    by_cases c : a ≤ i
    · rw [if_pos (by simpa using c)]
      simpa [frm, c] using q
    · rw [if_neg (by simpa using c)]
      simpa [frm, c] using q
  all_goals exact q
theorem c_round {k : Nat} {d : D} {p : Int} {S : Sto} {Q : PostE} (h : isKn d = true) (q : Q (.bl (rnd p d)) S) : wC T (k + 3) 2 [.int p, d] S Q := by
  refine wC_body rfl rfl ⟨rfl, ?_⟩
  show wSs _ b_is_round _ [some (.int p), some d] S
  simp only [b_is_round]
  symm_saturate
  exact c_from h q
theorem xlen : ∀ {xs : List D}, xs.length ≤ xszs xs
  | [] => Nat.zero_le _
  | x :: xs => by simp only [List.length_cons, xszs]; have := xlen (xs := xs); omega
theorem _root_.FP.Xs.len {c h : Nat} {xs : List D} (n : Xs c h xs) : xs.length ≤ c := Nat.le_trans xlen n.sz
theorem c_pair {k c h : Nat} {d : D} {p : Int} {S : Sto} {Q : PostE} (n : Xc c h d) (hc : c ≤ 100000) (q : Q (.bl (prB p d)) S) : wC T (k + 4) 3 [.int p, d] S Q := by
  refine wC_body rfl rfl ⟨rfl, ?_⟩
  show wSs _ b_is_pair _ [some (.int p), some d] S
  simp only [b_is_pair]
  symm_saturate
  refine ⟨_, kn_ok n.kn, by decide, _, rfl, ?_⟩
  rw [isT_tup n.kn]
  cases d <;> first | exact q | skip
  case tup xs =>
    show if true = true then _ else _
    rw [if_pos rfl]
    symm_saturate
    refine ⟨xs.length, by simp [lenS, seqS], ?_⟩
    symm_saturate
    refine ⟨_, rfl, ?_⟩
    match xs, n, q with
    | [], n, q => exact q
    | [a], n, q => exact q
    | a :: b :: e :: r, n, q =>
      rw [if_neg (by simp; omega)]
      exact q
    | [a, b], n, q =>
      have ka := (n.untup.mem (d := a) (by simp)).kn
      have kb := (n.untup.mem (d := b) (by simp)).kn
      rw [if_pos (by simp)]
      refine ⟨_, _, rfl, rfl, c_round ka ⟨_, rfl, ?_⟩⟩
      have q' : Q (.bl (rnd p a && rnd p b)) S := q
      cases ra : rnd p a with
      | false => rw [ra] at q'; exact q'
      | true =>
        rw [ra] at q'
        rw [if_pos rfl]
        symm_saturate
        exact ⟨_, _, rfl, rfl, c_round kb q'⟩
theorem c_isrow {k c h : Nat} {d : D} {p m : Int} {S : Sto} {Q : PostE} (n : Xc c h d) (hc : c ≤ 100000) (q : Q (.bl (rwB p m d)) S) : wC T (k + 5) 4 [.int p, .int m, d] S Q := by
  refine wC_body rfl rfl ⟨rfl, ?_⟩
  show wSs _ b_is_row _ [some (.int p), some (.int m), some d, none] S
  simp only [b_is_row]
  symm_saturate
  refine ⟨_, kn_ok n.kn, by decide, _, rfl, ?_⟩
  rw [isT_tup n.kn]
  cases d <;> first | exact q | skip
  case tup xs =>
    show if true = true then _ else _
    rw [if_pos rfl]
    symm_saturate
    have hl := n.untup.len
    refine ⟨xs.length, by simp [lenS, seqS], ?_⟩
    symm_saturate
    refine ⟨_, rfl, ?_⟩
    have q' : Q (.bl (decide ((xs.length : Int) = m) && xs.all (prB p))) S := q
    by_cases e : (xs.length : Int) = m
    · rw [if_pos (by simpa using e)]
      rw [decide_eq_true e] at q'
      refine it_seq (xs := xs) rfl (lim20 (by omega)) ⟨lim20 (by omega), ?_⟩
      refine lc_pure (f := fun x => some (.bl (prB p x))) (by exact rfl) (fun x hx k' hk' => ?_) ?_
      · symm_saturate
        exact c_pair (n.untup.mem hx) hc hk'
      · rw [filterMap_some]
        simp only [newL, Bool.false_eq_true, if_false, List.nil_append]
        refine do_all (bs := xs.map (prB p)) ?_ ?_
        · show some _ = some _
          rw [List.map_map]
          rfl
        · have e2 : (xs.map (prB p)).all id = xs.all (prB p) := by rw [List.all_map]; rfl
          rw [e2]
          exact q'
    · rw [if_neg (by simpa using e)]
      rw [decide_eq_false e] at q'
      exact q'
theorem c_number {k : Nat} {d : D} {p : Int} {S : Sto} {Q : PostE} (h : isKn d = true) (q : Q (.bl (rnd p d)) S) : wC T (k + 1) 10 [.int p, d] S Q := by
  refine wC_body rfl rfl ⟨rfl, ?_⟩
  show wSs _ b__law_is_number _ [some (.int p), some d] S
  simp only [b__law_is_number]
  symm_saturate
  refine ⟨_, kn_ok h, by decide, _, rfl, ?_⟩
  cases d <;> first | (cases h; done) | skip
  case int i =>
    refine ⟨_, rfl, by decide, _, rfl, _, rfl, ?_⟩
    show if true = true then _ else _
    rw [if_pos rfl]
    symm_saturate
    by_cases c : 0 ≤ i
    · rw [if_pos (by simpa using c)]
      have e : rnd p (.int i) = decide (i < p) := by
        by_cases c2 : i < p
        · have c3 : i ≤ p - 1 := by omega
          simp [rnd, c, c2, c3]
        · have c3 : ¬ i ≤ p - 1 := by omega
          simp [rnd, c, c2, c3]
      rw [e] at q
      exact q
    · rw [if_neg (by simpa using c)]
      simpa [rnd, c] using q
  case bl b => exact ⟨_, rfl, by decide, _, rfl, _, rfl, q⟩
  all_goals exact q
theorem c_lawrow {k c h : Nat} {d : D} {p m : Int} {S : Sto} {Q : PostE} (n : Xc c h d) (hc : c ≤ 100000) (q : Q (.bl (rwB p m d)) S) : wC T (k + 2) 11 [.int p, .int m, d] S Q := by
  refine wC_body rfl rfl ⟨rfl, ?_⟩
  show wSs _ b__law_is_row _ [some (.int p), some (.int m), some d, none] S
  simp only [b__law_is_row]
  symm_saturate
  refine ⟨_, kn_ok n.kn, by decide, ?_⟩
  rw [isT_tup n.kn]
  cases d <;> first | (simp only [b__law_is_row_0t]; exact q) | skip
  case tup xs =>
    show if (!true) = true then _ else _
    rw [if_neg (by decide)]
    symm_saturate
    have hl := n.untup.len
    refine ⟨xs.length, by simp [lenS, seqS], ?_⟩
    symm_saturate
    have q' : Q (.bl (decide ((xs.length : Int) = m) && xs.all (prB p))) S := q
    by_cases e : (xs.length : Int) = m
    · rw [if_neg (by simp [e])]
      rw [decide_eq_true e] at q'
      simp only [b__law_is_row_1]
      symm_saturate
      refine it_seq (xs := xs) rfl (lim20 (by omega)) ?_
      refine for_cps (fun zs ρ S' => S' = S ∧ (∀ z ∈ zs, Xc c h z) ∧ zs.all (prB p) = xs.all (prB p) ∧ ∃ u, ρ = [some (.int p), some (.int m), some (.tup xs), u]) (fun zs ρ S' i => by rw [i.1]; rfl) ?_ (fun ρ S' i => ?_)
        ⟨rfl, fun z hz => (n.untup.mem hz).mono (Nat.le_refl _) (by omega), rfl, none, rfl⟩
      · rintro z zs ρ S' k' ⟨rfl, hz, ha, u, rfl⟩ hk'
        have nz := hz z (by simp)
        have hzs : ∀ z ∈ zs, Xc c h z := fun y hy => hz y (by simp [hy])
        have bad : prB p z = false → Q (.bl false) S' := fun hb => by
          rw [← ha, List.all_cons, hb] at q'
          exact q'
        simp only [b__law_is_row_1b]
        symm_saturate
        refine ⟨_, kn_ok nz.kn, by decide, ?_⟩
        rw [isT_tup nz.kn]
        cases z <;> first | (simp only [b__law_is_row_1b_0t]; exact bad rfl) | skip
        case tup ys =>
          show if (!true) = true then _ else _
          rw [if_neg (by decide)]
          symm_saturate
          refine ⟨ys.length, by simp [lenS, seqS], ?_⟩
          symm_saturate
          match ys, nz, ha, bad with
          | [], nz, ha, bad => simp only [b__law_is_row_1b_0t]; exact bad rfl
          | [a], nz, ha, bad => simp only [b__law_is_row_1b_0t]; exact bad rfl
          | a :: b :: e :: r, nz, ha, bad =>
            rw [if_pos (by simp; omega)]
            simp only [b__law_is_row_1b_0t]
            exact bad rfl
          | [a, b], nz, ha, bad =>
            have ka := (nz.untup.mem (d := a) (by simp)).kn
            have kb := (nz.untup.mem (d := b) (by simp)).kn
            rw [if_neg (by simp)]
            simp only [b__law_is_row_1b_1]
            symm_saturate
            refine ⟨_, _, rfl, rfl, c_number ka ⟨_, rfl, ?_⟩⟩
            have bad' : (rnd p a && rnd p b) = false → Q (.bl false) S' := bad
            cases ra : rnd p a with
            | false =>
              simp only [b__law_is_row_1b_1t]
              exact bad' (by rw [ra]; rfl)
            | true =>
              rw [if_neg (by decide)]
              symm_saturate
              refine ⟨_, _, rfl, rfl, c_number kb ⟨_, rfl, ?_⟩⟩
              cases rb : rnd p b with
              | false =>
                simp only [b__law_is_row_1b_1t]
                exact bad' (by rw [ra, rb]; rfl)
              | true =>
                rw [if_neg (by decide)]
                refine hk' _ _ ⟨rfl, hzs, ?_, some _, rfl⟩
                rw [← ha, List.all_cons]
                have : prB p (.tup [a, b]) = true := by show (rnd p a && rnd p b) = true; rw [ra, rb]; rfl
                rw [this, Bool.true_and]
      · obtain ⟨rfl, _, ha, u, rfl⟩ := i
        simp only [b__law_is_row_2]
        symm_saturate
        rw [← ha] at q'
        exact q'
    · rw [if_pos (by simp [e])]
      rw [decide_eq_false e] at q'
      simp only [b__law_is_row_0t]
      exact q'
theorem Xc.s {c : Nat} {x : Str} (h : PyData.canLay0 (.str x) = true) (hc : x.cps.size ≤ c) : Xc c 0 (.str x) := ⟨by simpa only [xok] using h, hc, Nat.le_refl _⟩
theorem xs_of {c h : Nat} : ∀ {xs : List D}, (∀ x ∈ xs, Xc c h x) → Xs ((c + 1) * xs.length) h xs
  | [], _ => Xs.nil.mono (Nat.zero_le _) (Nat.zero_le _)
  | x :: xs, n => ((n x (by simp)).mono (Nat.le_refl _) (Nat.le_refl _) |> fun a => Xs.cons a (xs_of fun y hy => n y (by simp [hy]))).mono (by simp only [List.length_cons, Nat.mul_succ]; omega) (Nat.le_refl _)
theorem c_odd {k : Nat} {a : Addr} {p : Int} {S : Sto} {Q : PostE} (hd : S.dk = some a) (p0 : 0 ≤ p) (p1 : p ≤ 1000) (q : ∀ d, Xc 10 3 d → Q d S) : wC T (k + 2) 12 [.loc a, .int p] S Q := by
  refine wC_body rfl rfl ⟨rfl, ?_⟩
  show wSs _ b__law_odd _ [some (.loc a), some (.int p), none] S
  simp only [b__law_odd]
  symm_saturate
  refine ⟨sz rfl, sz rfl, sz rfl, sz rfl, ⟨by omega, by omega, by decide⟩, sz rfl, sz rfl, sz rfl, sz rfl, ?_⟩
  simp only [b__law_odd_1]
  symm_saturate
  refine ⟨sz rfl, ?_⟩
  rw [sem_addL]
  refine ⟨sz rfl, next_sm (T := T) rfl hd (by omega) (by omega) fun i i0 i1 => ?_⟩
  have z0 : Xc 0 0 (.int 0) := .small (by omega) (by omega)
  have n0 : Xs 0 0 [] := .nil
  have one : Xs 1 0 [.int 0] := .cons z0 n0
  have two : Xs 2 0 [.int 0, .int 0] := (Xs.cons z0 one).mono (by omega) (by omega)
  have thr : Xs 3 0 [.int 0, .int 0, .int 0] := (Xs.cons z0 two).mono (by omega) (by omega)
  have all : ∀ d ∈ [D.int p, .int (p + 1), .int (-1), .bl true, .bl false, .non, .str "0", .str "", .tup [.int 0], .tup [.int 0, .int 0, .int 0], .lst [.int 0, .int 0], .tup [], .dic [] [], .int ((10 : Int) ^ (30 : Int).toNat), .lst [], .tup [.tup [.int 0, .int 0]], .int 0, .int (p - 1)], Xc 10 3 d := fun d hd => by
    simp only [List.mem_cons, List.not_mem_nil, or_false] at hd
    rcases hd with rfl | rfl | rfl | rfl | rfl | rfl | rfl | rfl | rfl | rfl | rfl | rfl | rfl | rfl | rfl | rfl | rfl | rfl
    · exact (Xc.small (by omega) (by omega)).mono (by omega) (by omega)
    · exact (Xc.small (by omega) (by omega)).mono (by omega) (by omega)
    · exact (Xc.small (by omega) (by omega)).mono (by omega) (by omega)
    · exact ⟨rfl, by decide, by decide⟩
    · exact ⟨rfl, by decide, by decide⟩
    · exact ⟨rfl, by decide, by decide⟩
    · exact (Xc.s (by decide +kernel) (Nat.le_refl _)).mono (by decide +kernel) (by omega)
    · exact (Xc.s (by decide +kernel) (Nat.le_refl _)).mono (by decide +kernel) (by omega)
    · exact (Xc.tup one).mono (by omega) (by omega)
    · exact (Xc.tup thr).mono (by omega) (by omega)
    · exact (Xc.lst two).mono (by omega) (by omega)
    · exact (Xc.tup n0).mono (by omega) (by omega)
    · exact ⟨rfl, by decide, by decide⟩
    · exact (Xc.int (by decide +kernel)).mono (by omega) (by omega)
    · exact (Xc.lst n0).mono (by omega) (by omega)
    · exact (Xc.tup (Xs.cons (Xc.tup two) (n0.mono (Nat.le_refl _) (by omega)))).mono (by omega) (by omega)
    · exact z0.mono (by omega) (by omega)
    · exact (Xc.small (by omega) (by omega)).mono (by omega) (by omega)
  simp only [List.cons_append, List.nil_append]
  symm_saturate
  generalize hL : [D.int p, .int (p + 1), .int (-1), .bl true, .bl false, .non, .str "0", .str "", .tup [.int 0], .tup [.int 0, .int 0, .int 0], .lst [.int 0, .int 0], .tup [], .dic [] [], .int ((10 : Int) ^ (30 : Int).toNat), .lst [], .tup [.tup [.int 0, .int 0]], .int 0, .int (p - 1)] = L at all
  have ll : L.length = 18 := by rw [← hL]; rfl
  have hx : i.toNat < L.length := by omega
  exact ⟨L, L[i.toNat], rfl, atI_int i0 (List.getElem?_eq_getElem hx), q _ (all _ (List.getElem_mem hx))⟩
theorem _root_.FP.Xs.cut {c h : Nat} {xs : List D} (n : Xs c h xs) (lo hi : Option Int) : Xs c h (cutD xs lo hi) := (n.drop _).take _
theorem do_cutB {S : Sto} {Q : PostE} {xs : List D} {i : Int} (q : Q (.tup (cutD xs none (some i))) S) : (nSlB false).sem [.tup xs, .int i] S Q := ⟨.tup xs, i, rfl, q⟩
theorem do_cutA {S : Sto} {Q : PostE} {xs : List D} {i : Int} (q : Q (.tup (cutD xs (some i) none)) S) : (nSlA false).sem [.tup xs, .int i] S Q := ⟨.tup xs, i, rfl, q⟩
/-- a tuple with one item exchanged -/
theorem swap_ok {c c' : Nat} {xs : List D} {x : D} {i j : Int} (n : Xs c 4 xs) (m : Xc c' 4 x) : Xc (2 * c + c' + 1) 5 (.tup (cutD xs none (some i) ++ [x] ++ cutD xs (some j) none)) := by
  have a := (n.cut none (some i)).app (Xs.cons m (Xs.nil.mono (Nat.le_refl _) (Nat.zero_le _)))
  exact (Xc.tup (a.app (n.cut (some j) none))).mono (by omega) (by omega)
theorem _root_.FP.Xc.down {c h : Nat} {xs : List D} (n : Xc c (h + 1) (.tup xs)) : Xs c h xs := ⟨by simpa only [xok] using n.ok, by simpa only [xsz] using n.sz, by have := n.dp; simp only [xdp] at this; omega⟩
theorem c_bent {k c : Nat} {a : Addr} {p : Int} {d : D} {S : Sto} {Q : PostE} (hd : S.dk = some a) (p0 : 0 ≤ p) (p1 : p ≤ 1000) (n : Xc c 5 d) (hc : c ≤ 20000) (q : ∀ d, Xc (5 * c + 40) 5 d → Q d S) : wC T (k + 3) 13 [.loc a, .int p, d] S Q := by
  refine wC_body rfl rfl ⟨rfl, ?_⟩
  show wSs _ b__law_bent _ [some (.loc a), some (.int p), some d, none, none, none, none, none] S
  simp only [b__law_bent]
  symm_saturate
  refine next_sm (T := T) rfl hd (by omega) (by omega) fun kd k0 k1 => ?_
  simp only [b__law_bent_1]
  symm_saturate
  have first : wSs (wC T (k + 2)) b__law_bent_1t { nx := fun ρ' S' => wSs (wC T (k + 2)) b__law_bent_2 { nx := fun _ S' => Q .non S', rt := Q } ρ' S', rt := Q } [some (.loc a), some (.int p), some d, some (.int kd), none, none, none, none] S := by
    simp only [b__law_bent_1t]
    symm_saturate
    refine c_odd hd p0 p1 fun o ho => ⟨sz rfl, ?_⟩
    have no := q o (ho.mono (by omega) (by omega))
    have nd := q d (n.mono (by omega) (by omega))
    by_cases c : 4 < kd
    · rw [decide_eq_true c]
      exact ⟨_, d, rfl, rfl, nd⟩
    · rw [decide_eq_false c]
      exact ⟨_, o, rfl, rfl, no⟩
  refine ⟨_, kn_ok n.kn, by decide, ?_⟩
  rw [isT_tup n.kn]
  cases d <;> first | exact first | skip
  case tup xs =>
    show if (!true) = true then _ else _
    rw [if_neg (by decide)]
    symm_saturate
    refine ⟨sz rfl, ?_⟩
    cases hx : xs.isEmpty with
    | true => exact first
    | false =>
      rw [if_neg (by decide)]
      symm_saturate
      by_cases ck : kd = 0
      · rw [if_pos (by simpa using ck)]
        exact first
      · rw [if_neg (by simpa using ck)]
        have u := n.down
        have lx : 0 < xs.length := by cases xs <;> simp at hx ⊢
        have hl := u.len
        simp only [b__law_bent_2]
        symm_saturate
        refine ⟨xs.length, by simp [lenS, seqS], ?_⟩
        refine next_sm (T := T) rfl hd (by omega) (by omega) fun at_ a0 a1 => ?_
        simp only [b__law_bent_3]
        symm_saturate
        have hlt : at_.toNat < xs.length := by omega
        have hat : atI xs at_ = some xs[at_.toNat] := atI_int a0 (List.getElem?_eq_getElem hlt)
        have ne := u.mem (List.getElem_mem hlt)
        have cl : ∀ lo hi, (cutD xs lo hi).length ≤ 20000 := fun lo hi => Nat.le_trans (u.cut lo hi).len hc
        have z0 : Xc 0 0 (.int 0) := .small (by omega) (by omega)
        have two : Xs 2 0 [.int 0, .int 0] := (Xs.cons z0 (Xs.cons z0 .nil)).mono (by omega) (by omega)
        by_cases c1 : kd = 1
        · rw [if_pos (by simpa using c1)]
          simp only [b__law_bent_3t]
          symm_saturate
          refine ⟨.tup xs, xs, rfl, rfl, ?_⟩
          show newL false _ _ _
          simp only [newL, Bool.false_eq_true, if_false]
          refine ⟨sz rfl, sz rfl, ?_⟩
          symm_saturate
          refine ⟨lim20 (by simp; omega), do_cutB (do_cutA ?_)⟩
          symm_saturate
          refine ⟨lim20 (by have := cl none (some at_); have := cl (some (at_ + 1)) none; omega), ?_⟩
          refine do_revT ?_
          refine ⟨sz rfl, next_sm (T := T) rfl hd (by omega) (by omega) fun w w0 w1 => ?_⟩
          symm_saturate
          have : w = 0 ∨ w = 1 ∨ w = 2 ∨ w = 3 := by omega
          rcases this with rfl | rfl | rfl | rfl
          · exact ⟨_, _, rfl, rfl, q _ ((Xc.lst u).mono (by omega) (by omega))⟩
          · exact ⟨_, _, rfl, rfl, q _ ((Xc.tup (u.app (Xs.cons ((Xc.tup two).mono (Nat.le_refl _) (by omega)) (Xs.nil.mono (Nat.le_refl _) (Nat.zero_le _))))).mono (by omega) (by omega))⟩
          · exact ⟨_, _, rfl, rfl, q _ ((Xc.tup ((u.cut none (some at_)).app (u.cut (some (at_ + 1)) none))).mono (by omega) (by omega))⟩
          · exact ⟨_, _, rfl, rfl, q _ ((Xc.tup u.rev).mono (by omega) (by omega))⟩
        · rw [if_neg (by simpa using c1)]
          simp only [b__law_bent_4]
          symm_saturate
          have second : wSs (wC T (k + 2)) b__law_bent_4t { nx := fun ρ' S' => wSs (wC T (k + 2)) b__law_bent_5 { nx := fun _ S' => Q .non S', rt := Q } ρ' S', rt := Q } [some (.loc a), some (.int p), some (.tup xs), some (.int kd), some (.int at_), none, none, none] S := by
            simp only [b__law_bent_4t]
            symm_saturate
            refine do_cutB (c_odd hd p0 p1 fun o ho => ⟨sz rfl, ?_⟩)
            symm_saturate
            refine ⟨lim20 (by have := cl none (some at_); simp; omega), do_cutA ?_⟩
            symm_saturate
            refine ⟨lim20 (by have := cl none (some at_); have := cl (some (at_ + 1)) none; simp; omega), q _ ?_⟩
            exact (swap_ok (u.mono (Nat.le_refl _) (by omega)) (ho.mono (Nat.le_refl _) (by omega))).mono (by omega) (by omega)
          by_cases c2 : kd = 2
          · rw [if_pos (by simpa using c2)]
            exact second
          · rw [if_neg (by simpa using c2)]
            refine ⟨_, _, rfl, hat, ?_⟩
            symm_saturate
            refine ⟨_, kn_ok ne.kn, by decide, ?_⟩
            rw [isT_tup ne.kn]
            generalize he : xs[at_.toNat] = e at hat ne
            cases e <;> first | exact second | skip
            case tup ys =>
              show if (!true) = true then _ else _
              rw [if_neg (by decide)]
              symm_saturate
              refine ⟨_, _, rfl, hat, ?_⟩
              symm_saturate
              refine ⟨ys.length, by simp [lenS, seqS], ?_⟩
              symm_saturate
              match ys, hat, ne with
              | [], hat, ne => exact second
              | [x], hat, ne => exact second
              | x :: y :: z :: r, hat, ne =>
                rw [if_pos (by simp; omega)]
                exact second
              | [x, y], hat, ne =>
                rw [if_neg (by simp)]
                have nx := ne.down.mem (d := x) (by simp)
                have ny := ne.down.mem (d := y) (by simp)
                simp only [b__law_bent_5]
                symm_saturate
                refine ⟨_, _, rfl, hat, ⟨[x, y], rfl, rfl, _, _, rfl, _, _, rfl, ?_⟩⟩
                simp only [b__law_bent_6]
                symm_saturate
                refine c_odd hd p0 p1 fun o ho => ⟨sz rfl, c_odd hd p0 p1 fun o' ho' => ⟨sz rfl, sz rfl, sz rfl, sz rfl, sz rfl, sz rfl, ?_⟩⟩
                simp only [b__law_bent_7]
                symm_saturate
                refine do_cutB ?_
                have nil3 : Xs 0 3 [] := Xs.nil.mono (Nat.le_refl _) (Nat.zero_le _)
                have ho3 := ho.mono (Nat.le_refl _) (show 3 ≤ 3 by omega)
                have fin : ∀ e, Xc (3 * c + 20) 4 e → ∀ i, atI [D.tup [x, o], .tup [o', y], .tup [x, y, x], .tup [y], .lst [x, y], .tup [y, x]] i = some e → i = kd - 3 →
                    nIx.sem [.lst [D.tup [x, o], .tup [o', y], .tup [x, y, x], .tup [y], .lst [x, y], .tup [y, x]], .int (kd - 3)] S fun d S1 => ([d] : List D).length ≤ sizeLine ∧ (nAdd false).sem [.tup (cutD xs none (some at_)), .tup [d]] S1 fun d S1 => (nSlA false).sem [.tup xs, .int (at_ + 1)] S1 fun d_1 S1 => (nAdd false).sem [d, d_1] S1 Q := by
                  intro e ne' i hi hk
                  subst hk
                  rw [sem_ix]
                  refine ⟨_, e, rfl, hi, sz rfl, ?_⟩
                  symm_saturate
                  refine ⟨lim20 (by have := cl none (some at_); simp; omega), do_cutA ?_⟩
                  symm_saturate
                  refine ⟨lim20 (by have := cl none (some at_); have := cl (some (at_ + 1)) none; simp; omega), q _ ?_⟩
                  exact (swap_ok (u.mono (Nat.le_refl _) (by omega)) ne').mono (by omega) (by omega)
                have fin' := fin
                simp only [sem_ix] at fin'
                have : kd = 3 ∨ kd = 4 ∨ kd = 5 ∨ kd = 6 ∨ kd = 7 := by omega
                rcases this with rfl | rfl | rfl | rfl | rfl
                · exact fin' (.tup [x, o]) ((Xc.tup (Xs.cons (nx.mono (Nat.le_refl _) (by omega)) (Xs.cons ho3 nil3))).mono (by omega) (by omega)) 0 rfl rfl
                · exact fin' (.tup [o', y]) ((Xc.tup (Xs.cons (ho'.mono (Nat.le_refl _) (show 3 ≤ 3 by omega)) (Xs.cons (ny.mono (Nat.le_refl _) (by omega)) nil3))).mono (by omega) (by omega)) 1 rfl rfl
                · exact fin' (.tup [x, y, x]) ((Xc.tup (Xs.cons (nx.mono (Nat.le_refl _) (show _ ≤ 3 by omega)) (Xs.cons (ny.mono (Nat.le_refl _) (by omega)) (Xs.cons (nx.mono (Nat.le_refl _) (by omega)) nil3)))).mono (by omega) (by omega)) 2 rfl rfl
                · exact fin' (.tup [y]) ((Xc.tup (Xs.cons (ny.mono (Nat.le_refl _) (show _ ≤ 3 by omega)) nil3)).mono (by omega) (by omega)) 3 rfl rfl
                · exact fin' (.lst [x, y]) ((Xc.lst (Xs.cons (nx.mono (Nat.le_refl _) (show _ ≤ 3 by omega)) (Xs.cons (ny.mono (Nat.le_refl _) (by omega)) nil3))).mono (by omega) (by omega)) 4 rfl rfl
theorem xc_row {r : Rw} {p : Int} (h : In p r) (hp : p ≤ 1000) (hl : r.length ≤ 20) : Xc 60 2 (rowD r) := by
  have one : ∀ q ∈ r, Xc 2 1 (prD q) := fun q hq => by
    obtain ⟨a, b, c, d⟩ := h q hq
    exact (Xc.tup (Xs.cons (Xc.small (i := q.1) (by omega) (by omega)) (Xs.cons (Xc.small (i := q.2) (by omega) (by omega)) .nil))).mono (by omega) (by omega)
  refine (Xc.tup (xs_of (c := 2) (h := 1) (xs := r.map prD) fun d hd => ?_)).mono (by simp; omega) (by omega)
  obtain ⟨q, hq, rfl⟩ := List.mem_map.mp hd
  exact one q hq
theorem row_right {r : Rw} {p : Int} (h : In p r) : rwB p (r.length : Int) (rowD r) = true := by
  show (decide (((r.map prD).length : Int) = (r.length : Int)) && (r.map prD).all (prB p)) = true
  rw [List.length_map, decide_eq_true rfl, Bool.true_and, List.all_map, List.all_eq_true]
  intro q hq
  obtain ⟨a, b, c, d⟩ := h q hq
  show (rnd p (.int q.1) && rnd p (.int q.2)) = true
  simp only [rnd, Bool.and_eq_true, decide_eq_true_eq]
  omega
theorem law_ok (ns : List Int) (hl : ns.length ≤ 63) (hb : ∀ z ∈ ns, Builtin.Int.intBits z ≤ 1048576) : wC T dep 14 [.scr ns] S00 fun d _ => d = .bl true := by
  refine wC_body rfl rfl ⟨rfl, ?_⟩
  show wSs _ b_law _ [some (.scr ns), none, none, none, none, none, none, none, none, none, none, none, none] S00
  simp only [b_law]
  symm_saturate
  refine deck_at (T := T) rfl hl hb rfl fun a S _ hd => ?_
  simp only [b_law_1]
  symm_saturate
  refine it_rg1 (rg62 (by omega) (by omega)) ?_
  refine for_rg (fun _ ρ S' => S'.dk = some a ∧ ∃ u1 u2 u3 u4 u5 u6 u7 u8 u9 u10 u11, ρ = [some (.scr ns), some (.loc a), u1, u2, u3, u4, u5, u6, u7, u8, u9, u10, u11]) (by omega) ?_ (fun ρ S' i => ?_) ⟨hd, none, none, none, none, none, none, none, none, none, none, none, rfl⟩
  · rintro i ρ S' k' i0 i1 ⟨hd, u1, u2, u3, u4, u5, u6, u7, u8, u9, u10, u11, rfl⟩ hk
    simp only [b_law_1b]
    symm_saturate
    refine prime_at (T := T) (c := 6) rfl rfl hd fun p hp => ?_
    obtain ⟨p0, p1⟩ := isPr_b hp
    simp only [b_law_1b_1]
    symm_saturate
    refine next_sm (T := T) rfl hd (by omega) (by omega) fun x x0 x1 => ?_
    refine next_sm (T := T) rfl hd (by omega) (by omega) fun y y0 y1 => ?_
    refine ⟨sz rfl, next_sm (T := T) rfl hd (by omega) (by omega) fun z z0 z1 => ?_⟩
    symm_saturate
    have hn : ∃ n : Int, 0 ≤ n ∧ n ≤ 20 ∧ atI [D.int x, .int y] z = some (.int n) := by
      have : z = 0 ∨ z = 1 := by omega
      rcases this with rfl | rfl
      · exact ⟨x, x0, by omega, rfl⟩
      · exact ⟨y, y0, by omega, rfl⟩
    obtain ⟨n, n0, n1, hn⟩ := hn
    refine ⟨_, _, rfl, hn, ?_⟩
    simp only [b_law_1b_2]
    symm_saturate
    refine row_at (T := T) (c := 8) (c' := 6) rfl rfl rfl hd (by omega) (by omega) n0 (by omega) fun r lr hr => ?_
    have xr := xc_row hr (by omega) (by omega)
    simp only [b_law_1b_3]
    symm_saturate
    refine c_bent hd (by omega) (by omega) (xr.mono (Nat.le_refl _) (show 2 ≤ 5 by omega)) (by omega) fun d1 n1' => ?_
    simp only [b_law_1b_4]
    symm_saturate
    refine c_bent hd (by omega) (by omega) n1' (by omega) fun d2 n2' => ?_
    simp only [b_law_1b_5]
    symm_saturate
    refine c_bent hd (by omega) (by omega) n2' (by omega) fun d3 n3' => ?_
    refine c_odd hd (by omega) (by omega) fun d4 n4' => ?_
    have all : ∀ e ∈ [rowD r, d1, d2, d3, d4], Xc 90000 5 e := fun e he => by
      simp only [List.mem_cons, List.not_mem_nil, or_false] at he
      rcases he with rfl | rfl | rfl | rfl | rfl
      · exact xr.mono (by omega) (by omega)
      · exact n1'.mono (by omega) (by omega)
      · exact n2'.mono (by omega) (by omega)
      · exact n3'.mono (by omega) (by omega)
      · exact n4'.mono (by omega) (by omega)
    refine ⟨sz rfl, it_seq (xs := [rowD r, d1, d2, d3, d4]) rfl (sz rfl) ?_⟩
    generalize hE : [rowD r, d1, d2, d3, d4] = es at all
    refine for_cps (fun zs ρ S2 => S2 = S' ∧ (∀ z ∈ zs, Xc 90000 5 z) ∧ ∃ v1 v2 v3 v4 v5, ρ = [some (.scr ns), some (.loc a), some (.int i), some (.int p), some (.int n), some (rowD r), some d1, some d2, v1, v2, v3, v4, v5]) (fun zs ρ S2 j => by rw [← hE]; rfl) ?_ (fun ρ S2 j => ?_) ⟨rfl, all, u7, u8, u9, u10, u11, rfl⟩
    · rintro e zs ρ S2 k2 ⟨rfl, hz, v1, v2, v3, v4, v5, rfl⟩ hk2
      have ne := hz e (by simp)
      have hzs : ∀ z ∈ zs, Xc 90000 5 z := fun y hy => hz y (by simp [hy])
      simp only [b_law_1b_5b]
      symm_saturate
      refine do_reprX ne (by omega) (by omega) ?_
      simp only [b_law_1b_5b_1]
      symm_saturate
      refine ⟨20, n + 1, rfl, ⟨0, n - 1, rfl, sz rfl, ?_⟩⟩
      have mi : ∀ z ∈ [D.int n, .int (if n + 1 < 20 then n + 1 else 20), .int (if n - 1 > 0 then n - 1 else 0)], ∃ m : Int, z = .int m := fun z hz => by
        simp only [List.mem_cons, List.not_mem_nil, or_false] at hz
        rcases hz with rfl | rfl | rfl <;> exact ⟨_, rfl⟩
      refine it_seq (xs := [D.int n, .int (if n + 1 < 20 then n + 1 else 20), .int (if n - 1 > 0 then n - 1 else 0)]) rfl (sz rfl) ?_
      refine for_cps (fun ms ρ S3 => S3 = S2 ∧ (∀ z ∈ ms, ∃ m : Int, z = .int m) ∧ ∃ w1 w2 w3, ρ = [some (.scr ns), some (.loc a), some (.int i), some (.int p), some (.int n), some (rowD r), some d1, some d2, some e, some (.str (toX e).shown), w1, w2, w3]) (fun ms ρ S3 j => rfl) ?_ (fun ρ S3 j => ?_) ⟨rfl, mi, v3, v4, v5, rfl⟩
      · rintro m ms ρ S3 k3 ⟨rfl, hm, w1, w2, w3, rfl⟩ hk3
        obtain ⟨m, rfl⟩ := hm m (by simp)
        have hms : ∀ z ∈ ms, ∃ m : Int, z = D.int m := fun z h => hm z (by simp [h])
        simp only [b_law_1b_5b_1b]
        symm_saturate
        refine ⟨sz rfl, it_seq (xs := [.int p, .int 2, .int 13]) rfl (sz rfl) ?_⟩
        refine for_cps (fun qs ρ S4 => S4 = S3 ∧ (∀ z ∈ qs, ∃ q : Int, z = .int q) ∧ ∃ w2 w3, ρ = [some (.scr ns), some (.loc a), some (.int i), some (.int p), some (.int n), some (rowD r), some d1, some d2, some e, some (.str (toX e).shown), some (.int m), w2, w3]) (fun qs ρ S4 j => rfl) ?_ (fun ρ S4 j => ?_) ⟨rfl, fun z hz => ?_, w2, w3, rfl⟩
        · rintro q qs ρ S4 k4 ⟨rfl, hq, w2, w3, rfl⟩ hk4
          obtain ⟨q, rfl⟩ := hq q (by simp)
          have hqs : ∀ z ∈ qs, ∃ q : Int, z = D.int q := fun z h => hq z (by simp [h])
          simp only [b_law_1b_5b_1b_0b]
          symm_saturate
          refine c_isrow ne (by omega) ?_
          simp only [b_law_1b_5b_1b_0b_1]
          symm_saturate
          refine ⟨_, rfl, by decide, ?_⟩
          show if (!true) = true then _ else _
          rw [if_neg (by decide)]
          refine c_lawrow ne (by omega) ?_
          symm_saturate
          exact hk4 _ _ ⟨rfl, hqs, some (.int q), some (.bl _), rfl⟩
        · obtain ⟨rfl, _, w2, w3, rfl⟩ := j
          exact hk3 _ _ ⟨rfl, hms, some (.int m), w2, w3, rfl⟩
        · simp only [List.mem_cons, List.not_mem_nil, or_false] at hz
          rcases hz with rfl | rfl | rfl <;> exact ⟨_, rfl⟩
      · obtain ⟨rfl, _, w1, w2, w3, rfl⟩ := j
        simp only [b_law_1b_5b_2]
        symm_saturate
        refine do_reprX ne (by omega) (by omega) ?_
        symm_saturate
        exact hk2 _ _ ⟨rfl, hzs, some e, some (.str _), w1, w2, w3, rfl⟩
    · obtain ⟨rfl, _, v1, v2, v3, v4, v5, rfl⟩ := j
      simp only [b_law_1b_6]
      symm_saturate
      refine c_isrow xr (by omega) ?_
      have e : rwB p n (rowD r) = true := by
        have := row_right hr
        rw [lr, Int.toNat_of_nonneg n0] at this
        exact this
      rw [e]
      symm_saturate
      exact hk _ _ ⟨hd, _, _, _, _, _, _, _, _, _, _, _, rfl⟩
  · simp only [b_law_2]
    symm_saturate
end FP.Law

open PySem PySem.W PySem.Calls PyProof.Rows
theorem PySem.Challenge.cw_fairposts_k03_rows_or_not_holds : PySem.Challenge.rw_fairposts_k03_rows_or_not.Holds := by
  w_on; o_law
  refine HandSHeadRun.head_any (r := OpenLaw.row PySem.Challenge.rw_fairposts_k03_rows_or_not) (q := view (OpenLaw.row PySem.Challenge.rw_fairposts_k03_rows_or_not).prog [17]) (H := FP.Law.hk) (ob := FP.Law.ob) (M := 820) (loose := FP.Law.loose) (d := HandSHeadRun.topDef (OpenLaw.row PySem.Challenge.rw_fairposts_k03_rows_or_not).prog 17) (kwd := []) FP.Law.ob_eq
    (by kernel_rfl) (fun s => by kernel_rfl) FP.Law.run (by kernel_rfl) (by kernel_rfl) (by kernel_rfl) (by rfl) (by first | assumption | decide +kernel) (by decide +kernel) ⟨rfl, rfl, rfl, rfl, rfl, by decide +kernel⟩ ?hw ?hc
  case hw => w_witness2
  case hc =>
    exact FP.law_all (l := PySem.Challenge.rw_fairposts_k03_rows_or_not) (m := 4) (fa := FP.Law.fas) (fn := FP.Law.dfs) (gs := FP.Law.gcs) FP.Law.T FP.Law.dep 14 ⟨"law", ["_law_script"], FP.Law.n_law, FP.Law.b_law, none, 0⟩ rfl (by kernel_rfl) ⟨rfl, by decide, by decide⟩ (by kernel_rfl) rfl (by decide) rfl (fun x hx => List.mem_append_right _ (List.mem_map_of_mem hx)) (fun _ _ _ _ _ X G c fr sm => FP.Law.tabs X G c fr sm) (by decide +kernel) FP.Law.law_ok

