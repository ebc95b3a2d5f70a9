import PyProof.Rows.All
import Wide.All
import OpenK.AllK
import Wide.FinOn
import HandS.ForMost
import HandS.EndBits
import HandS.Wide
import HandS.Zip
import HandS.TupMul
import HandS.TupAny
import HandS.IsInst
import HandS.Style
import HandS.Flow
import HandS.NoneIn
import HandS.Head0
import HandS.Head1
import HandS.Head2
import HandS.HeadEnd
import HandS.HeadHook1
import HandS.HeadHook2
import HandS.Defaults
import HandS.Strs
import HandS.Conv
import HandS.WideMore
import HandS.More
import HandS.SortInts
import KE.KDictZip
import KE.KDictItemsList
import KE.GoesEnum
import KE.SortData
import HandS.Deep
import HandS.SetFor
import PySem.Challenge.RW_fairposts_k15_mirrors
set_option Elab.async false
set_option linter.all false
set_option maxRecDepth 100000
set_option maxHeartbeats 0
namespace FP
section
open PySem PySem.Spec PyProof.Rows L2
inductive D where
  | non | bl (b : Bool) | int (i : Int) | str (x : Str) | ty (n : String)
  | tup (xs : List D) | lst (xs : List D) | dic (ks : List Key) (ds : List D)
  | loc (a : Addr) | scr (ns : List Int) | obj (c : Str) (ns : List Str) (ds : List D)
def fieldsOf (c : Str) : List Str :=
  if c = ("Thing" : Str) then ["prime", "count", "lot"] else
  if c = ("Bench" : Str) then ["prime", "bound", "state", "past", "tale"] else
  if c = ("Curtain" : Str) then ["prime", "wide", "told_rows"] else
  if c = ("Desk" : Str) then ["bench", "rows_heard"] else
  if c = ("Reader" : Str) then ["prime", "gadgets", "ties", "wide", "tied"] else []
/-- built-in kinds that no instance of an own class is of -/
def bKinds : List String := ["NoneType", "bool", "int", "str", "list", "tuple", "dict"]
/-- what of the text a class of the program has -/
structure ClsF (K : PySem.W.Frag) (c : Str) : Prop where
  cl : Cls K (He.ga K c)
  nf : ∀ n ∈ fieldsOf c, NoAttr K (He.ga K c) n
  ha : PySem.W.findIn K (.ref (He.ga K c)) "__class__" = some (some (.builtin "object.__class__"))
  hn : PySem.W.specialIn K (.builtin "object.__class__") "__get__" = some (some (.builtin "getset_descriptor.__get__"))
  ht : PySem.W.takesIn K (.builtin "object.__class__") = some true
  hm : PySem.W.mroIn K (He.ga K c) (.type "object") = some true
  ne : PySem.W.findIn K (.ref (He.ga K c)) "__ne__" = some (some (.builtin "object.__ne__"))
  self : PySem.W.kitOne K (.ref (He.ga K c)) (.ref (He.ga K c)) = some true
  oth : ∀ t ∈ bKinds, PySem.W.kitOne K (.type t) (.ref (He.ga K c)) = some false
def clB (K : PySem.W.Frag) (c : Str) : Bool :=
  He.Fa.ok K (.cls c) && ((fieldsOf c).all (fun n => He.Fa.ok K (.noat c n)) && (He.eqO (PySem.W.findIn K (.ref (He.ga K c)) "__class__") (some (some (.builtin "object.__class__"))) &&
    (He.eqO (PySem.W.specialIn K (.builtin "object.__class__") "__get__") (some (some (.builtin "getset_descriptor.__get__"))) && (decide (PySem.W.takesIn K (.builtin "object.__class__") = some true) &&
    (decide (PySem.W.mroIn K (He.ga K c) (.type "object") = some true) && (He.eqO (PySem.W.findIn K (.ref (He.ga K c)) "__ne__") (some (some (.builtin "object.__ne__"))) && (decide (PySem.W.kitOne K (.ref (He.ga K c)) (.ref (He.ga K c)) = some true) && bKinds.all fun t => decide (PySem.W.kitOne K (.type t) (.ref (He.ga K c)) = some false))))))))
mutual
def Rep (K : PySem.W.Frag) (H : Hp) : D → V → Prop
  | .non, v => v = .non
  | .bl b, v => v = .bl b
  | .int i, v => v = .int i
  | .str x, v => v = .str x
  | .ty n, v => v = .ty n
  | .tup xs, v => ∃ a vs, v = .ref a ∧ SqT K H a vs ∧ RepL K H xs vs
  | .lst xs, v => ∃ a vs, v = .ref a ∧ Rd H a (.lst vs) ∧ RepL K H xs vs
  | .dic ks ds, v => ∃ a vs, v = .ref a ∧ H a = some (.dK vs) ∧ vs.map (·.1) = ks ∧ RepL K H ds (vs.map (·.2))
  | .loc a, v => v = .ref a
  | .scr ns, v => ∃ a, v = .ref a ∧ SqL K H a (ns.map V.int)
  | .obj c ns ds, v => ∃ a dx vs, v = .ref a ∧ H a = some (.ins (He.ga K c) dx vs) ∧ ClsF K c ∧ (∀ n ∈ ns, n ∈ fieldsOf c) ∧ vs.map (·.1) = ns ∧ RepL K H ds (vs.map (·.2))
def RepL (K : PySem.W.Frag) (H : Hp) : List D → List V → Prop
  | [], vs => vs = []
  | d :: ds, vs => ∃ v r, vs = v :: r ∧ Rep K H d v ∧ RepL K H ds r
end
def Le (H H' : Hp) : Prop := ∀ a o, H a = some o → H' a = some o
theorem Le.refl (H : Hp) : Le H H := fun _ _ h => h
theorem Le.trans {A B C : Hp} (p : Le A B) (q : Le B C) : Le A C := fun a o h => q a o (p a o h)
theorem Le.new {H : Hp} {p : Addr} {o : HO} (h : H p = none) : Le H (upd H p o) := fun a u e => by
  rw [upd_ne (ne_of_none e h)]; exact e
theorem Le.rd {H H' : Hp} (l : Le H H') {a : Addr} {u : HO} (r : Rd H a u) : Rd H' a u := by
  rcases r with r | ⟨o, r⟩
  · exact .inl (l _ _ r)
  · exact .inr ⟨o, l _ _ r⟩
theorem Le.sqL {K : PySem.W.Frag} {H H' : Hp} (l : Le H H') {a : Addr} {xs : List V} (r : SqL K H a xs) : SqL K H' a xs := by
  rcases r with r | r
  · exact .inl (l.rd r)
  · exact .inr r
theorem Le.sqT {K : PySem.W.Frag} {H H' : Hp} (l : Le H H') {a : Addr} {xs : List V} (r : SqT K H a xs) : SqT K H' a xs := by
  rcases r with r | r
  · exact .inl (l.rd r)
  · exact .inr r
mutual
theorem Rep.mono {K : PySem.W.Frag} {H H' : Hp} (l : Le H H') : ∀ {d : D} {v : V}, Rep K H d v → Rep K H' d v
  | .non, _, h => by simpa only [Rep] using h
  | .bl _, _, h => by simpa only [Rep] using h
  | .int _, _, h => by simpa only [Rep] using h
  | .str _, _, h => by simpa only [Rep] using h
  | .ty _, _, h => by simpa only [Rep] using h
  | .loc _, _, h => by simpa only [Rep] using h
  | .tup xs, v, h => by
    simp only [Rep] at h ⊢
    obtain ⟨a, vs, e, s, r⟩ := h
    exact ⟨a, vs, e, l.sqT s, RepL.mono l r⟩
  | .lst xs, v, h => by
    simp only [Rep] at h ⊢
    obtain ⟨a, vs, e, s, r⟩ := h
    exact ⟨a, vs, e, l.rd s, RepL.mono l r⟩
  | .scr ns, v, h => by
    simp only [Rep] at h ⊢
    obtain ⟨a, e, s⟩ := h
    exact ⟨a, e, l.sqL s⟩
  | .dic ks ds, v, h => by
    simp only [Rep] at h ⊢
    obtain ⟨a, vs, e, s, k, r⟩ := h
    exact ⟨a, vs, e, l _ _ s, k, RepL.mono l r⟩
  | .obj c ns ds, v, h => by
    simp only [Rep] at h ⊢
    obtain ⟨a, dx, vs, e, s, cf, nf, k, r⟩ := h
    exact ⟨a, dx, vs, e, l _ _ s, cf, nf, k, RepL.mono l r⟩
theorem RepL.mono {K : PySem.W.Frag} {H H' : Hp} (l : Le H H') : ∀ {ds : List D} {vs : List V}, RepL K H ds vs → RepL K H' ds vs
  | [], _, h => by simpa only [RepL] using h
  | d :: ds, _, h => by
    simp only [RepL] at h ⊢
    obtain ⟨v, r, e, a, b⟩ := h
    exact ⟨v, r, e, Rep.mono l a, RepL.mono l b⟩
end
section
variable {K : PySem.W.Frag} {H : Hp}
theorem RepL.nil : RepL K H [] [] := by simp only [RepL]
theorem RepL.cons {d : D} {v : V} {ds : List D} {vs : List V} (a : Rep K H d v) (b : RepL K H ds vs) : RepL K H (d :: ds) (v :: vs) := by
  simp only [RepL]
  exact ⟨v, vs, rfl, a, b⟩
theorem RepL.length : ∀ {ds : List D} {vs : List V}, RepL K H ds vs → vs.length = ds.length
  | [], _, h => by simp only [RepL] at h; subst h; rfl
  | d :: ds, _, h => by
    simp only [RepL] at h
    obtain ⟨v, r, rfl, a, b⟩ := h
    simp only [List.length_cons, RepL.length b]
theorem RepL.get : ∀ {ds : List D} {vs : List V} {i : Nat} {d : D}, RepL K H ds vs → ds[i]? = some d → ∃ v, vs[i]? = some v ∧ Rep K H d v
  | [], _, _, _, _, e => by simp at e
  | d :: ds, _, 0, _, h, e => by
    simp only [RepL] at h
    obtain ⟨v, r, rfl, a, b⟩ := h
    simp at e; subst e; exact ⟨v, by simp, a⟩
  | d :: ds, _, i + 1, _, h, e => by
    simp only [RepL] at h
    obtain ⟨v, r, rfl, a, b⟩ := h
    obtain ⟨u, h1, h2⟩ := RepL.get (i := i) b (by simpa using e)
    exact ⟨u, by simpa using h1, h2⟩
theorem RepL.append : ∀ {ds es : List D} {vs us : List V}, RepL K H ds vs → RepL K H es us → RepL K H (ds ++ es) (vs ++ us)
  | [], _, _, _, h, k => by simp only [RepL] at h; subst h; exact k
  | d :: ds, _, _, _, h, k => by
    simp only [RepL] at h
    obtain ⟨v, r, rfl, a, b⟩ := h
    exact .cons a (RepL.append b k)
theorem RepL.take : ∀ (n : Nat) {ds : List D} {vs : List V}, RepL K H ds vs → RepL K H (ds.take n) (vs.take n)
  | 0, _, _, _ => by
    show RepL K H [] []
    exact .nil
  | n + 1, [], _, h => by
    simp only [RepL] at h
    subst h
    exact .nil
  | n + 1, d :: ds, _, h => by
    simp only [RepL] at h
    obtain ⟨v, r, rfl, a, b⟩ := h
    exact .cons a (RepL.take n b)
theorem RepL.drop : ∀ (n : Nat) {ds : List D} {vs : List V}, RepL K H ds vs → RepL K H (ds.drop n) (vs.drop n)
  | 0, _, _, h => h
  | n + 1, [], _, h => by simp only [RepL] at h; subst h; exact .nil
  | n + 1, d :: ds, _, h => by
    simp only [RepL] at h
    obtain ⟨v, r, rfl, a, b⟩ := h
    exact RepL.drop n b
theorem RepL.set {d : D} {v : V} (r : Rep K H d v) : ∀ (i : Nat) {ds : List D} {vs : List V}, RepL K H ds vs → RepL K H (ds.set i d) (vs.set i v)
  | _, [], _, h => by simp only [RepL] at h; subst h; exact .nil
  | 0, e :: ds, _, h => by
    simp only [RepL] at h
    obtain ⟨v, r', rfl, a, b⟩ := h
    exact .cons r b
  | i + 1, e :: ds, _, h => by
    simp only [RepL] at h
    obtain ⟨v, r', rfl, a, b⟩ := h
    exact .cons a (RepL.set r i b)
theorem RepL.eraseIdx : ∀ (i : Nat) {ds : List D} {vs : List V}, RepL K H ds vs → RepL K H (ds.eraseIdx i) (vs.eraseIdx i)
  | _, [], _, h => by simp only [RepL] at h; subst h; exact .nil
  | 0, e :: ds, _, h => by
    simp only [RepL] at h
    obtain ⟨v, r', rfl, a, b⟩ := h
    exact b
  | i + 1, e :: ds, _, h => by
    simp only [RepL] at h
    obtain ⟨v, r', rfl, a, b⟩ := h
    exact .cons a (RepL.eraseIdx i b)
theorem RepL.reverse : ∀ {ds : List D} {vs : List V}, RepL K H ds vs → RepL K H ds.reverse vs.reverse
  | [], _, h => by simp only [RepL] at h; subst h; exact .nil
  | d :: ds, _, h => by
    simp only [RepL] at h
    obtain ⟨v, r', rfl, a, b⟩ := h
    simp only [List.reverse_cons]
    exact (RepL.reverse b).append (.cons a .nil)
theorem RepL.rep {ds : List D} {vs : List V} (h : RepL K H ds vs) : ∀ n : Nat, RepL K H (List.replicate n ds).flatten (List.replicate n vs).flatten
  | 0 => .nil
  | n + 1 => by
    simp only [List.replicate_succ, List.flatten_cons]
    exact h.append (RepL.rep h n)
theorem RepL.map {α : Type} {f : α → D} {g : α → V} (h : ∀ x, Rep K H (f x) (g x)) : ∀ xs : List α, RepL K H (xs.map f) (xs.map g)
  | [] => .nil
  | x :: xs => .cons (h x) (RepL.map h xs)
theorem RepL.one {d : D} {vs : List V} (h : RepL K H [d] vs) : ∃ v, vs = [v] ∧ Rep K H d v := by
  simp only [RepL] at h
  obtain ⟨v, r, rfl, a, rfl⟩ := h
  exact ⟨v, rfl, a⟩
theorem RepL.two {d e : D} {vs : List V} (h : RepL K H [d, e] vs) : ∃ v u, vs = [v, u] ∧ Rep K H d v ∧ Rep K H e u := by
  simp only [RepL] at h
  obtain ⟨v, r, rfl, a, u, r', rfl, b, rfl⟩ := h
  exact ⟨v, u, rfl, a, b⟩
theorem RepL.three {d e f : D} {vs : List V} (h : RepL K H [d, e, f] vs) : ∃ v u w, vs = [v, u, w] ∧ Rep K H d v ∧ Rep K H e u ∧ Rep K H f w := by
  simp only [RepL] at h
  obtain ⟨v, r, rfl, a, u, r', rfl, b, w, r2, rfl, c, rfl⟩ := h
  exact ⟨v, u, w, rfl, a, b, c⟩
theorem RepL.ints : ∀ {ns : List Int} {vs : List V}, RepL K H (ns.map D.int) vs → vs = ns.map V.int
  | [], _, h => by simpa only [List.map_nil, RepL] using h
  | n :: ns, _, h => by
    simp only [List.map_cons, RepL, Rep] at h
    obtain ⟨v, r, rfl, rfl, b⟩ := h
    rw [RepL.ints b, List.map_cons]
theorem RepL.strs : ∀ {ns : List Str} {vs : List V}, RepL K H (ns.map D.str) vs → vs = ns.map V.str
  | [], _, h => by simpa only [List.map_nil, RepL] using h
  | n :: ns, _, h => by
    simp only [List.map_cons, RepL, Rep] at h
    obtain ⟨v, r, rfl, rfl, b⟩ := h
    rw [RepL.strs b, List.map_cons]
theorem RepL.of_ints (ns : List Int) : RepL K H (ns.map D.int) (ns.map V.int) := RepL.map (fun x => by simp only [Rep]) ns
end
inductive O where
  | lst (xs : List D) | dK (ks : List Key) (ds : List D) | ins (c : Str) (ns : List Str) (ds : List D)
structure Sto where
  m : Addr → Option O
  dk : Option Addr
def Sto.put (S : Sto) (a : Addr) (o : O) : Sto := { S with m := fun b => if b = a then some o else S.m b }
def Sto.del (S : Sto) (a : Addr) : Sto := { S with m := fun b => if b = a then none else S.m b }
theorem Sto.put_same {S : Sto} {a : Addr} {o : O} : (S.put a o).m a = some o := by simp [Sto.put]
theorem Sto.put_ne {S : Sto} {a b : Addr} {o : O} (h : b ≠ a) : (S.put a o).m b = S.m b := by simp [Sto.put, h]
theorem Sto.put_dk {S : Sto} {a : Addr} {o : O} : (S.put a o).dk = S.dk := rfl
theorem Sto.del_dk {S : Sto} {a : Addr} : (S.del a).dk = S.dk := rfl
def RepO (K : PySem.W.Frag) (H : Hp) : O → HO → Prop
  | .lst xs, o => ∃ vs, o = .lst vs ∧ RepL K H xs vs
  | .dK ks ds, o => ∃ vs, o = .dK vs ∧ vs.map (·.1) = ks ∧ RepL K H ds (vs.map (·.2))
  | .ins c ns ds, o => ∃ dx vs, o = .ins (He.ga K c) dx vs ∧ ClsF K c ∧ (∀ n ∈ ns, n ∈ fieldsOf c) ∧ vs.map (·.1) = ns ∧ RepL K H ds (vs.map (·.2))
theorem RepO.mono {K : PySem.W.Frag} {H H' : Hp} (l : Le H H') {o : O} {u : HO} (h : RepO K H o u) : RepO K H' o u := by
  cases o with
  | lst xs => obtain ⟨vs, e, r⟩ := h; exact ⟨vs, e, r.mono l⟩
  | dK ks ds => obtain ⟨vs, e, k, r⟩ := h; exact ⟨vs, e, k, r.mono l⟩
  | ins c ns ds => obtain ⟨dx, vs, e, cf, nf, k, r⟩ := h; exact ⟨dx, vs, e, cf, nf, k, r.mono l⟩
/-- numbers that are not below nought and of at most 2^20 bits -/
def Small (x : Int) : Prop := 0 ≤ x ∧ Builtin.Int.intBits x ≤ 1048576
/-- the deck's three lists, known to nobody else; N: a bound of how many numbers were mixed -/
def Deck (pv : List Addr) (S : Sto) (Hd H : Hp) (N : Nat) (a : Addr) : Prop := ∃ (g c : Addr) (gs cs : List Int) (n : Int),
  H a = some (.lst [.ref g, .ref c, .int n]) ∧ H g = some (.lst (gs.map .int)) ∧ H c = some (.lst (cs.map .int)) ∧ a ≠ g ∧ a ≠ c ∧ g ≠ c ∧
  (Hd a = none ∧ Hd g = none ∧ Hd c = none) ∧ (S.m a = none ∧ S.m g = none ∧ S.m c = none) ∧ (a ∉ pv ∧ g ∉ pv ∧ c ∉ pv) ∧
  (∀ x ∈ gs, Small x) ∧ (∀ x ∈ cs, Small x) ∧ cs ≠ [] ∧ cs.length ≤ 64 ∧ gs.length ≤ 63 ∧ 0 ≤ n ∧ n ≤ N
/-- pv: lists that the reading itself holds, known to nobody else -/
structure SR (K : PySem.W.Frag) (pv : List Addr) (S : Sto) (Hd H : Hp) (N : Nat) : Prop where
  sub : ∀ a o, Hd a = some o → H a = some o
  sto : ∀ a o, S.m a = some o → Hd a = none ∧ ∃ ho, H a = some ho ∧ RepO K Hd o ho
  dk : ∀ a, S.dk = some a → Deck pv S Hd H N a
  prv : ∀ b ∈ pv, (∃ ho, H b = some ho) ∧ Hd b = none ∧ S.m b = none
/-- what is known stays, what the reading holds too -/
structure Mv (pv : List Addr) (Hd H Hd' H' : Hp) : Prop where
  le : Le Hd Hd'
  pr : ∀ b ∈ pv, H' b = H b
theorem Mv.refl (pv : List Addr) (Hd H : Hp) : Mv pv Hd H Hd H := ⟨.refl _, fun _ _ => rfl⟩
theorem Mv.trans {pv : List Addr} {A A' B B' C C' : Hp} (p : Mv pv A A' B B') (q : Mv pv B B' C C') : Mv pv A A' C C' := ⟨p.le.trans q.le, fun b h => (q.pr b h).trans (p.pr b h)⟩
theorem Mv.tail {b : Addr} {pv : List Addr} {A A' B B' : Hp} (p : Mv (b :: pv) A A' B B') : Mv pv A A' B B' := ⟨p.le, fun c h => p.pr c (List.mem_cons_of_mem _ h)⟩
section
variable {K : PySem.W.Frag} {pv : List Addr} {S : Sto} {Hd H : Hp} {N : Nat} {p : Addr} {o : O} {ho : HO}
theorem SR.freshD (r : SR K pv S Hd H N) (h : H p = none) : Hd p = none := by
  cases q : Hd p with
  | none => rfl
  | some u => rw [r.sub _ _ q] at h; cases h
theorem SR.freshS (r : SR K pv S Hd H N) (h : H p = none) : S.m p = none := by
  cases q : S.m p with
  | none => rfl
  | some u => obtain ⟨_, ho, e, _⟩ := r.sto _ _ q; rw [e] at h; cases h
theorem SR.freshP (r : SR K pv S Hd H N) (h : H p = none) : p ∉ pv := fun z => by
  obtain ⟨⟨xs, e⟩, _⟩ := r.prv p z
  rw [e] at h; cases h
theorem SR.up {M : Nat} (r : SR K pv S Hd H N) (h : N ≤ M) : SR K pv S Hd H M :=
  ⟨r.sub, r.sto, fun a e => by
    obtain ⟨g, c, gs, cs, n, h1, h2, h3, h4, h5, h6, h7, h8, h9, h10, h11, h12, h13, h14, h15, h16⟩ := r.dk a e
    exact ⟨g, c, gs, cs, n, h1, h2, h3, h4, h5, h6, h7, h8, h9, h10, h11, h12, h13, h14, h15, by omega⟩, r.prv⟩
theorem Deck.frame {pv' : List Addr} {S S' : Sto} {Hd Hd' H H' : Hp} {a : Addr} (d : Deck pv S Hd H N a) (hH : ∀ b, Hd b = none → S.m b = none → b ∉ pv → H b ≠ none → H' b = H b ∧ Hd' b = none ∧ S'.m b = none ∧ b ∉ pv') : Deck pv' S' Hd' H' N a := by
  obtain ⟨g, c, gs, cs, n, h1, h2, h3, h4, h5, h6, ⟨a1, a2, a3⟩, ⟨b1, b2, b3⟩, ⟨c1, c2, c3⟩, h9⟩ := d
  have x1 := hH a a1 b1 c1 (by rw [h1]; simp)
  have x2 := hH g a2 b2 c2 (by rw [h2]; simp)
  have x3 := hH c a3 b3 c3 (by rw [h3]; simp)
  exact ⟨g, c, gs, cs, n, x1.1.trans h1, x2.1.trans h2, x3.1.trans h3, h4, h5, h6, ⟨x1.2.1, x2.2.1, x3.2.1⟩, ⟨x1.2.2.1, x2.2.2.1, x3.2.2.1⟩, ⟨x1.2.2.2, x2.2.2.2, x3.2.2.2⟩, h9⟩
theorem Mv.new (r : SR K pv S Hd H N) (h : H p = none) : Mv pv Hd H (upd Hd p ho) (upd H p ho) :=
  ⟨.new (r.freshD h), fun b hb => upd_ne fun e => r.freshP h (e ▸ hb)⟩
theorem Mv.newH (r : SR K pv S Hd H N) (h : H p = none) : Mv pv Hd H Hd (upd H p ho) :=
  ⟨.refl _, fun b hb => upd_ne fun e => r.freshP h (e ▸ hb)⟩
/-- a new object that will not change -/
theorem SR.frz (r : SR K pv S Hd H N) (h : H p = none) : SR K pv S (upd Hd p ho) (upd H p ho) N := by
  have hd := r.freshD h
  refine ⟨fun a o e => ?_, fun a o e => ?_, fun a e => (r.dk a e).frame fun b x y z w => ?_, fun b hb => ?_⟩
  · by_cases ha : a = p
    · subst ha; rw [upd_same] at e ⊢; exact e
    · rw [upd_ne ha] at e ⊢; exact r.sub _ _ e
  · obtain ⟨e1, u, e2, e3⟩ := r.sto _ _ e
    have ha : a ≠ p := ne_of_none e2 h
    exact ⟨by rw [upd_ne ha]; exact e1, u, by rw [upd_ne ha]; exact e2, e3.mono (.new hd)⟩
  · have hb : b ≠ p := fun q => w (q ▸ h)
    exact ⟨upd_ne hb, by rw [upd_ne hb]; exact x, y, z⟩
  · have hp : b ≠ p := fun e => r.freshP h (e ▸ hb)
    rw [upd_ne hp, upd_ne hp]; exact r.prv b hb
/-- a new object that nobody will know -/
theorem SR.junk (r : SR K pv S Hd H N) (h : H p = none) : SR K pv S Hd (upd H p ho) N := by
  refine ⟨fun a o e => ?_, fun a o e => ?_, fun a e => (r.dk a e).frame fun b x y z w => ?_, fun b hb => ?_⟩
  · have e' := r.sub _ _ e
    rw [upd_ne (ne_of_none e' h)]; exact e'
  · obtain ⟨e1, u, e2, e3⟩ := r.sto _ _ e
    exact ⟨e1, u, by rw [upd_ne (ne_of_none e2 h)]; exact e2, e3⟩
  · have hb : b ≠ p := fun q => w (q ▸ h)
    exact ⟨upd_ne hb, x, y, z⟩
  · have hp : b ≠ p := fun e => r.freshP h (e ▸ hb)
    rw [upd_ne hp]; exact r.prv b hb
/-- a new list that the reading holds -/
theorem SR.hide (r : SR K pv S Hd H N) (h : H p = none) : SR K (p :: pv) S Hd (upd H p ho) N := by
  have j := r.junk (ho := ho) h
  refine ⟨j.sub, j.sto, fun a e => (r.dk a e).frame fun b x y z w => ?_, fun b hb => ?_⟩
  · have hb : b ≠ p := fun q => w (q ▸ h)
    exact ⟨upd_ne hb, x, y, by simp only [List.mem_cons, not_or]; exact ⟨hb, z⟩⟩
  · rcases List.mem_cons.mp hb with rfl | hb
    · exact ⟨⟨ho, upd_same⟩, r.freshD h, r.freshS h⟩
    · exact j.prv b hb
/-- it grows -/
theorem SR.hidden (r : SR K (p :: pv) S Hd H N) : SR K (p :: pv) S Hd (upd H p ho) N := by
  obtain ⟨⟨ys, e0⟩, d0, s0⟩ := r.prv p (List.mem_cons_self ..)
  refine ⟨fun a o e => ?_, fun a o e => ?_, fun a e => (r.dk a e).frame fun b x y z w => ?_, fun b hb => ?_⟩
  · rw [upd_ne (ne_of_none e d0)]; exact r.sub _ _ e
  · obtain ⟨e1, u, e2, e3⟩ := r.sto _ _ e
    have ha : a ≠ p := fun q => by subst q; rw [s0] at e; cases e
    exact ⟨e1, u, by rw [upd_ne ha]; exact e2, e3⟩
  · simp only [List.mem_cons, not_or] at z
    exact ⟨upd_ne z.1, x, y, by simp only [List.mem_cons, not_or]; exact z⟩
  · by_cases hp : b = p
    · subst hp; exact ⟨⟨ho, upd_same⟩, d0, s0⟩
    · rw [upd_ne hp]; exact r.prv b hb
/-- it is handed out, to be changed or not -/
theorem SR.showOwn (r : SR K (p :: pv) S Hd H N) (np : p ∉ pv) (h : H p = some ho) (q : RepO K Hd o ho) : SR K pv (S.put p o) Hd H N := by
  obtain ⟨_, d0, s0⟩ := r.prv p (List.mem_cons_self ..)
  refine ⟨r.sub, fun a o' e => ?_, fun a e => (r.dk a e).frame fun b x y z w => ?_, fun b hb => ?_⟩
  · by_cases ha : a = p
    · subst ha
      rw [Sto.put_same] at e; cases e
      exact ⟨d0, ho, h, q⟩
    · rw [Sto.put_ne ha] at e; exact r.sto _ _ e
  · simp only [List.mem_cons, not_or] at z
    exact ⟨rfl, x, by rw [Sto.put_ne z.1]; exact y, z.2⟩
  · have hp : b ≠ p := fun e => np (e ▸ hb)
    rw [Sto.put_ne hp]
    exact r.prv b (List.mem_cons_of_mem _ hb)
theorem SR.showFrz (r : SR K (p :: pv) S Hd H N) (np : p ∉ pv) (h : H p = some ho) : SR K pv S (upd Hd p ho) H N ∧ Le Hd (upd Hd p ho) := by
  obtain ⟨_, d0, s0⟩ := r.prv p (List.mem_cons_self ..)
  have le : Le Hd (upd Hd p ho) := .new d0
  refine ⟨⟨fun a o e => ?_, fun a o' e => ?_, fun a e => (r.dk a e).frame fun b x y z w => ?_, fun b hb => ?_⟩, le⟩
  · by_cases ha : a = p
    · subst ha; rw [upd_same] at e; cases e; exact h
    · rw [upd_ne ha] at e; exact r.sub _ _ e
  · obtain ⟨e1, u, e2, e3⟩ := r.sto _ _ e
    have ha : a ≠ p := fun q => by subst q; rw [s0] at e; cases e
    exact ⟨by rw [upd_ne ha]; exact e1, u, e2, e3.mono le⟩
  · simp only [List.mem_cons, not_or] at z
    exact ⟨rfl, by rw [upd_ne z.1]; exact x, y, z.2⟩
  · have hp : b ≠ p := fun e => np (e ▸ hb)
    rw [upd_ne hp]
    exact r.prv b (List.mem_cons_of_mem _ hb)
/-- a new object that may change -/
theorem SR.own (r : SR K pv S Hd H N) (h : H p = none) (q : RepO K Hd o ho) : SR K pv (S.put p o) Hd (upd H p ho) N := by
  refine ⟨fun a o e => ?_, fun a o' e => ?_, fun a e => (r.dk a e).frame fun b x y z w => ?_, fun b hb => ?_⟩
  · have e' := r.sub _ _ e
    rw [upd_ne (ne_of_none e' h)]; exact e'
  · by_cases ha : a = p
    · subst ha
      rw [Sto.put_same] at e; cases e
      exact ⟨r.freshD h, ho, upd_same, q⟩
    · rw [Sto.put_ne ha] at e
      obtain ⟨e1, u, e2, e3⟩ := r.sto _ _ e
      exact ⟨e1, u, by rw [upd_ne ha]; exact e2, e3⟩
  · have hb : b ≠ p := fun q => w (q ▸ h)
    exact ⟨upd_ne hb, x, by rw [Sto.put_ne hb]; exact y, z⟩
  · have hp : b ≠ p := fun e => r.freshP h (e ▸ hb)
    rw [upd_ne hp, Sto.put_ne hp]; exact r.prv b hb
theorem SR.notP (r : SR K pv S Hd H N) (h : S.m p = some o) : p ∉ pv := fun z => by
  obtain ⟨_, _, e⟩ := r.prv p z
  rw [h] at e; cases e
theorem Mv.wr (r : SR K pv S Hd H N) (h : S.m p = some o) : Mv pv Hd H Hd (upd H p ho) := ⟨.refl _, fun b hb => upd_ne fun e => r.notP h (e ▸ hb)⟩
/-- an object that may change does -/
theorem SR.wr (r : SR K pv S Hd H N) (h : S.m p = some o) {o' : O} (q : RepO K Hd o' ho) : SR K pv (S.put p o') Hd (upd H p ho) N := by
  obtain ⟨d0, u0, d1, _⟩ := r.sto _ _ h
  refine ⟨fun a o e => ?_, fun a o' e => ?_, fun a e => (r.dk a e).frame fun b x y z w => ?_, fun b hb => ?_⟩
  · have ha : a ≠ p := ne_of_none e d0
    rw [upd_ne ha]; exact r.sub _ _ e
  · by_cases ha : a = p
    · subst ha
      rw [Sto.put_same] at e; cases e
      exact ⟨d0, ho, upd_same, q⟩
    · rw [Sto.put_ne ha] at e
      obtain ⟨e1, u, e2, e3⟩ := r.sto _ _ e
      exact ⟨e1, u, by rw [upd_ne ha]; exact e2, e3⟩
  · have hb : b ≠ p := fun q => by rw [q, h] at y; cases y
    exact ⟨upd_ne hb, x, by rw [Sto.put_ne hb]; exact y, z⟩
  · have hp : b ≠ p := fun e => r.notP h (e ▸ hb)
    rw [upd_ne hp, Sto.put_ne hp]; exact r.prv b hb
/-- an object that might change will not any more -/
theorem SR.freeze (r : SR K pv S Hd H N) (h : S.m p = some o) : ∃ ho, H p = some ho ∧ RepO K Hd o ho ∧ SR K pv (S.del p) (upd Hd p ho) H N ∧ Le Hd (upd Hd p ho) := by
  obtain ⟨d0, u0, d1, d2⟩ := r.sto _ _ h
  have le : Le Hd (upd Hd p u0) := .new d0
  refine ⟨u0, d1, d2, ⟨fun a o e => ?_, fun a o' e => ?_, fun a e => (r.dk a e).frame fun b x y z w => ?_, fun b hb => ?_⟩, le⟩
  · by_cases ha : a = p
    · subst ha; rw [upd_same] at e; cases e; exact d1
    · rw [upd_ne ha] at e; exact r.sub _ _ e
  · have ha : a ≠ p := fun z => by subst z; simp [Sto.del] at e
    have e' : S.m a = some o' := by simpa [Sto.del, ha] using e
    obtain ⟨e1, u, e2, e3⟩ := r.sto _ _ e'
    exact ⟨by rw [upd_ne ha]; exact e1, u, e2, e3.mono le⟩
  · have hb : b ≠ p := fun q => by rw [q, h] at y; cases y
    exact ⟨rfl, by rw [upd_ne hb]; exact x, by simpa [Sto.del, hb] using y, z⟩
  · have hp : b ≠ p := fun e => r.notP h (e ▸ hb)
    rw [upd_ne hp]
    obtain ⟨x, y, z⟩ := r.prv b hb
    exact ⟨x, y, by simpa [Sto.del, hp] using z⟩
end
end
section
open PySem PySem.Spec L2
abbrev PostE := D → Sto → Prop
abbrev En := List (Option D)
def EnR (K : PySem.W.Frag) (Hd : Hp) (ρ : En) (σ : St) : Prop := σ.length = ρ.length ∧ ∀ (i : Nat) (d : D), ρ[i]? = some (some d) → ∃ v, σ[i]? = some (some v) ∧ Rep K Hd d v
theorem EnR.mono {K : PySem.W.Frag} {H H' : Hp} {ρ : En} {σ : St} (r : EnR K H ρ σ) (l : Le H H') : EnR K H' ρ σ :=
  ⟨r.1, fun i d e => let ⟨v, h1, h2⟩ := r.2 i d e; ⟨v, h1, h2.mono l⟩⟩
theorem EnR.set {K : PySem.W.Frag} {H : Hp} {ρ : En} {σ : St} {d : D} {v : V} (r : EnR K H ρ σ) (q : Rep K H d v) (i : Nat) : EnR K H (ρ.set i (some d)) (σ.set i (some v)) := by
  refine ⟨by simp [r.1], fun j e h => ?_⟩
  by_cases hj : i = j
  · subst hj
    by_cases hi : i < ρ.length
    · rw [List.getElem?_set_self hi] at h
      cases h
      exact ⟨v, List.getElem?_set_self (by rw [r.1]; exact hi), q⟩
    · rw [List.getElem?_eq_none (by simpa using hi)] at h; cases h
  · rw [List.getElem?_set_ne hj] at h
    obtain ⟨u, h1, h2⟩ := r.2 j e h
    exact ⟨u, by rw [List.getElem?_set_ne hj]; exact h1, h2⟩
theorem EnR.unset {K : PySem.W.Frag} {H : Hp} {ρ : En} {σ : St} (r : EnR K H ρ σ) (i : Nat) : EnR K H (ρ.set i none) (σ.set i none) := by
  refine ⟨by simp [r.1], fun j e h => ?_⟩
  by_cases hj : i = j
  · subst hj
    by_cases hi : i < ρ.length
    · rw [List.getElem?_set_self hi] at h; cases h
    · rw [List.getElem?_eq_none (by simpa using hi)] at h; cases h
  · rw [List.getElem?_set_ne hj] at h
    obtain ⟨u, h1, h2⟩ := r.2 j e h
    exact ⟨u, by rw [List.getElem?_set_ne hj]; exact h1, h2⟩
def wipeE (ρ : En) : List Nat → En
  | [] => ρ
  | v :: vs => (wipeE ρ vs).set v none
theorem EnR.wipe {K : PySem.W.Frag} {H : Hp} {ρ : En} {σ : St} (r : EnR K H ρ σ) : ∀ vs : List Nat, EnR K H (wipeE ρ vs) (L2.wipe σ vs)
  | [] => r
  | v :: vs => (EnR.wipe r vs).unset v
theorem wipe_set {σ : St} {x : Option V} : ∀ {vs : List Nat} {i : Nat}, i ∈ vs → L2.wipe (σ.set i x) vs = L2.wipe σ vs
  | v :: vs, i, h => by
    show (L2.wipe (σ.set i x) vs).set v none = (L2.wipe σ vs).set v none
    by_cases hi : i ∈ vs
    · rw [wipe_set hi]
    · have e : v = i := ((List.mem_cons.mp h).resolve_right hi).symm
      subst e
      have : ∀ (ws : List Nat), v ∉ ws → L2.wipe (σ.set v x) ws = (L2.wipe σ ws).set v x := by
        intro ws
        induction ws with
        | nil => intro _; rfl
        | cons w ws ih =>
          intro hw
          simp only [List.mem_cons, not_or] at hw
          show (L2.wipe (σ.set v x) ws).set w none = ((L2.wipe σ ws).set w none).set v x
          rw [ih hw.2, List.set_comm _ _ hw.1]
      rw [this vs hi, List.set_set]
theorem wipe_wipe {σ : St} : ∀ {ws vs : List Nat}, (∀ i ∈ ws, i ∈ vs) → L2.wipe (L2.wipe σ ws) vs = L2.wipe σ vs
  | [], _, _ => rfl
  | w :: ws, vs, h => by
    show L2.wipe ((L2.wipe σ ws).set w none) vs = _
    rw [wipe_set (h w (by simp)), wipe_wipe fun i hi => h i (by simp [hi])]
/-- from here on the table's numbers stand for the module's constants -/
def GB : Nat := 4096
/-- from here to there for the table's methods once more, as what the operators ask for -/
def AB : Nat := 2048
def CAP : Nat := 2 ^ 300000
def MX : Nat := 2 ^ 64
def bNames : List Str := ["len", "isinstance", "tuple", "list", "int", "bool", "str", "range", "zip", "enumerate", "sum", "all", "any", "sorted", "min", "max", "abs", "repr", "set", "dict"]
/-- the module table's own dict stands where it does -/
def SysD (K : PySem.W.Frag) : Prop := ∃ (o : Obj) (es : Array DictEntry) (n : Nat), K.lookup sysModules = some o ∧ o.data = .dict es n
structure Amb (X : Cx) : Prop where
  calm : X.calm = true
  un : X.A.units + 64 < cLine
  gd : X.A.guards = some []
  hd : X.A.handled = none
  fr : ∀ x ∈ bNames, X.mg x = none
  sm : SysD X.K
def notStar : Expr → Bool
  | .Starred _ _ => false
  | _ => true
def plainE : Expr → Bool
  | .Starred _ _ => false
  | .UnaryOp .Not _ _ => false
  | .BoolOp _ _ _ => false
  | .IfExp _ _ _ _ => false
  | .Compare _ _ _ _ => false
  | _ => true
theorem plainE_ns {e : Expr} (h : plainE e = true) : notStar e = true := by
  cases e <;> first | rfl | cases h
theorem plainE_isTrue {e : Expr} (h : plainE e = true) (env : Env) (whole : Sem Value) : PySem.isTrue e env whole = (do let v ← whole; standAt e.pos; holding [v] (truthy v)) := by
  cases e <;> first | rfl | (cases h; done) | skip
  rename_i op _ _
  cases op <;> first | rfl | cases h
theorem star_cons {e : Expr} {es : List Expr} {env : Env} (h : notStar e = true) : starEach (e :: es) env = (false, eval e env) :: starEach es env := by
  cases e <;> first | rfl | cases h
def tAll : List TE → TA
  | [] => tNil
  | t :: ts => tCons t (tAll ts)
/-- a reading that takes a weaker wish too -/
def MonoE (t : TE) : Prop := ∀ σ H Q Q', (∀ v H', Q v H' → Q' v H') → t σ H Q → t σ H Q'
inductive PEs (X : Cx) : List Expr → List TE → Prop
  | nil : PEs X [] []
  | cons {e : Expr} {es : List Expr} {t : TE} {ts : List TE} : notStar e = true → MonoE t → PE X e t → PEs X es ts → PEs X (e :: es) (t :: ts)
theorem PEs.mono {X : Cx} {es : List Expr} {ts : List TE} (h : PEs X es ts) : ∀ {σ H Q Q'}, (∀ v H', Q v H' → Q' v H') → tAll ts σ H Q → tAll ts σ H Q' := by
  induction h with
  | nil => exact fun i q => i _ _ q
  | cons n m p _ ih => exact fun i q => m _ _ _ _ (fun v H' q => ih (fun vs H2 q => i _ _ q) q) q
theorem PEs.pa {X : Cx} {es : List Expr} {ts : List TE} (h : PEs X es ts) : PA X es (tAll ts) := by
  induction h with
  | nil => exact pa_nil
  | cons n m p _ ih => exact pa_cons p ih (star_cons n)
theorem PEs.plain {X : Cx} {es : List Expr} {ts : List TE} (h : PEs X es ts) (pos : Pos) : (backTo pos (starEach es X.env)).any (·.1) = false := by
  induction h with
  | nil => rfl
  | cons n m p _ ih =>
    rw [star_cons n]
    cases hq : starEach _ X.env with
    | nil => rfl
    | cons a l =>
      rw [hq] at ih
      first
        | exact ih
        | (simp only [backTo, List.any_cons, Bool.false_or] at ih ⊢; exact ih)
theorem PEs.len {X : Cx} {es : List Expr} {ts : List TE} (h : PEs X es ts) : es.length = ts.length := by
  induction h with
  | nil => rfl
  | cons _ _ _ _ ih => simp [ih]
theorem _root_.L2.PE.of {X : Cx} {e : Expr} {t t' : TE} (h : PE X e t) (i : ∀ σ H Q, t' σ H Q → t σ H Q) : PE X e t' := ⟨fun pins s σ H Q I q => h.run pins s σ H Q I (i σ H Q q)⟩
theorem _root_.L2.PT.of {X : Cx} {e : Expr} {t t' : TT} (h : PT X e t) (i : ∀ σ H Q, t' σ H Q → t σ H Q) : PT X e t' := ⟨fun pins s σ H Q I q => h.run pins s σ H Q I (i σ H Q q)⟩
theorem _root_.L2.PW.of {X : Cx} {e : Expr} {t t' : TT} (h : PW X e t) (i : ∀ σ H Q, t' σ H Q → t σ H Q) : PW X e t' := ⟨fun wh pins s σ H Q I q => h.run wh pins s σ H Q I (i σ H Q q)⟩
theorem _root_.L2.PS.of {X : Cx} {e : Stmt} {t t' : TS} (h : PS X e t) (i : ∀ D σ H, t' D σ H → t D σ H) : PS X e t' := ⟨fun pins s σ H D I q => h.run pins s σ H D I (i D σ H q)⟩
theorem _root_.L2.PSs.of {X : Cx} {e : List Stmt} {t t' : TS} (h : PSs X e t) (i : ∀ D σ H, t' D σ H → t D σ H) : PSs X e t' := ⟨fun pins s σ H D I q => h.run pins s σ H D I (i D σ H q)⟩
theorem _root_.L2.PG.of {X : Cx} {e : Expr} {t t' : TG} (h : PG X e t) (i : ∀ v σ H Q, t' v σ H Q → t v σ H Q) : PG X e t' := ⟨fun pins s σ H v u Q I r q => h.run pins s σ H v u Q I r (i v σ H Q q)⟩
def vSem (K : PySem.W.Frag) (sem : List D → Sto → PostE → Prop) (c : Nat) (vs : List V) (H : Hp) (Q : VK) : Prop :=
  ∃ pv ds S Hd M Qd, RepL K Hd ds vs ∧ SR K pv S Hd H M ∧ M + c ≤ CAP ∧ sem ds S Qd ∧ ∀ d S' Hd' H' v, Mv pv Hd H Hd' H' → SR K pv S' Hd' H' (M + c) → Rep K Hd' d v → Qd d S' → Q v H'
def tNd (K : PySem.W.Frag) (sem : List D → Sto → PostE → Prop) (c : Nat) (ts : List TE) : TE := fun σ H Q => tAll ts σ H fun vs H1 => vSem K sem c vs H1 Q
structure Node where
  shape : Scope → Expr → Option (List Expr)
  sem : List D → Sto → PostE → Prop
  ns : ∀ sc e es, shape sc e = some es → notStar e = true
  ok : ∀ (X : Cx) (e : Expr) (es : List Expr) (ts : List TE), Amb X → shape X.env.scope e = some es → PEs X es ts → PE X e (tNd X.K sem 0 ts)
  okT : ∀ (X : Cx) (e : Expr) (es : List Expr) (ts : List TE), Amb X → shape X.env.scope e = some es → PEs X es ts → PT X e (fun σ H Q => tNd X.K sem 0 ts σ H fun v H' => ∃ b, TruV X.K v H' b ∧ Q b H')
def Node.plain (shape : Scope → Expr → Option (List Expr)) (sem : List D → Sto → PostE → Prop) (pl : ∀ sc e es, shape sc e = some es → plainE e = true)
    (ok : ∀ (X : Cx) (e : Expr) (es : List Expr) (ts : List TE), Amb X → shape X.env.scope e = some es → PEs X es ts → PE X e (tNd X.K sem 0 ts)) : Node where
  shape := shape
  sem := sem
  ns := fun sc e es h => plainE_ns (pl sc e es h)
  ok := ok
  okT := fun X e es ts a h p => pt_truth (ok X e es ts a h p) fun wh => plainE_isTrue (pl _ e es h) _ wh
/-- a method's call: the object first, then what it is is looked at, then the arguments -/
def tMth (K : PySem.W.Frag) (chk : D → Sto → Prop) (sem : List D → Sto → PostE → Prop) (to : TE) (ts : List TE) : TE := fun σ H Q => to σ H fun x H1 =>
  (∃ pv d S Hd M, Rep K Hd d x ∧ SR K pv S Hd H1 M ∧ chk d S) ∧ tAll ts σ H1 fun vs H2 => vSem K sem 0 (x :: vs) H2 Q
structure MNode where
  shape : Scope → Expr → Option (Expr × List Expr)
  chk : D → Sto → Prop
  sem : List D → Sto → PostE → Prop
  pl : ∀ sc e p, shape sc e = some p → plainE e = true
  ok : ∀ (X : Cx) (e o : Expr) (es : List Expr) (to : TE) (ts : List TE), Amb X → shape X.env.scope e = some (o, es) → PE X o to → MonoE to → PEs X es ts → PE X e (tMth X.K chk sem to ts)
/-- a comparison: nothing changes -/
def vC (K : PySem.W.Frag) (cs : D → D → Sto → Option Bool) : R2 := fun x y H Q => ∃ pv d e S Hd M b, Rep K Hd d x ∧ Rep K Hd e y ∧ SR K pv S Hd H M ∧ cs d e S = some b ∧ Q (.bl b) H
structure CNode where
  op : CmpOp
  cs : D → D → Sto → Option Bool
  ok : ∀ (X : Cx), Amb X → OpR X (compareOp op) (vC X.K cs)
def Iter (K : PySem.W.Frag) (items : List D) (stay : Sto → Prop) (Hd0 : Hp) (J : It) : Prop := items.length ≤ MX ∧ ∀ pv S Hd H M, Le Hd0 Hd → SR K pv S Hd H M → stay S → ∀ i,
  (i < items.length → J.go i H ∧ ∀ x H', J.yld i H x H' → ∃ Hd' d, items[i]? = some d ∧ Mv pv Hd H Hd' H' ∧ SR K pv S Hd' H' M ∧ Rep K Hd' d x) ∧ (items.length ≤ i → J.stop i H)
abbrev ISem := List D → Sto → (List D → (Sto → Prop) → Prop) → Prop
def vIter (K : PySem.W.Frag) (sem : ISem) (vs : List V) (H : Hp) (R : It → Hp → Prop) : Prop :=
  ∃ pv ds S Hd M k, RepL K Hd ds vs ∧ SR K pv S Hd H M ∧ sem ds S k ∧ ∀ items stay J Hd' H', k items stay → Mv pv Hd H Hd' H' → SR K pv S Hd' H' M → Iter K items stay Hd' J → R J H'
structure INode where
  shape : Scope → Expr → Option (List Expr)
  sem : ISem
  tgt : Expr → Bool
  ok : ∀ (X : Cx) (tg e : Expr) (es : List Expr) (ts : List TE), Amb X → tgt tg = true → shape X.env.scope e = some es → PEs X es ts → PI X tg e (fun σ H R => tAll ts σ H fun vs H1 => vIter X.K sem vs H1 R)
  fold : ∀ sc e es, shape sc e = some es → ∀ env x, foldedSetIterable e env x = pure x
/-- op= on two values -/
def vAug (K : PySem.W.Frag) (sem : D → D → Sto → PostE → Prop) : TIp := fun x y H Q =>
  ∃ pv a b S Hd M Qd, Rep K Hd a x ∧ Rep K Hd b y ∧ SR K pv S Hd H M ∧ sem a b S Qd ∧ ∀ d S' Hd' H' v, Mv pv Hd H Hd' H' → SR K pv S' Hd' H' M → Rep K Hd' d v → Qd d S' → Q v H'
structure ANode where
  op : Operator
  sem : D → D → Sto → PostE → Prop
  ok : ∀ (X : Cx), Amb X → PIp X op (vAug X.K sem)
inductive RT where
  | nm (i : Nat) | tup (ts : List RT) | unl (ts : List RT)
/-- what is done with an instance of an own class -/
inductive XK where
  | om | eq | ne | len | str
inductive RE where
  | var (i : Nat)
  | glb (f : Nat)
  | kix (f : Nat) (e : RE)
  | nd (n : Node) (es : List RE)
  | call (f : Nat) (es : List RE)
  | mth (n : MNode) (o : RE) (es : List RE)
  | cmp (n : CNode) (a b : RE) | ch (n m : CNode) (a b c : RE)
  | frz (e : RE)
  | and (es : List RE) | or (es : List RE) | not (e : RE) | ite (c a b : RE)
  | fld (n : Str) (o : RE)
  | xn (k : XK) (c : Str) (f : Nat) (o : RE) (es : List RE)
  | isi (c : Str) (f : Nat) (e : RE)
  | dsp (es : List RE)
  | lc2 (o : Bool) (elt : RE) (tg : RT) (n : INode) (es : List RE) (cond : List RE) (tg1 : RT) (n1 : INode) (es1 : List RE) (cond1 : List RE) (own : List (Str × Nat))
  | lc (o : Bool) (elt : RE) (tg : RT) (n : INode) (es : List RE) (cond : List RE) (own : List (Str × Nat))
inductive RS where
  | asg (t : RT) (e : RE)
  | star (i j : Nat) (e : RE)
  | asgL (i : Nat) (e : RE)
  | par2 (i j : Nat) (a b : RE)
  | par3 (i j l : Nat) (a b c : RE)
  | aug (i : Nat) (n : ANode) (e : RE)
  | setI (e o i : RE)
  | set2 (e1 e2 o1 i1 o2 i2 : RE)
  | setF (n : Str) (o e : RE)
  | expr (e : RE)
  | ret (e : RE) | retN
  | ifs (c : RE) (a b : List RS)
  | whl (c : RE) (b : List RS)
  | whb (c : RE) (b : List RS)
  | for_ (t : RT) (n : INode) (es : List RE) (b : List RS)
  | brk | cnt | pas | nev
def newL (o : Bool) (ds : List D) (S : Sto) (Q : PostE) : Prop := if o = true then ∀ l, S.m l = none → Q (.loc l) (S.put l (.lst ds)) else Q (.lst ds) S
def truth (S : Sto) : D → Option Bool
  | .non => some false
  | .bl b => some b
  | .int i => some (i != 0)
  | .tup xs => some (!xs.isEmpty)
  | .lst xs => some (!xs.isEmpty)
  | .loc a => match S.m a with
    | some (.lst xs) => some (!xs.isEmpty)
    | _ => none
  | _ => none
/-- an instance's attribute -/
def fldS (S : Sto) (d : D) (n : Str) : Option D := match d with
  | .obj _ ns ds => (ns.zip ds).lookup n
  | .loc a => (match S.m a with
    | some (.ins _ ns ds) => (ns.zip ds).lookup n
    | _ => none)
  | _ => none
def isI (c : Str) (d : D) (S : Sto) : Prop := (∃ ns ds, d = .obj c ns ds) ∨ ∃ a ns ds, d = .loc a ∧ S.m a = some (.ins c ns ds)
def isiD (c : Str) (d : D) (S : Sto) : Option Bool := match d with
  | .non => some false
  | .bl _ => some false
  | .int _ => some false
  | .str _ => some false
  | .tup _ => some false
  | .lst _ => some false
  | .dic _ _ => some false
  | .obj c' _ _ => if c' = c then some true else none
  | .loc a => (match S.m a with
    | some (.lst _) => some false
    | some (.dK _ _) => some false
    | some (.ins c' _ _) => if c' = c then some true else none
    | none => none)
  | _ => none
def xpost : XK → PostE → PostE
  | .om, Q => Q
  | .eq, Q => fun r S => ∃ b, r = .bl b ∧ Q (.bl b) S
  | .ne, Q => fun r S => ∃ b, r = .bl b ∧ Q (.bl (!b)) S
  | .len, Q => fun r S => ∃ i, r = .int i ∧ (0 ≤ i ∧ i < 2 ^ 63) ∧ Q (.int i) S
  | .str, Q => fun r S => ∃ x, r = .str x ∧ Q (.str x) S
def xpostT : XK → (Bool → Sto → Prop) → PostE
  | .eq, Q => fun r S => ∃ b, r = .bl b ∧ Q b S
  | .ne, Q => fun r S => ∃ b, r = .bl b ∧ Q (!b) S
  | .om, Q => fun z S => ∃ b, truth S z = some b ∧ Q b S
  | .len, Q => fun r S => ∃ i, r = .int i ∧ (0 ≤ i ∧ i < 2 ^ 63) ∧ Q (i != 0) S
  | .str, _ => fun _ _ => False
def xchk (k : XK) (c : Str) (d : D) (S : Sto) : Prop := match k with
  | .om => isI c d S
  | _ => True
def xend (k : XK) (c : Str) (ds : List D) (S : Sto) : Prop := match k with
  | .om => True
  | .eq => ∀ d ∈ ds, isI c d S
  | .ne => ∀ d ∈ ds, isI c d S
  | _ => ∀ d ∈ ds, isI c d S
/-- a stored attribute -/
def putD (n : Str) (d : D) : List Str → List D → List D
  | [], _ => [d]
  | m :: ns, x :: ds => if m = n then d :: ds else x :: putD n d ns ds
  | _ :: _, [] => []
def putN (n : Str) : List Str → List Str
  | [] => [n]
  | m :: ns => if m = n then m :: ns else m :: putN n ns
/-- a display's pairs -/
def dspD : List D → Option (List (Key × D))
  | [] => some []
  | .int i :: d :: ds => (dspD ds).map fun r => (Sum.inl i, d) :: r
  | .str x :: d :: ds => (dspD ds).map fun r => (Sum.inr x, d) :: r
  | _ => none
/-- a display's reading -/
def dspQ (ds : List D) (S : Sto) (Q : D → Sto → Prop) : Prop := ∃ kvs, dspD ds = some kvs ∧ (kvs.map (·.1)).Nodup ∧ kvs.length ≤ 15 ∧ Q (.dic (kvs.map (·.1)) (kvs.map (·.2))) S
mutual
def bindT : RT → D → En → (En → Prop) → Prop
  | .nm i, d, ρ, k => k (ρ.set i (some d))
  | .tup ts, d, ρ, k => ∃ xs, d = .tup xs ∧ xs.length = ts.length ∧ bindTs ts xs ρ k
  | .unl ts, d, ρ, k => ∃ xs, d = .lst xs ∧ xs.length = ts.length ∧ bindTs ts xs ρ k
def bindTs : List RT → List D → En → (En → Prop) → Prop
  | [], _, ρ, k => k ρ
  | t :: ts, xs, ρ, k => ∃ x r, xs = x :: r ∧ bindT t x ρ fun ρ' => bindTs ts r ρ' k
end
mutual
def RT.slots : RT → List Nat
  | .nm i => [i]
  | .tup ts => slotsL ts
  | .unl ts => slotsL ts
def slotsL : List RT → List Nat
  | [] => []
  | t :: ts => t.slots ++ slotsL ts
end
/-- a comprehension's turns: what is kept is appended -/
def lcRun (step : D → Sto → (Option D → Sto → Prop) → Prop) (stay : Sto → Prop) : List D → List D → Sto → (List D → Sto → Prop) → Prop
  | [], acc, S, Q => stay S ∧ Q acc S
  | x :: xs, acc, S, Q => stay S ∧ step x S fun r S1 => lcRun step stay xs (match r with | some d => acc ++ [d] | none => acc) S1 Q
/-- the outer turns of a comprehension of two clauses: each appends what it will -/
def lcRun2 (step : D → List D → Sto → (List D → Sto → Prop) → Prop) (stay : Sto → Prop) : List D → List D → Sto → (List D → Sto → Prop) → Prop
  | [], acc, S, Q => stay S ∧ Q acc S
  | x :: xs, acc, S, Q => stay S ∧ step x acc S fun acc' S1 => lcRun2 step stay xs acc' S1 Q
section
variable (C : Nat → List D → Sto → PostE → Prop)
mutual
def wE : RE → En → Sto → PostE → Prop
  | .var i, ρ, S, Q => ∃ d, ρ[i]? = some (some d) ∧ Q d S
  | .glb f, ρ, S, Q => C f [] S Q
  | .kix f e, ρ, S, Q => C f [] S fun d S1 => ∃ xs : List Str, d = .tup (xs.map D.str) ∧ wE e ρ S1 fun y S2 => ∃ (z : Str) (j : Nat), y = .str z ∧ xs[j]? = some z ∧ (∀ m, m < j → xs[m]? ≠ some z) ∧ Q (.int (j : Nat)) S2
  | .nd n es, ρ, S, Q => wEs es ρ S fun ds S' => n.sem ds S' Q
  | .call f es, ρ, S, Q => wEs es ρ S fun ds S' => C f ds S' Q
  | .mth n o es, ρ, S, Q => wE o ρ S fun d S1 => n.chk d S1 ∧ wEs es ρ S1 fun ds S2 => n.sem (d :: ds) S2 Q
  | .fld n o, ρ, S, Q => wE o ρ S fun d S1 => ∃ v, fldS S1 d n = some v ∧ Q v S1
  | .xn k c f o es, ρ, S, Q => wE o ρ S fun d S1 => xchk k c d S1 ∧ wEs es ρ S1 fun ds S2 => xend k c (d :: ds) S2 ∧ C f (d :: ds) S2 (xpost k Q)
  | .isi c _ e, ρ, S, Q => wE e ρ S fun d S1 => ∃ b, isiD c d S1 = some b ∧ Q (.bl b) S1
  | .dsp es, ρ, S, Q => wEs es ρ S fun ds S1 => dspQ ds S1 Q
  | .cmp n a b, ρ, S, Q => wE a ρ S fun x S1 => wE b ρ S1 fun y S2 => ∃ k, n.cs x y S2 = some k ∧ Q (.bl k) S2
  | .ch n m a b c, ρ, S, Q => wE a ρ S fun x S1 => wE b ρ S1 fun y S2 => ∃ k, n.cs x y S2 = some k ∧ if k = true then wE c ρ S2 fun z S3 => ∃ j, m.cs y z S3 = some j ∧ Q (.bl j) S3 else Q (.bl false) S2
  | .frz e, ρ, S, Q => wE e ρ S fun d S' => ∃ l xs, d = .loc l ∧ S'.m l = some (.lst xs) ∧ Q (.lst xs) (S'.del l)
  | .and es, ρ, S, Q => wAnd es ρ S Q
  | .or es, ρ, S, Q => wOr es ρ S Q
  | .not e, ρ, S, Q => wE e ρ S fun d S' => ∃ b, d = .bl b ∧ Q (.bl (!b)) S'
  | .ite c a b, ρ, S, Q => wT c ρ S fun t S' => if t = true then wE a ρ S' Q else wE b ρ S' Q
  | .lc o elt tg n es cond own, ρ, S, Q => wEs es ρ S fun ds S1 => n.sem ds S1 fun items stay => items.length ≤ sizeLine ∧
      lcRun (fun x S2 k => bindT tg x (wipeE ρ (own.map (·.2))) fun ρ' => wTs cond ρ' S2 fun b S3 => if b = true then wE elt ρ' S3 fun d S4 => k (some d) S4 else k none S3)
        stay items [] S1 fun ds' S' => newL o ds' S' Q
  | .lc2 o elt tg n es cond tg1 n1 es1 cond1 own, ρ, S, Q => wEs es ρ S fun ds S1 => n.sem ds S1 fun items stay =>
      lcRun2 (fun x acc S2 k => bindT tg x (wipeE ρ (own.map (·.2))) fun ρ' => wTs cond ρ' S2 fun b S3 => if b = true then
          wEs es1 ρ' S3 fun ds1 S4 => n1.sem ds1 S4 fun items1 stay1 => acc.length + items1.length ≤ sizeLine ∧
            lcRun (fun y S5 k5 => bindT tg1 y (wipeE ρ' tg1.slots) fun ρ2 => wTs cond1 ρ2 S5 fun b1 S6 => if b1 = true then wE elt ρ2 S6 fun d S7 => k5 (some d) S7 else k5 none S6) stay1 items1 acc S4 k
        else k acc S3)
        stay items [] S1 fun ds' S' => newL o ds' S' Q
def wEs : List RE → En → Sto → (List D → Sto → Prop) → Prop
  | [], _, S, Q => Q [] S
  | e :: es, ρ, S, Q => wE e ρ S fun d S1 => wEs es ρ S1 fun ds S2 => Q (d :: ds) S2
def wAnd : List RE → En → Sto → PostE → Prop
  | [], _, _, _ => False
  | e :: es, ρ, S, Q => match es with
    | [] => wE e ρ S Q
    | _ :: _ => wE e ρ S fun d S' => ∃ b, d = .bl b ∧ if b = true then wAnd es ρ S' Q else Q (.bl false) S'
def wOr : List RE → En → Sto → PostE → Prop
  | [], _, _, _ => False
  | e :: es, ρ, S, Q => match es with
    | [] => wE e ρ S Q
    | _ :: _ => wE e ρ S fun d S' => ∃ b, d = .bl b ∧ if b = true then Q (.bl true) S' else wOr es ρ S' Q
def wT : RE → En → Sto → (Bool → Sto → Prop) → Prop
  | .var i, ρ, S, Q => ∃ d b, ρ[i]? = some (some d) ∧ truth S d = some b ∧ Q b S
  | .glb _, _, _, _ => False
  | .kix _ _, _, _, _ => False
  | .nd n es, ρ, S, Q => wEs es ρ S fun ds S' => n.sem ds S' fun d S2 => ∃ b, truth S2 d = some b ∧ Q b S2
  | .call f es, ρ, S, Q => wEs es ρ S fun ds S' => C f ds S' fun d S2 => ∃ b, truth S2 d = some b ∧ Q b S2
  | .mth n o es, ρ, S, Q => wE o ρ S fun d S1 => n.chk d S1 ∧ wEs es ρ S1 fun ds S2 => n.sem (d :: ds) S2 fun z S3 => ∃ b, truth S3 z = some b ∧ Q b S3
  | .fld n o, ρ, S, Q => wE o ρ S fun d S1 => ∃ v, fldS S1 d n = some v ∧ ∃ b, truth S1 v = some b ∧ Q b S1
  | .xn k c f o es, ρ, S, Q => wE o ρ S fun d S1 => xchk k c d S1 ∧ wEs es ρ S1 fun ds S2 => xend k c (d :: ds) S2 ∧ C f (d :: ds) S2 (xpostT k Q)
  | .isi c _ e, ρ, S, Q => wE e ρ S fun d S1 => ∃ b, isiD c d S1 = some b ∧ Q b S1
  | .cmp n a b, ρ, S, Q => wE a ρ S fun x S1 => wE b ρ S1 fun y S2 => ∃ k, n.cs x y S2 = some k ∧ Q k S2
  | .ch n m a b c, ρ, S, Q => wE a ρ S fun x S1 => wE b ρ S1 fun y S2 => ∃ k, n.cs x y S2 = some k ∧ if k = true then wE c ρ S2 fun z S3 => ∃ j, m.cs y z S3 = some j ∧ Q j S3 else Q false S2
  | .and es, ρ, S, Q => wAndT es ρ S Q
  | .or es, ρ, S, Q => wOrT es ρ S Q
  | .not e, ρ, S, Q => wT e ρ S fun b S' => Q (!b) S'
  | .frz _, _, _, _ => False
  | .dsp _, _, _, _ => False
  | .ite _ _ _, _, _, _ => False
  | .lc _ _ _ _ _ _ _, _, _, _ => False
  | .lc2 _ _ _ _ _ _ _ _ _ _ _, _, _, _ => False
def wAndT : List RE → En → Sto → (Bool → Sto → Prop) → Prop
  | [], _, _, _ => False
  | e :: es, ρ, S, Q => match es with
    | [] => wT e ρ S Q
    | _ :: _ => wT e ρ S fun b S' => if b = true then wAndT es ρ S' Q else Q false S'
def wOrT : List RE → En → Sto → (Bool → Sto → Prop) → Prop
  | [], _, _, _ => False
  | e :: es, ρ, S, Q => match es with
    | [] => wT e ρ S Q
    | _ :: _ => wT e ρ S fun b S' => if b = true then Q true S' else wOrT es ρ S' Q
def wTs : List RE → En → Sto → (Bool → Sto → Prop) → Prop
  | [], _, S, Q => Q true S
  | e :: es, ρ, S, Q => match es with
    | [] => wT e ρ S Q
    | _ :: _ => False
end
/-- a store through an index -/
def putIx (l k d : D) (S : Sto) (R : Sto → Prop) : Prop := ∃ a xs j q, l = .loc a ∧ k = .int j ∧ S.m a = some (.lst xs) ∧ ixN xs.length j = some q ∧ R (S.put a (.lst (xs.set q d)))
structure WEnds where
  nx : En → Sto → Prop
  rt : PostE
  bk : En → Sto → Prop := fun _ _ => False
  ct : En → Sto → Prop := fun _ _ => False
/-- a for's turns -/
def forRun (step : D → En → Sto → (En → Sto → Prop) → Prop) (stay : Sto → Prop) : List D → En → Sto → (En → Sto → Prop) → Prop
  | [], ρ, S, Q => stay S ∧ Q ρ S
  | x :: xs, ρ, S, Q => stay S ∧ step x ρ S fun ρ1 S1 => forRun step stay xs ρ1 S1 Q
mutual
def wS : RS → WEnds → En → Sto → Prop
  | .asg t e, D, ρ, S => wE C e ρ S fun d S' => bindT t d ρ fun ρ' => D.nx ρ' S'
  | .asgL i e, D, ρ, S => wE C e ρ S fun d S' => D.nx (ρ.set i (some d)) S'
  | .star i j e, D, ρ, S => wE C e ρ S fun d S' => ∃ x xs, d = .tup (x :: xs) ∧ xs.length < 1000 ∧ D.nx ((ρ.set i (some x)).set j (some (.lst xs))) S'
  | .par2 i j a b, D, ρ, S => wE C a ρ S fun d S1 => wE C b ρ S1 fun e S2 => D.nx ((ρ.set i (some d)).set j (some e)) S2
  | .par3 i j l a b c, D, ρ, S => wE C a ρ S fun d S1 => wE C b ρ S1 fun e S2 => wE C c ρ S2 fun f S3 => D.nx (((ρ.set i (some d)).set j (some e)).set l (some f)) S3
  | .aug i n e, D, ρ, S => ∃ x, ρ[i]? = some (some x) ∧ wE C e ρ S fun d S' => n.sem x d S' fun z S2 => D.nx (ρ.set i (some z)) S2
  | .setI e o i, D, ρ, S => wE C e ρ S fun d S1 => wE C o ρ S1 fun l S2 => wE C i ρ S2 fun k S3 =>
      ∃ a xs j q, l = .loc a ∧ k = .int j ∧ S3.m a = some (.lst xs) ∧ ixN xs.length j = some q ∧ D.nx ρ (S3.put a (.lst (xs.set q d)))
  | .set2 e1 e2 o1 i1 o2 i2, D, ρ, S => wE C e1 ρ S fun d1 S1 => wE C e2 ρ S1 fun d2 S2 => wE C o1 ρ S2 fun l1 S3 => wE C i1 ρ S3 fun k1 S4 => putIx l1 k1 d1 S4 fun S5 =>
      wE C o2 ρ S5 fun l2 S6 => wE C i2 ρ S6 fun k2 S7 => putIx l2 k2 d2 S7 fun S8 => D.nx ρ S8
  | .setF n o e, D, ρ, S => wE C e ρ S fun d S1 => wE C o ρ S1 fun l S2 => ∃ a c ns xs, l = .loc a ∧ S2.m a = some (.ins c ns xs) ∧ n ∈ fieldsOf c ∧ ns.length < 1000 ∧ D.nx ρ (S2.put a (.ins c (putN n ns) (putD n d ns xs)))
  | .expr e, D, ρ, S => wE C e ρ S fun _ S' => D.nx ρ S'
  | .ret e, D, ρ, S => wE C e ρ S D.rt
  | .retN, D, _, S => D.rt .non S
  | .ifs c a b, D, ρ, S => wT C c ρ S fun t S' => if t = true then wSs a D ρ S' else wSs b D ρ S'
  | .whl c b, D, ρ, S => ∃ W : Nat → En → Sto → Prop, (∃ m, W m ρ S) ∧ ∀ m ρ S, W m ρ S →
      wT C c ρ S fun t S' => if t = true then wSs b { D with nx := fun ρ' S'' => ∃ m', m' < m ∧ W m' ρ' S'', ct := fun ρ' S'' => ∃ m', m' < m ∧ W m' ρ' S'', bk := D.nx } ρ S' else D.nx ρ S'
  | .whb c b, D, ρ, S => ∃ W : Nat → En → Sto → Prop, (∃ m, m ≤ MX ∧ W m ρ S) ∧ ∀ m ρ S, W m ρ S →
      wT C c ρ S fun t S' => if t = true then wSs b { D with nx := fun ρ' S'' => ∃ m', m' < m ∧ W m' ρ' S'', ct := fun ρ' S'' => ∃ m', m' < m ∧ W m' ρ' S'', bk := D.nx } ρ S' else D.nx ρ S'
  | .for_ t n es b, D, ρ, S => wEs C es ρ S fun ds S1 => n.sem ds S1 fun items stay =>
      forRun (fun x ρ S2 k => bindT t x ρ fun ρ' => wSs b { D with nx := k, ct := k, bk := D.nx } ρ' S2) stay items ρ S1 D.nx
  | .brk, D, ρ, S => D.bk ρ S
  | .cnt, D, ρ, S => D.ct ρ S
  | .pas, D, ρ, S => D.nx ρ S
  | .nev, _, _, _ => False
def wSs : List RS → WEnds → En → Sto → Prop
  | [], D, ρ, S => D.nx ρ S
  | s :: ss, D, ρ, S => wS s { D with nx := fun ρ' S' => wSs ss D ρ' S' } ρ S
end
end
section
variable (cf : Nat → Nat)
mutual
def cE : RE → Nat
  | .var _ => 0
  | .glb f => cf f
  | .kix f e => cf f + cE e
  | .nd _ es => cEs es
  | .call f es => cEs es + cf f
  | .mth _ o es => cE o + cEs es
  | .fld _ o => cE o
  | .xn _ _ f o es => cE o + (cEs es + cf f)
  | .isi _ _ e => cE e
  | .dsp es => cEs es
  | .cmp _ a b => cE a + cE b
  | .ch _ _ a b c => cE a + (cE b + cE c)
  | .frz e => cE e
  | .and es => cEs es
  | .or es => cEs es
  | .not e => cE e
  | .ite c a b => cE c + (cE a + cE b)
  | .lc _ elt _ _ es cond _ => cEs es + MX * (cEs cond + cE elt)
  | .lc2 _ elt _ _ es cond _ _ es1 cond1 _ => cEs es + MX * (cEs cond + (cEs es1 + MX * (cEs cond1 + cE elt)))
def cEs : List RE → Nat
  | [] => 0
  | e :: es => cE e + cEs es
end
mutual
def cS : RS → Nat
  | .asg _ e => cE cf e
  | .star _ _ e => cE cf e
  | .asgL _ e => cE cf e
  | .par2 _ _ a b => cE cf a + cE cf b
  | .par3 _ _ _ a b c => cE cf a + (cE cf b + cE cf c)
  | .aug _ _ e => cE cf e
  | .setI e o i => cE cf e + (cE cf o + cE cf i)
  | .set2 e1 e2 o1 i1 o2 i2 => cE cf e1 + (cE cf e2 + (cE cf o1 + (cE cf i1 + (cE cf o2 + cE cf i2))))
  | .setF _ o e => cE cf e + cE cf o
  | .expr e => cE cf e
  | .ret e => cE cf e
  | .retN => 0
  | .ifs c a b => cE cf c + (cSs a + cSs b)
  | .whl c b => cE cf c + cSs b
  | .whb c b => MX * (cE cf c + cSs b) + (cE cf c + cSs b)
  | .for_ _ _ es b => cEs cf es + MX * cSs b
  | .brk => 0
  | .cnt => 0
  | .pas => 0
  | .nev => 0
def cSs : List RS → Nat
  | [] => 0
  | s :: ss => cS s + cSs ss
end
end
def visB (sc : Scope) (x : Str) : Bool := match sc.names.lookup x with
  | some .local => true
  | some .cell => true
  | some .free => true
  | _ => false
def locB (sc : Scope) (x : Str) : Bool := match sc.names.lookup x with
  | some .local => true
  | some .cell => true
  | _ => false
def glB (sc : Scope) (x : Str) : Bool := match sc.names.lookup x with
  | some .globalImplicit => true
  | _ => false
theorem visB_ok {sc : Scope} {x : Str} (h : visB sc x = true) : Vis sc x := by
  unfold visB at h
  split at h <;> first | exact .inl (by assumption) | exact .inr (.inl (by assumption)) | exact .inr (.inr (by assumption)) | cases h
theorem locB_ok {sc : Scope} {x : Str} (h : locB sc x = true) : Loc sc x := by
  unfold locB at h
  split at h <;> first | exact .inl (by assumption) | exact .inr (by assumption) | cases h
theorem glB_ok {X : Cx} {x : Str} (h : glB X.env.scope x = true) : Gl X x := by
  unfold glB at h
  split at h <;> first | (show X.env.scope.names.lookup x = _; assumption) | cases h
def okName (x : Str) : Bool := !decide (x = ("__debug__" : Str)) && !decide (x = ("__classdict__" : Str)) && !decide (x = ("__name__" : Str))
/-- a name that is stored to: fb tells the cells that are the block's own -/
def stoB (fb : Str → Bool) (sc : Scope) (x : Str) : Bool := match sc.names.lookup x with
  | some .local => true
  | some .cell => fb x
  | _ => false
theorem stoB_ok {X : Cx} {x : Str} (h : stoB X.fn X.env.scope x = true) : Loc X.env.scope x ∧ (X.fn x = true ∨ X.env.scope.names.lookup x = some .local) := by
  unfold stoB at h
  split at h
  · rename_i e; exact ⟨.inl e, .inr e⟩
  · rename_i e; exact ⟨.inr e, .inl h⟩
  · cases h
def ownB (scope : Scope) : Str → Bool := fun x => scope.names.lookup x == some .cell
/-- a method's name, by its class -/
def xrng (k : XK) (f : Nat) : Bool := match k with
  | .om => decide (f < AB)
  | _ => decide (AB ≤ f) && decide (f < GB)
def splitDot (x : Str) : Option (Str × Str) := match x.cps.toList.findIdx? (· == 46) with
  | none => none
  | some i => some (⟨(x.cps.toList.take i).toArray⟩, ⟨(x.cps.toList.drop (i + 1)).toArray⟩)
def notSuper : Expr → Bool
  | .Call (.Name _ _) [] [] _ => false
  | .Name _ _ => true
  | .Call _ (_ :: _) _ _ => true
  | .Attribute _ _ _ => true
  | .Subscript _ _ _ => true
  | _ => false
/-- the object and the further parts; m: the method asked -/
def xshape (k : XK) (m : Str) (sc : Scope) (e : Expr) : Option (Expr × List Expr) := match k, e with
  | .om, .Call (.Attribute o y apos) as [] cpos => if (decide (y = m) && (notSuper o && (decide (as.length < 20) && (apos.endLine == cpos.line)))) = true then some (o, as) else none
  | .eq, .Compare a [.Eq] [b] _ => if (decide (m = ("__eq__" : Str)) && !behindInMarks .Eq b) = true then some (a, [b]) else none
  | .ne, .Compare a [.NotEq] [b] _ => if (decide (m = ("__eq__" : Str)) && !behindInMarks .NotEq b) = true then some (a, [b]) else none
  | .len, .Call (.Name x _) [a] [] _ => if (decide (x = ("len" : Str)) && (notStar a && (decide (m = ("__len__" : Str)) && glB sc x))) = true then some (a, []) else none
  | .str, .Call (.Name x _) [a] [] _ => if (decide (x = ("str" : Str)) && (notStar a && (decide (m = ("__str__" : Str)) && glB sc x))) = true then some (a, []) else none
  | _, _ => none
/-- does the statement name = e store within the comprehension -/
def swB (sc : Scope) (y : Str) (py : Pos) (e : Expr) : Bool := match e with
  | .ListComp _ _ scope pos => decide (sc.names.lookup y = some .local) && (py.line == pos.line) && !(scope.names.any fun (n, k) => n == y && (k == .local || k == .cell))
  | _ => false
def isComp : Expr → Bool
  | .ListComp _ _ _ _ => true
  | .SetComp _ _ _ _ => true
  | .DictComp _ _ _ _ _ => true
  | _ => false
/-- a display's keys and values, in a row -/
def pairUp : List (Option Expr) → List Expr → Option (List Expr)
  | [], [] => some []
  | some k :: ks, v :: vs => (pairUp ks vs).map fun r => k :: v :: r
  | _, _ => none
section
variable (fn : Nat → Str) (N : List Str)
mutual
def mT (fb : Str → Bool) : RT → Scope → Expr → Bool
  | .nm i, sc, .Name x _ => decide (N[i]? = some x) && stoB fb sc x
  | .tup ts, sc, .Tuple es _ _ => mTs fb ts sc es
  | .unl ts, sc, .Tuple es _ _ => mTs fb ts sc es
  | _, _, _ => false
def mTs (fb : Str → Bool) : List RT → Scope → List Expr → Bool
  | [], _, [] => true
  | t :: ts, sc, e :: es => mT fb t sc e && mTs fb ts sc es
  | _, _, _ => false
end
mutual
def mE : RE → Scope → Expr → Bool
  | .var i, sc, .Name x _ => decide (N[i]? = some x) && visB sc x && okName x
  | .nd n es, sc, e => match n.shape sc e with
    | some as => mEs es sc as
    | none => false
  | .glb f, sc, .Name x _ => decide (GB ≤ f) && (decide (fn f = x) && (glB sc x && okName x))
  | .kix f r, sc, .Call (.Attribute (.Name x _) y apos) [a] [] cpos => decide (GB ≤ f) && (decide (fn f = x) && (glB sc x && (okName x && (decide (y = ("index" : Str)) && ((apos.endLine == cpos.line) && (notStar a && mE r sc a))))))
  | .call f es, sc, .Call (.Name x _) as [] _ => decide (f < AB) && (decide (fn f = x) && glB sc x && okName x && (decide (splitDot x = none) && mEs es sc as))
  | .mth n o es, sc, e => (match n.shape sc e with
    | some (o', as) => mE o sc o' && mEs es sc as
    | none => false)
  | .fld n o, sc, .Attribute o' y _ => decide (y = n) && (notSuper o' && mE o sc o')
  | .xn k c f o es, sc, e => xrng k f && (match splitDot (fn f) with
    | some (c', m) => decide (c' = c) && (match xshape k m sc e with
      | some (o', as) => mE o sc o' && mEs es sc as
      | none => false)
    | none => false)
  | .isi c f r, sc, .Call (.Name x _) [e, .Name y _] [] _ => decide (f < AB) && (decide (x = ("isinstance" : Str)) && (glB sc x && (glB sc y && (okName y && (decide (y = c) && ((match splitDot (fn f) with
    | some (c', _) => decide (c' = c)
    | none => false) && mE r sc e))))))
  | .cmp n a b, sc, .Compare a' [o] [b'] _ => decide (n.op = o) && (!behindInMarks o b' && (mE a sc a' && mE b sc b'))
  | .ch n m a b c, sc, .Compare a' [o, q] [b', c'] _ => decide (n.op = o) && (decide (m.op = q) && (!behindInMarks q c' && (mE a sc a' && (mE b sc b' && mE c sc c'))))
  | .frz r, sc, e => mE r sc e
  | .dsp es, sc, .Dict keys values _ => (match keys with
    | [] => false
    | _ :: _ => decide (keys.length ≤ 15) && (match pairUp keys values with
      | some as => mEs es sc as
      | none => false))
  | .and es, sc, .BoolOp .And as _ => mEs es sc as
  | .or es, sc, .BoolOp .Or as _ => mEs es sc as
  | .not e, sc, .UnaryOp .Not a _ => mE e sc a
  | .ite c a b, sc, .IfExp c' a' b' _ => mE c sc c' && mE a sc a' && mE b sc b'
  | .lc _ elt tg n es cond own, sc, .ListComp elt' [⟨tg', iter, ifs, 0⟩] scope _ =>
    (match n.shape sc iter with
      | some as => mEs es sc as
      | none => false) && (n.tgt tg' && (blkC N sc scope own && (mT N (ownB scope) tg (relS scope sc) tg' && ((tg.slots.all fun i => (own.map (·.2)).contains i) && (mEs cond (relS scope sc) ifs && mE elt (relS scope sc) elt')))))
  | .lc2 _ elt tg n es cond tg1 n1 es1 cond1 own, sc, .ListComp elt' [⟨tg', iter, ifs, 0⟩, ⟨tg1', iter1, ifs1, 0⟩] scope _ =>
    (match n.shape sc iter with
      | some as => mEs es sc as
      | none => false) && ((match n1.shape (relS scope sc) iter1 with
      | some as => mEs es1 (relS scope sc) as
      | none => false) && (n.tgt tg' && (n1.tgt tg1' && (blkC N sc scope own && (mT N (ownB scope) tg (relS scope sc) tg' && (mT N (ownB scope) tg1 (relS scope sc) tg1' &&
        ((tg.slots.all fun i => (own.map (·.2)).contains i) && ((tg1.slots.all fun i => (own.map (·.2)).contains i) && (mEs cond (relS scope sc) ifs && (mEs cond1 (relS scope sc) ifs1 && mE elt (relS scope sc) elt'))))))))))
  | _, _, _ => false
def mEs : List RE → Scope → List Expr → Bool
  | [], _, [] => true
  | r :: rs, sc, e :: es => mE r sc e && mEs rs sc es
  | _, _, _ => false
end
end
end
section
open PySem PySem.Spec L2
section
variable (C : Nat → List D → Sto → PostE → Prop) (cf : Nat → Nat)
def tE (K : PySem.W.Frag) (r : RE) : TE := fun σ H Q => ∃ pv ρ S Hd M Qd, EnR K Hd ρ σ ∧ SR K pv S Hd H M ∧ M + cE cf r ≤ CAP ∧ wE C r ρ S Qd ∧
  ∀ d S' Hd' H' v, Mv pv Hd H Hd' H' → SR K pv S' Hd' H' (M + cE cf r) → Rep K Hd' d v → Qd d S' → Q v H'
/-- a reading that hands on a truth -/
def tB' (K : PySem.W.Frag) (w : En → Sto → (Bool → Sto → Prop) → Prop) (c : Nat) : TT := fun σ H Q => ∃ pv ρ S Hd M Qd, EnR K Hd ρ σ ∧ SR K pv S Hd H M ∧ M + c ≤ CAP ∧ w ρ S Qd ∧
  ∀ b S' Hd' H', Mv pv Hd H Hd' H' → SR K pv S' Hd' H' (M + c) → Qd b S' → Q b H'
/-- a reading that hands on a value -/
def tV' (K : PySem.W.Frag) (w : En → Sto → PostE → Prop) (c : Nat) : TE := fun σ H Q => ∃ pv ρ S Hd M Qd, EnR K Hd ρ σ ∧ SR K pv S Hd H M ∧ M + c ≤ CAP ∧ w ρ S Qd ∧
  ∀ d S' Hd' H' v, Mv pv Hd H Hd' H' → SR K pv S' Hd' H' (M + c) → Rep K Hd' d v → Qd d S' → Q v H'
end
theorem tE_mono {C : Nat → List D → Sto → PostE → Prop} {cf : Nat → Nat} {K : PySem.W.Frag} (r : RE) : MonoE (tE C cf K r) := fun σ H Q Q' i q => by
  obtain ⟨pv, ρ, S, Hd, M, Qd, en, sr, hc, w, fin⟩ := q
  exact ⟨pv, ρ, S, Hd, M, Qd, en, sr, hc, w, fun d S' Hd' H' v m s r q => i _ _ (fin d S' Hd' H' v m s r q)⟩
section
variable {C : Nat → List D → Sto → PostE → Prop} {cf : Nat → Nat} {K : PySem.W.Frag}
theorem all_run {pv : List Addr} {σ : St} : ∀ {es : List RE} {H : Hp} {ρ : En} {S : Sto} {Hd : Hp} {M : Nat} {Qs : List D → Sto → Prop} {Q : List V → Hp → Prop}, EnR K Hd ρ σ → SR K pv S Hd H M → M + cEs cf es ≤ CAP → wEs C es ρ S Qs →
    (∀ ds S' Hd' H' vs, Mv pv Hd H Hd' H' → SR K pv S' Hd' H' (M + cEs cf es) → RepL K Hd' ds vs → Qs ds S' → Q vs H') → tAll (es.map (tE C cf K)) σ H Q
  | [], H, ρ, S, Hd, M, Qs, Q, en, sr, hc, w, k => by
    simp only [wEs] at w
    exact k [] S Hd H [] (.refl ..) (by simpa only [cEs, Nat.add_zero] using sr) .nil w
  | e :: es, H, ρ, S, Hd, M, Qs, Q, en, sr, hc, w, k => by
    simp only [wEs] at w
    simp only [cEs] at hc k
    refine ⟨pv, ρ, S, Hd, M, _, en, sr, by omega, w, fun d S1 Hd1 H1 v mv sr1 rd q => ?_⟩
    refine all_run (en.mono mv.le) sr1 (by omega) q fun ds S2 Hd2 H2 vs mv2 sr2 rl q2 => ?_
    exact k (d :: ds) S2 Hd2 H2 (v :: vs) (mv.trans mv2) (by rw [← Nat.add_assoc]; exact sr2) (.cons (rd.mono mv2.le) rl) q2
end
/-- what is done with an instance of an own class: the object first, then the further parts -/
def tXn (K : PySem.W.Frag) (k : XK) (c : Str) (Cf : List D → Sto → PostE → Prop) (n : Nat) (to : TE) (ts : List TE) : TE := fun σ H Q => to σ H fun x H1 =>
  (∃ pv d S Hd M, Rep K Hd d x ∧ SR K pv S Hd H1 M ∧ xchk k c d S) ∧ tAll ts σ H1 fun vs H2 => vSem K (fun ds S Qd => xend k c ds S ∧ Cf ds S (xpost k Qd)) n (x :: vs) H2 Q
def vSemB (K : PySem.W.Frag) (sem : List D → Sto → (Bool → Sto → Prop) → Prop) (c : Nat) (vs : List V) (H : Hp) (Q : Bool → Hp → Prop) : Prop :=
  ∃ pv ds S Hd M Qd, RepL K Hd ds vs ∧ SR K pv S Hd H M ∧ M + c ≤ CAP ∧ sem ds S Qd ∧ ∀ b S' Hd' H', Mv pv Hd H Hd' H' → SR K pv S' Hd' H' (M + c) → Qd b S' → Q b H'
def tXnT (K : PySem.W.Frag) (k : XK) (c : Str) (Cf : List D → Sto → PostE → Prop) (n : Nat) (to : TE) (ts : List TE) : TT := fun σ H Q => to σ H fun x H1 =>
  (∃ pv d S Hd M, Rep K Hd d x ∧ SR K pv S Hd H1 M ∧ xchk k c d S) ∧ tAll ts σ H1 fun vs H2 => vSemB K (fun ds S Qd => xend k c ds S ∧ Cf ds S (xpostT k Qd)) n (x :: vs) H2 Q
/-- isinstance(x, C) of an own class -/
def tIsi (K : PySem.W.Frag) (c : Str) (to : TE) : TE := fun σ H Q => to σ H fun x H1 => ∃ pv d S Hd M b, Rep K Hd d x ∧ SR K pv S Hd H1 M ∧ isiD c d S = some b ∧ Q (.bl b) H1
/-- c.index(e), c a tuple of texts that stands as a constant of the module -/
def tKix (K : PySem.W.Frag) (Cf : List D → Sto → PostE → Prop) (n : Nat) (to : TE) : TE := fun σ H Q => ∃ pv S Hd M Qd, SR K pv S Hd H M ∧ M + n ≤ CAP ∧ Cf [] S Qd ∧ ∀ d S' Hd' H' v, Mv pv Hd H Hd' H' → SR K pv S' Hd' H' (M + n) → Rep K Hd' d v → Qd d S' →
  ∃ xs : List Str, d = .tup (xs.map D.str) ∧ to σ H' fun y H2 => ∃ (z : Str) (j : Nat), y = .str z ∧ xs[j]? = some z ∧ (∀ m, m < j → xs[m]? ≠ some z) ∧ Q (.int (j : Nat)) H2
/-- what holds around: the defs' readings are right where they are called -/
structure Wd (C : Nat → List D → Sto → PostE → Prop) (cf : Nat → Nat) (fn : Nat → Str) (G : Cx → Prop) : Prop where
  amb : ∀ X, G X → Amb X
  nd : ∀ X, G X → X.N.Nodup
  blk : ∀ X s H scope cl c fp, G X → G (X.blk s H scope (compEnvC scope cl c X.env) fp)
  call : ∀ X f p pos es ts, G X → f < AB → Gl X (fn f) → okName (fn f) = true → splitDot (fn f) = none → PEs X es ts → PE X (.Call (.Name (fn f) p) es [] pos) (tNd X.K (C f) (cf f) ts)
  xn : ∀ X k c m f e o es to ts, G X → xrng k f = true → splitDot (fn f) = some (c, m) → xshape k m X.env.scope e = some (o, es) → PE X o to → MonoE to → PEs X es ts → PE X e (tXn X.K k c (C f) (cf f) to ts)
  xnT : ∀ X k c m f e o es to ts, G X → xrng k f = true → splitDot (fn f) = some (c, m) → xshape k m X.env.scope e = some (o, es) → PE X o to → MonoE to → PEs X es ts → PT X e (tXnT X.K k c (C f) (cf f) to ts)
  isi : ∀ X c m f x p a y py pos to, G X → f < AB → splitDot (fn f) = some (c, m) → x = ("isinstance" : Str) → glB X.env.scope x = true → y = c → glB X.env.scope y = true → okName y = true → notStar a = true → MonoE to → PE X a to → PE X (.Call (.Name x p) [a, .Name y py] [] pos) (tIsi X.K c to)
  glb : ∀ X f p, G X → GB ≤ f → Gl X (fn f) → okName (fn f) = true → PE X (.Name (fn f) p) (fun _ H Q => vSem X.K (C f) (cf f) [] H Q)
  kix : ∀ X f p apos cpos a to, G X → GB ≤ f → Gl X (fn f) → okName (fn f) = true → (apos.endLine == cpos.line) = true → notStar a = true → MonoE to → PE X a to → PE X (.Call (.Attribute (.Name (fn f) p) ("index" : Str) apos) [a] [] cpos) (tKix X.K (C f) (cf f) to)
theorem okName_d {x : Str} (h : okName x = true) : (x == ("__debug__" : Str)) = false ∧ (x == ("__classdict__" : Str)) = false ∧ x ≠ ("__name__" : Str) := by
  unfold okName at h
  simp only [Bool.and_eq_true, Bool.not_eq_true', decide_eq_false_iff_not] at h
  exact ⟨beq_eq_false_iff_ne.mpr h.1.1, beq_eq_false_iff_ne.mpr h.1.2, h.2⟩
theorem truV_of {K : PySem.W.Frag} {pv : List Addr} {S : Sto} {Hd H : Hp} {M : Nat} {d : D} {v : V} {b : Bool} (sr : SR K pv S Hd H M) (r : Rep K Hd d v) (t : truth S d = some b) : TruV K v H b := by
  have emp : ∀ {xs : List D} {vs : List V}, RepL K Hd xs vs → (!xs.isEmpty) = (!vs.isEmpty) := fun {xs vs} h => by
    have := h.length
    cases xs <;> cases vs <;> first | rfl | simp at this
  cases d with
  | non => simp only [Rep] at r; subst r; simp only [truth] at t; cases t; rfl
  | bl c => simp only [Rep] at r; subst r; simp only [truth] at t; cases t; rfl
  | int c => simp only [Rep] at r; subst r; simp only [truth] at t; cases t; rfl
  | tup xs =>
    simp only [Rep] at r; obtain ⟨a, vs, rfl, q, rl⟩ := r
    simp only [truth] at t; cases t
    exact .inr (.inl ⟨vs, Le.sqT sr.sub q, emp rl⟩)
  | lst xs =>
    simp only [Rep] at r; obtain ⟨a, vs, rfl, q, rl⟩ := r
    simp only [truth] at t; cases t
    exact .inl ⟨vs, .inl (Le.rd sr.sub q), emp rl⟩
  | loc a =>
    simp only [Rep] at r; subst r
    simp only [truth] at t
    split at t
    · rename_i xs e
      cases t
      obtain ⟨_, ho, e2, vs, rfl, rl⟩ := sr.sto _ _ e
      exact .inl ⟨vs, .of e2, emp rl⟩
    · cases t
  | str _ => simp [truth] at t
  | ty _ => simp [truth] at t
  | dic _ _ => simp [truth] at t
  | scr _ => simp [truth] at t
  | obj _ _ _ => simp [truth] at t
theorem xshape_ns {k : XK} {m : Str} {sc : Scope} {e : Expr} {p : Expr × List Expr} (h : xshape k m sc e = some p) : notStar e = true := by
  unfold xshape at h
  split at h <;> first | rfl | cases h
section
variable {C : Nat → List D → Sto → PostE → Prop} {cf : Nat → Nat} {fn : Nat → Str}
theorem mE_ns {N : List Str} : ∀ (r : RE) {sc : Scope} {e : Expr}, mE fn N r sc e = true → notStar e = true
  | .var i, sc, e, h => by cases e <;> first | rfl | (simp [mE] at h)
  | .nd n es, sc, e, h => by
    simp only [mE] at h
    split at h
    · rename_i as q; exact n.ns _ _ _ q
    · cases h
  | .glb f, sc, e, h => by cases e <;> first | rfl | (simp [mE] at h)
  | .kix f r, sc, e, h => by cases e <;> first | rfl | (simp [mE] at h)
  | .call f es, sc, e, h => by cases e <;> first | rfl | (simp [mE] at h)
  | .mth n o es, sc, e, h => by
    simp only [mE] at h
    split at h
    · rename_i p as q; exact plainE_ns (n.pl _ _ _ q)
    · cases h
  | .fld n o, sc, e, h => by cases e <;> first | rfl | (simp [mE] at h)
  | .xn k c f o es, sc, e, h => by
    simp only [mE, Bool.and_eq_true] at h
    obtain ⟨_, h⟩ := h
    split at h
    · simp only [Bool.and_eq_true] at h
      obtain ⟨_, h⟩ := h
      split at h
      · rename_i q; exact xshape_ns q
      · cases h
    · cases h
  | .isi c f r, sc, e, h => by cases e <;> first | rfl | (simp [mE] at h)
  | .dsp es, sc, e, h => by cases e <;> first | rfl | (simp [mE] at h)
  | .cmp n a b, sc, e, h => by cases e <;> first | rfl | (simp [mE] at h)
  | .ch n m a b c, sc, e, h => by cases e <;> first | rfl | (simp [mE] at h)
  | .frz r, sc, e, h => by simp only [mE] at h; exact mE_ns r h
  | .and es, sc, e, h => by cases e <;> first | rfl | (simp [mE] at h)
  | .or es, sc, e, h => by cases e <;> first | rfl | (simp [mE] at h)
  | .not r, sc, e, h => by cases e <;> first | rfl | (simp [mE] at h)
  | .ite c a b, sc, e, h => by cases e <;> first | rfl | (simp [mE] at h)
  | .lc o el tg n es cd ow, sc, e, h => by cases e <;> first | rfl | (simp [mE] at h)
  | .lc2 o el tg n es cd tg1 n1 es1 cd1 ow, sc, e, h => by cases e <;> first | rfl | (simp [mE] at h)
end
def gT (K : PySem.W.Frag) (t : RT) : TG := fun v σ H Q => ∃ ρ Hd d k, EnR K Hd ρ σ ∧ Rep K Hd d v ∧ Le Hd H ∧ bindT t d ρ k ∧
  ∀ ρ' σ', EnR K Hd ρ' σ' → (∀ vs, (∀ i ∈ t.slots, i ∈ vs) → L2.wipe σ' vs = L2.wipe σ vs) → k ρ' → Q σ' H
def gTs (K : PySem.W.Frag) (ts : List RT) : TGs := fun vs σ H Q => ∃ ρ Hd ds k, EnR K Hd ρ σ ∧ RepL K Hd ds vs ∧ Le Hd H ∧ ds.length = ts.length ∧ bindTs ts ds ρ k ∧
  ∀ ρ' σ', EnR K Hd ρ' σ' → (∀ vs, (∀ i ∈ slotsL ts, i ∈ vs) → L2.wipe σ' vs = L2.wipe σ vs) → k ρ' → Q σ' H
theorem _root_.L2.PGs.of {X : Cx} {e : List Expr} {t t' : TGs} (h : PGs X e t) (i : ∀ v σ H Q, t' v σ H Q → t v σ H Q) : PGs X e t' := ⟨fun pins s σ H v u Q I r q => h.run pins s σ H v u Q I r (i v σ H Q q)⟩
theorem assign_star {e : Expr} {es : List Expr} {env : Env} (h : notStar e = true) : assignEach (e :: es) env = (false, assign e env) :: assignEach es env := by
  cases e <;> first | rfl | cases h
/-- the items of x, *y = a tuple -/
theorem star_items {prog : Program} {w : World} {A : Around} {E : Value → Shared → Prop} {s : Shared} {l : Addr} {items : Array Value} {x : Value} {xs : List Value} {Q : List Value → Shared → Prop} (hl : PyProof.Rows.IsTup s.heap l items) (hh : A.handled = none) (ei : items.toList = x :: xs) (hz : items.size ≤ 16384)
    (h : ∀ (h₂ : Heap) (tk : Nat), Heap.ExtBut s.heap.objs.size s.heap h₂ → Q [x, .ref h₂.objs.size] { s with heap := h₂.push { cls := .type "list", data := .seq xs.toArray }, toks := tk }) : wpAny (model prog w) A (unpackItems (.ref l) 2 (some 1)) Q E s := by
  have hsz : items.size = xs.length + 1 := by rw [← Array.length_toList, ei]; rfl
  have hlt : l ≠ s.heap.objs.size := by obtain ⟨o, ho, _⟩ := hl; exact Nat.ne_of_lt (Heap.lt_size ho)
  unfold unpackItems
  refine wpAny_bind ?_
  unfold notIterableAtAll
  refine wpAny_bind (wpAny_specialOf hl.typeIs PyProof.Rows.slot_tuple_iter.lookup ?_)
  refine wpAny_pure ?_
  simp only [Bool.false_eq_true, if_false]
  refine wpAny_bind (wpAny_holding (PyProof.Rows.iter_tuple hl ?_))
  refine wpAny_bind (wpAny_holding (PyProof.Rows.draw_tuple hlt 1 0 _ _ ⟨_, Heap.get?_push_size _ rfl, rfl, rfl⟩ (hl.push _) (by omega) fun h₁ hit₁ hs₁ => ?_))
  have hl₁ : PyProof.Rows.IsTup h₁ l items := (hl.push _).extBut hs₁.extBut hlt
  rw [Nat.zero_add] at hit₁
  have hit₁' := hit₁
  obtain ⟨oi, hoi, _⟩ := hit₁'
  have hl₁' := hl₁
  obtain ⟨ol, hol, _⟩ := hl₁'
  rw [List.drop_zero]
  have hfl : (items.toList.take 1).length = 1 := by rw [ei]; rfl
  rw [if_neg (show ¬ ((items.toList.take 1).length < 1) by rw [hfl]; omega)]
  refine wpAny_bind (wpAny_holding (PySem.W.kun_collect (s := { s with heap := h₁ }) (T := "tuple_iterator") (.inr (.inr (.inr rfl))) (PySem.Walks.tuple (A := A.in1) hh s.heap.objs.size l hlt items) (fun j u st => st.1.typeIs) (k := 1) (by omega) ⟨hit₁, hl₁⟩ (Heap.lt_size hoi) (Heap.lt_size hol) (fun h₂ tk hk => ?_) (by rw [sizeLine_eq]; omega)))
  have hd : items.toList.drop 1 = xs := by rw [ei]; rfl
  have htk : items.toList.take 1 = [x] := by rw [ei]; rfl
  rw [hd, htk]
  show wpAny _ _ (if xs.length < 2 - 1 - 1 then _ else _) _ _ _
  rw [if_neg (by omega)]
  show wpAny _ _ (newList (xs.take (xs.length - (2 - 1 - 1))) >>= fun d => pure ([x] ++ [d] ++ xs.drop (xs.length - (2 - 1 - 1)))) _ _ _
  have e0 : xs.length - (2 - 1 - 1) = xs.length := by omega
  rw [e0, List.take_length, List.drop_length]
  have he : Heap.ExtBut s.heap.objs.size s.heap h₂ := fun b o hb e => hk b o hb (hs₁.extBut b o hb (Heap.get?_push_of_some _ e))
  exact wpAny_bind (wpAny_newList (wpAny_pure (h h₂ tk he)) (by rw [sizeLine_eq]; omega))
/-- x, *y = a tuple -/
def gStar (K : PySem.W.Frag) (g1 g2 : TG) : TG := fun v σ H Q => ∃ a x xs, v = .ref a ∧ SqT K H a (x :: xs) ∧ xs.length < 10000 ∧ ∀ l, H l = none → g1 x σ (upd H l (.lst xs)) fun σ1 H1 => g2 (.ref l) σ1 H1 Q
theorem pg_star {X : Cx} {e1 e2 : Expr} {k : Nat} {pos p2 : Pos} {g1 g2 : TG} (hc : X.calm = true) (h1 : PG X e1 g1) (h2 : PG X e2 g2) (hn : notStar e1 = true) (hn2 : notStar e2 = true) : PG X (.Tuple [e1, .Starred e2 p2] k pos) (gStar X.K g1 g2) := by
  refine ⟨fun pins s σ H v u Q I r hw => ?_⟩
  obtain ⟨a, x, xs, rfl, hq, hl, hw⟩ := hw
  cases r
  obtain ⟨its, rv, ht, hz⟩ := I.tuple hq
  have hx : ∃ u us, its = u :: us ∧ RelV x u ∧ Vals xs us := by
    cases rv with
    | cons a b => exact ⟨_, _, rfl, a, b⟩
  obtain ⟨u, us, rfl, ru, rus⟩ := hx
  have ea : assignEach [e1, .Starred e2 p2] X.env = [(false, assign e1 X.env), (true, assign e2 X.env)] := by rw [assign_star hn]; rfl
  rw [PyProof.Rows.assign_Tuple]
  refine wpAny_bind (wpAny_standAt ?_)
  unfold unpack
  rw [ea]
  have hul : us.length = xs.length := rus.length.symm
  refine wpAny_bind (wpAny_holding (star_items (x := u) (xs := us) ht (I.ok.hd hc) (by simp) (by simp; omega) fun h₂ tk he => ?_))
  have I1 : Inv X pins σ H { s with heap := h₂, toks := tk } := I.kept fun b o e => he b o (Nat.ne_of_lt (Heap.lt_size e)) e
  have hf : H h₂.objs.size = none := I1.hok.fresh (Nat.le_refl _)
  have I2 : Inv X pins σ (upd H h₂.objs.size (.lst xs)) { s with heap := h₂.push { cls := .type "list", data := .seq us.toArray }, toks := tk } := I1.laid (t' := tk) (fun b u e => Heap.get?_push_of_some _ e) (Nat.le_refl _) (by
    show ObjOk X.prog X.w _ _ _ (.lst xs)
    exact ⟨Nat.le_trans (show xs.length ≤ 10000 by omega) (by decide), us, 0, rus, Heap.get?_push_size _ rfl⟩)
  show wpAny _ _ (do holding [Value.ref h₂.objs.size] (assign e1 X.env u); assignInOrder [assign e2 X.env] [Value.ref h₂.objs.size]) _ _ _
  refine wpAny_bind (wpAny_holding (thn (h1.run pins _ σ _ x u _ I2 ru (hw _ hf)) fun _ s3 ⟨σ3, H3, I3, q3⟩ => ?_))
  show wpAny _ _ (do holding ([] : List Value) (assign e2 X.env (Value.ref h₂.objs.size)); assignInOrder [] []) _ _ _
  exact wpAny_bind (wpAny_holding (thn (h2.run pins s3 σ3 H3 (.ref h₂.objs.size) _ _ I3 rfl q3) fun _ s4 ⟨σ4, H4, I4, q4⟩ => PyProof.Rows.assignInOrder_nil ⟨σ4, H4, I4, q4⟩))
theorem mT_ns {N : List Str} {fb : Str → Bool} {t : RT} {sc : Scope} {e : Expr} (h : mT N fb t sc e = true) : notStar e = true := by
  cases t <;> cases e <;> first | rfl | (simp [mT] at h)
theorem mTs_each {N : List Str} {fb : Str → Bool} : ∀ {ts : List RT} {sc : Scope} {es : List Expr} (env : Env), mTs N fb ts sc es = true → (assignEach es env).length = ts.length ∧ (assignEach es env).findIdx? (·.1) = none
  | [], sc, [], env, _ => ⟨rfl, rfl⟩
  | [], _, _ :: _, _, h => by simp [mTs] at h
  | _ :: _, _, [], _, h => by simp [mTs] at h
  | t :: ts, sc, e :: es, env, h => by
    simp only [mTs, Bool.and_eq_true] at h
    obtain ⟨h1, h2⟩ := mTs_each env h.2
    rw [assign_star (mT_ns h.1)]
    refine ⟨by simp [h1], ?_⟩
    rw [List.findIdx?_cons]
    simp only [Bool.false_eq_true, if_false, h2, Option.map_none]
mutual
theorem sG {X : Cx} (hc : X.calm = true) (nd : X.N.Nodup) : ∀ (t : RT) (e : Expr), mT X.N X.fn t X.env.scope e = true → PG X e (gT X.K t)
  | .nm i, e, h => by
    cases e with
    | Name x pos =>
      simp only [mT, Bool.and_eq_true, decide_eq_true_eq] at h
      obtain ⟨l, f⟩ := stoB_ok h.2
      refine (pg_name nd h.1 l f).of fun v σ H Q q => ?_
      obtain ⟨ρ, Hd, d, k, en, rd, _, b, c⟩ := q
      simp only [bindT] at b
      exact c _ _ (en.set rd i) (fun vs hv => wipe_set (hv i (by simp [RT.slots]))) b
    | _ => simp [mT] at h
  | .tup ts, e, h => by
    cases e with
    | Tuple es k pos =>
      simp only [mT] at h
      obtain ⟨h1, h2⟩ := mTs_each X.env h
      refine (pg_tup hc (sGs hc nd ts es h) h1 h2).of fun v σ H Q q => ?_
      obtain ⟨ρ, Hd, d, k, en, rd, le, b, c⟩ := q
      simp only [bindT] at b
      obtain ⟨xs, rfl, hl, b⟩ := b
      simp only [Rep] at rd
      obtain ⟨a, vs, rfl, st, rl⟩ := rd
      exact ⟨a, vs, rfl, Le.sqT le st, rl.length.trans hl, ρ, Hd, xs, k, en, rl, le, hl, b, fun ρ' σ' e w q => c ρ' σ' e (fun vs hv => w vs fun i hi => hv i (by simpa [RT.slots] using hi)) q⟩
    | _ => simp [mT] at h
  | .unl ts, e, h => by
    cases e with
    | Tuple es k pos =>
      simp only [mT] at h
      obtain ⟨h1, h2⟩ := mTs_each X.env h
      refine (pg_unl hc (sGs hc nd ts es h) h1 h2).of fun v σ H Q q => ?_
      obtain ⟨ρ, Hd, d, k, en, rd, le, b, c⟩ := q
      simp only [bindT] at b
      obtain ⟨xs, rfl, hl, b⟩ := b
      simp only [Rep] at rd
      obtain ⟨a, vs, rfl, st, rl⟩ := rd
      exact ⟨a, vs, rfl, .inl (Le.rd le st), rl.length.trans hl, ρ, Hd, xs, k, en, rl, le, hl, b, fun ρ' σ' e w q => c ρ' σ' e (fun vs hv => w vs fun i hi => hv i (by simpa [RT.slots] using hi)) q⟩
    | _ => simp [mT] at h
theorem sGs {X : Cx} (hc : X.calm = true) (nd : X.N.Nodup) : ∀ (ts : List RT) (es : List Expr), mTs X.N X.fn ts X.env.scope es = true → PGs X es (gTs X.K ts)
  | [], [], _ => by
    refine pgs_nil.of fun v σ H Q q => ?_
    obtain ⟨ρ, Hd, ds, k, en, rl, _, hl, b, c⟩ := q
    cases ds with
    | nil =>
      simp only [RepL] at rl
      simp only [bindTs] at b
      exact ⟨rl, c ρ σ en (fun _ _ => rfl) b⟩
    | cons _ _ => simp at hl
  | [], _ :: _, h => by simp [mTs] at h
  | _ :: _, [], h => by simp [mTs] at h
  | t :: ts, e :: es, h => by
    simp only [mTs, Bool.and_eq_true] at h
    refine (pgs_cons (sG hc nd t e h.1) (sGs hc nd ts es h.2) (by rw [assign_star (mT_ns h.1)]; rfl)).of fun v σ H Q q => ?_
    obtain ⟨ρ, Hd, ds, k, en, rl, le, hl, b, c⟩ := q
    simp only [bindTs] at b
    obtain ⟨x, r, rfl, b⟩ := b
    simp only [RepL] at rl
    obtain ⟨v0, vr, rfl, ra, rb⟩ := rl
    refine ⟨v0, vr, rfl, ρ, Hd, x, _, en, ra, le, b, fun ρ1 σ1 e1 w1 b1 => ?_⟩
    refine ⟨ρ1, Hd, r, k, e1, rb, le, by simpa using hl, b1, fun ρ' σ' e' w' q => c ρ' σ' e' (fun vs hv => ?_) q⟩
    rw [w' vs fun i hi => hv i (by simp [slotsL, hi]), w1 vs fun i hi => hv i (by simp [slotsL, hi])]
end
end
section
open PySem PySem.Spec L2
section
variable {C : Nat → List D → Sto → PostE → Prop} {cf : Nat → Nat} {K : PySem.W.Frag}
/-- a comprehension's turns -/
theorem lc_imp {σ : St} {H : Hp} {Q : VK} {o : Bool} {elt : RE} {tg : RT} {n : INode} {es cond : List RE} {own : List (Str × Nat)} (hs : (tg.slots.all fun i => (own.map (·.2)).contains i) = true)
    (q : tE C cf K (.lc o elt tg n es cond own) σ H Q) :
    tLc (fun σ H R => tAll (es.map (tE C cf K)) σ H fun vs H1 => vIter K n.sem vs H1 R) (gT K tg) (tB' K (wTs C cond) (cEs cf cond)) (tE C cf K elt) (own.map (·.2)) σ H Q := by
  obtain ⟨pv, ρ, S, Hd, M, Qd, en, sr, hc, w, fin⟩ := q
  simp only [wE] at w
  simp only [cE] at hc fin
  have hslot : ∀ i ∈ tg.slots, i ∈ own.map (·.2) := fun i hi => by
    have := List.all_eq_true.mp hs i hi
    simpa using this
  generalize hcc : cEs cf cond + cE cf elt = c at hc fin
  refine all_run en sr (by omega) w fun ds S1 Hd1 H1 vs mv1 sr1 rl1 w1 => ?_
  refine ⟨pv, ds, S1, Hd1, _, _, rl1, sr1, w1, fun items stay J Hd2 H2 w2 mv2 sr2 it D hD => ?_⟩
  obtain ⟨hlen, w2⟩ := w2
  obtain ⟨hmx, it⟩ := it
  have np : D ∉ pv := sr2.freshP hD
  generalize hM : M + cEs cf es = M1 at sr1 sr2
  obtain ⟨step, hst⟩ : ∃ step, step = (fun (x : FP.D) (S2 : Sto) (k : Option FP.D → Sto → Prop) => bindT tg x (wipeE ρ (own.map (·.2))) fun ρ' => wTs C cond ρ' S2 fun b S3 => if b = true then wE C elt ρ' S3 fun d S4 => k (some d) S4 else k none S3) := ⟨_, rfl⟩
  rw [← hst] at w2
  let W : Nat → Nat → Hp → Prop := fun i m Hh => ∃ S Hd' acc accV, m = items.length - i ∧ i ≤ items.length ∧ Le Hd2 Hd' ∧ Mv pv Hd H Hd' Hh ∧ SR K (D :: pv) S Hd' Hh (M1 + i * c) ∧ Hh D = some (.lst accV) ∧ RepL K Hd' acc accV ∧ acc.length ≤ i ∧
    lcRun step stay (items.drop i) acc S fun ds' S' => newL o ds' S' Qd
  have le0 : Le Hd Hd2 := mv1.le.trans mv2.le
  refine ⟨W, ⟨items.length, S1, Hd2, [], [], by simp, Nat.zero_le _, .refl _, (mv1.trans mv2).trans (.newH sr2 hD), by simpa using sr2.hide hD, upd_same, .nil, Nat.le_refl _, by simpa using w2⟩, ?_⟩
  rintro i m Hh ⟨S3, Hd3, acc, accV, rfl, hi, le3, mv3, sr3, hD3, rl3, hacc, run⟩
  by_cases hlt : i < items.length
  · rw [List.drop_eq_getElem_cons hlt] at run
    simp only [lcRun] at run
    obtain ⟨hstay, run⟩ := run
    obtain ⟨hgo, hy⟩ := (it _ _ _ _ _ le3 sr3 hstay i).1 hlt
    refine .inr ⟨hgo, fun H' => W (i + 1) (items.length - (i + 1)) H', fun H' w' => ⟨_, by omega, w'⟩, fun x H' y => ?_⟩
    obtain ⟨Hd4, d, hd, mv4, sr4, rd4⟩ := hy x H' y
    have hd' : items[i] = d := by
      rw [List.getElem?_eq_getElem hlt] at hd; exact Option.some.inj hd
    rw [hd', show step d S3 = _ from congrFun (congrFun hst d) S3] at run
    have en4 : EnR K Hd4 (wipeE ρ (own.map (·.2))) (L2.wipe σ (own.map (·.2))) := ((en.mono le0).mono (le3.trans mv4.le)).wipe _
    refine ⟨_, Hd4, d, _, en4, rd4, sr4.sub, run, fun ρ' σ2 en5 hw run => ?_⟩
    refine ⟨by rw [hw _ hslot, wipe_wipe fun _ h => h], ?_⟩
    refine ⟨D :: pv, ρ', S3, Hd4, M1 + i * c, _, en5, sr4, ?_, run, fun b S5 Hd5 H5 mv5 sr5 run => ?_⟩
    · have : i * c ≤ MX * c := Nat.mul_le_mul_right _ (by omega)
      have h2 : (i + 1) * c ≤ MX * c := Nat.mul_le_mul_right _ (by omega)
      rw [Nat.add_mul, Nat.one_mul] at h2
      omega
    have h2 : (i + 1) * c ≤ MX * c := Nat.mul_le_mul_right _ (by omega)
    rw [Nat.add_mul, Nat.one_mul] at h2
    have hDk : ∀ {Hx Hdx}, Mv (D :: pv) Hd4 H' Hdx Hx → Hx D = some (.lst accV) := fun mv => (mv.pr D (List.mem_cons_self ..)).trans ((mv4.pr D (List.mem_cons_self ..)).trans hD3)
    cases b with
    | true =>
      simp only [if_true] at run ⊢
      refine ⟨D :: pv, ρ', S5, Hd5, M1 + i * c + cEs cf cond, _, en5.mono mv5.le, sr5, by omega, run, fun d6 S6 Hd6 H6 v6 mv6 sr6 rd6 run => ?_⟩
      have mv56 := mv5.trans mv6
      refine ⟨accV, hDk mv56, ?_, S6, Hd6, acc ++ [d6], accV ++ [v6], rfl, hlt, le3.trans (mv4.le.trans mv56.le), ?_, ?_, upd_same, ?_, ?_, run⟩
      · have := rl3.length; omega
      · have mv7 := mv3.trans (mv4.trans mv56).tail
        exact ⟨mv7.le, fun b hb => (upd_ne (show b ≠ D from fun e => np (e ▸ hb))).trans (mv7.pr b hb)⟩
      · refine (sr6.hidden).up ?_
        rw [Nat.add_mul, Nat.one_mul]; omega
      · exact (rl3.mono (mv4.le.trans mv56.le)).append (.cons rd6 .nil)
      · simp; omega
    | false =>
      simp only [Bool.false_eq_true, if_false] at run ⊢
      refine ⟨S5, Hd5, acc, accV, rfl, hlt, le3.trans (mv4.le.trans mv5.le), mv3.trans (mv4.trans mv5).tail, sr5.up ?_, hDk mv5, rl3.mono (mv4.le.trans mv5.le), by omega, run⟩
      rw [Nat.add_mul, Nat.one_mul]; omega
  · have e : i = items.length := by omega
    subst e
    rw [List.drop_length] at run
    simp only [lcRun] at run
    obtain ⟨hstay, run⟩ := run
    refine .inl ⟨(it _ _ _ _ _ le3 sr3 hstay items.length).2 (Nat.le_refl _), ?_⟩
    have hcst : M1 + items.length * c ≤ M + (cEs cf es + MX * c) := by
      have : items.length * c ≤ MX * c := Nat.mul_le_mul_right _ hmx
      omega
    unfold newL at run
    cases o with
    | true =>
      simp only [if_true] at run
      exact fin _ _ _ _ _ mv3 ((sr3.showOwn (o := O.lst acc) np hD3 ⟨accV, rfl, rl3⟩).up hcst) (by simp only [Rep]) (run D (sr3.prv D (List.mem_cons_self ..)).2.2)
    | false =>
      simp only [Bool.false_eq_true, if_false] at run
      obtain ⟨s, l⟩ := sr3.showFrz np hD3
      refine fin _ _ _ _ (.ref D) ⟨mv3.le.trans l, mv3.pr⟩ (s.up hcst) ?_ run
      simp only [Rep]
      exact ⟨D, accV, rfl, .of upd_same, rl3.mono l⟩
theorem mul_le {i n c : Nat} (h : i < n) (hn : n ≤ MX) : i * c + c ≤ MX * c := by
  have : (i + 1) * c ≤ MX * c := Nat.mul_le_mul_right _ (by omega)
  rw [Nat.add_mul, Nat.one_mul] at this
  exact this
/-- two clauses -/
theorem lc2_imp {σ : St} {H : Hp} {Q : VK} {o : Bool} {elt : RE} {tg tg1 : RT} {n n1 : INode} {es cond es1 cond1 : List RE} {own : List (Str × Nat)} (hs : (tg.slots.all fun i => (own.map (·.2)).contains i) = true)
    (q : tE C cf K (.lc2 o elt tg n es cond tg1 n1 es1 cond1 own) σ H Q) :
    tLc2 (fun σ H R => tAll (es.map (tE C cf K)) σ H fun vs H1 => vIter K n.sem vs H1 R) (gT K tg) (tB' K (wTs C cond) (cEs cf cond)) (fun σ H R => tAll (es1.map (tE C cf K)) σ H fun vs H1 => vIter K n1.sem vs H1 R) (gT K tg1) (tB' K (wTs C cond1) (cEs cf cond1)) (tE C cf K elt)
      (own.map (·.2)) tg1.slots σ H Q := by
  obtain ⟨pv, ρ, S, Hd, M, Qd, en, sr, hc, w, fin⟩ := q
  simp only [wE] at w
  simp only [cE] at hc fin
  have hslot : ∀ i ∈ tg.slots, i ∈ own.map (·.2) := fun i hi => by
    have := List.all_eq_true.mp hs i hi
    simpa using this
  generalize hc1 : cEs cf cond1 + cE cf elt = c1 at hc fin
  generalize hcc : cEs cf cond + (cEs cf es1 + MX * c1) = c at hc fin
  refine all_run en sr (by omega) w fun ds S1 Hd1 H1 vs mv1 sr1 rl1 w1 => ?_
  refine ⟨pv, ds, S1, Hd1, _, _, rl1, sr1, w1, fun items stay J Hd2 H2 w2 mv2 sr2 it D hD => ?_⟩
  obtain ⟨hmx, it⟩ := it
  have np : D ∉ pv := sr2.freshP hD
  generalize hM : M + cEs cf es = M1 at sr1 sr2
  obtain ⟨step, hst⟩ : ∃ step, step = (fun (x : FP.D) (acc : List FP.D) (S2 : Sto) (k : List FP.D → Sto → Prop) => bindT tg x (wipeE ρ (own.map (·.2))) fun ρ' => wTs C cond ρ' S2 fun b S3 => if b = true then
      wEs C es1 ρ' S3 fun ds1 S4 => n1.sem ds1 S4 fun items1 stay1 => acc.length + items1.length ≤ sizeLine ∧
        lcRun (fun y S5 k5 => bindT tg1 y (wipeE ρ' tg1.slots) fun ρ2 => wTs C cond1 ρ2 S5 fun b1 S6 => if b1 = true then wE C elt ρ2 S6 fun d S7 => k5 (some d) S7 else k5 none S6) stay1 items1 acc S4 k
    else k acc S3) := ⟨_, rfl⟩
  rw [← hst] at w2
  let W : Nat → Nat → Hp → Prop := fun i m Hh => ∃ S Hd' acc accV, m = items.length - i ∧ i ≤ items.length ∧ Le Hd2 Hd' ∧ Mv pv Hd H Hd' Hh ∧ SR K (D :: pv) S Hd' Hh (M1 + i * c) ∧ Hh D = some (.lst accV) ∧ RepL K Hd' acc accV ∧
    lcRun2 step stay (items.drop i) acc S fun ds' S' => newL o ds' S' Qd
  have le0 : Le Hd Hd2 := mv1.le.trans mv2.le
  refine ⟨W, ⟨items.length, S1, Hd2, [], [], by simp, Nat.zero_le _, .refl _, (mv1.trans mv2).trans (.newH sr2 hD), by simpa using sr2.hide hD, upd_same, .nil, by simpa using w2⟩, ?_⟩
  rintro i m Hh ⟨S3, Hd3, acc, accV, rfl, hi, le3, mv3, sr3, hD3, rl3, run⟩
  by_cases hlt : i < items.length
  · rw [List.drop_eq_getElem_cons hlt] at run
    simp only [lcRun2] at run
    obtain ⟨hstay, run⟩ := run
    obtain ⟨hgo, hy⟩ := (it _ _ _ _ _ le3 sr3 hstay i).1 hlt
    refine .inr ⟨hgo, fun H' => W (i + 1) (items.length - (i + 1)) H', fun H' w' => ⟨_, by omega, w'⟩, fun x H' y => ?_⟩
    obtain ⟨Hd4, d, hd, mv4, sr4, rd4⟩ := hy x H' y
    have hd' : items[i] = d := by
      rw [List.getElem?_eq_getElem hlt] at hd; exact Option.some.inj hd
    rw [hd', show step d acc S3 = _ from congrFun (congrFun (congrFun hst d) acc) S3] at run
    have en4 : EnR K Hd4 (wipeE ρ (own.map (·.2))) (L2.wipe σ (own.map (·.2))) := ((en.mono le0).mono (le3.trans mv4.le)).wipe _
    have bud := mul_le (c := c) hlt hmx
    refine ⟨_, Hd4, d, _, en4, rd4, sr4.sub, run, fun ρ' σ2 en5 hw run => ?_⟩
    refine ⟨by rw [hw _ hslot, wipe_wipe fun _ h => h], ?_⟩
    refine ⟨D :: pv, ρ', S3, Hd4, M1 + i * c, _, en5, sr4, by omega, run, fun b S5 Hd5 H5 mv5 sr5 run => ?_⟩
    have hDk : ∀ {Hx Hdx}, Mv (D :: pv) Hd4 H' Hdx Hx → Hx D = some (.lst accV) := fun mv => (mv.pr D (List.mem_cons_self ..)).trans ((mv4.pr D (List.mem_cons_self ..)).trans hD3)
    have next : ∀ {S6 : Sto} {Hd6 H6 : Hp} {N : Nat} {acc' : List FP.D} {accV' : List V}, Mv pv Hd H Hd6 H6 → Le Hd2 Hd6 → SR K (D :: pv) S6 Hd6 H6 N → N ≤ M1 + i * c + c → H6 D = some (.lst accV') → RepL K Hd6 acc' accV' →
        (lcRun2 step stay (items.drop (i + 1)) acc' S6 fun ds' S' => newL o ds' S' Qd) → W (i + 1) (items.length - (i + 1)) H6 := fun mv le sr hN h6 rl run =>
      ⟨_, _, _, _, rfl, hlt, le, mv, sr.up (by rw [Nat.add_mul, Nat.one_mul]; omega), h6, rl, run⟩
    cases b with
    | false =>
      simp only [Bool.false_eq_true, if_false] at run ⊢
      exact next (mv3.trans (mv4.trans mv5).tail) (le3.trans (mv4.le.trans mv5.le)) sr5 (by omega) (hDk mv5) (rl3.mono (mv4.le.trans mv5.le)) run
    | true =>
      simp only [if_true] at run ⊢
      refine all_run (en5.mono mv5.le) sr5 (by omega) run fun ds1 S6 Hd6 H6 vs1 mv6 sr6 rl6 run => ?_
      refine ⟨D :: pv, ds1, S6, Hd6, _, _, rl6, sr6, run, fun items1 stay1 J1 Hd7 H7 run mv7 sr7 it1 => ?_⟩
      obtain ⟨hlen1, run⟩ := run
      obtain ⟨hmx1, it1⟩ := it1
      have mvA := (mv5.trans mv6).trans mv7
      have rl7 := rl3.mono (mv4.le.trans mvA.le)
      have en7 := en5.mono mvA.le
      have mvP := mv3.trans (mv4.trans mvA).tail
      have leA := le3.trans (mv4.le.trans mvA.le)
      generalize hM2 : M1 + i * c + cEs cf cond + cEs cf es1 = M2 at sr6 sr7
      obtain ⟨step1, hst1⟩ : ∃ step1, step1 = (fun (y : FP.D) (S5 : Sto) (k5 : Option FP.D → Sto → Prop) => bindT tg1 y (wipeE ρ' tg1.slots) fun ρ2 => wTs C cond1 ρ2 S5 fun b1 S6 => if b1 = true then wE C elt ρ2 S6 fun d S7 => k5 (some d) S7 else k5 none S6) := ⟨_, rfl⟩
      rw [← hst1] at run
      let W1 : Nat → Nat → Hp → Prop := fun j m Hh => ∃ S Hd' acc accV, m = items1.length - j ∧ j ≤ items1.length ∧ Le Hd7 Hd' ∧ Mv pv Hd H Hd' Hh ∧ SR K (D :: pv) S Hd' Hh (M2 + j * c1) ∧ Hh D = some (.lst accV) ∧ RepL K Hd' acc accV ∧ acc.length + (items1.length - j) ≤ sizeLine ∧
        lcRun step1 stay1 (items1.drop j) acc S fun acc' S' => lcRun2 step stay (items.drop (i + 1)) acc' S' fun ds' S' => newL o ds' S' Qd
      refine ⟨W1, ⟨items1.length, S6, Hd7, acc, accV, by simp, Nat.zero_le _, .refl _, mvP, by simpa using sr7, hDk mvA, rl7, by simpa using hlen1, by simpa using run⟩, ?_⟩
      rintro j m2 Hh2 ⟨S8, Hd8, acc8, accV8, rfl, hj, le8, mv8, sr8, hD8, rl8, hl8, run⟩
      by_cases jlt : j < items1.length
      · rw [List.drop_eq_getElem_cons jlt] at run
        simp only [lcRun] at run
        obtain ⟨hstay1, run⟩ := run
        obtain ⟨hgo1, hy1⟩ := (it1 _ _ _ _ _ le8 sr8 hstay1 j).1 jlt
        refine .inr ⟨hgo1, fun H' => W1 (j + 1) (items1.length - (j + 1)) H', fun H' w' => ⟨_, by omega, w'⟩, fun x9 H9 y9 => ?_⟩
        obtain ⟨Hd9, d9, hd9, mv9, sr9, rd9⟩ := hy1 x9 H9 y9
        have hd9' : items1[j] = d9 := by
          rw [List.getElem?_eq_getElem jlt] at hd9; exact Option.some.inj hd9
        rw [hd9', show step1 d9 S8 = _ from congrFun (congrFun hst1 d9) S8] at run
        have bud1 := mul_le (c := c1) jlt hmx1
        have en9 : EnR K Hd9 (wipeE ρ' tg1.slots) (L2.wipe σ2 tg1.slots) := (en7.mono (le8.trans mv9.le)).wipe _
        refine ⟨_, Hd9, d9, _, en9, rd9, sr9.sub, run, fun ρ2 σ3 en10 hw1 run => ?_⟩
        refine ⟨by rw [hw1 _ fun _ h => h, wipe_wipe fun _ h => h], ?_⟩
        refine ⟨D :: pv, ρ2, S8, Hd9, M2 + j * c1, _, en10, sr9, by omega, run, fun b1 S11 Hd11 H11 mv11 sr11 run => ?_⟩
        have hDk1 : ∀ {Hx Hdx}, Mv (D :: pv) Hd9 H9 Hdx Hx → Hx D = some (.lst accV8) := fun mv => (mv.pr D (List.mem_cons_self ..)).trans ((mv9.pr D (List.mem_cons_self ..)).trans hD8)
        cases b1 with
        | true =>
          simp only [if_true] at run ⊢
          refine ⟨D :: pv, ρ2, S11, Hd11, M2 + j * c1 + cEs cf cond1, _, en10.mono mv11.le, sr11, by omega, run, fun d12 S12 Hd12 H12 v12 mv12 sr12 rd12 run => ?_⟩
          have mvB := mv11.trans mv12
          refine ⟨accV8, hDk1 mvB, by have := rl8.length; omega, S12, Hd12, acc8 ++ [d12], accV8 ++ [v12], rfl, jlt, le8.trans (mv9.le.trans mvB.le), ?_, ?_, upd_same, ?_, by simp; omega, run⟩
          · have mvC := mv8.trans (mv9.trans mvB).tail
            exact ⟨mvC.le, fun b hb => (upd_ne (show b ≠ D from fun e => np (e ▸ hb))).trans (mvC.pr b hb)⟩
          · refine (sr12.hidden).up ?_
            rw [Nat.add_mul, Nat.one_mul]; omega
          · exact (rl8.mono (mv9.le.trans mvB.le)).append (.cons rd12 .nil)
        | false =>
          simp only [Bool.false_eq_true, if_false] at run ⊢
          refine ⟨S11, Hd11, acc8, accV8, rfl, jlt, le8.trans (mv9.le.trans mv11.le), mv8.trans (mv9.trans mv11).tail, sr11.up ?_, hDk1 mv11, rl8.mono (mv9.le.trans mv11.le), by omega, run⟩
          rw [Nat.add_mul, Nat.one_mul]; omega
      · have e : j = items1.length := by omega
        subst e
        rw [List.drop_length] at run
        simp only [lcRun] at run
        obtain ⟨hstay1, run⟩ := run
        refine .inl ⟨(it1 _ _ _ _ _ le8 sr8 hstay1 items1.length).2 (Nat.le_refl _), ?_⟩
        have b1 : items1.length * c1 ≤ MX * c1 := Nat.mul_le_mul_right _ hmx1
        exact next mv8 (leA.trans le8) sr8 (by omega) hD8 rl8 run
  · have e : i = items.length := by omega
    subst e
    rw [List.drop_length] at run
    simp only [lcRun2] at run
    obtain ⟨hstay, run⟩ := run
    refine .inl ⟨(it _ _ _ _ _ le3 sr3 hstay items.length).2 (Nat.le_refl _), ?_⟩
    have hcst : M1 + items.length * c ≤ M + (cEs cf es + MX * c) := by
      have : items.length * c ≤ MX * c := Nat.mul_le_mul_right _ hmx
      omega
    unfold newL at run
    cases o with
    | true =>
      simp only [if_true] at run
      exact fin _ _ _ _ _ mv3 ((sr3.showOwn (o := O.lst acc) np hD3 ⟨accV, rfl, rl3⟩).up hcst) (by simp only [Rep]) (run D (sr3.prv D (List.mem_cons_self ..)).2.2)
    | false =>
      simp only [Bool.false_eq_true, if_false] at run
      obtain ⟨s, l⟩ := sr3.showFrz np hD3
      refine fin _ _ _ _ (.ref D) ⟨mv3.le.trans l, mv3.pr⟩ (s.up hcst) ?_ run
      simp only [Rep]
      exact ⟨D, accV, rfl, .of upd_same, rl3.mono l⟩
end
section
def pairT : List TE → List (TE × TE)
  | a :: b :: r => (a, b) :: pairT r
  | _ => []
def pairV : List V → List (V × V)
  | a :: b :: r => (a, b) :: pairV r
  | _ => []
theorem pps_of {X : Cx} {pos : Pos} : ∀ {keys : List (Option Expr)} {values as : List Expr} {ts : List TE}, pairUp keys values = some as → PEs X as ts → PPs X pos keys values (pairT ts) ∧ keys.all (·.isSome) = true ∧ keys.length = values.length ∧ ts.length = 2 * keys.length
  | [], [], as, ts, h, p => by
    simp only [pairUp, Option.some.injEq] at h
    subst h
    cases p
    exact ⟨pps_nil, rfl, rfl, rfl⟩
  | some k :: ks, v :: vs, as, ts, h, p => by
    simp only [pairUp] at h
    obtain ⟨r, hr, rfl⟩ := Option.map_eq_some_iff.mp h
    cases p with
    | cons n1 m1 p1 p =>
      cases p with
      | cons n2 m2 p2 p =>
        obtain ⟨a, b, c, d⟩ := pps_of hr p
        exact ⟨pps_cons p1 p2 a, by simpa using b, by simp [c], by simp [d]; omega⟩
  | none :: _, _, _, _, h, _ => by simp [pairUp] at h
  | some _ :: _, [], _, _, h, _ => by simp [pairUp] at h
  | [], _ :: _, _, _, h, _ => by simp [pairUp] at h
theorem tPairs_of {σ : St} : ∀ (n : Nat) {ts : List TE} {H : Hp} {Q : List (V × V) → Hp → Prop}, ts.length = 2 * n → (∀ t ∈ ts, MonoE t) → tAll ts σ H (fun vs H' => Q (pairV vs) H') → tPairs (pairT ts) σ H Q
  | 0, [], _, _, _, _, q => q
  | 0, _ :: _, _, _, h, _, _ => by simp at h
  | n + 1, [], _, _, h, _, _ => by simp at h
  | n + 1, [_], _, _, h, _, _ => by simp at h; omega
  | n + 1, a :: b :: r, H, Q, h, m, q => by
    refine m a (by simp) _ _ _ _ (fun x H1 q => ?_) q
    refine m b (by simp) _ _ _ _ (fun y H2 q => ?_) q
    exact tPairs_of n (by simp at h; omega) (fun t ht => m t (by simp [ht])) q
theorem merge_nodup : ∀ (more acc : List (Key × V)), ((acc ++ more).map (·.1)).Nodup → mergeK acc more = acc ++ more
  | [], acc, _ => by simp [mergeK]
  | p :: r, acc, h => by
    have hp : putK acc p.1 p.2 = acc ++ [p] := by
      refine putK_new _ ?_
      unfold valV
      rw [List.find?_eq_none.mpr, Option.map_none]
      intro kv hk e
      have e' : kv.1 = p.1 := by simpa using e
      rw [List.map_append, List.nodup_append] at h
      exact h.2.2 kv.1 (List.mem_map_of_mem hk) p.1 (by simp) e'
    show mergeK (putK acc p.1 p.2) r = _
    rw [hp, merge_nodup r (acc ++ [p]) (by simpa using h)]
    simp
theorem dspV {K : PySem.W.Frag} {H : Hp} : ∀ {ds : List D} {kvd : List (Key × D)} {vs : List V}, dspD ds = some kvd → RepL K H ds vs → ∃ kvs : List (Key × V), pairV vs = kvs.map (fun kv => (kV kv.1, kv.2)) ∧ kvs.map (·.1) = kvd.map (·.1) ∧ RepL K H (kvd.map (·.2)) (kvs.map (·.2))
  | [], kvd, vs, h, r => by
    simp only [dspD, Option.some.injEq] at h
    subst h
    simp only [RepL] at r
    subst r
    exact ⟨[], rfl, rfl, .nil⟩
  | .int i :: d :: ds, kvd, vs, h, r => by
    simp only [dspD] at h
    obtain ⟨k2, hk, rfl⟩ := Option.map_eq_some_iff.mp h
    simp only [RepL, Rep] at r
    obtain ⟨v, r1, rfl, rfl, u, r2, rfl, ru, r⟩ := r
    obtain ⟨kvs, a, b, c⟩ := dspV hk r
    exact ⟨(Sum.inl i, u) :: kvs, by simp [pairV, a, kV], by simp [b], .cons ru c⟩
  | .str i :: d :: ds, kvd, vs, h, r => by
    simp only [dspD] at h
    obtain ⟨k2, hk, rfl⟩ := Option.map_eq_some_iff.mp h
    simp only [RepL, Rep] at r
    obtain ⟨v, r1, rfl, rfl, u, r2, rfl, ru, r⟩ := r
    obtain ⟨kvs, a, b, c⟩ := dspV hk r
    exact ⟨(Sum.inr i, u) :: kvs, by simp [pairV, a, kV], by simp [b], .cons ru c⟩
  | [.int _], _, _, h, _ => by simp [dspD] at h
  | [.str _], _, _, h, _ => by simp [dspD] at h
  | .non :: _, _, _, h, _ => by simp [dspD] at h
  | .bl _ :: _, _, _, h, _ => by simp [dspD] at h
  | .ty _ :: _, _, _, h, _ => by simp [dspD] at h
  | .tup _ :: _, _, _, h, _ => by simp [dspD] at h
  | .lst _ :: _, _, _, h, _ => by simp [dspD] at h
  | .dic _ _ :: _, _, _, h, _ => by simp [dspD] at h
  | .loc _ :: _, _, _, h, _ => by simp [dspD] at h
  | .scr _ :: _, _, _, h, _ => by simp [dspD] at h
  | .obj _ _ _ :: _, _, _, h, _ => by simp [dspD] at h
theorem dsp_imp {σ : St} {H : Hp} {Q : VK} {es : List RE} {n : Nat} (hn : es.length = 2 * n) (q : tE C cf K (.dsp es) σ H Q) : tDisp (pairT (es.map (tE C cf K))) σ H Q := by
  obtain ⟨pv, ρ, S, Hd, M, Qd, en, sr, hc, w, fin⟩ := q
  simp only [wE] at w
  simp only [cE] at hc fin
  intro p hp
  have np : p ∉ pv := sr.freshP hp
  have sr0 := sr.hide (ho := .dK []) hp
  refine tPairs_of n (by simpa using hn) (fun t ht => by obtain ⟨r, _, rfl⟩ := List.mem_map.mp ht; exact tE_mono r) ?_
  refine all_run en sr0 hc w fun ds S' Hd' H' vs mv sr' rl w' => ?_
  obtain ⟨kvd, h1, h2, h3, w'⟩ := w'
  obtain ⟨kvs, a, b, c⟩ := dspV h1 rl
  have hp' : H' p = some (.dK []) := (mv.pr p (List.mem_cons_self ..)).trans upd_same
  have hl : kvs.length = kvd.length := by
    have := congrArg List.length b
    simpa using this
  refine ⟨hp', kvs, a, by omega, ?_⟩
  have hm : mergeK [] kvs = kvs := merge_nodup kvs [] (by simpa [b] using h2)
  rw [hm]
  obtain ⟨s, l⟩ := (sr'.hidden (ho := .dK kvs)).showFrz np upd_same
  refine fin _ S' _ _ _ ⟨mv.le.trans l, fun z hz => ?_⟩ s ?_ w'
  · have hzp : z ≠ p := fun e => np (e ▸ hz)
    rw [upd_ne hzp]
    exact (mv.pr z (List.mem_cons_of_mem _ hz)).trans (upd_ne hzp)
  · simp only [Rep]
    exact ⟨p, kvs, rfl, upd_same, b, c.mono l⟩
theorem super_base {o : Expr} {m : Str} {env : Env} (h : notSuper o = true) : attributeBase o m env (eval o env) = eval o env := by
  cases o <;> first | rfl | (cases h; done) | skip
  rename_i g as kws pos
  cases as with
  | nil => cases g <;> first | (cases h; done) | (cases kws <;> first | rfl | cases h)
  | cons _ _ => cases g <;> rfl
theorem zip_lookup {K : PySem.W.Frag} {H : Hp} {n : Str} {d : D} : ∀ {vs : List (Str × V)} {ds : List D}, RepL K H ds (vs.map (·.2)) → ((vs.map (·.1)).zip ds).lookup n = some d → ∃ u, vs.lookup n = some u ∧ Rep K H d u ∧ n ∈ vs.map (·.1)
  | [], _, _, e => by simp at e
  | (m, u) :: vs, ds, r, e => by
    cases ds with
    | nil => simp at e
    | cons x ds =>
      simp only [List.map_cons, RepL] at r
      obtain ⟨u', r', e1, ra, rb⟩ := r
      cases e1
      simp only [List.map_cons, List.zip_cons_cons, List.lookup] at e ⊢
      by_cases hb : (n == m) = true
      · rw [hb] at e ⊢
        cases e
        have := beq_iff_eq.mp hb
        exact ⟨u, rfl, ra, by simp [this]⟩
      · have hb' : (n == m) = false := by simpa using hb
        rw [hb'] at e ⊢
        obtain ⟨u2, h1, h2, h3⟩ := zip_lookup rb e
        exact ⟨u2, h1, h2, List.mem_cons_of_mem _ h3⟩
theorem fld_of {K : PySem.W.Frag} {pv : List Addr} {S : Sto} {Hd H : Hp} {M : Nat} {d v : D} {x : V} {n : Str} (sr : SR K pv S Hd H M) (r : Rep K Hd d x) (h : fldS S d n = some v) :
    ∃ a C dx fs u, x = .ref a ∧ H a = some (.ins C dx fs) ∧ Cls K C ∧ NoAttr K C n ∧ fs.lookup n = some u ∧ Rep K Hd v u := by
  unfold fldS at h
  split at h
  · rename_i c ns ds
    simp only [Rep] at r
    obtain ⟨a, dx, vs, rfl, ea, cf, nf, rfl, rl⟩ := r
    obtain ⟨u, h1, h2, h3⟩ := zip_lookup rl h
    exact ⟨a, _, dx, vs, u, rfl, sr.sub _ _ ea, cf.cl, cf.nf n (nf n h3), h1, h2⟩
  · rename_i a
    simp only [Rep] at r
    subst r
    split at h
    · rename_i c ns ds e
      obtain ⟨_, ho, e1, dx, vs, rfl, cf, nf, rfl, rl⟩ := sr.sto _ _ e
      obtain ⟨u, h1, h2, h3⟩ := zip_lookup rl h
      exact ⟨a, _, dx, vs, u, rfl, e1, cf.cl, cf.nf n (nf n h3), h1, h2⟩
    · cases h
  · cases h
end
section
variable {C : Nat → List D → Sto → PostE → Prop} {cf : Nat → Nat} {K : PySem.W.Frag}
theorem xn_imp {σ : St} {H : Hp} {k : XK} {c : Str} {f : Nat} {o : RE} {es : List RE} {Q : VK}
    (q : ∃ pv ρ S Hd M Qd, EnR K Hd ρ σ ∧ SR K pv S Hd H M ∧ M + (cE cf o + (cEs cf es + cf f)) ≤ CAP ∧ (wE C o ρ S fun d S1 => xchk k c d S1 ∧ wEs C es ρ S1 fun ds S2 => xend k c (d :: ds) S2 ∧ C f (d :: ds) S2 (xpost k Qd)) ∧
      ∀ d S' Hd' H' v, Mv pv Hd H Hd' H' → SR K pv S' Hd' H' (M + (cE cf o + (cEs cf es + cf f))) → Rep K Hd' d v → Qd d S' → Q v H') : tXn K k c (C f) (cf f) (tE C cf K o) (es.map (tE C cf K)) σ H Q := by
  obtain ⟨pv, ρ, S, Hd, M, Qd, en, sr, hc, w, fin⟩ := q
  refine ⟨pv, ρ, S, Hd, M, _, en, sr, by omega, w, fun d S1 Hd1 H1 v1 mv1 sr1 rd1 w1 => ?_⟩
  refine ⟨⟨pv, d, S1, Hd1, _, rd1, sr1, w1.1⟩, ?_⟩
  exact all_run (en.mono mv1.le) sr1 (by omega) w1.2 fun ds S' Hd' H' vs mv sr' rl w' => ⟨pv, d :: ds, S', Hd', _, Qd, .cons (rd1.mono mv.le) rl, sr', by omega, w', fun d S2 Hd2 H2 v mv2 sr2 rd2 q => fin d S2 Hd2 H2 v ((mv1.trans mv).trans mv2) (sr2.up (by omega)) rd2 q⟩
end
section
variable {C : Nat → List D → Sto → PostE → Prop} {cf : Nat → Nat} {K : PySem.W.Frag}
theorem xnT_imp {σ : St} {H : Hp} {k : XK} {c : Str} {f : Nat} {o : RE} {es : List RE} {Q : Bool → Hp → Prop}
    (q : ∃ pv ρ S Hd M Qd, EnR K Hd ρ σ ∧ SR K pv S Hd H M ∧ M + (cE cf o + (cEs cf es + cf f)) ≤ CAP ∧ (wE C o ρ S fun d S1 => xchk k c d S1 ∧ wEs C es ρ S1 fun ds S2 => xend k c (d :: ds) S2 ∧ C f (d :: ds) S2 (xpostT k Qd)) ∧
      ∀ b S' Hd' H', Mv pv Hd H Hd' H' → SR K pv S' Hd' H' (M + (cE cf o + (cEs cf es + cf f))) → Qd b S' → Q b H') : tXnT K k c (C f) (cf f) (tE C cf K o) (es.map (tE C cf K)) σ H Q := by
  obtain ⟨pv, ρ, S, Hd, M, Qd, en, sr, hc, w, fin⟩ := q
  refine ⟨pv, ρ, S, Hd, M, _, en, sr, by omega, w, fun d S1 Hd1 H1 v1 mv1 sr1 rd1 w1 => ?_⟩
  refine ⟨⟨pv, d, S1, Hd1, _, rd1, sr1, w1.1⟩, ?_⟩
  exact all_run (en.mono mv1.le) sr1 (by omega) w1.2 fun ds S' Hd' H' vs mv sr' rl w' => ⟨pv, d :: ds, S', Hd', _, Qd, .cons (rd1.mono mv.le) rl, sr', by omega, w', fun b S2 Hd2 H2 mv2 sr2 q => fin b S2 Hd2 H2 ((mv1.trans mv).trans mv2) (sr2.up (by omega)) q⟩
end
section
variable {C : Nat → List D → Sto → PostE → Prop} {cf : Nat → Nat} {fn : Nat → Str} {G : Cx → Prop}
mutual
theorem sE (W : Wd C cf fn G) : ∀ (r : RE) (X : Cx) (e : Expr), G X → mE fn X.N r X.env.scope e = true → PE X e (tE C cf X.K r)
  | .var i, X, e, hG, h => by
    cases e with
    | Name x pos =>
      simp only [mE, Bool.and_eq_true, decide_eq_true_eq] at h
      obtain ⟨⟨h1, h2⟩, h3⟩ := h
      obtain ⟨d1, d2, _⟩ := okName_d h3
      refine (pe_var h1 (visB_ok h2) d1 d2).of fun σ H Q q => ?_
      obtain ⟨pv, ρ, S, Hd, M, Qd, en, sr, hc, w, fin⟩ := q
      simp only [wE] at w
      obtain ⟨d, hd, w⟩ := w
      obtain ⟨v, hv, rd⟩ := en.2 i d hd
      exact ⟨v, hv, fin d S Hd H v (.refl ..) (by simpa only [cE, Nat.add_zero] using sr) rd w⟩
    | _ => simp [mE] at h
  | .kix f r, X, e, hG, h => by
    cases e with
    | Call g as kw cpos =>
      cases g with
      | Attribute o y apos =>
        cases o with
        | Name x p =>
          cases as with
          | nil => simp [mE] at h
          | cons a as =>
            cases as with
            | cons _ _ => simp [mE] at h
            | nil =>
              cases kw with
              | cons _ _ => simp [mE] at h
              | nil =>
                simp only [mE, Bool.and_eq_true, decide_eq_true_eq] at h
                obtain ⟨h0, h1, h2, h3, rfl, h5, h6, h7⟩ := h
                subst h1
                refine (W.kix X f p apos cpos a _ hG h0 (glB_ok h2) h3 h5 h6 (tE_mono r) (sE W r X a hG h7)).of fun σ H Q q => ?_
                obtain ⟨pv, ρ, S, Hd, M, Qd, en, sr, hc, w, fin⟩ := q
                simp only [wE] at w
                simp only [cE] at hc fin
                refine ⟨pv, S, Hd, M, _, sr, by omega, w, fun d S1 Hd1 H1 v mv1 sr1 rd1 w1 => ?_⟩
                obtain ⟨xs, e1, w1⟩ := w1
                refine ⟨xs, e1, pv, ρ, S1, Hd1, _, _, en.mono mv1.le, sr1, by omega, w1, fun d2 S2 Hd2 H2 v2 mv2 sr2 rd2 w2 => ?_⟩
                obtain ⟨z, j, rfl, h8, h9, w2⟩ := w2
                simp only [Rep] at rd2
                exact ⟨z, j, rd2, h8, h9, fin _ _ _ _ _ (mv1.trans mv2) (sr2.up (by omega)) (by simp only [Rep]) w2⟩
        | _ => simp [mE] at h
      | _ => simp [mE] at h
    | _ => simp [mE] at h
  | .glb f, X, e, hG, h => by
    cases e with
    | Name x p =>
      simp only [mE, Bool.and_eq_true, decide_eq_true_eq] at h
      obtain ⟨h0, h1, h2, h3⟩ := h
      subst h1
      refine (W.glb X f p hG h0 (glB_ok h2) h3).of fun σ H Q q => ?_
      obtain ⟨pv, ρ, S, Hd, M, Qd, en, sr, hc, w, fin⟩ := q
      simp only [wE] at w
      simp only [cE] at hc fin
      exact ⟨pv, [], S, Hd, M, Qd, .nil, sr, hc, w, fin⟩
    | _ => simp [mE] at h
  | .nd n es, X, e, hG, h => by
    simp only [mE] at h
    split at h
    · rename_i as hs
      refine (n.ok X e as (es.map (tE C cf X.K)) (W.amb X hG) hs (sEs W es X as hG h)).of fun σ H Q q => ?_
      obtain ⟨pv, ρ, S, Hd, M, Qd, en, sr, hc, w, fin⟩ := q
      simp only [wE] at w
      simp only [cE] at hc fin
      exact all_run en sr hc w fun ds S' Hd' H' vs mv sr' rl w' => ⟨pv, ds, S', Hd', _, Qd, rl, sr', by simpa using hc, w', fun d S2 Hd2 H2 v mv2 sr2 rd q => fin d S2 Hd2 H2 v (mv.trans mv2) (by simpa using sr2) rd q⟩
    · cases h
  | .call f es, X, e, hG, h => by
    cases e with
    | Call g as kws pos =>
      cases g with
      | Name x p =>
        cases kws with
        | nil =>
          simp only [mE, Bool.and_eq_true, decide_eq_true_eq] at h
          obtain ⟨h0, ⟨⟨h1, h2⟩, h3⟩, h5, h4⟩ := h
          subst h1
          refine (W.call X f p pos as (es.map (tE C cf X.K)) hG h0 (glB_ok h2) h3 h5 (sEs W es X as hG h4)).of fun σ H Q q => ?_
          obtain ⟨pv, ρ, S, Hd, M, Qd, en, sr, hc, w, fin⟩ := q
          simp only [wE] at w
          simp only [cE] at hc fin
          exact all_run en sr (by omega) w fun ds S' Hd' H' vs mv sr' rl w' => ⟨pv, ds, S', Hd', _, Qd, rl, sr', by omega, w', fun d S2 Hd2 H2 v mv2 sr2 rd q => fin d S2 Hd2 H2 v (mv.trans mv2) (sr2.up (by omega)) rd q⟩
        | cons _ _ => simp [mE] at h
      | _ => simp [mE] at h
    | _ => simp [mE] at h
  | .mth n o es, X, e, hG, h => by
    simp only [mE] at h
    split at h
    · rename_i o' as hs
      simp only [Bool.and_eq_true] at h
      refine (n.ok X e o' as (tE C cf X.K o) (es.map (tE C cf X.K)) (W.amb X hG) hs (sE W o X o' hG h.1) (tE_mono o) (sEs W es X as hG h.2)).of fun σ H Q q => ?_
      obtain ⟨pv, ρ, S, Hd, M, Qd, en, sr, hc, w, fin⟩ := q
      simp only [wE] at w
      simp only [cE] at hc fin
      refine ⟨pv, ρ, S, Hd, M, _, en, sr, by omega, w, fun d S1 Hd1 H1 v1 mv1 sr1 rd1 w1 => ?_⟩
      refine ⟨⟨pv, d, S1, Hd1, _, rd1, sr1, w1.1⟩, ?_⟩
      exact all_run (en.mono mv1.le) sr1 (by omega) w1.2 fun ds S' Hd' H' vs mv sr' rl w' => ⟨pv, d :: ds, S', Hd', _, Qd, .cons (rd1.mono mv.le) rl, sr', by omega, w', fun d S2 Hd2 H2 v mv2 sr2 rd q => fin d S2 Hd2 H2 v ((mv1.trans mv).trans mv2) (sr2.up (by omega)) rd q⟩
    · cases h
  | .fld n o, X, e, hG, h => by
    cases e with
    | Attribute o' y pos =>
      simp only [mE, Bool.and_eq_true, decide_eq_true_eq] at h
      obtain ⟨rfl, h1, h2⟩ := h
      refine (pe_fld (sE W o X o' hG h2) (super_base h1)).of fun σ H Q q => ?_
      obtain ⟨pv, ρ, S, Hd, M, Qd, en, sr, hc, w, fin⟩ := q
      simp only [wE] at w
      simp only [cE] at hc fin
      refine ⟨pv, ρ, S, Hd, M, _, en, sr, hc, w, fun d S1 Hd1 H1 v1 mv1 sr1 rd1 w1 => ?_⟩
      obtain ⟨v, hv, w1⟩ := w1
      obtain ⟨a, C', dx, fs, u, e1, e2, e3, e4, e5, e6⟩ := fld_of sr1 rd1 hv
      exact ⟨a, C', dx, fs, u, e1, e2, e3, e4, e5, fin v S1 Hd1 H1 u mv1 sr1 e6 w1⟩
    | _ => simp [mE] at h
  | .xn k c f o es, X, e, hG, h => by
    simp only [mE, Bool.and_eq_true, decide_eq_true_eq] at h
    obtain ⟨h0, h⟩ := h
    split at h
    · rename_i c' m hsd
      simp only [Bool.and_eq_true, decide_eq_true_eq] at h
      obtain ⟨rfl, h⟩ := h
      split at h
      · rename_i o' as hs
        simp only [Bool.and_eq_true] at h
        refine (W.xn X k c' m f e o' as (tE C cf X.K o) (es.map (tE C cf X.K)) hG h0 hsd hs (sE W o X o' hG h.1) (tE_mono o) (sEs W es X as hG h.2)).of fun σ H Q q => ?_
        obtain ⟨pv, ρ, S, Hd, M, Qd, en, sr, hc, w, fin⟩ := q
        simp only [wE] at w
        simp only [cE] at hc fin
        exact xn_imp ⟨pv, ρ, S, Hd, M, Qd, en, sr, hc, w, fun d S' Hd' H' v mv sr' rd q => fin d S' Hd' H' v mv sr' rd q⟩
      · cases h
    · cases h
  | .isi c f r, X, e, hG, h => by
    cases e with
    | Call g as kws pos =>
      match g, as, kws, h with
      | .Name x p, [a, .Name y py], [], h =>
        simp only [mE, Bool.and_eq_true, decide_eq_true_eq] at h
        obtain ⟨h0, h1, h2, h3, h4, h5, h6, h7⟩ := h
        split at h6
        · rename_i c' m hsd
          have h6' : c' = c := of_decide_eq_true h6
          subst h6'
          refine (W.isi X c' m f x p a y py pos (tE C cf X.K r) hG h0 hsd h1 h2 h5 h3 h4 (mE_ns r h7) (tE_mono r) (sE W r X a hG h7)).of fun σ H Q q => ?_
          obtain ⟨pv, ρ, S, Hd, M, Qd, en, sr, hc, w, fin⟩ := q
          simp only [wE] at w
          simp only [cE] at hc fin
          refine ⟨pv, ρ, S, Hd, M, _, en, sr, hc, w, fun d S1 Hd1 H1 v1 mv1 sr1 rd1 w1 => ?_⟩
          obtain ⟨b, hb, w1⟩ := w1
          exact ⟨pv, d, S1, Hd1, _, b, rd1, sr1, hb, fin (.bl b) S1 Hd1 H1 (.bl b) mv1 sr1 (by simp only [Rep]) w1⟩
        · cases h6
    | _ => simp [mE] at h
  | .dsp es, X, e, hG, h => by
    cases e with
    | Dict keys values pos =>
      simp only [mE] at h
      split at h
      · cases h
      · rename_i k0 ks0
        simp only [Bool.and_eq_true, decide_eq_true_eq] at h
        obtain ⟨h15, h⟩ := h
        split at h
        · rename_i as hp
          obtain ⟨pp, p1, p2, p3⟩ := pps_of (pos := pos) hp (sEs W es X as hG h)
          exact (pe_disp pp p1 p2 (by simp) h15).of fun σ H Q q => dsp_imp (n := (k0 :: ks0).length) (by simpa using p3) q
        · cases h
    | _ => simp [mE] at h
  | .cmp n a b, X, e, hG, h => by
    cases e with
    | Compare a' ops bs pos =>
      match ops, bs, h with
      | [o], [b'], h =>
        simp only [mE, Bool.and_eq_true, decide_eq_true_eq, Bool.not_eq_true'] at h
        obtain ⟨h1, h2, h3, h4⟩ := h
        subst h1
        refine (pe_cmpR (n.ok X (W.amb X hG)) (sE W a X a' hG h3) (sE W b X b' hG h4) h2).of fun σ H Q q => ?_
        obtain ⟨pv, ρ, S, Hd, M, Qd, en, sr, hc, w, fin⟩ := q
        simp only [wE] at w
        simp only [cE] at hc fin
        refine ⟨pv, ρ, S, Hd, M, _, en, sr, by omega, w, fun x S1 Hd1 H1 v1 mv1 sr1 rd1 w1 => ?_⟩
        refine ⟨pv, ρ, S1, Hd1, _, _, en.mono mv1.le, sr1, by omega, w1, fun y S2 Hd2 H2 v2 mv2 sr2 rd2 w2 => ?_⟩
        obtain ⟨k, hk, w2⟩ := w2
        exact ⟨pv, x, y, S2, Hd2, _, k, rd1.mono mv2.le, rd2, sr2, hk, fin _ _ _ _ _ (mv1.trans mv2) (sr2.up (by omega)) (by simp only [Rep]) w2⟩
    | _ => simp [mE] at h
  | .ch n m a b c, X, e, hG, h => by
    cases e with
    | Compare a' ops bs pos =>
      match ops, bs, h with
      | [o, o2], [b', c'], h =>
        simp only [mE, Bool.and_eq_true, decide_eq_true_eq, Bool.not_eq_true'] at h
        obtain ⟨h1, h2, h3, h4, h5, h6⟩ := h
        subst h1 h2
        refine (pe_chain (n.ok X (W.amb X hG)) (m.ok X (W.amb X hG)) (sE W a X a' hG h4) (sE W b X b' hG h5) (sE W c X c' hG h6) h3).of fun σ H Q q => ?_
        obtain ⟨pv, ρ, S, Hd, M, Qd, en, sr, hc, w, fin⟩ := q
        simp only [wE] at w
        simp only [cE] at hc fin
        refine ⟨pv, ρ, S, Hd, M, _, en, sr, by omega, w, fun x S1 Hd1 H1 v1 mv1 sr1 rd1 w1 => ?_⟩
        refine ⟨pv, ρ, S1, Hd1, _, _, en.mono mv1.le, sr1, by omega, w1, fun y S2 Hd2 H2 v2 mv2 sr2 rd2 w2 => ?_⟩
        obtain ⟨k, hk, w2⟩ := w2
        refine ⟨pv, x, y, S2, Hd2, _, k, rd1.mono mv2.le, rd2, sr2, hk, k, rfl, ?_⟩
        cases k with
        | true =>
          simp only [if_true] at w2 ⊢
          refine ⟨pv, ρ, S2, Hd2, _, _, (en.mono mv1.le).mono mv2.le, sr2, by omega, w2, fun z S3 Hd3 H3 v3 mv3 sr3 rd3 w3 => ?_⟩
          obtain ⟨j, hj, w3⟩ := w3
          exact ⟨pv, y, z, S3, Hd3, _, j, rd2.mono mv3.le, rd3, sr3, hj, fin _ _ _ _ _ ((mv1.trans mv2).trans mv3) (sr3.up (by omega)) (by simp only [Rep]) w3⟩
        | false =>
          simp only [Bool.false_eq_true, if_false] at w2 ⊢
          exact fin _ _ _ _ _ (mv1.trans mv2) (sr2.up (by omega)) (by simp only [Rep]) w2
    | _ => simp [mE] at h
  | .frz r, X, e, hG, h => by
    simp only [mE] at h
    refine (sE W r X e hG h).of fun σ H Q q => ?_
    obtain ⟨pv, ρ, S, Hd, M, Qd, en, sr, hc, w, fin⟩ := q
    simp only [wE] at w
    simp only [cE] at hc fin
    refine ⟨pv, ρ, S, Hd, M, _, en, sr, hc, w, fun d S' Hd' H' v mv sr' rd w' => ?_⟩
    obtain ⟨l, xs, rfl, hl, w'⟩ := w'
    obtain ⟨ho, e1, ⟨vs, rfl, rl⟩, sr2, le⟩ := sr'.freeze hl
    simp only [Rep] at rd
    subst rd
    refine fin _ _ _ _ _ ⟨mv.le.trans le, mv.pr⟩ sr2 ?_ w'
    simp only [Rep]
    exact ⟨l, vs, rfl, .of upd_same, rl.mono le⟩
  | .and es, X, e, hG, h => by
    cases e with
    | BoolOp op as pos =>
      cases op with
      | And =>
        simp only [mE] at h
        refine (sAnd W es X as pos hG h).of fun σ H Q q => ?_
        obtain ⟨pv, ρ, S, Hd, M, Qd, en, sr, hc, w, fin⟩ := q
        simp only [wE] at w
        simp only [cE] at hc fin
        exact ⟨pv, ρ, S, Hd, M, Qd, en, sr, hc, w, fin⟩
      | Or => simp [mE] at h
    | _ => simp [mE] at h
  | .or es, X, e, hG, h => by
    cases e with
    | BoolOp op as pos =>
      cases op with
      | Or =>
        simp only [mE] at h
        refine (sOr W es X as pos hG h).of fun σ H Q q => ?_
        obtain ⟨pv, ρ, S, Hd, M, Qd, en, sr, hc, w, fin⟩ := q
        simp only [wE] at w
        simp only [cE] at hc fin
        exact ⟨pv, ρ, S, Hd, M, Qd, en, sr, hc, w, fin⟩
      | And => simp [mE] at h
    | _ => simp [mE] at h
  | .not r, X, e, hG, h => by
    cases e with
    | UnaryOp op a pos =>
      cases op with
      | Not =>
        simp only [mE] at h
        refine (pe_not (sE W r X a hG h)).of fun σ H Q q => ?_
        obtain ⟨pv, ρ, S, Hd, M, Qd, en, sr, hc, w, fin⟩ := q
        simp only [wE] at w
        simp only [cE] at hc fin
        refine ⟨pv, ρ, S, Hd, M, _, en, sr, hc, w, fun d S' Hd' H' v mv sr' rd w' => ?_⟩
        obtain ⟨b, rfl, w'⟩ := w'
        simp only [Rep] at rd
        exact ⟨b, rd, fin _ _ _ _ _ mv sr' (by simp only [Rep]) w'⟩
      | _ => simp [mE] at h
    | _ => simp [mE] at h
  | .ite c a b, X, e, hG, h => by
    cases e with
    | IfExp c' a' b' pos =>
      simp only [mE, Bool.and_eq_true] at h
      obtain ⟨⟨h1, h2⟩, h3⟩ := h
      refine (pe_ifExp (sT W c X c' hG h1) (sE W a X a' hG h2) (sE W b X b' hG h3)).of fun σ H Q q => ?_
      obtain ⟨pv, ρ, S, Hd, M, Qd, en, sr, hc, w, fin⟩ := q
      simp only [wE] at w
      simp only [cE] at hc fin
      refine ⟨pv, ρ, S, Hd, M, _, en, sr, by omega, w, fun t S' Hd' H' mv sr' w' => ?_⟩
      cases t with
      | true =>
        simp only [if_true] at w' ⊢
        exact ⟨pv, ρ, S', Hd', _, Qd, en.mono mv.le, sr', by omega, w', fun d S2 Hd2 H2 v mv2 sr2 rd q => fin d S2 Hd2 H2 v (mv.trans mv2) (sr2.up (by omega)) rd q⟩
      | false =>
        simp only [Bool.false_eq_true, if_false] at w' ⊢
        exact ⟨pv, ρ, S', Hd', _, Qd, en.mono mv.le, sr', by omega, w', fun d S2 Hd2 H2 v mv2 sr2 rd q => fin d S2 Hd2 H2 v (mv.trans mv2) (sr2.up (by omega)) rd q⟩
    | _ => simp [mE] at h
  | .lc o elt tg n es cond own, X, e, hG, h => by
    cases e with
    | ListComp elt' gs scope pos =>
      cases gs with
      | nil => simp [mE] at h
      | cons g gs =>
        obtain ⟨tg', iter, ifs, asy⟩ := g
        cases gs with
        | cons _ _ => simp [mE] at h
        | nil =>
          by_cases ha : asy = 0
          · subst ha
            simp only [mE, Bool.and_eq_true] at h
            obtain ⟨h1, h2, h3, h4, h5, h6, h7⟩ := h
            split at h1
            · rename_i as hs
              have A := W.amb X hG
              refine (pe_lc A.calm (W.nd X hG) (n.ok X tg' iter as (es.map (tE C cf X.K)) A h2 hs (sEs W es X as hG h1)) (blkOk_by h3) (fun s H Cc cl fp => ?_) (fun s H Cc cl fp => ?_) (fun s H Cc cl fp => ?_) (fun x => n.fold _ _ _ hs _ x)).of fun σ H Q q => lc_imp h5 q
              · have hB := W.blk X s H scope cl Cc fp hG
                exact sG (X := X.blk s H scope (compEnvC scope cl Cc X.env) fp) (W.amb _ hB).calm (W.nd _ hB) tg tg' h4
              · exact sTs W cond _ ifs (W.blk X s H scope cl Cc fp hG) h6
              · exact sE W elt (X.blk s H scope (compEnvC scope cl Cc X.env) fp) elt' (W.blk X s H scope cl Cc fp hG) h7
            · cases h1
          · simp [mE, ha] at h
    | _ => simp [mE] at h
  | .lc2 o elt tg n es cond tg1 n1 es1 cond1 own, X, e, hG, h => by
    cases e with
    | ListComp elt' gs scope pos =>
      match gs, h with
      | [⟨tg', iter, ifs, asy⟩, ⟨tg1', iter1, ifs1, asy1⟩], h =>
        by_cases ha : asy = 0 ∧ asy1 = 0
        · obtain ⟨rfl, rfl⟩ := ha
          simp only [mE, Bool.and_eq_true] at h
          obtain ⟨h1, h1', h2, h2', h3, h4, h4', h5, h5', h6, h6', h7⟩ := h
          split at h1
          · rename_i as hs
            split at h1'
            · rename_i as1 hs1
              have A := W.amb X hG
              refine (pe_lc2 (vs1 := tg1.slots) A.calm (W.nd X hG) (n.ok X tg' iter as (es.map (tE C cf X.K)) A h2 hs (sEs W es X as hG h1)) (blkOk_by h3) (fun i hi => by have := List.all_eq_true.mp h5' i hi; simpa using this)
                (fun s H Cc cl fp => ?_) (fun s H Cc cl fp => ?_) (fun s H Cc cl fp => ?_) (fun s H Cc cl fp => ?_) (fun s H Cc cl fp => ?_) (fun s H Cc cl fp => ?_) (fun x => n.fold _ _ _ hs _ x) (fun env x => n1.fold _ _ _ hs1 env x)).of fun σ H Q q => lc2_imp h5 q
              · have hB := W.blk X s H scope cl Cc fp hG
                exact sG (X := X.blk s H scope (compEnvC scope cl Cc X.env) fp) (W.amb _ hB).calm (W.nd _ hB) tg tg' h4
              · exact sTs W cond _ ifs (W.blk X s H scope cl Cc fp hG) h6
              · have hB := W.blk X s H scope cl Cc fp hG
                exact n1.ok (X.blk s H scope (compEnvC scope cl Cc X.env) fp) tg1' iter1 as1 (es1.map (tE C cf X.K)) (W.amb _ hB) h2' hs1 (sEs W es1 (X.blk s H scope (compEnvC scope cl Cc X.env) fp) as1 hB h1')
              · have hB := W.blk X s H scope cl Cc fp hG
                exact sG (X := X.blk s H scope (compEnvC scope cl Cc X.env) fp) (W.amb _ hB).calm (W.nd _ hB) tg1 tg1' h4'
              · exact sTs W cond1 _ ifs1 (W.blk X s H scope cl Cc fp hG) h6'
              · exact sE W elt (X.blk s H scope (compEnvC scope cl Cc X.env) fp) elt' (W.blk X s H scope cl Cc fp hG) h7
            · cases h1'
          · cases h1
        · by_cases h1 : asy = 0
          · have h2 : asy1 ≠ 0 := fun z => ha ⟨h1, z⟩
            simp [mE, h1, h2] at h
          · simp [mE, h1] at h
      | [], h => simp [mE] at h
      | [_], h => simp [mE] at h
      | _ :: _ :: _ :: _, h => simp [mE] at h
    | _ => simp [mE] at h
theorem sEs (W : Wd C cf fn G) : ∀ (rs : List RE) (X : Cx) (es : List Expr), G X → mEs fn X.N rs X.env.scope es = true → PEs X es (rs.map (tE C cf X.K))
  | [], _, [], _, _ => .nil
  | [], _, _ :: _, _, h => by simp [mEs] at h
  | _ :: _, _, [], _, h => by simp [mEs] at h
  | r :: rs, X, e :: es, hG, h => by
    simp only [mEs, Bool.and_eq_true] at h
    exact .cons (mE_ns r h.1) (tE_mono r) (sE W r X e hG h.1) (sEs W rs X es hG h.2)
theorem sAnd (W : Wd C cf fn G) : ∀ (rs : List RE) (X : Cx) (es : List Expr) (pos : Pos), G X → mEs fn X.N rs X.env.scope es = true → PE X (.BoolOp .And es pos) (tV' X.K (wAnd C rs) (cEs cf rs))
  | [], _, _, _, _, _ => ⟨fun _ _ _ _ _ _ q => by
    obtain ⟨pv, ρ, S, Hd, M, Qd, en, sr, hc, w, fin⟩ := q
    simp only [wAnd] at w⟩
  | _ :: _, _, [], _, _, h => by simp [mEs] at h
  | [r], X, [e], pos, hG, h => by
    simp only [mEs, Bool.and_eq_true] at h
    refine (pe_one (sE W r X e hG h.1)).of fun σ H Q q => ?_
    obtain ⟨pv, ρ, S, Hd, M, Qd, en, sr, hc, w, fin⟩ := q
    simp only [wAnd] at w
    simp only [cEs, Nat.add_zero] at hc fin
    exact ⟨pv, ρ, S, Hd, M, Qd, en, sr, hc, w, fin⟩
  | [_], _, _ :: _ :: _, _, _, h => by simp [mEs] at h
  | _ :: _ :: _, _, [_], _, _, h => by simp [mEs] at h
  | r :: r2 :: rs, X, e :: e2 :: es, pos, hG, h => by
    simp only [mEs, Bool.and_eq_true] at h
    refine (pe_and (sE W r X e hG h.1) (sAnd W (r2 :: rs) X (e2 :: es) pos hG (by simp only [mEs, Bool.and_eq_true]; exact h.2))).of fun σ H Q q => ?_
    obtain ⟨pv, ρ, S, Hd, M, Qd, en, sr, hc, w, fin⟩ := q
    rw [wAnd] at w
    rw [cEs] at hc fin
    refine ⟨pv, ρ, S, Hd, M, _, en, sr, by omega, w, fun d S' Hd' H' v mv sr' rd w' => ?_⟩
    obtain ⟨b, rfl, w'⟩ := w'
    simp only [Rep] at rd
    refine ⟨b, rd, ?_⟩
    cases b with
    | true =>
      simp only [if_true] at w' ⊢
      exact ⟨pv, ρ, S', Hd', _, Qd, en.mono mv.le, sr', by omega, w', fun d S2 Hd2 H2 v mv2 sr2 rd q => fin d S2 Hd2 H2 v (mv.trans mv2) (sr2.up (by omega)) rd q⟩
    | false =>
      simp only [Bool.false_eq_true, if_false] at w' ⊢
      exact fin _ _ _ _ _ mv (sr'.up (by omega)) (by simp only [Rep]) w'
theorem sOr (W : Wd C cf fn G) : ∀ (rs : List RE) (X : Cx) (es : List Expr) (pos : Pos), G X → mEs fn X.N rs X.env.scope es = true → PE X (.BoolOp .Or es pos) (tV' X.K (wOr C rs) (cEs cf rs))
  | [], _, _, _, _, _ => ⟨fun _ _ _ _ _ _ q => by
    obtain ⟨pv, ρ, S, Hd, M, Qd, en, sr, hc, w, fin⟩ := q
    simp only [wOr] at w⟩
  | _ :: _, _, [], _, _, h => by simp [mEs] at h
  | [r], X, [e], pos, hG, h => by
    simp only [mEs, Bool.and_eq_true] at h
    refine (pe_one (sE W r X e hG h.1)).of fun σ H Q q => ?_
    obtain ⟨pv, ρ, S, Hd, M, Qd, en, sr, hc, w, fin⟩ := q
    simp only [wOr] at w
    simp only [cEs, Nat.add_zero] at hc fin
    exact ⟨pv, ρ, S, Hd, M, Qd, en, sr, hc, w, fin⟩
  | [_], _, _ :: _ :: _, _, _, h => by simp [mEs] at h
  | _ :: _ :: _, _, [_], _, _, h => by simp [mEs] at h
  | r :: r2 :: rs, X, e :: e2 :: es, pos, hG, h => by
    simp only [mEs, Bool.and_eq_true] at h
    refine (pe_or (sE W r X e hG h.1) (sOr W (r2 :: rs) X (e2 :: es) pos hG (by simp only [mEs, Bool.and_eq_true]; exact h.2))).of fun σ H Q q => ?_
    obtain ⟨pv, ρ, S, Hd, M, Qd, en, sr, hc, w, fin⟩ := q
    rw [wOr] at w
    rw [cEs] at hc fin
    refine ⟨pv, ρ, S, Hd, M, _, en, sr, by omega, w, fun d S' Hd' H' v mv sr' rd w' => ?_⟩
    obtain ⟨b, rfl, w'⟩ := w'
    simp only [Rep] at rd
    refine ⟨b, rd, ?_⟩
    cases b with
    | false =>
      simp only [Bool.false_eq_true, if_false] at w' ⊢
      exact ⟨pv, ρ, S', Hd', _, Qd, en.mono mv.le, sr', by omega, w', fun d S2 Hd2 H2 v mv2 sr2 rd q => fin d S2 Hd2 H2 v (mv.trans mv2) (sr2.up (by omega)) rd q⟩
    | true =>
      simp only [if_true] at w' ⊢
      exact fin _ _ _ _ _ mv (sr'.up (by omega)) (by simp only [Rep]) w'
theorem sT (W : Wd C cf fn G) : ∀ (r : RE) (X : Cx) (e : Expr), G X → mE fn X.N r X.env.scope e = true → PT X e (tB' X.K (wT C r) (cE cf r))
  | .var i, X, e, hG, h => by
    cases e with
    | Name x pos =>
      simp only [mE, Bool.and_eq_true, decide_eq_true_eq] at h
      obtain ⟨⟨h1, h2⟩, h3⟩ := h
      obtain ⟨d1, d2, _⟩ := okName_d h3
      refine (pt_truth (pe_var h1 (visB_ok h2) d1 d2) fun _ => rfl).of fun σ H Q q => ?_
      obtain ⟨pv, ρ, S, Hd, M, Qd, en, sr, hc, w, fin⟩ := q
      simp only [wT] at w
      obtain ⟨d, b, hd, hb, w⟩ := w
      obtain ⟨v, hv, rd⟩ := en.2 i d hd
      exact ⟨v, hv, b, truV_of sr rd hb, fin b S Hd H (.refl ..) (by simpa only [cE, Nat.add_zero] using sr) w⟩
    | _ => simp [mE] at h
  | .nd n es, X, e, hG, h => by
    simp only [mE] at h
    split at h
    · rename_i as hs
      refine (n.okT X e as (es.map (tE C cf X.K)) (W.amb X hG) hs (sEs W es X as hG h)).of fun σ H Q q => ?_
      obtain ⟨pv, ρ, S, Hd, M, Qd, en, sr, hc, w, fin⟩ := q
      simp only [wT] at w
      simp only [cE] at hc fin
      refine all_run en sr hc w fun ds S' Hd' H' vs mv sr' rl w' => ⟨pv, ds, S', Hd', _, _, rl, sr', by simpa using hc, w', fun d S2 Hd2 H2 v mv2 sr2 rd q => ?_⟩
      obtain ⟨b, hb, q⟩ := q
      exact ⟨b, truV_of sr2 rd hb, fin b S2 Hd2 H2 (mv.trans mv2) (by simpa using sr2) q⟩
    · cases h
  | .call f es, X, e, hG, h => by
    cases e with
    | Call g as kws pos =>
      cases g with
      | Name x p =>
        cases kws with
        | nil =>
          simp only [mE, Bool.and_eq_true, decide_eq_true_eq] at h
          obtain ⟨h0, ⟨⟨h1, h2⟩, h3⟩, h5, h4⟩ := h
          subst h1
          refine (pt_truth (W.call X f p pos as (es.map (tE C cf X.K)) hG h0 (glB_ok h2) h3 h5 (sEs W es X as hG h4)) fun _ => rfl).of fun σ H Q q => ?_
          obtain ⟨pv, ρ, S, Hd, M, Qd, en, sr, hc, w, fin⟩ := q
          simp only [wT] at w
          simp only [cE] at hc fin
          refine all_run en sr (by omega) w fun ds S' Hd' H' vs mv sr' rl w' => ⟨pv, ds, S', Hd', _, _, rl, sr', by omega, w', fun d S2 Hd2 H2 v mv2 sr2 rd q => ?_⟩
          obtain ⟨b, hb, q⟩ := q
          exact ⟨b, truV_of sr2 rd hb, fin b S2 Hd2 H2 (mv.trans mv2) (sr2.up (by omega)) q⟩
        | cons _ _ => simp [mE] at h
      | _ => simp [mE] at h
    | _ => simp [mE] at h
  | .mth n o es, X, e, hG, h => by
    simp only [mE] at h
    split at h
    · rename_i o' as hs
      simp only [Bool.and_eq_true] at h
      refine (pt_truth (n.ok X e o' as (tE C cf X.K o) (es.map (tE C cf X.K)) (W.amb X hG) hs (sE W o X o' hG h.1) (tE_mono o) (sEs W es X as hG h.2)) fun wh => plainE_isTrue (n.pl _ _ _ hs) _ wh).of fun σ H Q q => ?_
      obtain ⟨pv, ρ, S, Hd, M, Qd, en, sr, hc, w, fin⟩ := q
      simp only [wT] at w
      simp only [cE] at hc fin
      refine ⟨pv, ρ, S, Hd, M, _, en, sr, by omega, w, fun d S1 Hd1 H1 v1 mv1 sr1 rd1 w1 => ?_⟩
      refine ⟨⟨pv, d, S1, Hd1, _, rd1, sr1, w1.1⟩, ?_⟩
      refine all_run (en.mono mv1.le) sr1 (by omega) w1.2 fun ds S' Hd' H' vs mv sr' rl w' => ⟨pv, d :: ds, S', Hd', _, _, .cons (rd1.mono mv.le) rl, sr', by omega, w', fun d S2 Hd2 H2 v mv2 sr2 rd q => ?_⟩
      obtain ⟨b, hb, q⟩ := q
      exact ⟨b, truV_of sr2 rd hb, fin b S2 Hd2 H2 ((mv1.trans mv).trans mv2) (sr2.up (by omega)) q⟩
    · cases h
  | .fld n o, X, e, hG, h => by
    cases e with
    | Attribute o' y pos =>
      simp only [mE, Bool.and_eq_true, decide_eq_true_eq] at h
      obtain ⟨rfl, h1, h2⟩ := h
      refine (pt_truth (pe_fld (sE W o X o' hG h2) (super_base h1)) fun _ => rfl).of fun σ H Q q => ?_
      obtain ⟨pv, ρ, S, Hd, M, Qd, en, sr, hc, w, fin⟩ := q
      simp only [wT] at w
      simp only [cE] at hc fin
      refine ⟨pv, ρ, S, Hd, M, _, en, sr, hc, w, fun d S1 Hd1 H1 v1 mv1 sr1 rd1 w1 => ?_⟩
      obtain ⟨v, hv, b, hb, w1⟩ := w1
      obtain ⟨a, C', dx, fs, u, e1, e2, e3, e4, e5, e6⟩ := fld_of sr1 rd1 hv
      exact ⟨a, C', dx, fs, u, e1, e2, e3, e4, e5, b, truV_of sr1 e6 hb, fin b S1 Hd1 H1 mv1 sr1 w1⟩
    | _ => simp [mE] at h
  | .xn k c f o es, X, e, hG, h => by
    simp only [mE, Bool.and_eq_true, decide_eq_true_eq] at h
    obtain ⟨h0, h⟩ := h
    split at h
    · rename_i c' m hsd
      simp only [Bool.and_eq_true, decide_eq_true_eq] at h
      obtain ⟨rfl, h⟩ := h
      split at h
      · rename_i o' as hs
        simp only [Bool.and_eq_true] at h
        refine (W.xnT X k c' m f e o' as (tE C cf X.K o) (es.map (tE C cf X.K)) hG h0 hsd hs (sE W o X o' hG h.1) (tE_mono o) (sEs W es X as hG h.2)).of fun σ H Q q => ?_
        obtain ⟨pv, ρ, S, Hd, M, Qd, en, sr, hc, w, fin⟩ := q
        simp only [wT] at w
        simp only [cE] at hc fin
        exact xnT_imp ⟨pv, ρ, S, Hd, M, Qd, en, sr, hc, w, fun b S' Hd' H' mv sr' q => fin b S' Hd' H' mv sr' q⟩
      · cases h
    · cases h
  | .isi c f r, X, e, hG, h => by
    cases e with
    | Call g as kws pos =>
      match g, as, kws, h with
      | .Name x p, [a, .Name y py], [], h =>
        simp only [mE, Bool.and_eq_true, decide_eq_true_eq] at h
        obtain ⟨h0, h1, h2, h3, h4, h5, h6, h7⟩ := h
        split at h6
        · rename_i c' m hsd
          have h6' : c' = c := of_decide_eq_true h6
          subst h6'
          refine (pt_truth (W.isi X c' m f x p a y py pos (tE C cf X.K r) hG h0 hsd h1 h2 h5 h3 h4 (mE_ns r h7) (tE_mono r) (sE W r X a hG h7)) fun _ => rfl).of fun σ H Q q => ?_
          obtain ⟨pv, ρ, S, Hd, M, Qd, en, sr, hc, w, fin⟩ := q
          simp only [wT] at w
          simp only [cE] at hc fin
          refine ⟨pv, ρ, S, Hd, M, _, en, sr, hc, w, fun d S1 Hd1 H1 v1 mv1 sr1 rd1 w1 => ?_⟩
          obtain ⟨b, hb, w1⟩ := w1
          exact ⟨pv, d, S1, Hd1, _, b, rd1, sr1, hb, b, rfl, fin b S1 Hd1 H1 mv1 sr1 w1⟩
        · cases h6
    | _ => simp [mE] at h
  | .cmp n a b, X, e, hG, h => by
    cases e with
    | Compare a' ops bs pos =>
      match ops, bs, h with
      | [o], [b'], h =>
        simp only [mE, Bool.and_eq_true, decide_eq_true_eq, Bool.not_eq_true'] at h
        obtain ⟨h1, h2, h3, h4⟩ := h
        subst h1
        refine (pt_cmpR (n.ok X (W.amb X hG)) (sE W a X a' hG h3) (sE W b X b' hG h4) h2).of fun σ H Q q => ?_
        obtain ⟨pv, ρ, S, Hd, M, Qd, en, sr, hc, w, fin⟩ := q
        simp only [wT] at w
        simp only [cE] at hc fin
        refine ⟨pv, ρ, S, Hd, M, _, en, sr, by omega, w, fun x S1 Hd1 H1 v1 mv1 sr1 rd1 w1 => ?_⟩
        refine ⟨pv, ρ, S1, Hd1, _, _, en.mono mv1.le, sr1, by omega, w1, fun y S2 Hd2 H2 v2 mv2 sr2 rd2 w2 => ?_⟩
        obtain ⟨k, hk, w2⟩ := w2
        exact ⟨pv, x, y, S2, Hd2, _, k, rd1.mono mv2.le, rd2, sr2, hk, ⟨k, rfl, fin _ _ _ _ (mv1.trans mv2) (sr2.up (by omega)) w2⟩⟩
    | _ => simp [mE] at h
  | .ch n m a b c, X, e, hG, h => by
    cases e with
    | Compare a' ops bs pos =>
      match ops, bs, h with
      | [o, o2], [b', c'], h =>
        simp only [mE, Bool.and_eq_true, decide_eq_true_eq, Bool.not_eq_true'] at h
        obtain ⟨h1, h2, h3, h4, h5, h6⟩ := h
        subst h1 h2
        refine (pt_chain (n.ok X (W.amb X hG)) (m.ok X (W.amb X hG)) (sE W a X a' hG h4) (sE W b X b' hG h5) (sE W c X c' hG h6) h3).of fun σ H Q q => ?_
        obtain ⟨pv, ρ, S, Hd, M, Qd, en, sr, hc, w, fin⟩ := q
        simp only [wT] at w
        simp only [cE] at hc fin
        refine ⟨pv, ρ, S, Hd, M, _, en, sr, by omega, w, fun x S1 Hd1 H1 v1 mv1 sr1 rd1 w1 => ?_⟩
        refine ⟨pv, ρ, S1, Hd1, _, _, en.mono mv1.le, sr1, by omega, w1, fun y S2 Hd2 H2 v2 mv2 sr2 rd2 w2 => ?_⟩
        obtain ⟨k, hk, w2⟩ := w2
        refine ⟨pv, x, y, S2, Hd2, _, k, rd1.mono mv2.le, rd2, sr2, hk, k, rfl, ?_⟩
        cases k with
        | true =>
          simp only [if_true] at w2 ⊢
          refine ⟨pv, ρ, S2, Hd2, _, _, (en.mono mv1.le).mono mv2.le, sr2, by omega, w2, fun z S3 Hd3 H3 v3 mv3 sr3 rd3 w3 => ?_⟩
          obtain ⟨j, hj, w3⟩ := w3
          exact ⟨pv, y, z, S3, Hd3, _, j, rd2.mono mv3.le, rd3, sr3, hj, ⟨j, rfl, fin _ _ _ _ ((mv1.trans mv2).trans mv3) (sr3.up (by omega)) w3⟩⟩
        | false =>
          simp only [Bool.false_eq_true, if_false] at w2 ⊢
          exact ⟨false, rfl, fin _ _ _ _ (mv1.trans mv2) (sr2.up (by omega)) w2⟩
    | _ => simp [mE] at h
  | .kix _ _, _, _, _, _ => ⟨fun _ _ _ _ _ _ q => by
    obtain ⟨pv, ρ, S, Hd, M, Qd, en, sr, hc, w, fin⟩ := q
    simp only [wT] at w⟩
  | .glb _, _, _, _, _ => ⟨fun _ _ _ _ _ _ q => by
    obtain ⟨pv, ρ, S, Hd, M, Qd, en, sr, hc, w, fin⟩ := q
    simp only [wT] at w⟩
  | .frz _, _, _, _, _ => ⟨fun _ _ _ _ _ _ q => by
    obtain ⟨pv, ρ, S, Hd, M, Qd, en, sr, hc, w, fin⟩ := q
    simp only [wT] at w⟩
  | .ite _ _ _, _, _, _, _ => ⟨fun _ _ _ _ _ _ q => by
    obtain ⟨pv, ρ, S, Hd, M, Qd, en, sr, hc, w, fin⟩ := q
    simp only [wT] at w⟩
  | .dsp _, _, _, _, _ => ⟨fun _ _ _ _ _ _ q => by
    obtain ⟨pv, ρ, S, Hd, M, Qd, en, sr, hc, w, fin⟩ := q
    simp only [wT] at w⟩
  | .lc _ _ _ _ _ _ _, _, _, _, _ => ⟨fun _ _ _ _ _ _ q => by
    obtain ⟨pv, ρ, S, Hd, M, Qd, en, sr, hc, w, fin⟩ := q
    simp only [wT] at w⟩
  | .lc2 _ _ _ _ _ _ _ _ _ _ _, _, _, _, _ => ⟨fun _ _ _ _ _ _ q => by
    obtain ⟨pv, ρ, S, Hd, M, Qd, en, sr, hc, w, fin⟩ := q
    simp only [wT] at w⟩
  | .and es, X, e, hG, h => by
    cases e with
    | BoolOp op as pos =>
      cases op with
      | And =>
        simp only [mE] at h
        refine (sAndT W es X as pos hG h).pt.of fun σ H Q q => ?_
        obtain ⟨pv, ρ, S, Hd, M, Qd, en, sr, hc, w, fin⟩ := q
        simp only [wT] at w
        simp only [cE] at hc fin
        exact ⟨pv, ρ, S, Hd, M, Qd, en, sr, hc, w, fin⟩
      | Or => simp [mE] at h
    | _ => simp [mE] at h
  | .or es, X, e, hG, h => by
    cases e with
    | BoolOp op as pos =>
      cases op with
      | Or =>
        simp only [mE] at h
        refine (sOrT W es X as pos hG h).pt.of fun σ H Q q => ?_
        obtain ⟨pv, ρ, S, Hd, M, Qd, en, sr, hc, w, fin⟩ := q
        simp only [wT] at w
        simp only [cE] at hc fin
        exact ⟨pv, ρ, S, Hd, M, Qd, en, sr, hc, w, fin⟩
      | And => simp [mE] at h
    | _ => simp [mE] at h
  | .not r, X, e, hG, h => by
    cases e with
    | UnaryOp op a pos =>
      cases op with
      | Not =>
        simp only [mE] at h
        refine (pt_not (sT W r X a hG h)).of fun σ H Q q => ?_
        obtain ⟨pv, ρ, S, Hd, M, Qd, en, sr, hc, w, fin⟩ := q
        simp only [wT] at w
        simp only [cE] at hc fin
        exact ⟨pv, ρ, S, Hd, M, _, en, sr, hc, w, fun b S' Hd' H' mv sr' w' => fin _ _ _ _ mv sr' w'⟩
      | _ => simp [mE] at h
    | _ => simp [mE] at h
theorem sAndT (W : Wd C cf fn G) : ∀ (rs : List RE) (X : Cx) (es : List Expr) (pos : Pos), G X → mEs fn X.N rs X.env.scope es = true → PW X (.BoolOp .And es pos) (tB' X.K (wAndT C rs) (cEs cf rs))
  | [], _, _, _, _, _ => ⟨fun _ _ _ _ _ _ _ q => by
    obtain ⟨pv, ρ, S, Hd, M, Qd, en, sr, hc, w, fin⟩ := q
    simp only [wAndT] at w⟩
  | _ :: _, _, [], _, _, h => by simp [mEs] at h
  | [r], X, [e], pos, hG, h => by
    simp only [mEs, Bool.and_eq_true] at h
    refine (pw_and1 (sT W r X e hG h.1)).of fun σ H Q q => ?_
    obtain ⟨pv, ρ, S, Hd, M, Qd, en, sr, hc, w, fin⟩ := q
    simp only [wAndT] at w
    simp only [cEs, Nat.add_zero] at hc fin
    exact ⟨pv, ρ, S, Hd, M, Qd, en, sr, hc, w, fin⟩
  | [_], _, _ :: _ :: _, _, _, h => by simp [mEs] at h
  | _ :: _ :: _, _, [_], _, _, h => by simp [mEs] at h
  | r :: r2 :: rs, X, e :: e2 :: es, pos, hG, h => by
    simp only [mEs, Bool.and_eq_true] at h
    refine (pw_and (sT W r X e hG h.1) (sAndT W (r2 :: rs) X (e2 :: es) pos hG (by simp only [mEs, Bool.and_eq_true]; exact h.2))).of fun σ H Q q => ?_
    obtain ⟨pv, ρ, S, Hd, M, Qd, en, sr, hc, w, fin⟩ := q
    rw [wAndT] at w
    rw [cEs] at hc fin
    refine ⟨pv, ρ, S, Hd, M, _, en, sr, by omega, w, fun b S' Hd' H' mv sr' w' => ?_⟩
    cases b with
    | true =>
      simp only [if_true] at w' ⊢
      exact ⟨pv, ρ, S', Hd', _, Qd, en.mono mv.le, sr', by omega, w', fun b S2 Hd2 H2 mv2 sr2 q => fin b S2 Hd2 H2 (mv.trans mv2) (sr2.up (by omega)) q⟩
    | false =>
      simp only [Bool.false_eq_true, if_false] at w' ⊢
      exact fin _ _ _ _ mv (sr'.up (by omega)) w'
theorem sOrT (W : Wd C cf fn G) : ∀ (rs : List RE) (X : Cx) (es : List Expr) (pos : Pos), G X → mEs fn X.N rs X.env.scope es = true → PW X (.BoolOp .Or es pos) (tB' X.K (wOrT C rs) (cEs cf rs))
  | [], _, _, _, _, _ => ⟨fun _ _ _ _ _ _ _ q => by
    obtain ⟨pv, ρ, S, Hd, M, Qd, en, sr, hc, w, fin⟩ := q
    simp only [wOrT] at w⟩
  | _ :: _, _, [], _, _, h => by simp [mEs] at h
  | [r], X, [e], pos, hG, h => by
    simp only [mEs, Bool.and_eq_true] at h
    refine (pw_or1 (sT W r X e hG h.1)).of fun σ H Q q => ?_
    obtain ⟨pv, ρ, S, Hd, M, Qd, en, sr, hc, w, fin⟩ := q
    simp only [wOrT] at w
    simp only [cEs, Nat.add_zero] at hc fin
    exact ⟨pv, ρ, S, Hd, M, Qd, en, sr, hc, w, fin⟩
  | [_], _, _ :: _ :: _, _, _, h => by simp [mEs] at h
  | _ :: _ :: _, _, [_], _, _, h => by simp [mEs] at h
  | r :: r2 :: rs, X, e :: e2 :: es, pos, hG, h => by
    simp only [mEs, Bool.and_eq_true] at h
    refine (pw_or (sT W r X e hG h.1) (sOrT W (r2 :: rs) X (e2 :: es) pos hG (by simp only [mEs, Bool.and_eq_true]; exact h.2))).of fun σ H Q q => ?_
    obtain ⟨pv, ρ, S, Hd, M, Qd, en, sr, hc, w, fin⟩ := q
    rw [wOrT] at w
    rw [cEs] at hc fin
    refine ⟨pv, ρ, S, Hd, M, _, en, sr, by omega, w, fun b S' Hd' H' mv sr' w' => ?_⟩
    cases b with
    | false =>
      simp only [Bool.false_eq_true, if_false] at w' ⊢
      exact ⟨pv, ρ, S', Hd', _, Qd, en.mono mv.le, sr', by omega, w', fun b S2 Hd2 H2 mv2 sr2 q => fin b S2 Hd2 H2 (mv.trans mv2) (sr2.up (by omega)) q⟩
    | true =>
      simp only [if_true] at w' ⊢
      exact fin _ _ _ _ mv (sr'.up (by omega)) w'
theorem sTs (W : Wd C cf fn G) : ∀ (rs : List RE) (X : Cx) (es : List Expr), G X → mEs fn X.N rs X.env.scope es = true → PTs X es (tB' X.K (wTs C rs) (cEs cf rs))
  | [], X, [], hG, _ => by
    refine ⟨fun pins s σ H Q I q => pts_nil.run pins s σ H Q I ?_⟩
    obtain ⟨pv, ρ, S, Hd, M, Qd, en, sr, hc, w, fin⟩ := q
    simp only [wTs] at w
    exact fin true S Hd H (.refl ..) (by simpa only [cEs, Nat.add_zero] using sr) w
  | [], _, _ :: _, _, h => by simp [mEs] at h
  | _ :: _, _, [], _, h => by simp [mEs] at h
  | [r], X, [e], hG, h => by
    simp only [mEs, Bool.and_eq_true] at h
    refine ⟨fun pins s σ H Q I q => (pts_one (sT W r X e hG h.1)).run pins s σ H Q I ?_⟩
    obtain ⟨pv, ρ, S, Hd, M, Qd, en, sr, hc, w, fin⟩ := q
    simp only [wTs] at w
    simp only [cEs, Nat.add_zero] at hc fin
    exact ⟨pv, ρ, S, Hd, M, Qd, en, sr, hc, w, fin⟩
  | _ :: _ :: _, X, _ :: _, hG, h => ⟨fun _ _ _ _ _ _ q => by
    obtain ⟨pv, ρ, S, Hd, M, Qd, en, sr, hc, w, fin⟩ := q
    simp only [wTs] at w⟩
  | [_], _, _ :: _ :: _, _, h => by simp [mEs] at h
end
end
end
section
open PySem PySem.Spec L2
/-- what a, b = x, y does: nothing is known | an ordinary assignment | these names are stored one by one -/
def swpR (sc : Scope) (ts vs : List Expr) : Option (Option (List Str)) :=
  if (!(ts.length == 2 || ts.length == 3) || vs.length != ts.length) = true then some none
  else if (vs.any fun | .Starred .. => true | _ => false) = true then some none
  else
    let names := ts.filterMap fun
      | .Name id pos => if (sc.names.lookup id == some .local && pos.line == (ts.head?.map fun t => t.pos.line).getD 0) = true then some id else none
      | _ => none
    if (names.length != ts.length || names.eraseDups.length != names.length) = true then some none
    else if vs.all (foldedForSure 8) = true then some none
    else if vs.all (constantsAlone 8) = true then none
    else some (some names)
theorem swpR_ok {ts vs : List Expr} {env : Env} {r : Option (List Str)} {k k2 p p2} (hk : env.scope.kind = .function) (h : swpR env.scope ts vs = some r) : swappedStores [.Tuple ts k p] (.Tuple vs k2 p2) env = pure r := by
  have hb : env.blockKind = .function := by
    unfold Env.blockKind
    rw [hk] <;> rfl
  unfold swpR at h
  unfold swappedStores
  simp only [hb, Env.kindOf] at h ⊢
  split at h
  · cases h
    rename_i c
    have c' : (!(ts.length == 2 || ts.length == 3) || vs.length != ts.length || ScopeKind.function != ScopeKind.function) = true := by
      rw [c]; rfl
    rw [if_pos c']
  · rename_i c
    have c' : ¬ (!(ts.length == 2 || ts.length == 3) || vs.length != ts.length || ScopeKind.function != ScopeKind.function) = true := by
      have q : (!(ts.length == 2 || ts.length == 3) || vs.length != ts.length) = false := by simpa using c
      rw [q]; decide
    rw [if_neg c']
    split at h
    · rename_i c2; cases h; exact if_pos c2
    · rename_i c2; refine (if_neg c2).trans ?_
      split at h
      · rename_i c3; cases h; exact if_pos c3
      · rename_i c3; refine (if_neg c3).trans ?_
        split at h
        · rename_i c4; cases h; exact if_pos c4
        · rename_i c4; refine (if_neg c4).trans ?_
          split at h
          · cases h
          · rename_i c5; cases h; exact if_neg c5
def noSw (sc : Scope) (tg v : Expr) : Bool := match v with
  | .ListComp _ _ _ _ => (match tg with
    | .Name y py => !swB sc y py v
    | _ => true)
  | .SetComp _ _ _ _ => false
  | .DictComp _ _ _ _ _ => false
  | _ => true
theorem noSw_ok {tg v : Expr} {env : Env} {l : Nat} (hk : env.scope.kind = .function) (h : noSw env.scope tg v = true) : swapsWith v (some tg) l env = pure false := by
  have hb : env.blockKind = .function := by
    unfold Env.blockKind
    rw [hk] <;> rfl
  cases v <;> first | (cases h; done) | rfl | skip
  rename_i el gs scope pos
  cases tg <;> first | rfl | skip
  rename_i y py
  simp only [noSw, swB, Bool.not_eq_true'] at h
  unfold swapsWith
  simp only [hb, Env.kindOf, Expr.pos]
  by_cases hl : env.scope.names.lookup y = some .local
  · simp only [hl, decide_true, Bool.true_and] at h ⊢
    show pure (true && true && (py.line == pos.line) && !(scope.names.any fun x => x.1 == y && (x.2 == NameKind.local || x.2 == NameKind.cell))) = pure false
    simp only [Bool.true_and]
    rw [h]
  · have : (env.scope.names.lookup y == some NameKind.local) = false := beq_eq_false_iff_ne.mpr hl
    rw [this]
    simp
theorem sw_ok {el : Expr} {gs : List Comprehension} {scope : Scope} {pos py : Pos} {y : Str} {l : Nat} {env : Env} (hk : env.scope.kind = .function) (h : swB env.scope y py (.ListComp el gs scope pos) = true) :
    env.scope.names.lookup y = some .local ∧ swapsWith (.ListComp el gs scope pos) (some (.Name y py)) l env = pure true := by
  simp only [swB, Bool.and_eq_true, decide_eq_true_eq, Bool.not_eq_true'] at h
  exact ⟨h.1.1, sw_true hk h.1.1 h.1.2 h.2⟩
def notSlice : Expr → Bool
  | .Slice _ _ _ _ => false
  | _ => true
/-- is a tuple of values unpacked as it stands (not stored one by one) -/
def plainStore (sc : Scope) (tg v : Expr) : Bool := match tg, v with
  | .Tuple ts _ _, .Tuple vs _ _ => (match swpR sc ts vs with
    | some none => true
    | _ => false)
  | .List _ _, _ => false
  | _, _ => true
theorem plainStore_ok {tg v : Expr} {env : Env} (hk : env.scope.kind = .function) (h : plainStore env.scope tg v = true) : swappedStores [tg] v env = pure none := by
  cases tg <;> first | (cases h; done) | rfl | skip
  cases v <;> first | rfl | skip
  simp only [plainStore] at h
  split at h
  · rename_i q; exact swpR_ok hk q
  · cases h
section
variable (fn : Nat → Str) (cf : Nat → Nat) (N : List Str)
def mP2 (i j : Nat) (r1 r2 : RE) (sc : Scope) (tg v : Expr) : Bool := match tg, v with
  | .Tuple [.Name x px, .Name y py] k pt, .Tuple [a, b] k2 p2 => decide (N[i]? = some x) && (decide (N[j]? = some y) && (decide (i ≠ j) && (decide (sc.names.lookup x = some .local) && (decide (sc.names.lookup y = some .local) &&
      (decide (swpR sc [.Name x px, .Name y py] [a, b] = some (some [x, y])) && (mE fn N r1 sc a && mE fn N r2 sc b))))))
  | _, _ => false
def mG2 (e1 e2 o1 i1 o2 i2 : RE) (sc : Scope) (tg v : Expr) : Bool := match tg, v with
  | .Tuple [.Subscript o1' i1' p1, .Subscript o2' i2' p2] kt pt, .Tuple [a, b] kv pv =>
      mE fn N e1 sc a && (mE fn N e2 sc b && (mE fn N o1 sc o1' && (mE fn N i1 sc i1' && (mE fn N o2 sc o2' && (mE fn N i2 sc i2' && (notSlice i1' && (notSlice i2' &&
        plainStore sc (.Tuple [.Subscript o1' i1' p1, .Subscript o2' i2' p2] kt pt) (.Tuple [a, b] kv pv))))))))
  | _, _ => false
def mP3 (i j l : Nat) (r1 r2 r3 : RE) (sc : Scope) (tg v : Expr) : Bool := match tg, v with
  | .Tuple [.Name x px, .Name y py, .Name z pz] k pt, .Tuple [a, b, c] k2 p2 => decide (N[i]? = some x) && (decide (N[j]? = some y) && (decide (N[l]? = some z) && (decide (i ≠ j) && (decide (i ≠ l) && (decide (j ≠ l) &&
      (decide (sc.names.lookup x = some .local) && (decide (sc.names.lookup y = some .local) && (decide (sc.names.lookup z = some .local) && (decide (swpR sc [.Name x px, .Name y py, .Name z pz] [a, b, c] = some (some [x, y, z])) && (mE fn N r1 sc a && (mE fn N r2 sc b && mE fn N r3 sc c)))))))))))
  | _, _ => false
def mL (i : Nat) (r : RE) (sc : Scope) (tg v : Expr) : Bool := match r, tg, v with
  | .lc o elt t n es cond own, .Name y py, .ListComp elt' gs scope p => decide (N[i]? = some y) && (swB sc y py (.ListComp elt' gs scope p) && mE fn N (.lc o elt t n es cond own) sc (.ListComp elt' gs scope p))
  | .lc2 o elt t n es cond t1 n1 es1 cond1 own, .Name y py, .ListComp elt' gs scope p => decide (N[i]? = some y) && (swB sc y py (.ListComp elt' gs scope p) && mE fn N (.lc2 o elt t n es cond t1 n1 es1 cond1 own) sc (.ListComp elt' gs scope p))
  | _, _, _ => false
def mSt (i j : Nat) (r : RE) (sc : Scope) (tg v : Expr) : Bool := match tg with
  | .Tuple [.Name x px, .Starred (.Name y py) ps] kt pt => decide (N[i]? = some x) && (decide (N[j]? = some y) && (stoB (fun _ => true) sc x && (stoB (fun _ => true) sc y && (mE fn N r sc v &&
      (noSw sc (.Tuple [.Name x px, .Starred (.Name y py) ps] kt pt) v && plainStore sc (.Tuple [.Name x px, .Starred (.Name y py) ps] kt pt) v)))))
  | _ => false
mutual
def mS : RS → Scope → Stmt → Bool
  | .asg t e, sc, .Assign [tg] v _ => mT N (fun _ => true) t sc tg && (mE fn N e sc v && (noSw sc tg v && plainStore sc tg v))
  | .asgL i e, sc, .Assign [tg] v _ => mL fn N i e sc tg v
  | .star i j e, sc, .Assign [tg] v _ => mSt fn N i j e sc tg v
  | .par2 i j r1 r2, sc, .Assign [tg] v _ => mP2 fn N i j r1 r2 sc tg v
  | .par3 i j l r1 r2 r3, sc, .Assign [tg] v _ => mP3 fn N i j l r1 r2 r3 sc tg v
  | .aug i n e, sc, .AugAssign (.Name x _) op v _ => decide (N[i]? = some x) && (locB sc x && (decide (n.op = op) && mE fn N e sc v))
  | .set2 e1 e2 o1 i1 o2 i2, sc, .Assign [tg] v _ => mG2 fn N e1 e2 o1 i1 o2 i2 sc tg v
  | .setI e o i, sc, .Assign [.Subscript o' i' p'] v _ => mE fn N e sc v && (mE fn N o sc o' && (mE fn N i sc i' && (notSlice i' && noSw sc (.Subscript o' i' p') v)))
  | .setF n o e, sc, .Assign [.Attribute o' y _] v _ => decide (y = n) && (mE fn N e sc v && (mE fn N o sc o' && !isComp v))
  | .expr e, sc, .Expr v _ => mE fn N e sc v && !isComp v
  | .ret e, sc, .Return (some v) _ => mE fn N e sc v
  | .retN, _, .Return none _ => true
  | .ifs c a b, sc, .If c' a' b' _ => mE fn N c sc c' && (mSs a sc a' && mSs b sc b')
  | .whl c b, sc, .While c' b' [] _ => mE fn N c sc c' && (mSs b sc b' && decide (cE cf c + cSs cf b = 0))
  | .whb c b, sc, .While c' b' [] _ => mE fn N c sc c' && mSs b sc b'
  | .for_ t n es b, sc, .For tg iter body [] _ => (match n.shape sc iter with
      | some as => mEs fn N es sc as
      | none => false) && (n.tgt tg && (mT N (fun _ => true) t sc tg && mSs b sc body))
  | .brk, _, .Break _ => true
  | .cnt, _, .Continue _ => true
  | .pas, _, .Pass _ => true
  | .nev, _, _ => true
  | _, _, _ => false
def mSs : List RS → Scope → List Stmt → Bool
  | [], _, [] => true
  | s :: ss, sc, t :: ts => mS s sc t && mSs ss sc ts
  | [.nev], _, _ => true
  | _, _, _ => false
end
end
structure EOk (K : PySem.W.Frag) (pv : List Addr) (Hd H : Hp) (B : Nat) (W : WEnds) (D : Ends) : Prop where
  nx : ∀ ρ S Hd' H' σ, Mv pv Hd H Hd' H' → SR K pv S Hd' H' B → EnR K Hd' ρ σ → W.nx ρ S → D.nx σ H'
  rt : ∀ d S Hd' H' v, Mv pv Hd H Hd' H' → SR K pv S Hd' H' B → Rep K Hd' d v → W.rt d S → D.rt v H'
  bk : ∀ ρ S Hd' H' σ, Mv pv Hd H Hd' H' → SR K pv S Hd' H' B → EnR K Hd' ρ σ → W.bk ρ S → D.bk σ H'
  ct : ∀ ρ S Hd' H' σ, Mv pv Hd H Hd' H' → SR K pv S Hd' H' B → EnR K Hd' ρ σ → W.ct ρ S → D.ct σ H'
theorem EOk.go {K : PySem.W.Frag} {pv : List Addr} {Hd H Hd' H' : Hp} {B B' : Nat} {W : WEnds} {D : Ends} (e : EOk K pv Hd H B W D) (m : Mv pv Hd H Hd' H') (h : B' ≤ B) : EOk K pv Hd' H' B' W D :=
  ⟨fun ρ S Hd2 H2 σ m2 s r q => e.nx ρ S Hd2 H2 σ (m.trans m2) (s.up h) r q, fun d S Hd2 H2 v m2 s r q => e.rt d S Hd2 H2 v (m.trans m2) (s.up h) r q,
   fun ρ S Hd2 H2 σ m2 s r q => e.bk ρ S Hd2 H2 σ (m.trans m2) (s.up h) r q, fun ρ S Hd2 H2 σ m2 s r q => e.ct ρ S Hd2 H2 σ (m.trans m2) (s.up h) r q⟩
section
variable (C : Nat → List D → Sto → PostE → Prop) (cf : Nat → Nat)
def tS' (K : PySem.W.Frag) (w : WEnds → En → Sto → Prop) (c : Nat) : TS := fun D σ H => ∃ pv ρ S Hd M W, EnR K Hd ρ σ ∧ SR K pv S Hd H M ∧ M + c ≤ CAP ∧ w W ρ S ∧ EOk K pv Hd H (M + c) W D
end
section
variable {C : Nat → List D → Sto → PostE → Prop} {cf : Nat → Nat} {fn : Nat → Str} {G : Cx → Prop}
theorem mul_step {i n c : Nat} (h : i < n) (hm : n ≤ MX) : i * c + c ≤ MX * c := by
  have h2 : (i + 1) * c ≤ MX * c := Nat.mul_le_mul_right _ (by omega)
  rw [Nat.add_mul, Nat.one_mul] at h2
  exact h2
/-- a for's turns -/
theorem for_imp {K : PySem.W.Frag} {D : Ends} {σ : St} {H : Hp} {t : RT} {n : INode} {es : List RE} {b : List RS} (q : tS' K (wS C (.for_ t n es b)) (cS cf (.for_ t n es b)) D σ H) :
    tFor (fun σ H R => tAll (es.map (tE C cf K)) σ H fun vs H1 => vIter K n.sem vs H1 R) (gT K t) (tS' K (wSs C b) (cSs cf b)) D σ H := by
  obtain ⟨pv, ρ, S, Hd, M, W, en, sr, hc, w, ok⟩ := q
  simp only [wS] at w
  simp only [cS] at hc ok
  refine all_run en sr (by omega) w fun ds S1 Hd1 H1 vs mv1 sr1 rl1 w1 => ?_
  refine ⟨pv, ds, S1, Hd1, _, _, rl1, sr1, w1, fun items stay J Hd2 H2 w2 mv2 sr2 it => ?_⟩
  obtain ⟨hmx, it⟩ := it
  generalize hM : M + cEs cf es = M1 at sr1 sr2
  generalize hcc : cSs cf b = c at hc ok
  obtain ⟨step, hst⟩ : ∃ step, step = (fun (x : FP.D) (ρ : En) (S2 : Sto) (k : En → Sto → Prop) => bindT t x ρ fun ρ' => wSs C b { W with nx := k, ct := k, bk := W.nx } ρ' S2) := ⟨_, rfl⟩
  rw [← hst] at w2
  let Wv : Nat → Nat → St → Hp → Prop := fun i m σ' Hh => ∃ ρ' S' Hd', m = items.length - i ∧ i ≤ items.length ∧ Le Hd2 Hd' ∧ Mv pv Hd H Hd' Hh ∧ SR K pv S' Hd' Hh (M1 + i * c) ∧ EnR K Hd' ρ' σ' ∧ forRun step stay (items.drop i) ρ' S' W.nx
  refine ⟨Wv, ⟨items.length, ρ, S1, Hd2, by simp, Nat.zero_le _, .refl _, mv1.trans mv2, by simpa using sr2, (en.mono mv1.le).mono mv2.le, by simpa using w2⟩, ?_⟩
  rintro i m σ3 Hh ⟨ρ3, S3, Hd3, rfl, hi, le3, mv3, sr3, en3, run⟩
  by_cases hlt : i < items.length
  · rw [List.drop_eq_getElem_cons hlt] at run
    simp only [forRun] at run
    obtain ⟨hstay, run⟩ := run
    obtain ⟨hgo, hy⟩ := (it _ _ _ _ _ le3 sr3 hstay i).1 hlt
    refine .inr ⟨hgo, fun σ' H' => Wv (i + 1) (items.length - (i + 1)) σ' H', fun σ' H' w' => ⟨_, by omega, w'⟩, fun x H' y => ?_⟩
    obtain ⟨Hd4, d, hd, mv4, sr4, rd4⟩ := hy x H' y
    have hd' : items[i] = d := by
      rw [List.getElem?_eq_getElem hlt] at hd; exact Option.some.inj hd
    rw [hd', show step d ρ3 S3 = _ from congrFun (congrFun (congrFun hst d) ρ3) S3] at run
    refine ⟨ρ3, Hd4, d, _, en3.mono mv4.le, rd4, sr4.sub, run, fun ρ' σ2 en5 hw run => ?_⟩
    have hb := mul_step (c := c) hlt hmx
    have mv34 := mv3.trans mv4
    refine ⟨pv, ρ', S3, Hd4, M1 + i * c, _, en5, sr4, by omega, run, ⟨fun ρ6 S6 Hd6 H6 σ6 m6 s6 e6 q => ?_, fun d6 S6 Hd6 H6 v6 m6 s6 r6 q => ?_, fun ρ6 S6 Hd6 H6 σ6 m6 s6 e6 q => ?_, fun ρ6 S6 Hd6 H6 σ6 m6 s6 e6 q => ?_⟩⟩
    · exact ⟨ρ6, S6, Hd6, rfl, hlt, le3.trans (mv4.le.trans m6.le), mv34.trans m6, s6.up (by rw [Nat.add_mul, Nat.one_mul]; omega), e6, q⟩
    · exact ok.rt d6 S6 Hd6 H6 v6 (mv34.trans m6) (s6.up (by omega)) r6 q
    · exact ok.nx ρ6 S6 Hd6 H6 σ6 (mv34.trans m6) (s6.up (by omega)) e6 q
    · exact ⟨ρ6, S6, Hd6, rfl, hlt, le3.trans (mv4.le.trans m6.le), mv34.trans m6, s6.up (by rw [Nat.add_mul, Nat.one_mul]; omega), e6, q⟩
  · have e : i = items.length := by omega
    subst e
    rw [List.drop_length] at run
    simp only [forRun] at run
    obtain ⟨hstay, run⟩ := run
    have hcst : items.length * c ≤ MX * c := Nat.mul_le_mul_right _ hmx
    exact .inl ⟨(it _ _ _ _ _ le3 sr3 hstay items.length).2 (Nat.le_refl _), ok.nx ρ3 S3 Hd3 Hh σ3 mv3 (sr3.up (by omega)) en3 run⟩
theorem notComp_sw {v : Expr} {tg : Option Expr} {l : Nat} {env : Env} (h : isComp v = false) : swapsWith v tg l env = pure false := by
  cases v <;> first | rfl | (cases h)
theorem sL (W : Wd C cf fn G) {X : Cx} (hG : G X) (hk : X.env.scope.kind = .function) (i : Nat) (e : RE) (tg v : Expr) (pos : Pos) (h : mL fn X.N i e X.env.scope tg v = true) : PS X (.Assign [tg] v pos) (tS' X.K (wS C (.asgL i e)) (cS cf (.asgL i e))) := by
  unfold mL at h
  split at h
  · rename_i o elt t n es cond own y py elt' gs scope p
    simp only [Bool.and_eq_true, decide_eq_true_eq] at h
    obtain ⟨h1, h2, h⟩ := h
    obtain ⟨hl, hsw⟩ := sw_ok (l := pos.line) hk h2
    cases gs with
    | nil => simp [mE] at h
    | cons g gs =>
      obtain ⟨tg', iter, ifs, asy⟩ := g
      cases gs with
      | cons _ _ => simp [mE] at h
      | nil =>
        by_cases ha : asy = 0
        · subst ha
          simp only [mE, Bool.and_eq_true] at h
          obtain ⟨g1, g2, g3, g4, g5, g6, g7⟩ := h
          split at g1
          · rename_i as hs
            have A := W.amb X hG
            refine (ps_setLc (g := gT X.K t) (tt := tB' X.K (wTs C cond) (cEs cf cond)) (te := tE C cf X.K elt) A.calm (W.nd X hG) h1 hl hsw (n.ok X tg' iter as (es.map (tE C cf X.K)) A g2 hs (sEs W es X as hG g1)) (blkOk_by g3) (fun s H Cc cl fp => ?_) (fun s H Cc cl fp => ?_) (fun s H Cc cl fp => ?_) (fun x => n.fold _ _ _ hs _ x)).of fun D σ H q => ?_
            · have hB := W.blk X s H scope cl Cc fp hG
              exact sG (X := X.blk s H scope (compEnvC scope cl Cc X.env) fp) (W.amb _ hB).calm (W.nd _ hB) t tg' g4
            · exact sTs W cond _ ifs (W.blk X s H scope cl Cc fp hG) g6
            · exact sE W elt (X.blk s H scope (compEnvC scope cl Cc X.env) fp) elt' (W.blk X s H scope cl Cc fp hG) g7
            · obtain ⟨pv, ρ, S, Hd, M, W', en, sr, hc, w, ok⟩ := q
              rw [wS] at w
              rw [cS] at hc ok
              refine lc_imp g5 ⟨pv, ρ, S, Hd, M, _, en, sr, hc, w, fun d S' Hd' H' v mv sr' rd w' => ?_⟩
              exact ok.nx _ S' Hd' H' _ mv sr' ((en.mono mv.le).set rd i) w'
          · cases g1
        · simp [mE, ha] at h
  · rename_i o elt t n es cond t1 n1 es1 cond1 own y py elt' gs scope p
    simp only [Bool.and_eq_true, decide_eq_true_eq] at h
    obtain ⟨h1, h2, h⟩ := h
    obtain ⟨hl, hsw⟩ := sw_ok (l := pos.line) hk h2
    match gs, h, hsw with
    | [⟨tg', iter, ifs, asy⟩, ⟨tg1', iter1, ifs1, asy1⟩], h, hsw =>
      by_cases ha : asy = 0 ∧ asy1 = 0
      · obtain ⟨rfl, rfl⟩ := ha
        simp only [mE, Bool.and_eq_true] at h
        obtain ⟨g1, g1', g2, g2', g3, g4, g4', g5, g5', g6, g6', g7⟩ := h
        split at g1
        · rename_i as hs
          split at g1'
          · rename_i as1 hs1
            have A := W.amb X hG
            refine (ps_setLc2 (vs1 := t1.slots) (wi1 := fun σ H R => tAll (es1.map (tE C cf X.K)) σ H fun vs H1 => vIter X.K n1.sem vs H1 R) (g := gT X.K t) (tt := tB' X.K (wTs C cond) (cEs cf cond)) (g1 := gT X.K t1) (tt1 := tB' X.K (wTs C cond1) (cEs cf cond1)) (te := tE C cf X.K elt) A.calm (W.nd X hG) h1 hl hsw
              (n.ok X tg' iter as (es.map (tE C cf X.K)) A g2 hs (sEs W es X as hG g1)) (blkOk_by g3) (fun i hi => by have := List.all_eq_true.mp g5' i hi; simpa using this)
              (fun s H Cc cl fp => ?_) (fun s H Cc cl fp => ?_) (fun s H Cc cl fp => n1.ok (X.blk s H scope (compEnvC scope cl Cc X.env) fp) tg1' iter1 as1 (es1.map (tE C cf X.K)) (W.amb _ (W.blk X s H scope cl Cc fp hG)) g2' hs1 (sEs W es1 (X.blk s H scope (compEnvC scope cl Cc X.env) fp) as1 (W.blk X s H scope cl Cc fp hG) g1'))
              (fun s H Cc cl fp => ?_) (fun s H Cc cl fp => ?_) (fun s H Cc cl fp => ?_) (fun x => n.fold _ _ _ hs _ x) (fun env x => n1.fold _ _ _ hs1 env x)).of fun D σ H q => ?_
            · have hB := W.blk X s H scope cl Cc fp hG
              exact sG (X := X.blk s H scope (compEnvC scope cl Cc X.env) fp) (W.amb _ hB).calm (W.nd _ hB) t tg' g4
            · exact sTs W cond _ ifs (W.blk X s H scope cl Cc fp hG) g6
            · have hB := W.blk X s H scope cl Cc fp hG
              exact sG (X := X.blk s H scope (compEnvC scope cl Cc X.env) fp) (W.amb _ hB).calm (W.nd _ hB) t1 tg1' g4'
            · exact sTs W cond1 _ ifs1 (W.blk X s H scope cl Cc fp hG) g6'
            · exact sE W elt (X.blk s H scope (compEnvC scope cl Cc X.env) fp) elt' (W.blk X s H scope cl Cc fp hG) g7
            · obtain ⟨pv, ρ, S, Hd, M, W', en, sr, hc, w, ok⟩ := q
              rw [wS] at w
              rw [cS] at hc ok
              refine lc2_imp g5 ⟨pv, ρ, S, Hd, M, _, en, sr, hc, w, fun d S' Hd' H' v mv sr' rd w' => ?_⟩
              exact ok.nx _ S' Hd' H' _ mv sr' ((en.mono mv.le).set rd i) w'
          · cases g1'
        · cases g1
      · by_cases h1 : asy = 0
        · have h2 : asy1 ≠ 0 := fun z => ha ⟨h1, z⟩
          simp [mE, h1, h2] at h
        · simp [mE, h1] at h
    | [], h, _ => simp [mE] at h
    | [_], h, _ => simp [mE] at h
    | _ :: _ :: _ :: _, h, _ => simp [mE] at h
  · cases h
theorem putN_mem {n m : Str} : ∀ {ns : List Str}, m ∈ putN n ns → m = n ∨ m ∈ ns
  | [], h => by simp only [putN, List.mem_singleton] at h; exact .inl h
  | k :: ns, h => by
    unfold putN at h
    split at h
    · exact .inr h
    · rcases List.mem_cons.mp h with rfl | h
      · exact .inr (List.mem_cons_self ..)
      · rcases putN_mem h with h | h
        · exact .inl h
        · exact .inr (List.mem_cons_of_mem _ h)
theorem putF_rep {K : PySem.W.Frag} {Hd : Hp} {d : D} {v : V} (r : Rep K Hd d v) (n : Str) : ∀ {vs : List (Str × V)} {ds : List D}, RepL K Hd ds (vs.map (·.2)) → (putF n v vs).map (·.1) = putN n (vs.map (·.1)) ∧ RepL K Hd (putD n d (vs.map (·.1)) ds) ((putF n v vs).map (·.2))
  | [], ds, h => ⟨rfl, by
    show RepL K Hd [d] [v]
    exact .cons r .nil⟩
  | (m, u) :: vs, ds, h => by
    cases ds with
    | nil => simp only [List.map_cons, RepL] at h; cases h
    | cons x ds =>
      simp only [List.map_cons, RepL] at h
      obtain ⟨u', r', e1, ra, rb⟩ := h
      cases e1
      rw [show putF n v ((m, u) :: vs) = (if m = n then (m, v) :: vs else (m, u) :: putF n v vs) from rfl]
      simp only [List.map_cons, putN, putD]
      by_cases hm : m = n
      · rw [if_pos hm, if_pos hm, if_pos hm]
        exact ⟨rfl, .cons r rb⟩
      · rw [if_neg hm, if_neg hm, if_neg hm]
        obtain ⟨i1, i2⟩ := putF_rep r n rb
        exact ⟨by rw [List.map_cons, i1], .cons ra i2⟩
mutual
theorem sS (W : Wd C cf fn G) {X : Cx} (hG : G X) (hp : PassesOwn (model X.prog X.w) X.A X.env X.xe) (hk : X.env.scope.kind = .function) (hf : X.fn = fun _ => true) :
    ∀ (s : RS) (st : Stmt), mS fn cf X.N s X.env.scope st = true → PS X st (tS' X.K (wS C s) (cS cf s))
  | .asg t e, st, h => by
    cases st with
    | Assign tgs v pos =>
      cases tgs with
      | nil => simp [mS] at h
      | cons tg tgs =>
        cases tgs with
        | cons _ _ => simp [mS] at h
        | nil =>
          simp only [mS, Bool.and_eq_true] at h
          obtain ⟨h1, h2, h3, h4⟩ := h
          refine (ps_asg (sE W e X v hG h2) (sG (W.amb X hG).calm (W.nd X hG) t tg (by rw [hf]; exact h1)) (noSw_ok hk h3) (plainStore_ok hk h4) (by rw [assign_star (mT_ns h1)]; rfl)).of fun D σ H q => ?_
          obtain ⟨pv, ρ, S, Hd, M, W', en, sr, hc, w, ok⟩ := q
          simp only [wS] at w
          simp only [cS] at hc ok
          refine ⟨pv, ρ, S, Hd, M, _, en, sr, hc, w, fun d S' Hd' H' v mv sr' rd w' => ?_⟩
          exact ⟨ρ, Hd', d, _, en.mono mv.le, rd, sr'.sub, w', fun ρ' σ' en' _ q => ok.nx ρ' S' Hd' H' σ' mv sr' en' q⟩
    | _ => simp [mS] at h
  | .asgL i e, st, h => by
    cases st with
    | Assign tgs v pos =>
      cases tgs with
      | nil => simp [mS] at h
      | cons tg tgs =>
        cases tgs with
        | cons _ _ => simp [mS] at h
        | nil =>
          simp only [mS] at h
          exact sL W hG hk i e tg v pos h
    | _ => simp [mS] at h
  | .par2 i j r1 r2, st, h => by
    cases st with
    | Assign tgs v pos =>
      cases tgs with
      | nil => simp [mS] at h
      | cons tg tgs =>
        cases tgs with
        | cons _ _ => simp [mS] at h
        | nil =>
          simp only [mS] at h
          unfold mP2 at h
          split at h
          · rename_i x px y py k pt a b k2 p2
            simp only [Bool.and_eq_true, decide_eq_true_eq] at h
            obtain ⟨h1, h2, h3, h4, h5, h6, h7, h8⟩ := h
            have ps : PEs X [a, b] [tE C cf X.K r1, tE C cf X.K r2] := .cons (mE_ns r1 h7) (tE_mono r1) (sE W r1 X a hG h7) (.cons (mE_ns r2 h8) (tE_mono r2) (sE W r2 X b hG h8) .nil)
            refine (ps_par (W.amb X hG).calm (W.nd X hG) h1 h2 h3 h4 h5 ps.pa (swpR_ok hk h6) rfl).of fun D σ H q => ?_
            obtain ⟨pv, ρ, S, Hd, M, W', en, sr, hc, w, ok⟩ := q
            simp only [wS] at w
            simp only [cS] at hc ok
            refine ⟨pv, ρ, S, Hd, M, _, en, sr, by omega, w, fun d S1 Hd1 H1 v1 mv1 sr1 rd1 w1 => ?_⟩
            refine ⟨pv, ρ, S1, Hd1, _, _, en.mono mv1.le, sr1, by omega, w1, fun e S2 Hd2 H2 v2 mv2 sr2 rd2 w2 => ?_⟩
            exact ⟨v1, v2, rfl, ok.nx _ _ Hd2 _ _ (mv1.trans mv2) (sr2.up (by omega)) ((((en.mono mv1.le).mono mv2.le).set (rd1.mono mv2.le) i).set rd2 j) w2⟩
          · cases h
    | _ => simp [mS] at h
  | .par3 i j l r1 r2 r3, st, h => by
    cases st with
    | Assign tgs v pos =>
      cases tgs with
      | nil => simp [mS] at h
      | cons tg tgs =>
        cases tgs with
        | cons _ _ => simp [mS] at h
        | nil =>
          simp only [mS] at h
          unfold mP3 at h
          split at h
          · rename_i x px y py z pz k pt a b c k2 p2
            simp only [Bool.and_eq_true, decide_eq_true_eq] at h
            obtain ⟨h1, h2, h3, h4, h5, h6, h7, h8, h9, h10, g1, g2, g3⟩ := h
            have ps : PEs X [a, b, c] [tE C cf X.K r1, tE C cf X.K r2, tE C cf X.K r3] := .cons (mE_ns r1 g1) (tE_mono r1) (sE W r1 X a hG g1) (.cons (mE_ns r2 g2) (tE_mono r2) (sE W r2 X b hG g2) (.cons (mE_ns r3 g3) (tE_mono r3) (sE W r3 X c hG g3) .nil))
            refine (ps_par3 (W.amb X hG).calm (W.nd X hG) h1 h2 h3 h4 h5 h6 h7 h8 h9 ps.pa (swpR_ok hk h10) rfl).of fun D σ H q => ?_
            obtain ⟨pv, ρ, S, Hd, M, W', en, sr, hc, w, ok⟩ := q
            simp only [wS] at w
            simp only [cS] at hc ok
            refine ⟨pv, ρ, S, Hd, M, _, en, sr, by omega, w, fun d S1 Hd1 H1 v1 mv1 sr1 rd1 w1 => ?_⟩
            refine ⟨pv, ρ, S1, Hd1, _, _, en.mono mv1.le, sr1, by omega, w1, fun e S2 Hd2 H2 v2 mv2 sr2 rd2 w2 => ?_⟩
            refine ⟨pv, ρ, S2, Hd2, _, _, (en.mono mv1.le).mono mv2.le, sr2, by omega, w2, fun f S3 Hd3 H3 v3 mv3 sr3 rd3 w3 => ?_⟩
            have mv := (mv1.trans mv2).trans mv3
            exact ⟨v1, v2, v3, rfl, ok.nx _ _ Hd3 _ _ mv (sr3.up (by omega)) ((((en.mono mv.le).set (rd1.mono (mv2.le.trans mv3.le)) i).set (rd2.mono mv3.le) j).set rd3 l) w3⟩
          · cases h
    | _ => simp [mS] at h
  | .aug i n e, st, h => by
    cases st with
    | AugAssign tg op v pos =>
      cases tg with
      | Name x p =>
        simp only [mS, Bool.and_eq_true, decide_eq_true_eq] at h
        obtain ⟨h1, h2, h3, h4⟩ := h
        subst h3
        refine (ps_aug (W.nd X hG) h1 (locB_ok h2) (sE W e X v hG h4) (n.ok X (W.amb X hG)) (.inl (by rw [hf]))).of fun D σ H q => ?_
        obtain ⟨pv, ρ, S, Hd, M, W', en, sr, hc, w, ok⟩ := q
        simp only [wS] at w
        simp only [cS] at hc ok
        obtain ⟨x0, hx, w⟩ := w
        obtain ⟨v0, hv, r0⟩ := en.2 i x0 hx
        refine ⟨v0, hv, pv, ρ, S, Hd, M, _, en, sr, hc, w, fun d S' Hd' H' v mv sr' rd w' => ?_⟩
        refine ⟨pv, x0, d, S', Hd', _, _, r0.mono mv.le, rd, sr', w', fun d2 S2 Hd2 H2 v2 mv2 sr2 rd2 q => ?_⟩
        exact ok.nx _ S2 Hd2 H2 _ (mv.trans mv2) sr2 (((en.mono mv.le).mono mv2.le).set rd2 i) q
      | _ => simp [mS] at h
    | _ => simp [mS] at h
  | .star i j r, st, h => by
    cases st with
    | Assign tgs v pos =>
      cases tgs with
      | nil => simp [mS] at h
      | cons tg tgs =>
        cases tgs with
        | cons _ _ => simp [mS] at h
        | nil =>
          simp only [mS] at h
          unfold mSt at h
          split at h
          · rename_i x px y py ps kt pt
            simp only [Bool.and_eq_true, decide_eq_true_eq] at h
            obtain ⟨h1, h2, h3, h4, h5, h6, h7⟩ := h
            obtain ⟨a1, a2⟩ := stoB_ok (X := X) (by rw [hf]; exact h3)
            obtain ⟨b1, b2⟩ := stoB_ok (X := X) (by rw [hf]; exact h4)
            refine (ps_asg (sE W r X v hG h5) (pg_star (W.amb X hG).calm (pg_name (W.nd X hG) h1 a1 a2) (pg_name (W.nd X hG) h2 b1 b2) rfl rfl) (noSw_ok (l := pos.line) hk h6) (plainStore_ok hk h7) rfl).of fun D σ H q => ?_
            obtain ⟨pv, ρ, S, Hd, M, W', en, sr, hc, w, ok⟩ := q
            simp only [wS] at w
            simp only [cS] at hc ok
            refine ⟨pv, ρ, S, Hd, M, _, en, sr, by omega, w, fun d S1 Hd1 H1 v1 mv1 sr1 rd1 w1 => ?_⟩
            obtain ⟨dx, xs, rfl, hl, w1⟩ := w1
            simp only [Rep] at rd1
            obtain ⟨a, vs, rfl, sq, rl⟩ := rd1
            simp only [RepL] at rl
            obtain ⟨vx, vr, rfl, rx, rl⟩ := rl
            refine ⟨a, vx, vr, rfl, Le.sqT (fun _ _ => sr1.sub _ _) sq, by rw [rl.length]; omega, fun l hl' => ?_⟩
            have mvt : Mv pv Hd1 H1 (upd Hd1 l (.lst vr)) (upd H1 l (.lst vr)) := .new sr1 hl'
            have srt := sr1.frz (ho := .lst vr) hl'
            refine ok.nx _ _ _ _ _ (mv1.trans mvt) (srt.up (by omega)) (((en.mono (mv1.trans mvt).le).set (rx.mono mvt.le) i).set ?_ j) w1
            simp only [Rep]
            exact ⟨l, vr, rfl, .of upd_same, rl.mono mvt.le⟩
          · cases h
    | _ => simp [mS] at h
  | .set2 e1 e2 o1 i1 o2 i2, st, h => by
    cases st with
    | Assign tgs v pos =>
      cases tgs with
      | nil => simp [mS] at h
      | cons tg tgs =>
        cases tgs with
        | cons _ _ => simp [mS] at h
        | nil =>
          simp only [mS] at h
          unfold mG2 at h
          split at h
          · rename_i o1' i1' p1 o2' i2' p2 kt pt a b kv pv0
            simp only [Bool.and_eq_true] at h
            obtain ⟨h1, h2, h3, h4, h5, h6, h7, h8, h9⟩ := h
            have ps : PEs X [a, b] [tE C cf X.K e1, tE C cf X.K e2] := .cons (mE_ns e1 h1) (tE_mono e1) (sE W e1 X a hG h1) (.cons (mE_ns e2 h2) (tE_mono e2) (sE W e2 X b hG h2) .nil)
            refine (ps_asg (pe_tup ps.pa) (pg_tup (W.amb X hG).calm (pgs_cons (pg_sub (sE W o1 X o1' hG h3) (sE W i1 X i1' hG h4) set_list (by intro w; cases i1' <;> first | rfl | cases h7))
              (pgs_cons (pg_sub (sE W o2 X o2' hG h5) (sE W i2 X i2' hG h6) set_list (by intro w; cases i2' <;> first | rfl | cases h8)) pgs_nil)) rfl rfl) rfl (plainStore_ok hk h9) rfl).of fun D σ H q => ?_
            obtain ⟨pv, ρ, S, Hd, M, W', en, sr, hc, w, ok⟩ := q
            simp only [wS] at w
            simp only [cS] at hc ok
            refine ⟨pv, ρ, S, Hd, M, _, en, sr, by omega, w, fun d1 S1 Hd1 H1 v1 mv1 sr1 rd1 w1 => ?_⟩
            refine ⟨pv, ρ, S1, Hd1, _, _, en.mono mv1.le, sr1, by omega, w1, fun d2 S2 Hd2 H2 v2 mv2 sr2 rd2 w2 => ?_⟩
            refine ⟨Nat.le_trans (show [v1, v2].length ≤ 1000 by simp) (by decide), fun t ht => ?_⟩
            have mvt : Mv pv Hd2 H2 (upd Hd2 t (.tup [v1, v2])) (upd H2 t (.tup [v1, v2])) := .new sr2 ht
            have srt := sr2.frz (ho := .tup [v1, v2]) ht
            have m2 := (mv1.trans mv2).trans mvt
            refine ⟨t, [v1, v2], rfl, .inl (.inl upd_same), rfl, ?_⟩
            refine ⟨v1, [v2], rfl, ?_⟩
            refine ⟨pv, ρ, S2, _, _, _, en.mono m2.le, srt, by omega, w2, fun l1 S3 Hd3 H3 u1 mv3 sr3 rd3 w3 => ?_⟩
            refine ⟨pv, ρ, S3, Hd3, _, _, en.mono (m2.trans mv3).le, sr3, by omega, w3, fun k1 S4 Hd4 H4 u2 mv4 sr4 rd4 w4 => ?_⟩
            obtain ⟨x1, xs, j1, q1, rfl, rfl, hm1, hix1, w4⟩ := w4
            simp only [Rep] at rd3 rd4
            subst rd3 rd4
            obtain ⟨_, ho1, e1', vs1, rfl, rl1⟩ := sr4.sto _ _ hm1
            refine ⟨x1, vs1, j1, q1, rfl, rfl, e1', by rw [rl1.length]; exact hix1, ?_⟩
            have le4 := (mv2.trans ((mvt.trans mv3).trans mv4)).le
            have sr5 := sr4.wr hm1 (o' := O.lst (xs.set q1 d1)) ⟨_, rfl, RepL.set (rd1.mono le4) q1 rl1⟩
            have mv5 := Mv.wr (ho := HO.lst (vs1.set q1 v1)) sr4 hm1
            have m5 := ((m2.trans mv3).trans mv4).trans mv5
            refine ⟨v2, [], rfl, ?_⟩
            refine ⟨pv, ρ, _, _, _, _, en.mono m5.le, sr5, by omega, w4, fun l2 S6 Hd6 H6 u3 mv6 sr6 rd6 w6 => ?_⟩
            refine ⟨pv, ρ, S6, Hd6, _, _, en.mono (m5.trans mv6).le, sr6, by omega, w6, fun k2 S7 Hd7 H7 u4 mv7 sr7 rd7 w7 => ?_⟩
            obtain ⟨x2, ys, j2, q2, rfl, rfl, hm2, hix2, w7⟩ := w7
            simp only [Rep] at rd6 rd7
            subst rd6 rd7
            obtain ⟨_, ho2, e2', vs2, rfl, rl2⟩ := sr7.sto _ _ hm2
            refine ⟨x2, vs2, j2, q2, rfl, rfl, e2', by rw [rl2.length]; exact hix2, ?_⟩
            have le7 := ((mvt.trans mv3).trans mv4).trans (mv5.trans (mv6.trans mv7))
            have mz := (m5.trans mv6).trans mv7
            refine ⟨rfl, ?_⟩
            exact ok.nx _ _ Hd7 _ _ (mz.trans (.wr sr7 hm2)) ((sr7.wr hm2 (o' := O.lst (ys.set q2 d2)) ⟨_, rfl, RepL.set (rd2.mono le7.le) q2 rl2⟩).up (by omega)) (en.mono mz.le) w7
          · cases h
    | _ => simp [mS] at h
  | .setI e o i, st, h => by
    cases st with
    | Assign tgs v pos =>
      cases tgs with
      | nil => simp [mS] at h
      | cons tg tgs =>
        cases tgs with
        | cons _ _ => cases tg <;> simp [mS] at h
        | nil =>
          cases tg with
          | Subscript o' i' p =>
            simp only [mS, Bool.and_eq_true] at h
            obtain ⟨h1, h2, h3, h4, h5⟩ := h
            refine (ps_asg (sE W e X v hG h1) (pg_sub (sE W o X o' hG h2) (sE W i X i' hG h3) set_list (by intro w; cases i' <;> first | rfl | cases h4)) (noSw_ok (l := pos.line) hk h5) (by rfl) rfl).of fun D σ H q => ?_
            obtain ⟨pv, ρ, S, Hd, M, W', en, sr, hc, w, ok⟩ := q
            simp only [wS] at w
            simp only [cS] at hc ok
            refine ⟨pv, ρ, S, Hd, M, _, en, sr, by omega, w, fun d S1 Hd1 H1 v1 mv1 sr1 rd1 w1 => ?_⟩
            refine ⟨pv, ρ, S1, Hd1, _, _, en.mono mv1.le, sr1, by omega, w1, fun l S2 Hd2 H2 v2 mv2 sr2 rd2 w2 => ?_⟩
            refine ⟨pv, ρ, S2, Hd2, _, _, (en.mono mv1.le).mono mv2.le, sr2, by omega, w2, fun k S3 Hd3 H3 v3 mv3 sr3 rd3 w3 => ?_⟩
            obtain ⟨a, xs, j, q, rfl, rfl, hm, hix, w3⟩ := w3
            simp only [Rep] at rd2 rd3
            subst rd2 rd3
            obtain ⟨_, ho, e1, vs, rfl, rl⟩ := sr3.sto _ _ hm
            refine ⟨a, vs, j, q, rfl, rfl, e1, by rw [rl.length]; exact hix, ?_⟩
            have mv := (mv1.trans mv2).trans mv3
            exact ok.nx _ _ Hd3 _ _ (mv.trans (.wr sr3 hm)) ((sr3.wr hm (o' := O.lst (xs.set q d)) ⟨_, rfl, RepL.set (rd1.mono (mv2.le.trans mv3.le)) q rl⟩).up (by omega)) (en.mono mv.le) w3
          | _ => simp [mS] at h
    | _ => simp [mS] at h
  | .setF n o e, st, h => by
    cases st with
    | Assign tgs v pos =>
      cases tgs with
      | nil => simp [mS] at h
      | cons tg tgs =>
        cases tgs with
        | cons _ _ => cases tg <;> simp [mS] at h
        | nil =>
          cases tg with
          | Attribute o' y p =>
            simp only [mS, Bool.and_eq_true, Bool.not_eq_true', decide_eq_true_eq] at h
            obtain ⟨rfl, h1, h2, h3⟩ := h
            refine (ps_fld (sE W o X o' hG h2) (sE W e X v hG h1) (notComp_sw h3)).of fun D σ H q => ?_
            obtain ⟨pv, ρ, S, Hd, M, W', en, sr, hc, w, ok⟩ := q
            simp only [wS] at w
            simp only [cS] at hc ok
            refine ⟨pv, ρ, S, Hd, M, _, en, sr, by omega, w, fun d S1 Hd1 H1 v1 mv1 sr1 rd1 w1 => ?_⟩
            refine ⟨pv, ρ, S1, Hd1, _, _, en.mono mv1.le, sr1, by omega, w1, fun l S2 Hd2 H2 v2 mv2 sr2 rd2 w2 => ?_⟩
            obtain ⟨a, c, ns, xs, rfl, hm, hf, hl, w2⟩ := w2
            simp only [Rep] at rd2
            subst rd2
            obtain ⟨_, ho, e1, dx, vs, rfl, cf, nf, rfl, rl⟩ := sr2.sto _ _ hm
            refine ⟨a, _, dx, vs, rfl, e1, cf.cl, cf.nf _ hf, by simpa using hl, ?_⟩
            have mv := mv1.trans mv2
            obtain ⟨p1, p2⟩ := putF_rep (rd1.mono mv2.le) y rl
            refine ok.nx _ _ Hd2 _ _ (mv.trans (.wr sr2 hm)) ((sr2.wr hm (o' := O.ins c _ _) ⟨dx, _, rfl, cf, fun m hm' => ?_, p1, p2⟩).up (by omega)) (en.mono mv.le) w2
            rcases putN_mem hm' with rfl | hm'
            · exact hf
            · exact nf m hm'
          | _ => simp [mS] at h
    | _ => simp [mS] at h
  | .expr e, st, h => by
    cases st with
    | Expr v pos =>
      simp only [mS, Bool.and_eq_true, Bool.not_eq_true'] at h
      refine (ps_expr (sE W e X v hG h.1) (notComp_sw h.2)).of fun D σ H q => ?_
      obtain ⟨pv, ρ, S, Hd, M, W', en, sr, hc, w, ok⟩ := q
      simp only [wS] at w
      simp only [cS] at hc ok
      exact ⟨pv, ρ, S, Hd, M, _, en, sr, hc, w, fun d S' Hd' H' v mv sr' rd w' => ok.nx ρ S' Hd' H' σ mv sr' (en.mono mv.le) w'⟩
    | _ => simp [mS] at h
  | .ret e, st, h => by
    cases st with
    | Return v pos =>
      cases v with
      | some v =>
        simp only [mS] at h
        refine (ps_ret (sE W e X v hG h)).of fun D σ H q => ?_
        obtain ⟨pv, ρ, S, Hd, M, W', en, sr, hc, w, ok⟩ := q
        simp only [wS] at w
        simp only [cS] at hc ok
        exact ⟨pv, ρ, S, Hd, M, _, en, sr, hc, w, fun d S' Hd' H' v mv sr' rd w' => ok.rt d S' Hd' H' v mv sr' rd w'⟩
      | none => simp [mS] at h
    | _ => simp [mS] at h
  | .retN, st, h => by
    cases st with
    | Return v pos =>
      cases v with
      | none =>
        refine ps_retN.of fun D σ H q => ?_
        obtain ⟨pv, ρ, S, Hd, M, W', en, sr, hc, w, ok⟩ := q
        simp only [wS] at w
        simp only [cS] at hc ok
        exact ok.rt _ S Hd H .non (.refl ..) (by simpa using sr) (by simp only [Rep]) w
      | some v => simp [mS] at h
    | _ => simp [mS] at h
  | .ifs c a b, st, h => by
    cases st with
    | If c' a' b' pos =>
      simp only [mS, Bool.and_eq_true] at h
      obtain ⟨h1, h2, h3⟩ := h
      refine (ps_if (sT W c X c' hG h1) (sSs W hG hp hk hf a a' h2) (sSs W hG hp hk hf b b' h3)).of fun D σ H q => ?_
      obtain ⟨pv, ρ, S, Hd, M, W', en, sr, hc, w, ok⟩ := q
      simp only [wS] at w
      simp only [cS] at hc ok
      refine ⟨pv, ρ, S, Hd, M, _, en, sr, by omega, w, fun t S' Hd' H' mv sr' w' => ?_⟩
      cases t with
      | true =>
        simp only [if_true] at w' ⊢
        exact ⟨pv, ρ, S', Hd', _, W', en.mono mv.le, sr', by omega, w', ok.go mv (by omega)⟩
      | false =>
        simp only [Bool.false_eq_true, if_false] at w' ⊢
        exact ⟨pv, ρ, S', Hd', _, W', en.mono mv.le, sr', by omega, w', ok.go mv (by omega)⟩
    | _ => simp [mS] at h
  | .whl c b, st, h => by
    cases st with
    | While c' b' orelse pos =>
      cases orelse with
      | cons _ _ => simp [mS] at h
      | nil =>
        simp only [mS, Bool.and_eq_true, decide_eq_true_eq] at h
        obtain ⟨h1, h2, h3⟩ := h
        refine (ps_while hp (sT W c X c' hG h1) (sSs W hG hp hk hf b b' h2)).of fun D σ H q => ?_
        obtain ⟨pv, ρ, S, Hd, M, W', en, sr, hc, w, ok⟩ := q
        simp only [wS] at w
        simp only [cS] at hc ok
        obtain ⟨Wi, ⟨m0, w0⟩, turn⟩ := w
        have z1 : cE cf c = 0 := by omega
        have z2 : cSs cf b = 0 := by omega
        refine ⟨fun m σ' H' => ∃ ρ' S' Hd', Mv pv Hd H Hd' H' ∧ SR X.K pv S' Hd' H' M ∧ EnR X.K Hd' ρ' σ' ∧ Wi m ρ' S', ⟨m0, ρ, S, Hd, .refl .., sr, en, w0⟩, ?_⟩
        rintro m σ1 H1 ⟨ρ1, S1, Hd1, mv1, sr1, en1, w1⟩
        refine ⟨pv, ρ1, S1, Hd1, M, _, en1, sr1, by omega, turn m ρ1 S1 w1, fun t S2 Hd2 H2 mv2 sr2 w2 => ?_⟩
        have mv := mv1.trans mv2
        have en2 := en1.mono mv2.le
        rw [z1, Nat.add_zero] at sr2
        cases t with
        | true =>
          simp only [if_true] at w2 ⊢
          refine ⟨fun σ' H' => ∃ m', m' < m ∧ ∃ ρ' S' Hd', Mv pv Hd H Hd' H' ∧ SR X.K pv S' Hd' H' M ∧ EnR X.K Hd' ρ' σ' ∧ Wi m' ρ' S', fun σ' H' q => q, ?_⟩
          refine ⟨pv, ρ1, S2, Hd2, M, _, en2, sr2, by omega, w2, ⟨fun ρ6 S6 Hd6 H6 σ6 m6 s6 e6 q => ?_, fun d6 S6 Hd6 H6 v6 m6 s6 r6 q => ?_, fun ρ6 S6 Hd6 H6 σ6 m6 s6 e6 q => ?_, fun ρ6 S6 Hd6 H6 σ6 m6 s6 e6 q => ?_⟩⟩
          · rw [z2, Nat.add_zero] at s6
            obtain ⟨m', hm, q⟩ := q
            exact ⟨m', hm, ρ6, S6, Hd6, mv.trans m6, s6, e6, q⟩
          · exact ok.rt d6 S6 Hd6 H6 v6 (mv.trans m6) (s6.up (by omega)) r6 q
          · exact ok.nx ρ6 S6 Hd6 H6 σ6 (mv.trans m6) (s6.up (by omega)) e6 q
          · rw [z2, Nat.add_zero] at s6
            obtain ⟨m', hm, q⟩ := q
            exact ⟨m', hm, ρ6, S6, Hd6, mv.trans m6, s6, e6, q⟩
        | false =>
          simp only [Bool.false_eq_true, if_false] at w2 ⊢
          exact ok.nx ρ1 S2 Hd2 H2 σ1 mv (sr2.up (by omega)) en2 w2
    | _ => simp [mS] at h
  | .whb c b, st, h => by
    cases st with
    | While c' b' orelse pos =>
      cases orelse with
      | cons _ _ => simp [mS] at h
      | nil =>
        simp only [mS, Bool.and_eq_true] at h
        obtain ⟨h1, h2⟩ := h
        refine (ps_while hp (sT W c X c' hG h1) (sSs W hG hp hk hf b b' h2)).of fun D σ H q => ?_
        obtain ⟨pv, ρ, S, Hd, M, W', en, sr, hc, w, ok⟩ := q
        simp only [wS] at w
        simp only [cS] at hc ok
        obtain ⟨Wi, ⟨m0, hm0, w0⟩, turn⟩ := w
        generalize hk1 : cE cf c + cSs cf b = k at hc ok
        have step : ∀ m, m ≤ m0 → (m0 - m) * k ≤ MX * k := fun m _ => Nat.mul_le_mul_right _ (by omega)
        refine ⟨fun m σ' H' => ∃ ρ' S' Hd', m ≤ m0 ∧ Mv pv Hd H Hd' H' ∧ SR X.K pv S' Hd' H' (M + (m0 - m) * k) ∧ EnR X.K Hd' ρ' σ' ∧ Wi m ρ' S', ⟨m0, ρ, S, Hd, Nat.le_refl _, .refl .., by simpa using sr, en, w0⟩, ?_⟩
        rintro m σ1 H1 ⟨ρ1, S1, Hd1, hm, mv1, sr1, en1, w1⟩
        have st1 := step m hm
        refine ⟨pv, ρ1, S1, Hd1, _, _, en1, sr1, by omega, turn m ρ1 S1 w1, fun t S2 Hd2 H2 mv2 sr2 w2 => ?_⟩
        have mv := mv1.trans mv2
        have en2 := en1.mono mv2.le
        cases t with
        | true =>
          simp only [if_true] at w2 ⊢
          refine ⟨fun σ' H' => ∃ m', m' < m ∧ ∃ ρ' S' Hd', m' ≤ m0 ∧ Mv pv Hd H Hd' H' ∧ SR X.K pv S' Hd' H' (M + (m0 - m') * k) ∧ EnR X.K Hd' ρ' σ' ∧ Wi m' ρ' S', fun σ' H' q => q, ?_⟩
          have up : ∀ m', m' < m → M + (m0 - m) * k + cE cf c + cSs cf b ≤ M + (m0 - m') * k := fun m' hm' => by
            have h3 : (m0 - m + 1) * k ≤ (m0 - m') * k := Nat.mul_le_mul_right _ (by omega)
            rw [Nat.add_mul, Nat.one_mul] at h3
            omega
          refine ⟨pv, ρ1, S2, Hd2, _, _, en2, sr2, by omega, w2, ⟨fun ρ6 S6 Hd6 H6 σ6 m6 s6 e6 q => ?_, fun d6 S6 Hd6 H6 v6 m6 s6 r6 q => ?_, fun ρ6 S6 Hd6 H6 σ6 m6 s6 e6 q => ?_, fun ρ6 S6 Hd6 H6 σ6 m6 s6 e6 q => ?_⟩⟩
          · obtain ⟨m', hm', q⟩ := q
            exact ⟨m', hm', ρ6, S6, Hd6, by omega, mv.trans m6, s6.up (up m' hm'), e6, q⟩
          · exact ok.rt d6 S6 Hd6 H6 v6 (mv.trans m6) (s6.up (by omega)) r6 q
          · exact ok.nx ρ6 S6 Hd6 H6 σ6 (mv.trans m6) (s6.up (by omega)) e6 q
          · obtain ⟨m', hm', q⟩ := q
            exact ⟨m', hm', ρ6, S6, Hd6, by omega, mv.trans m6, s6.up (up m' hm'), e6, q⟩
        | false =>
          simp only [Bool.false_eq_true, if_false] at w2 ⊢
          exact ok.nx ρ1 S2 Hd2 H2 σ1 mv (sr2.up (by omega)) en2 w2
    | _ => simp [mS] at h
  | .for_ t n es b, st, h => by
    cases st with
    | For tg iter body orelse pos =>
      cases orelse with
      | cons _ _ => simp [mS] at h
      | nil =>
        simp only [mS, Bool.and_eq_true] at h
        obtain ⟨h1, h2, h3, h4⟩ := h
        split at h1
        · rename_i as hs
          have A := W.amb X hG
          exact (ps_for hp A.calm (n.ok X tg iter as (es.map (tE C cf X.K)) A h2 hs (sEs W es X as hG h1)) (sG A.calm (W.nd X hG) t tg (by rw [hf]; exact h3)) (sSs W hG hp hk hf b body h4) (fun x => n.fold _ _ _ hs _ x)).of fun D σ H q => for_imp q
        · cases h1
    | _ => simp [mS] at h
  | .brk, st, h => by
    cases st with
    | Break pos =>
      refine ps_break.of fun D σ H q => ?_
      obtain ⟨pv, ρ, S, Hd, M, W', en, sr, hc, w, ok⟩ := q
      simp only [wS] at w
      exact ok.bk ρ S Hd H σ (.refl ..) (by simpa [cS] using sr) en w
    | _ => simp [mS] at h
  | .cnt, st, h => by
    cases st with
    | Continue pos =>
      refine ps_continue.of fun D σ H q => ?_
      obtain ⟨pv, ρ, S, Hd, M, W', en, sr, hc, w, ok⟩ := q
      simp only [wS] at w
      exact ok.ct ρ S Hd H σ (.refl ..) (by simpa [cS] using sr) en w
    | _ => simp [mS] at h
  | .pas, st, h => by
    cases st with
    | Pass pos =>
      refine ps_pass.of fun D σ H q => ?_
      obtain ⟨pv, ρ, S, Hd, M, W', en, sr, hc, w, ok⟩ := q
      simp only [wS] at w
      exact ok.nx ρ S Hd H σ (.refl ..) (by simpa [cS] using sr) en w
    | _ => simp [mS] at h
  | .nev, st, h => ⟨fun _ _ _ _ _ _ q => by
    obtain ⟨pv, ρ, S, Hd, M, W', en, sr, hc, w, ok⟩ := q
    simp only [wS] at w⟩
theorem sSs (W : Wd C cf fn G) {X : Cx} (hG : G X) (hp : PassesOwn (model X.prog X.w) X.A X.env X.xe) (hk : X.env.scope.kind = .function) (hf : X.fn = fun _ => true) :
    ∀ (ss : List RS) (sts : List Stmt), mSs fn cf X.N ss X.env.scope sts = true → PSs X sts (tS' X.K (wSs C ss) (cSs cf ss))
  | [], [], _ => pss_nil.of fun D σ H q => by
    obtain ⟨pv, ρ, S, Hd, M, W', en, sr, hc, w, ok⟩ := q
    simp only [wSs] at w
    exact ok.nx ρ S Hd H σ (.refl ..) (by simpa [cSs] using sr) en w
  | [], _ :: _, h => by simp [mSs] at h
  | s :: ss, [], h => ⟨fun _ _ _ _ _ _ q => by
    obtain ⟨pv, ρ, S, Hd, M, W', en, sr, hc, w, ok⟩ := q
    cases s <;> first | (cases ss <;> simp [mSs] at h; done) | skip
    cases ss with
    | nil => simp only [wSs, wS] at w
    | cons _ _ => simp [mSs] at h⟩
  | s :: ss, t :: ts, h => by
    by_cases hb : (mS fn cf X.N s X.env.scope t && mSs fn cf X.N ss X.env.scope ts) = true
    · simp only [Bool.and_eq_true] at hb
      refine (pss_cons (sS W hG hp hk hf s t hb.1) (sSs W hG hp hk hf ss ts hb.2)).of fun D σ H q => ?_
      obtain ⟨pv, ρ, S, Hd, M, W', en, sr, hc, w, ok⟩ := q
      simp only [wSs] at w
      simp only [cSs] at hc ok
      refine ⟨pv, ρ, S, Hd, M, _, en, sr, by omega, w, ⟨fun ρ6 S6 Hd6 H6 σ6 m6 s6 e6 q => ?_, fun d6 S6 Hd6 H6 v6 m6 s6 r6 q => ?_, fun ρ6 S6 Hd6 H6 σ6 m6 s6 e6 q => ?_, fun ρ6 S6 Hd6 H6 σ6 m6 s6 e6 q => ?_⟩⟩
      · exact ⟨pv, ρ6, S6, Hd6, _, W', e6, s6, by omega, q, ok.go m6 (by omega)⟩
      · exact ok.rt d6 S6 Hd6 H6 v6 m6 (s6.up (by omega)) r6 q
      · exact ok.bk ρ6 S6 Hd6 H6 σ6 m6 (s6.up (by omega)) e6 q
      · exact ok.ct ρ6 S6 Hd6 H6 σ6 m6 (s6.up (by omega)) e6 q
    · refine ⟨fun _ _ _ _ _ _ q => ?_⟩
      obtain ⟨pv, ρ, S, Hd, M, W', en, sr, hc, w, ok⟩ := q
      cases s <;> first | (exact absurd (by simpa only [mSs] using h) hb) | (simp only [wSs, wS] at w)
end
end
end
section
open PySem PySem.Spec L2
abbrev SpG := List V → Hp → VK → Prop
/-- a def keeps its promise wherever no repr runs around it -/
structure FnG (P : Program) (w : World) (K : PySem.W.Frag) (mg : Str → Option Value) (base : Heap) (k : Nat) (f : Addr) (fd : FuncData) (ps : List Str) (sp : SpG) : Prop where
  len : ∀ vs H Q, sp vs H Q → vs.length = ps.length
  run : ∀ (A : Around) (outer : List Env) (s : Shared) (H : Hp) (args : Args) (us : List Value) (vs : List V) (Q : VK), Room k A → A.guards = some [] → Env0 P w K mg base A outer s H →
    BindsTo s fd args (ps.zip us) → Vals vs us → sp vs H Q → codeAny (model P w) A (.call (.ref f) args) (CR CX0 outer P w H s Q E0) s
theorem FnG.mono {P : Program} {w : World} {K : PySem.W.Frag} {mg : Str → Option Value} {base : Heap} {j k : Nat} {f : Addr} {fd : FuncData} {ps : List Str} {sp : SpG} (F : FnG P w K mg base j f fd ps sp) (h : j ≤ k) : FnG P w K mg base k f fd ps sp :=
  ⟨F.len, fun A outer s H args us vs Q r => F.run A outer s H args us vs Q (r.mono h)⟩
theorem FnG.imp {P : Program} {w : World} {K : PySem.W.Frag} {mg : Str → Option Value} {base : Heap} {k : Nat} {f : Addr} {fd : FuncData} {ps : List Str} {sp sp' : SpG} (F : FnG P w K mg base k f fd ps sp)
    (h : ∀ vs H Q, sp' vs H Q → sp vs H Q) : FnG P w K mg base k f fd ps sp' :=
  ⟨fun vs H Q q => F.len vs H Q (h _ _ _ q), fun A outer s H args us vs Q r g e b v q => F.run A outer s H args us vs Q r g e b v (h _ _ _ q)⟩
section
variable {X : Cx} {k : Nat} {f : Addr} {fd : FuncData} {ps : List Str} {sp : SpG} {x : Str} {p pos : Pos} {es : List Expr} {ts : List TE}
theorem runG {pins : List (Addr × Obj)} {σ : St} {H : Hp} {s : Shared} {Q : VK} {us : List Value} {vs : List V} (F : FnG X.prog X.w X.K X.mg X.base k f fd ps sp) (hr : Room k X.A) (gd : X.A.guards = some []) (hb : Binds X.K fd ps [])
    (I : Inv X pins σ H s) (r : Vals vs us) (h : sp vs H Q) : wpAny (model X.prog X.w) X.A (PySem.call (.ref f) us) (EP X pins σ Q) X.xe s := by
  have hl : us.length = ps.length := r.length.symm.trans (F.len _ _ _ h)
  have bt := hb s us I.kIn (by rw [List.append_nil]; exact hl)
  rw [List.append_nil] at bt
  apply wpAny_call
  refine codeAny_mono (F.run X.A X.stack s H ⟨us, []⟩ us vs Q hr gd I.env0 bt r h) ?_
  intro res s' q
  cases res with
  | error e => exact (q : False).elim
  | ok fl =>
    cases fl with
    | ret u => exact I.after q
    | next => exact (q : False).elim
    | brk => exact (q : False).elim
    | cont => exact (q : False).elim
theorem pe_callG (F : FnG X.prog X.w X.K X.mg X.base k f fd ps sp) (hr : Room k X.A) (gd : X.A.guards = some []) (hg : Gl X x) (hm : X.mg x = some (.ref f)) (hk : PySem.W.keepIn X.K (.ref f) = true) (hb : Binds X.K fd ps [])
    (hx : okName x = true) (pe : PEs X es ts) : PE X (.Call (.Name x p) es [] pos) (fun σ H Q => tAll ts σ H fun vs H1 => sp vs H1 Q) := by
  obtain ⟨d1, _, _⟩ := okName_d hx
  refine ⟨fun pins s σ H Q I h => ?_⟩
  apply wpAny_Call_Name_kw
  refine ld_glob I hg hm ?_ d1
  cases pe with
  | nil => exact PySem.W.callWith_K0 I.kIn hk (runG (us := []) F hr gd hb I .nil h)
  | cons n m pe1 pr =>
    have pa := (PEs.cons n m pe1 pr).pa
    refine PySem.W.callWith_K (h₀ := X.base) I.ok.mod.kin hk ?_ (star_cons n) (pr.plain pos)
    refine thn (pa.run pos pins s σ H _ I h) ?_
    intro us s1 hu
    obtain ⟨vs, H1, I1, r, q⟩ := hu
    exact ⟨I1.kIn, runG F hr gd hb I1 r q⟩
end
theorem fnG_of {P : Program} {w : World} {K : PySem.W.Frag} {mg : Str → Option Value} {base : Heap} {k : Nat} {f : Addr} {name qual : Str} {params : Arguments} {body : List Stmt} {scope : Scope} {dvs : List V} {kws : List (Str × V)} {fd : FuncData}
    {N ps : List Str} {sp : SpG} (F : FunD K name qual params body scope dvs kws f fd) (S : FnScope N ps scope) (len : ∀ vs H Q, sp vs H Q → vs.length = ps.length)
    (hbody : ∀ (X : Cx) (vs : List V) (H : Hp) (Q : VK), X.prog = P → X.w = w → X.K = K → X.mg = mg → X.base = base → Room k X.A → X.A.guards = some [] → X.calm = true → X.N = N → X.env.scope = scope → (X.fn = fun _ => true) → X.xe = (fun _ _ => False) → sp vs H Q →
      ∃ t, PSs X body t ∧ t { nx := fun _ H' => Q .non H', rt := Q } (start N vs) H) : FnG P w K mg base (k + 1) f fd ps sp := by
  obtain ⟨_, _, _, _, _, _, _, code, _, _, rfl, at_f, isCode, _, _⟩ := F.ex
  refine ⟨len, fun A outer st T args us vs Q room gd env bound rel wish => ?_⟩
  have few := len vs T Q wish
  have same : ∀ b r, base.get? b = some r → st.heap.get? b = some r := fun b r g => (env.bs b r g).1
  have kIn := env.mod.kin.keeps same
  refine codeAny_call_function room.depth (kIn _ _ at_f) rfl S.co S.gen rfl (PySem.W.codeRec_of kIn isCode) (bound _ _ _ _ ?_)
  refine wpAny_newFunctionEnv_cells S.kind ?_ ?_
  · rintro ⟨y, u⟩ hy
    rcases S.par y (List.of_mem_zip hy).1 with loc | cell
    · exact .inl loc
    · exact .inr ⟨cell, PySem.W.cellsFrom_some _ _ _ (.inl cell)⟩
  · rintro env' rfl st1 inC
    refine ⟨(env.mod.nolimit.keeps same).keeps inC.toInCall.keep, codeAny_func ?_⟩
    have I := inv_start (CX := CX0) (E := E0) S room.hd env few rel inC
    obtain ⟨t, pt, ok⟩ := hbody (cxOf CX0 P w K mg base N qual scope f code A outer st T E0).nox vs T Q rfl rfl rfl rfl rfl (room.deeper _) gd rfl rfl rfl rfl rfl wish
    refine wpAny_mono (pt.nox.run [] st1 (start N vs) T _ I ok) ?_ fun _ _ z => z
    rintro (_ | _ | _ | u) st2 got
    · obtain ⟨_, T2, J, q⟩ := got
      exact ⟨V.non, T2, J.os, J.bare, J.base, J.hok, rfl, q⟩
    · obtain ⟨_, _, _, q⟩ := got
      exact q.elim
    · obtain ⟨_, _, _, q⟩ := got
      exact q.elim
    · obtain ⟨v, _, T2, J, rv, q⟩ := got
      exact ⟨v, T2, J.os, J.bare, J.base, J.hok, rv, q⟩
theorem guards_make {A : Around} {C : Addr} {us : List Value} {kw : List (Str × Value)} : (A.under (.builtin "type.__call__" ⟨.ref C :: us, kw⟩)).guards = A.guards := by
  first
    | rfl
    | (simp [Around.under, Code.guards, Code.isGuard, guardIds]; done)
    | (cases h : A.guards <;> simp [Around.under, Code.guards, Code.isGuard, guardIds, h])
section
variable {X : Cx} {k : Nat} {C f : Addr} {fd : FuncData} {ps : List Str} {sp : SpG} {x m : Str} {p pos apos : Pos} {o : Expr} {es : List Expr} {ts : List TE} {ta : TE}
theorem run_makeG {pins : List (Addr × Obj)} {σ : St} {H : Hp} {s : Shared} {Q : VK} {us : List Value} {vs : List V} (M : Mk X.K C f) (F : FnG X.prog X.w X.K X.mg X.base k f fd ps sp) (hr : Room (k + 1) X.A) (gd : X.A.guards = some []) (hb : Binds X.K fd ps [])
    (I : Inv X pins σ H s) (r : Vals vs us) (h : ∀ x dx, H x = none → H dx = none → dx ≠ x → sp (.ref x :: vs) (upd (upd H dx (.own x)) x (.ins C dx [])) (fun v H2 => v = .non ∧ Q (.ref x) H2)) :
    wpAny (model X.prog X.w) X.A (PySem.call (.ref C) us) (EP X pins σ Q) X.xe s := by
  have hq := h (s.heap.objs.size + 1) s.heap.objs.size (I.hok.fresh (Nat.le_succ _)) (I.hok.fresh (Nat.le_refl _)) (Nat.ne_of_lt (Nat.lt_succ_self _))
  have I2 := Inv.made (C := C) I
  have r2 : Vals (V.ref (s.heap.objs.size + 1) :: vs) (Value.ref (s.heap.objs.size + 1) :: us) := .cons rfl r
  have hl : (Value.ref (s.heap.objs.size + 1) :: us).length = ps.length := by
    have e := r2.length
    rw [F.len _ _ _ hq] at e
    exact e.symm
  have bt := hb _ (Value.ref (s.heap.objs.size + 1) :: us) I2.kIn (by rw [List.append_nil]; exact hl)
  rw [List.append_nil] at bt
  refine wpAny_call (make_map (f := f) I.kIn M.makes M.init (beq_iff_eq.mp M.fn) (codeAny_mono (F.run _ X.stack _ _ ⟨Value.ref (s.heap.objs.size + 1) :: us, []⟩ (Value.ref (s.heap.objs.size + 1) :: us) _ _ (hr.make C us [])
    (guards_make.trans gd) (I2.env0.make C us []) bt r2 hq) fun r s' hq' => ?_))
  cases r with
  | error e => exact (hq' : False).elim
  | ok fl =>
    cases fl with
    | ret u =>
      obtain ⟨v, H', I3, rv, ev, q3⟩ := I2.after hq'
      subst ev
      exact ⟨rv, ⟨V.ref (s.heap.objs.size + 1), H', I3, rfl, q3⟩⟩
    | next => exact False.elim hq'
    | brk => exact False.elim hq'
    | cont => exact False.elim hq'
theorem pe_makeG (M : Mk X.K C f) (F : FnG X.prog X.w X.K X.mg X.base k f fd ps sp) (hr : Room (k + 1) X.A) (gd : X.A.guards = some []) (hg : Gl X x) (hm : X.mg x = some (.ref C)) (hb : Binds X.K fd ps []) (hx : okName x = true) (pe : PEs X es ts) :
    PE X (.Call (.Name x p) es [] pos) (fun σ H Q => tAll ts σ H fun vs H1 => ∀ x dx, H1 x = none → H1 dx = none → dx ≠ x → sp (.ref x :: vs) (upd (upd H1 dx (.own x)) x (.ins C dx [])) (fun v H2 => v = .non ∧ Q (.ref x) H2)) := by
  obtain ⟨d1, _, _⟩ := okName_d hx
  refine ⟨fun pins s σ H Q I h => ?_⟩
  apply wpAny_Call_Name_kw
  refine ld_glob I hg hm ?_ d1
  cases pe with
  | nil => exact PySem.W.callWith_K0 I.kIn M.kp (run_makeG (us := []) M F hr gd hb I .nil h)
  | cons n m pe1 pr =>
    have pa := (PEs.cons n m pe1 pr).pa
    refine PySem.W.callWith_K (h₀ := X.base) I.ok.mod.kin M.kp ?_ (star_cons n) (pr.plain pos)
    refine thn (pa.run pos pins s σ H _ I h) ?_
    intro us s1 hu
    obtain ⟨vs, H1, I1, r, q⟩ := hu
    exact ⟨I1.kIn, run_makeG M F hr gd hb I1 r q⟩
theorem meth_tree {M : Model} {A : Around} {E : Value → Shared → Prop} {s : Shared} {env : Env} {args : List Expr} {Q : Value → Shared → Prop} (hbase : attributeBase o m env (eval o env) = eval o env)
    (hfew : ((backTo pos (starEach args env)).all (fun x => !x.1) && (backToKw pos (keywordEach [] env)).all (fun x => x.1.isSome) && decide (args.length + ([] : List Keyword).length + (if ([] : List Keyword).isEmpty then 0 else 1) < 30)) = true)
    (hline : (apos.endLine == pos.line) = true)
    (h : wpAny M A (eval o env) (fun ov s₁ => ∀ pl, wpAny M A (getMethod ov m pl) (fun fx s₂ => wpAny M A (callWith pos fx.1 fx.2 (backTo pos (starEach args env)) (backToKw pos (keywordEach [] env))) Q E s₂) E s₁) E s) :
    wpAny M A (eval (.Call (.Attribute o m apos) args [] pos) env) Q E s := by
  rw [arm_eval_Call, hbase]
  refine wpAny_bind (wpAny_mono h (fun ov s₁ h₁ => ?_) fun _ _ e => e)
  refine wpAny_bind (wpAny_standAt ?_)
  have hform : methodCallForm (args.length + ([] : List Keyword).length) (backTo pos (starEach args env)) (backToKw pos (keywordEach [] env)) = true := hfew
  have hpos : methodCallPos true o env apos pos = pure pos := by unfold methodCallPos; simp [hline]
  unfold methodCall
  rw [hform]
  refine wpAny_bind (wpAny_holding (wpAny_mono (h₁ _) (fun fx s₂ h₂ => ?_) fun _ _ x => x))
  exact wpAny_bind (wpAny_of_eq hpos h₂)
/-- o.m(e, ..) of an own class -/
theorem pe_methG (he : PE X o ta) (hbase : attributeBase o m X.env (eval o X.env) = eval o X.env) (hlt : es.length < 20) (hline : (apos.endLine == pos.line) = true) (c : Cls X.K C) (hm : Meth X.K C m f) (F : FnG X.prog X.w X.K X.mg X.base k f fd ps sp)
    (hr : Room k X.A) (gd : X.A.guards = some []) (hb : Binds X.K fd ps []) (pe : PEs X es ts) :
    PE X (.Call (.Attribute o m apos) es [] pos) (fun σ H Q => ta σ H fun x H1 => (∃ a dx fs, x = .ref a ∧ H1 a = some (.ins C dx fs) ∧ fs.lookup m = none) ∧ tAll ts σ H1 fun vs H2 => sp (x :: vs) H2 Q) := by
  have hfew : ((backTo pos (starEach es X.env)).all (fun x => !x.1) && (backToKw pos (keywordEach [] X.env)).all (fun x => x.1.isSome) && decide (es.length + ([] : List Keyword).length + (if ([] : List Keyword).isEmpty then 0 else 1) < 30)) = true := by
    have h1 := pe.plain pos
    have h2 : (backTo pos (starEach es X.env)).all (fun x => !x.1) = true := by
      rw [List.any_eq_false] at h1
      rw [List.all_eq_true]
      intro x hx
      have := h1 x hx
      simpa using this
    rw [h2]
    simp only [List.length_nil, List.isEmpty_nil, if_true, Bool.true_and]
    refine Bool.and_eq_true_iff.mpr ⟨rfl, decide_eq_true ?_⟩
    omega
  refine ⟨fun pins s σ H Q I h => ?_⟩
  refine meth_tree hbase hfew hline (thn (he.run pins s σ H _ I h) fun u s1 ⟨x, H1, I1, rx, ⟨a, dx, fs, ex, ea, l⟩, q⟩ pl => ?_)
  subst ex
  obtain rfl : u = Value.ref a := rx
  refine getmeth_ok I1 ea c hm l ?_
  cases pe with
  | nil => exact PySem.W.callWith_K0 (first := [.ref a]) I1.kIn hm.kp (runG (us := [.ref a]) (vs := [.ref a]) F hr gd hb I1 (.cons rfl .nil) q)
  | cons n mo pe1 pr =>
    have pa := (PEs.cons n mo pe1 pr).pa
    refine PySem.W.callWith_K (first := [.ref a]) (h₀ := X.base) I.ok.mod.kin hm.kp (thn (pa.run pos pins s1 σ H1 _ I1 q) fun us s2 ⟨vs, H2, I2, r, q2⟩ => ⟨I2.kIn, ?_⟩) (star_cons n) (pr.plain pos)
    exact runG (us := .ref a :: us) (vs := .ref a :: vs) F hr gd hb I2 (.cons rfl r) q2
end
section
open Builtin PySem.W PySem.Calls
variable {prog : Program} {w : World} {A : Around} {E : Value → Shared → Prop} {s : Shared} {K : PySem.W.Frag} {x y C f : Addr} {ox : Obj} {od : Option Obj}
theorem ifBound_B {M : Model} {name : Str} {id : String} {args : List Value} {Q : Option Value → Shared → Prop} (X : K.In s.heap) (I : InstAt s.heap x ox C od) (hs : findIn K (.ref C) name = some (some (.builtin id)))
    (hb : ∀ self, bindSpecial (.builtin id) self = pure (.builtin id, [self])) (h : wpAny M A (PySem.call (.builtin id) (.ref x :: args)) (fun v => Q (some v)) E s) : wpAny M A (callSpecialIfBound? (.ref x) name args) Q E s := by
  simp only [callSpecialIfBound?, bindSpecialIfBound?]
  refine wpAny_holding (wpAny_bind (wpAny_bind (wpAny_bind (I.type.here ((looks_findIn X hs).here ?_)))))
  refine wpAny_bind (wpAny_askSetting (wpAny_ite ?_))
  have fin : wpAny M A (PySem.call (.builtin id) ([.ref x] ++ args) >>= fun v => pure (some v)) Q E s := wpAny_bind (wpAny_mono h (fun v s' h' => wpAny_pure h') fun _ _ h' => h')
  split
  · exact wpAny_bind ((Looks.of_pure (hb _)).here (wpAny_pure (by exact fin)))
  · exact wpAny_tryCatch (wpAny_bind ((Looks.of_pure (hb _)).here (wpAny_pure (by exact fin))))
theorem ne_body (X : K.In s.heap) (I : InstAt s.heap x ox C od) (hu : A.units < cLine) (he : findIn K (.ref C) "__eq__" = some (some (.ref f))) (hf : isFn K (.ref f) = true) {Q : Fin → Shared → Prop}
    (hcall : wpAny (model prog w) A (PySem.call (.ref f) [.ref x, .ref y]) (fun v s' => ∃ b, v = .bool b ∧ Q (.done (.ret (.bool (!b)))) s') E s) :
    wpAny (model prog w) A (Builtin.«object.__ne__» ⟨[.ref x, .ref y], []⟩) Q E s := by
  unfold Builtin.«object.__ne__»
  repeat (first
    | with_reducible refine wpAny_cRoomFor hu ?_
    | (refine wpAny_bind (m := callSpecialIfBound? (.ref x) (Str.ofString "__eq__") [.ref y])
        (ifBound_K X I he hf (wpAny_mono hcall (fun r s' hr => by
          obtain ⟨b, rfl, hq⟩ := hr
          repeat (first | exact hq | exact wpAny_pure hq | exact wpAny_truthy_bool hq | (refine wpAny_bind (m := truthy (.bool _)) (wpAny_truthy_bool ?_)) | wp_step)) fun _ _ e => e)))
    | wp_step)
theorem ne_own {Q : Value → Shared → Prop} (hu : A.units < cLine) (hu1 : A.in1.units < cLine) (X : K.In s.heap) (I : InstAt s.heap x ox C od) (hb : Looks (model prog w) s.heap (typeOf (.ref y)) (.ref C)) (hm : mroIn K C (.type "object") = some true)
    (hn : findIn K (.ref C) "__ne__" = some (some (.builtin "object.__ne__"))) (he : findIn K (.ref C) "__eq__" = some (some (.ref f))) (hf : isFn K (.ref f) = true)
    (h : wpAny (model prog w) A.in1 (PySem.call (.ref f) [.ref x, .ref y]) (fun v s' => ∃ b, v = .bool b ∧ Q (.bool (!b)) s') E s) : wpAny (model prog w) A (richCompare .NotEq (.ref x) (.ref y)) Q E s := by
  have one : wpAny (model prog w) A (tryCompare (.ref x) (cmpInfo .NotEq).2.1 (.ref y)) (fun r s' => ∃ v, r = some v ∧ Q v s') E s := by
    rw [cmpInfo_NotEq]
    dsimp only
    unfold tryCompare
    refine wpAny_bind (ifBound_B X I hn PySem.F.cmp_object.ne.bind (wpAny_call (codeAny_call_builtin PySem.F.cmp_object.ne.plain PySem.F.cmpEntry_ne
      (check_slot (i := "object.__ne__") (owner := "object") (n := "__ne__") (by decide +kernel) (by decide +kernel) (I.type.andThen (looks_mroIn X hm)) (PySem.F.cmpArgs_ne _ _)
        (ne_body (A := A.in1) X I hu1 he hf (wpAny_mono h (fun v s' hv => ?_) fun _ _ e => e))))))
    obtain ⟨b, rfl, hq⟩ := hv
    first | exact ⟨b, rfl, wpAny_pure ⟨_, rfl, hq⟩⟩ | exact ⟨b, rfl, wpAny_pure (wpAny_pure ⟨_, rfl, hq⟩)⟩ | exact ⟨b, rfl, _, rfl, hq⟩
  unfold richCompare
  simp only [oneThing_ref]
  refine wpAny_holding (wpAny_bind (wpAny_cRoomFor hu ?_))
  refine wpAny_bind (I.type.here (wpAny_bind (hb.here ?_)))
  split
  · rename_i q
    simp at q
  · refine wpAny_bind (wpAny_pure ?_)
    simp only [Bool.false_eq_true, if_false]
    refine wpAny_bind (wpAny_mono one (fun r s' z => ?_) fun _ _ e => e)
    obtain ⟨v, rfl, hq⟩ := z
    exact wpAny_pure hq
end
section
variable {X : Cx} {k : Nat} {C f : Addr} {fd : FuncData} {ps : List Str} {sp : SpG}
theorem runGA {A : Around} {pins : List (Addr × Obj)} {σ : St} {H : Hp} {s : Shared} {Q : VK} {us : List Value} {vs : List V} (F : FnG X.prog X.w X.K X.mg X.base k f fd ps sp) (hr : Room k A) (fr : A.frames = X.A.frames) (gd : A.guards = some []) (hb : Binds X.K fd ps [])
    (I : Inv X pins σ H s) (r : Vals vs us) (h : sp vs H Q) : wpAny (model X.prog X.w) A (PySem.call (.ref f) us) (EP X pins σ Q) X.xe s := by
  have hl : us.length = ps.length := r.length.symm.trans (F.len _ _ _ h)
  have bt := hb s us I.kIn (by rw [List.append_nil]; exact hl)
  rw [List.append_nil] at bt
  have e0 : Env0 X.prog X.w X.K X.mg X.base A X.stack s H := by
    have e := I.env0
    exact ⟨by rw [fr]; exact e.frames, e.mod, e.bs, e.bsz, e.funs, e.frf, e.hok, e.bare⟩
  apply wpAny_call
  refine codeAny_mono (F.run A X.stack s H ⟨us, []⟩ us vs Q hr gd e0 bt r h) ?_
  intro res s' q
  cases res with
  | error e => exact (q : False).elim
  | ok fl =>
    cases fl with
    | ret u => exact I.after q
    | next => exact (q : False).elim
    | brk => exact (q : False).elim
    | cont => exact (q : False).elim
/-- a == b, both instances of the class at C -/
def rEqI (C : Addr) (sp : SpG) : R2 := fun x y H Q => ∃ a b dx dy fs gs, x = .ref a ∧ y = .ref b ∧ H a = some (.ins C dx fs) ∧ H b = some (.ins C dy gs) ∧ sp [x, y] H (fun r H' => ∃ c, r = .bl c ∧ Q (.bl c) H')
theorem op_eqI (F : FnG X.prog X.w X.K X.mg X.base k f fd ps sp) (hr : Room k X.A) (gd : X.A.guards = some []) (hb : Binds X.K fd ps []) (hs : PySem.W.findIn X.K (.ref C) "__eq__" = some (some (.ref f))) (hf : PySem.W.isFn X.K (.ref f) = true) :
    OpR X (compareOp .Eq) (rEqI C sp) := by
  intro pins s σ H x y v u Q I rx ry hq
  obtain ⟨a, b, dx, dy, fs, gs, rfl, rfl, ha, hb', q⟩ := hq
  cases rx
  cases ry
  obtain ⟨mA, J, _⟩ := ins_get I.hok ha
  obtain ⟨mB, J', _⟩ := ins_get I.hok hb'
  obtain ⟨od, J, _⟩ := J.look
  obtain ⟨od', J', _⟩ := J'.look
  obtain ⟨m, hF⟩ := I.fr
  show wpAny (model X.prog X.w) X.A (richCompare .Eq (.ref a) (.ref b)) (EP X pins σ Q) X.xe s
  refine PySem.W.cmp_K (op := .Eq) (tb := .ref C) hr.units0 hF I.ok.mod.kin J J'.type (by simp [PySem.W.notFirst]) hs hf ?_
  refine wpAny_mono (runGA (vs := [.ref a, .ref b]) F hr rfl gd hb I (.cons rfl (.cons rfl .nil)) q) (fun r s' z => ?_) fun _ _ e => e
  obtain ⟨v', H', I', rz, c, ec, q'⟩ := z
  subst ec
  have : r = .bool c := rz
  subst this
  exact ⟨.bl c, H', I', rfl, q'⟩
/-- a != b, both instances of the class at C -/
def rNeI (C : Addr) (sp : SpG) : R2 := fun x y H Q => ∃ a b dx dy fs gs, x = .ref a ∧ y = .ref b ∧ H a = some (.ins C dx fs) ∧ H b = some (.ins C dy gs) ∧ sp [x, y] H (fun r H' => ∃ c, r = .bl c ∧ Q (.bl (!c)) H')
theorem op_neI (F : FnG X.prog X.w X.K X.mg X.base k f fd ps sp) (hr : Room (k + 1) X.A) (gd : X.A.guards = some []) (hb : Binds X.K fd ps []) (hm : PySem.W.mroIn X.K C (.type "object") = some true)
    (hn : PySem.W.findIn X.K (.ref C) "__ne__" = some (some (.builtin "object.__ne__"))) (hs : PySem.W.findIn X.K (.ref C) "__eq__" = some (some (.ref f))) (hf : PySem.W.isFn X.K (.ref f) = true) :
    OpR X (compareOp .NotEq) (rNeI C sp) := by
  intro pins s σ H x y v u Q I rx ry hq
  obtain ⟨a, b, dx, dy, fs, gs, rfl, rfl, ha, hb', q⟩ := hq
  cases rx
  cases ry
  obtain ⟨mA, J, _⟩ := ins_get I.hok ha
  obtain ⟨mB, J', _⟩ := ins_get I.hok hb'
  obtain ⟨od, J, _⟩ := J.look
  obtain ⟨od', J', _⟩ := J'.look
  show wpAny (model X.prog X.w) X.A (richCompare .NotEq (.ref a) (.ref b)) (EP X pins σ Q) X.xe s
  refine ne_own hr.units0 hr.in1.units0 I.kIn J J'.type hm hn hs hf ?_
  refine wpAny_mono (runGA (vs := [.ref a, .ref b]) (A := X.A.in1) F hr.in1 rfl gd hb I (.cons rfl (.cons rfl .nil)) q) (fun r s' z => ?_) fun _ _ e => e
  obtain ⟨v', H', I', rz, c, ec, q'⟩ := z
  subst ec
  have : r = .bool c := rz
  subst this
  exact ⟨c, rfl, .bl (!c), H', I', rfl, q'⟩
/-- len(a) of an own class -/
theorem call_lenI (F : FnG X.prog X.w X.K X.mg X.base k f fd ps sp) (hr : Room (k + 1) X.A) (gd : X.A.guards = some []) (hb : Binds X.K fd ps []) (hs : PySem.W.findIn X.K (.ref C) "__len__" = some (some (.ref f))) (hf : PySem.W.isFn X.K (.ref f) = true) :
    CallR X (.builtin "len") (fun xs H Q => ∃ a dx fs, xs = [.ref a] ∧ H a = some (.ins C dx fs) ∧ sp [.ref a] H (fun r H' => ∃ i, r = .int i ∧ (0 ≤ i ∧ i < 2 ^ 63) ∧ Q (.int i) H')) := by
  intro pins s σ H xs us Q I r h
  obtain ⟨a, dx, fs, rfl, ha, q⟩ := h
  obtain ⟨u1, rfl, r1⟩ := vals1 r
  cases (show u1 = Value.ref a from r1)
  obtain ⟨mA, J, _⟩ := ins_get I.hok ha
  obtain ⟨od, J, _⟩ := J.look
  obtain ⟨m, hF⟩ := I.fr
  refine PySem.W.len_K hF I.ok.mod.kin J hs hf ?_
  refine wpAny_mono (runGA (vs := [.ref a]) (A := X.A.in1) F hr.in1 rfl gd hb I (.cons rfl .nil) q) (fun r s' z => ?_) fun _ _ e => e
  obtain ⟨v', H', I', rz, i, ec, hb, q'⟩ := z
  subst ec
  obtain ⟨t, rfl⟩ := rz
  exact ⟨hb, ⟨.int i, H', I'.tok _, ⟨_, rfl⟩, q'⟩⟩
/-- str(a) of an own class -/
theorem call_strI (F : FnG X.prog X.w X.K X.mg X.base k f fd ps sp) (hr : Room (k + 1) X.A) (gd : X.A.guards = some []) (hb : Binds X.K fd ps []) (hs : PySem.W.findIn X.K (.ref C) "__str__" = some (some (.ref f))) (hf : PySem.W.isFn X.K (.ref f) = true) :
    CallR X (.type "str") (fun xs H Q => ∃ a dx fs, xs = [.ref a] ∧ H a = some (.ins C dx fs) ∧ sp [.ref a] H (fun r H' => ∃ x, r = .str x ∧ Q (.str x) H')) := by
  intro pins s σ H xs us Q I r h
  obtain ⟨a, dx, fs, rfl, ha, q⟩ := h
  obtain ⟨u1, rfl, r1⟩ := vals1 r
  cases (show u1 = Value.ref a from r1)
  obtain ⟨mA, J, _⟩ := ins_get I.hok ha
  obtain ⟨od, J, _⟩ := J.look
  have r2 : Room k X.A.in1.in1 := ⟨hr.hd, by have := hr.dp; show X.A.depth + 3 * k + 5 < _; omega, by have := hr.un; show X.A.units + 1 + 1 + 16 * k + 200 < _; omega⟩
  refine PySem.W.kso_call r2.units0 I.kIn J hs hf ?_
  refine wpAny_mono (runGA (vs := [.ref a]) (A := X.A.in1.in1) F r2 rfl gd hb I (.cons rfl .nil) q) (fun r s' z => ?_) fun _ _ e => e
  obtain ⟨v', H', I', rz, x, ec, q'⟩ := z
  subst ec
  obtain ⟨t, rfl⟩ := rz
  exact ⟨.str x, H', I', ⟨_, rfl⟩, q'⟩
end
def tyN (S : Sto) : D → Option String
  | .non => some "NoneType"
  | .bl _ => some "bool"
  | .int _ => some "int"
  | .str _ => some "str"
  | .tup _ => some "tuple"
  | .lst _ => some "list"
  | .dic _ _ => some "dict"
  | .loc a => match S.m a with
    | some (.lst _) => some "list"
    | some (.dK _ _) => some "dict"
    | _ => none
  | _ => none
theorem tyN_ok {K : PySem.W.Frag} {pv : List Addr} {S : Sto} {Hd H : Hp} {M : Nat} {d : D} {v : V} {n : String} (sr : SR K pv S Hd H M) (r : Rep K Hd d v) (h : tyN S d = some n) : TyX K H v (.type n) := by
  cases d with
  | non => simp only [tyN] at h; cases h; simp only [Rep] at r; subst r; exact .base .non
  | bl b => simp only [tyN] at h; cases h; simp only [Rep] at r; subst r; exact .base (.bl b)
  | int b => simp only [tyN] at h; cases h; simp only [Rep] at r; subst r; exact .base (.int b)
  | str b => simp only [tyN] at h; cases h; simp only [Rep] at r; subst r; exact .base (.str b)
  | tup xs =>
    simp only [tyN] at h; cases h
    simp only [Rep] at r
    obtain ⟨a, vs, rfl, st, _⟩ := r
    rcases Le.sqT sr.sub st with (q | ⟨o, q⟩) | ⟨o, its, n, q, c, _⟩
    · exact .base (.tup q)
    · exact .fTuple q
    · exact .kTuple q c
  | lst xs =>
    simp only [tyN] at h; cases h
    simp only [Rep] at r
    obtain ⟨a, vs, rfl, st, _⟩ := r
    rcases Le.rd sr.sub st with q | ⟨o, q⟩
    · exact .base (.lst q)
    · exact .base (.frz q)
  | dic ks ds =>
    simp only [tyN] at h; cases h
    simp only [Rep] at r
    obtain ⟨a, vs, rfl, st, _⟩ := r
    exact .base (.dK (sr.sub _ _ st))
  | loc a =>
    simp only [tyN] at h
    split at h
    · rename_i xs hm
      cases h
      simp only [Rep] at r; subst r
      obtain ⟨_, ho, e2, vs, rfl, rl⟩ := sr.sto _ _ hm
      exact .base (.lst e2)
    · rename_i ks ds hm
      cases h
      simp only [Rep] at r; subst r
      obtain ⟨_, ho, e2, vs, rfl, _⟩ := sr.sto _ _ hm
      exact .base (.dK e2)
    · cases h
  | _ => simp [tyN] at h
theorem tyx_of {K : PySem.W.Frag} {pv : List Addr} {S : Sto} {Hd H : Hp} {M : Nat} {c : Str} {d : D} {x : V} {b : Bool} (cf : ClsF K c) (sr : SR K pv S Hd H M) (r : Rep K Hd d x) (h : isiD c d S = some b) :
    ∃ t, TyX K H x t ∧ PySem.W.kitOne K t (.ref (He.ga K c)) = some b := by
  have bk : ∀ {n : String}, tyN S d = some n → n ∈ bKinds → b = false → ∃ t, TyX K H x t ∧ PySem.W.kitOne K t (.ref (He.ga K c)) = some b := fun {n} h1 h2 h3 => by
    subst h3
    exact ⟨_, tyN_ok sr r h1, cf.oth n h2⟩
  cases d with
  | non => simp only [isiD] at h; cases h; exact bk rfl (by decide) rfl
  | bl _ => simp only [isiD] at h; cases h; exact bk rfl (by decide) rfl
  | int _ => simp only [isiD] at h; cases h; exact bk rfl (by decide) rfl
  | str _ => simp only [isiD] at h; cases h; exact bk rfl (by decide) rfl
  | tup _ => simp only [isiD] at h; cases h; exact bk rfl (by decide) rfl
  | lst _ => simp only [isiD] at h; cases h; exact bk rfl (by decide) rfl
  | dic _ _ => simp only [isiD] at h; cases h; exact bk rfl (by decide) rfl
  | ty _ => simp [isiD] at h
  | scr _ => simp [isiD] at h
  | obj c' ns ds =>
    simp only [isiD] at h
    split at h
    · rename_i e
      cases h
      subst e
      simp only [Rep] at r
      obtain ⟨a, dx, vs, rfl, ea, _⟩ := r
      exact ⟨_, .base (.ins (sr.sub _ _ ea) cf.cl cf.ha cf.hn cf.ht cf.hm), cf.self⟩
    · cases h
  | loc a =>
    simp only [isiD] at h
    split at h
    · rename_i xs e; cases h; exact bk (n := "list") (by simp only [tyN, e]) (by decide) rfl
    · rename_i xs ys e; cases h; exact bk (n := "dict") (by simp only [tyN, e]) (by decide) rfl
    · rename_i c' ns ds e
      split at h
      · rename_i ec
        cases h
        subst ec
        simp only [Rep] at r
        subst r
        obtain ⟨_, ho, e2, dx, vs, rfl, _⟩ := sr.sto _ _ e
        exact ⟨_, .base (.ins e2 cf.cl cf.ha cf.hn cf.ht cf.hm), cf.self⟩
      · cases h
    · cases h
theorem isI_of {K : PySem.W.Frag} {pv : List Addr} {S : Sto} {Hd H : Hp} {M : Nat} {c : Str} {d : D} {x : V} (sr : SR K pv S Hd H M) (r : Rep K Hd d x) (h : isI c d S) :
    ∃ a dx fs, x = .ref a ∧ H a = some (.ins (He.ga K c) dx fs) ∧ ∀ n, n ∉ fieldsOf c → fs.lookup n = none := by
  have nl : ∀ {n : Str} {fs : List (Str × V)}, n ∉ fs.map (·.1) → fs.lookup n = none := fun {n fs} hn => by
    induction fs with
    | nil => rfl
    | cons q fs ih =>
      simp only [List.map_cons, List.mem_cons, not_or] at hn
      obtain ⟨m, u⟩ := q
      have : (n == m) = false := beq_eq_false_iff_ne.mpr hn.1
      simp only [List.lookup, this]
      exact ih hn.2
  rcases h with ⟨ns, ds, rfl⟩ | ⟨a, ns, ds, rfl, e⟩
  · simp only [Rep] at r
    obtain ⟨a, dx, vs, rfl, ea, cf, nf, rfl, rl⟩ := r
    exact ⟨a, dx, vs, rfl, sr.sub _ _ ea, fun n hn => nl fun q => hn (nf n q)⟩
  · simp only [Rep] at r
    subst r
    obtain ⟨_, ho, e2, dx, vs, rfl, cf, nf, rfl, rl⟩ := sr.sto _ _ e
    exact ⟨a, dx, vs, rfl, e2, fun n hn => nl fun q => hn (nf n q)⟩
theorem repl_one {K : PySem.W.Frag} {H : Hp} {ds : List D} {x : V} (h : RepL K H ds [x]) : ∃ d, ds = [d] ∧ Rep K H d x := by
  cases ds with
  | nil => simp only [RepL] at h; cases h
  | cons d ds =>
    simp only [RepL] at h
    obtain ⟨v, r, e, a, b⟩ := h
    cases e
    cases ds with
    | nil => exact ⟨d, rfl, a⟩
    | cons e ds => simp only [RepL] at b; obtain ⟨_, _, e, _⟩ := b; cases e
theorem repl_two {K : PySem.W.Frag} {H : Hp} {ds : List D} {x y : V} (h : RepL K H ds [x, y]) : ∃ d e, ds = [d, e] ∧ Rep K H d x ∧ Rep K H e y := by
  cases ds with
  | nil => simp only [RepL] at h; cases h
  | cons d ds =>
    simp only [RepL] at h
    obtain ⟨v, r, e, a, b⟩ := h
    cases e
    obtain ⟨e', rfl, b'⟩ := repl_one b
    exact ⟨d, e', rfl, a, b'⟩
/-- a thing of the table that is no def with a body: a def by its promise; a class; a method as an operator asks for it -/
inductive Prm where
  | p (f : List D → Sto → PostE → Prop) | mk (i : Nat) (frz : Bool) | al (i : Nat)
structure FDef where
  name : Str
  ps : List Str
  N : List Str
  body : List RS
  prim : Option Prm
  pc : Nat
def startE (N : List Str) (ds : List D) : En := ds.map some ++ List.replicate (N.length - ds.length) none
section
variable (T : Nat → Option FDef)
/-- calls to the depth k -/
def wC : Nat → Nat → List D → Sto → PostE → Prop
  | 0, _, _, _, _ => False
  | k + 1, f, ds, S, Q => match T f with
    | none => False
    | some d => match d.prim with
      | some (.p p) => ds.length = d.ps.length ∧ p ds S Q
      | some (.al i) => wC k i ds S Q
      | some (.mk i frz) => ∀ l, S.m l = none → wC k i (.loc l :: ds) (S.put l (.ins d.name [] [])) fun r S' => r = .non ∧ ∃ ns xs, S'.m l = some (.ins d.name ns xs) ∧ if frz = true then Q (.obj d.name ns xs) (S'.del l) else Q (.loc l) S'
      | none => ds.length = d.ps.length ∧ wSs (wC k) d.body { nx := fun _ S' => Q .non S', rt := Q } (startE d.N ds) S
def cF : Nat → Nat → Nat
  | 0, _ => 0
  | k + 1, f => match T f with
    | none => 0
    | some d => match d.prim with
      | some (.p _) => d.pc
      | some (.al i) => cF k i
      | some (.mk i _) => cF k i
      | none => cSs (cF k) d.body
def fnm (f : Nat) : Str := match T f with
  | some d => d.name
  | none => ("__debug__" : Str)
end
def spD (K : PySem.W.Frag) (sem : List D → Sto → PostE → Prop) (c : Nat) : SpG := fun vs H Q => vSem K sem c vs H Q
/-- the context of a body of the table -/
structure GX (P : Program) (w : World) (K : PySem.W.Frag) (mg : Str → Option Value) (base : Heap) (k : Nat) (X : Cx) : Prop where
  prog : X.prog = P
  w_ : X.w = w
  K_ : X.K = K
  mg_ : X.mg = mg
  base_ : X.base = base
  room : Room k X.A
  gd : X.A.guards = some []
  calm : X.calm = true
  nd : X.N.Nodup
theorem GX.amb {P : Program} {w : World} {K : PySem.W.Frag} {mg : Str → Option Value} {base : Heap} {k : Nat} {X : Cx} (g : GX P w K mg base k X) (fr : ∀ x ∈ bNames, mg x = none) (sm : SysD K) : Amb X :=
  ⟨g.calm, g.room.units, g.gd, g.room.hd, by rw [g.mg_]; exact fr, by rw [g.K_]; exact sm⟩
/-- a method of a class of the module -/
structure MAt (K : PySem.W.Frag) (mg : Str → Option Value) (c m : Str) (f : Addr) : Prop where
  eq : f = He.ma K (He.ga K c) m
  cl : ClsF K c
  me : Meth K (He.ga K c) m f
  gl : mg c = some (.ref (He.ga K c))
  nf : m ∉ fieldsOf c
def GlobAt (K : PySem.W.Frag) (mg : Str → Option Value) (x : Str) (f : Addr) : Prop := match splitDot x with
  | none => mg x = some (.ref f)
  | some (c, m) => MAt K mg c m f
theorem GlobAt.fn {K : PySem.W.Frag} {mg : Str → Option Value} {x : Str} {f : Addr} (g : GlobAt K mg x f) (h : splitDot x = none) : mg x = some (.ref f) := by
  unfold GlobAt at g; rw [h] at g; exact g
theorem GlobAt.me {K : PySem.W.Frag} {mg : Str → Option Value} {x c m : Str} {f : Addr} (g : GlobAt K mg x f) (h : splitDot x = some (c, m)) : MAt K mg c m f := by
  unfold GlobAt at g; rw [h] at g; exact g
theorem GlobAt.of {K : PySem.W.Frag} {mg : Str → Option Value} {x : Str} {f : Addr} (h : splitDot x = none) (g : mg x = some (.ref f)) : GlobAt K mg x f := by
  unfold GlobAt; rw [h]; exact g
def shN (x : Str) : Str := match splitDot x with
  | none => x
  | some (_, m) => m
/-- how a def of the table stands in the text -/
structure FAt (K : PySem.W.Frag) (mg : Str → Option Value) (d : FDef) (f : Addr) (fd : FuncData) (params : Arguments) (body : List Stmt) (scope : Scope) : Prop where
  fun_ : FunD K (shN d.name) d.name params body scope [] [] f fd
  glob : GlobAt K mg d.name f
  binds : Binds K fd d.ps []
  sc : FnScope d.N d.ps scope
/-- how a constant of the module stands -/
structure CAt (K : PySem.W.Frag) (mg : Str → Option Value) (d : FDef) : Prop where
  val : ∃ (u : Value) (v : V) (dd : D), mg d.name = some u ∧ RelV v u ∧ (∀ H, Rep K H dd v) ∧ d.prim = some (.p (fun _ S Q => Q dd S)) ∧ ∀ xs, dd = .tup xs → ∃ (a : Addr) (o : Obj), u = .ref a ∧ K.lookup a = some o ∧ o.cls = .type "tuple" ∧ o.dict = none
  pc : d.pc = 0
/-- how a class stands, made by the table's def i -/
structure KAt (K : PySem.W.Frag) (mg : Str → Option Value) (T : Nat → Option FDef) (d : FDef) (i : Nat) : Prop where
  nm : splitDot d.name = none
  gl : mg d.name = some (.ref (He.ga K d.name))
  cl : ClsF K d.name
  mkr : Mk K (He.ga K d.name) (He.ma K (He.ga K d.name) "__init__")
  lt : i < AB
  it : ∃ di x, T i = some di ∧ splitDot di.name = some (d.name, ("__init__" : Str)) ∧ di.ps = x :: d.ps ∧ ∀ j z, di.prim ≠ some (.mk j z)
theorem FAt.inj {K : PySem.W.Frag} {mg : Str → Option Value} {d : FDef} {a a' : Addr} {fd fd' : FuncData} {p p' : Arguments} {b b' : List Stmt} {s s' : Scope} (x : FAt K mg d a fd p b s) (y : FAt K mg d a' fd' p' b' s') : a = a' ∧ fd = fd' := by
  have e : a = a' := by
    cases h : splitDot d.name with
    | none =>
      have := (x.glob.fn h).symm.trans (y.glob.fn h)
      cases this; rfl
    | some q =>
      obtain ⟨c, m⟩ := q
      exact (x.glob.me h).eq.trans (y.glob.me h).eq.symm
  subst e
  obtain ⟨_, _, _, _, _, _, _, _, _, _, _, l1, _⟩ := x.fun_.ex
  obtain ⟨_, _, _, _, _, _, _, _, _, _, _, l2, _⟩ := y.fun_.ex
  rw [l1] at l2
  cases l2
  exact ⟨rfl, rfl⟩
theorem enStart {K : PySem.W.Frag} {Hd : Hp} {N : List Str} {ds : List D} {vs : List V} (r : RepL K Hd ds vs) : EnR K Hd (startE N ds) (L2.start N vs) := by
  have hl := r.length
  refine ⟨by unfold startE L2.start; simp [hl], fun i d e => ?_⟩
  unfold startE at e
  unfold L2.start
  by_cases hi : i < ds.length
  · rw [List.getElem?_append_left (by simpa using hi), List.getElem?_map] at e
    rw [List.getElem?_append_left (by simpa [hl] using hi), List.getElem?_map]
    cases q : ds[i]? with
    | none => rw [q] at e; cases e
    | some d' =>
      rw [q] at e
      cases e
      obtain ⟨v, hv, rd⟩ := r.get q
      exact ⟨v, by rw [hv]; rfl, rd⟩
  · rw [List.getElem?_append_right (by simpa using hi), List.getElem?_replicate] at e
    split at e <;> cases e
/-- args, then nothing that could be -/
theorem pe_callF {X : Cx} {x : Str} {p pos : Pos} {es : List Expr} {ts : List TE} {u : Value} (hg : Gl X x) (hm : X.mg x = some u) (hk : PySem.W.keepIn X.K u = true) (hx : okName x = true) (pe : PEs X es ts) :
    PE X (.Call (.Name x p) es [] pos) (fun σ H Q => tAll ts σ H fun vs H1 => False) := by
  obtain ⟨d1, _, _⟩ := okName_d hx
  refine ⟨fun pins s σ H Q I h => ?_⟩
  apply wpAny_Call_Name_kw
  refine ld_glob I hg hm ?_ d1
  cases pe with
  | nil => exact False.elim h
  | cons n m pe1 pr =>
    have pa := (PEs.cons n m pe1 pr).pa
    refine PySem.W.callWith_K (h₀ := X.base) I.ok.mod.kin hk ?_ (star_cons n) (pr.plain pos)
    refine thn (pa.run pos pins s σ H _ I h) ?_
    intro us s1 hu
    obtain ⟨vs, H1, I1, r, q⟩ := hu
    exact False.elim q
/-- from what the reading of a class's call says to what its __init__ promises -/
theorem mk_imp {K : PySem.W.Frag} {T : Nat → Option FDef} {k f i : Nat} {d : FDef} {frz : Bool} {vs : List V} {H1 : Hp} {Q : VK} (hT : T f = some d) (hp : d.prim = some (.mk i frz)) (cf : ClsF K d.name)
    (q : vSem K (wC T (k + 1) f) (cF T (k + 1) f) vs H1 Q) (x dx : Addr) (h1 : H1 x = none) (h2 : H1 dx = none) (ne : dx ≠ x) :
    spD K (wC T k i) (cF T k i) (.ref x :: vs) (upd (upd H1 dx (.own x)) x (.ins (He.ga K d.name) dx [])) (fun v H2 => v = .non ∧ Q (.ref x) H2) := by
  obtain ⟨pv, ds, S, Hd, M, Qd, rl, sr, hc, w, fin⟩ := q
  have eC : ∀ Q, wC T (k + 1) f ds S Q = (∀ l, S.m l = none → wC T k i (.loc l :: ds) (S.put l (.ins d.name [] [])) fun r S' => r = .non ∧ ∃ ns xs, S'.m l = some (.ins d.name ns xs) ∧ if frz = true then Q (.obj d.name ns xs) (S'.del l) else Q (.loc l) S') := fun Q => by
    simp only [wC, hT, hp]
  have eF : cF T (k + 1) f = cF T k i := by simp only [cF, hT, hp]
  rw [eC] at w
  rw [eF] at hc fin
  have j1 := sr.junk (ho := .own x) h2
  have h1' : upd H1 dx (HO.own x) x = none := by rw [upd_ne (Ne.symm ne)]; exact h1
  have rO : RepO K Hd (.ins d.name [] []) (.ins (He.ga K d.name) dx []) := ⟨dx, [], rfl, cf, fun n hn => (by cases hn), rfl, .nil⟩
  have j2 := j1.own (o := .ins d.name [] []) h1' rO
  refine ⟨pv, .loc x :: ds, _, Hd, M, _, .cons (by simp only [Rep]) rl, j2, hc, w x (sr.freshS h1), fun r S' Hd' H' v mv sr' rd q => ?_⟩
  obtain ⟨rfl, ns, xs, hm, q⟩ := q
  simp only [Rep] at rd
  refine ⟨rd, ?_⟩
  have np1 := sr.freshP h1
  have np2 := sr.freshP h2
  have mv0 : Mv pv Hd H1 Hd' H' := ⟨mv.le, fun b hb => by
    have n1 : b ≠ x := fun e => np1 (by rw [← e]; exact hb)
    have n2 : b ≠ dx := fun e => np2 (by rw [← e]; exact hb)
    rw [mv.pr b hb, upd_ne n1, upd_ne n2]⟩
  cases frz with
  | true =>
    simp only [if_true] at q
    obtain ⟨ho, e1, e2, e3, e4⟩ := sr'.freeze hm
    obtain ⟨dx', us, rfl, cf', nf, en, rl'⟩ := e2
    refine fin _ _ _ _ (.ref x) ⟨mv0.le.trans e4, mv0.pr⟩ e3 ?_ q
    simp only [Rep]
    exact ⟨x, dx', us, rfl, upd_same, cf', nf, en, rl'.mono e4⟩
  | false =>
    simp only [Bool.false_eq_true, if_false] at q
    exact fin _ _ _ _ (.ref x) mv0 sr' (by simp only [Rep]) q
/-- the table stands in the text -/
structure TabOk (P : Program) (w : World) (K : PySem.W.Frag) (mg : Str → Option Value) (base : Heap) (T : Nat → Option FDef) (n : Nat) : Prop where
  fr : ∀ x ∈ bNames, mg x = none
  sm : SysD K
  hk : ∀ f d, GB ≤ f → T f = some d → CAt K mg d
  ha : ∀ f d, AB ≤ f → f < GB → T f = some d → ∃ i di, i < AB ∧ T i = some di ∧ d.prim = some (.al i) ∧ d.name = di.name
  hb : ∀ f d, f < AB → T f = some d → (∃ i frz, d.prim = some (.mk i frz) ∧ KAt K mg T d i) ∨ ∃ a fd params body scope, FAt K mg d a fd params body scope ∧
    ((d.prim = none ∧ ∀ k < n, mSs (fnm T) (cF T k) d.N d.body scope body = true) ∨ ∃ p, d.prim = some (.p p) ∧ FnG P w K mg base 1 a fd d.ps (spD K (fun ds S Q => ds.length = d.ps.length ∧ p ds S Q) d.pc))
def Keeps (P : Program) (w : World) (K : PySem.W.Frag) (mg : Str → Option Value) (base : Heap) (T : Nat → Option FDef) (k : Nat) : Prop :=
  ∀ f d, f < AB → T f = some d → (∀ j z, d.prim ≠ some (.mk j z)) → ∃ a fd, (∃ params body scope, FAt K mg d a fd params body scope) ∧ FnG P w K mg base k a fd d.ps (spD K (wC T k f) (cF T k f))
section
variable {P : Program} {w : World} {K : PySem.W.Frag} {mg : Str → Option Value} {base : Heap} {T : Nat → Option FDef} {n : Nat}
theorem dbg_split : splitDot ("__debug__" : Str) = none := by decide +kernel
/-- an entry of that name is there -/
theorem fnm_some {f : Nat} {c m : Str} (h : splitDot (fnm T f) = some (c, m)) : ∃ d, T f = some d ∧ fnm T f = d.name := by
  cases hT : T f with
  | none =>
    have : fnm T f = ("__debug__" : Str) := by simp only [fnm, hT]
    rw [this, dbg_split] at h; cases h
  | some d => exact ⟨d, rfl, by simp only [fnm, hT]⟩
theorem fnm_ok {f : Nat} (h : okName (fnm T f) = true) : ∃ d, T f = some d ∧ fnm T f = d.name := by
  cases hT : T f with
  | none =>
    have : fnm T f = ("__debug__" : Str) := by simp only [fnm, hT]
    rw [this] at h; exact absurd h (by decide +kernel)
  | some d => exact ⟨d, rfl, by simp only [fnm, hT]⟩
/-- a method of the table -/
theorem meth_ent (B : TabOk P w K mg base T n) {f : Nat} {d : FDef} {c m : Str} (hlt : f < AB) (hT : T f = some d) (h : splitDot d.name = some (c, m)) : ∀ j z, d.prim ≠ some (.mk j z) := by
  intro j z e
  rcases B.hb f d hlt hT with ⟨i, frz, hp, k⟩ | ⟨a, fd, params, body, scope, at_, ⟨hp, _⟩ | ⟨p, hp, _⟩⟩
  · rw [k.nm] at h; cases h
  · rw [hp] at e; cases e
  · rw [hp] at e; cases e
theorem meth_at (B : TabOk P w K mg base T n) {f : Nat} {d : FDef} {c m : Str} (hlt : f < AB) (hT : T f = some d) (h : splitDot d.name = some (c, m)) : ∃ a, MAt K mg c m a := by
  rcases B.hb f d hlt hT with ⟨i, frz, hp, k⟩ | ⟨a, fd, params, body, scope, at_, _⟩
  · rw [k.nm] at h; cases h
  · exact ⟨a, at_.glob.me h⟩
/-- an operator's entry: none at the depth 0, else the method one less deep -/
theorem al_ent (B : TabOk P w K mg base T n) {k f : Nat} (h : ∀ j ≤ k, Keeps P w K mg base T j) {c m : Str} (h1 : AB ≤ f) (h2 : f < GB) (hs : splitDot (fnm T f) = some (c, m)) :
    (k = 0) ∨ ∃ j a fd ps i, k = j + 1 ∧ MAt K mg c m a ∧ Binds K fd ps [] ∧ FnG P w K mg base j a fd ps (spD K (wC T j i) (cF T j i)) ∧ (∀ ds S Q, wC T k f ds S Q = wC T j i ds S Q) ∧ cF T k f = cF T j i := by
  cases k with
  | zero => exact .inl rfl
  | succ j =>
    obtain ⟨d, hT, en⟩ := fnm_some hs
    rw [en] at hs
    obtain ⟨i, di, hi, hTi, hp, hn⟩ := B.ha f d h1 h2 hT
    rw [hn] at hs
    obtain ⟨a, fd, ⟨params, body, scope, at_⟩, F⟩ := h j (by omega) i di hi hTi (meth_ent B hi hTi hs)
    exact .inr ⟨j, a, fd, _, i, rfl, at_.glob.me hs, at_.binds, F, fun ds S Q => by simp only [wC, hT, hp], by simp only [cF, hT, hp]⟩
theorem eqI_op (B : TabOk P w K mg base T n) {k f : Nat} (h : ∀ j ≤ k, Keeps P w K mg base T j) {c : Str} (h1 : AB ≤ f) (h2 : f < GB) (hs : splitDot (fnm T f) = some (c, ("__eq__" : Str))) {X : Cx} (g : GX P w K mg base k X) :
    OpR X (compareOp .Eq) (fun x y H Q => vSemB K (fun ds S Qd => xend .eq c ds S ∧ wC T k f ds S (xpostT .eq Qd)) (cF T k f) [x, y] H fun b H' => Q (.bl b) H') := by
  rcases al_ent B h h1 h2 hs with rfl | ⟨j, a, fd, ps, i, rfl, mt, bd, F, eC, eF⟩
  · intro pins s σ H x y v u Q I rx ry q
    obtain ⟨pv, ds, S, Hd, M, Qd, rl, sr, hc, ⟨_, w⟩, fin⟩ := q
    exact (show False from w).elim
  · have F' : FnG X.prog X.w X.K X.mg X.base j a fd ps (spD K (wC T j i) (cF T j i)) := by rw [g.prog, g.w_, g.K_, g.mg_, g.base_]; exact F
    intro pins s σ H x y v u Q I rx ry q
    refine op_eqI (C := He.ga K c) F' (g.room.mono (by omega)) g.gd (by rw [g.K_]; exact bd) (by rw [g.K_]; exact mt.me.at_) (by rw [g.K_]; exact mt.me.fn) pins s σ H x y v u Q I rx ry ?_
    obtain ⟨pv, ds, S, Hd, M, Qd, rl, sr, hc, ⟨xe, w⟩, fin⟩ := q
    obtain ⟨d, e, rfl, r1, r2⟩ := repl_two rl
    obtain ⟨p1, dx, fs, rfl, ea, _⟩ := isI_of sr r1 (xe d (by simp))
    obtain ⟨p2, dy, gs, rfl, eb, _⟩ := isI_of sr r2 (xe e (by simp))
    rw [eC] at w
    rw [eF] at hc fin
    refine ⟨p1, p2, dx, dy, fs, gs, rfl, rfl, ea, eb, pv, _, S, Hd, M, _, rl, sr, hc, w, fun r S' Hd' H' v mv sr' rd q => ?_⟩
    obtain ⟨b, rfl, q⟩ := q
    simp only [Rep] at rd
    subst rd
    exact ⟨b, rfl, fin b S' Hd' H' mv sr' q⟩
theorem neI_op (B : TabOk P w K mg base T n) {k f : Nat} (h : ∀ j ≤ k, Keeps P w K mg base T j) {c : Str} (h1 : AB ≤ f) (h2 : f < GB) (hs : splitDot (fnm T f) = some (c, ("__eq__" : Str))) {X : Cx} (g : GX P w K mg base k X) :
    OpR X (compareOp .NotEq) (fun x y H Q => vSemB K (fun ds S Qd => xend .ne c ds S ∧ wC T k f ds S (xpostT .ne Qd)) (cF T k f) [x, y] H fun b H' => Q (.bl b) H') := by
  rcases al_ent B h h1 h2 hs with rfl | ⟨j, a, fd, ps, i, rfl, mt, bd, F, eC, eF⟩
  · intro pins s σ H x y v u Q I rx ry q
    obtain ⟨pv, ds, S, Hd, M, Qd, rl, sr, hc, ⟨_, w⟩, fin⟩ := q
    exact (show False from w).elim
  · have F' : FnG X.prog X.w X.K X.mg X.base j a fd ps (spD K (wC T j i) (cF T j i)) := by rw [g.prog, g.w_, g.K_, g.mg_, g.base_]; exact F
    intro pins s σ H x y v u Q I rx ry q
    refine op_neI (C := He.ga K c) F' g.room g.gd (by rw [g.K_]; exact bd) (by rw [g.K_]; exact mt.cl.hm) (by rw [g.K_]; exact mt.cl.ne) (by rw [g.K_]; exact mt.me.at_) (by rw [g.K_]; exact mt.me.fn) pins s σ H x y v u Q I rx ry ?_
    obtain ⟨pv, ds, S, Hd, M, Qd, rl, sr, hc, ⟨xe, w⟩, fin⟩ := q
    obtain ⟨d, e, rfl, r1, r2⟩ := repl_two rl
    obtain ⟨p1, dx, fs, rfl, ea, _⟩ := isI_of sr r1 (xe d (by simp))
    obtain ⟨p2, dy, gs, rfl, eb, _⟩ := isI_of sr r2 (xe e (by simp))
    rw [eC] at w
    rw [eF] at hc fin
    refine ⟨p1, p2, dx, dy, fs, gs, rfl, rfl, ea, eb, pv, _, S, Hd, M, _, rl, sr, hc, w, fun r S' Hd' H' v mv sr' rd q => ?_⟩
    obtain ⟨b, rfl, q⟩ := q
    simp only [Rep] at rd
    subst rd
    exact ⟨b, rfl, fin (!b) S' Hd' H' mv sr' q⟩
theorem lenI_call (B : TabOk P w K mg base T n) {k f : Nat} (h : ∀ j ≤ k, Keeps P w K mg base T j) {c : Str} (h1 : AB ≤ f) (h2 : f < GB) (hs : splitDot (fnm T f) = some (c, ("__len__" : Str))) {X : Cx} (g : GX P w K mg base k X) :
    CallR X (.builtin "len") (fun xs H Q => ∃ x, xs = [x] ∧ vSem K (fun ds S Qd => xend .len c ds S ∧ wC T k f ds S (xpost .len Qd)) (cF T k f) [x] H Q) := by
  rcases al_ent B h h1 h2 hs with rfl | ⟨j, a, fd, ps, i, rfl, mt, bd, F, eC, eF⟩
  · intro pins s σ H xs us Q I r q
    obtain ⟨x, rfl, pv, ds, S, Hd, M, Qd, rl, sr, hc, ⟨_, w⟩, fin⟩ := q
    exact (show False from w).elim
  · have F' : FnG X.prog X.w X.K X.mg X.base j a fd ps (spD K (wC T j i) (cF T j i)) := by rw [g.prog, g.w_, g.K_, g.mg_, g.base_]; exact F
    intro pins s σ H xs us Q I r q
    refine call_lenI (C := He.ga K c) F' g.room g.gd (by rw [g.K_]; exact bd) (by rw [g.K_]; exact mt.me.at_) (by rw [g.K_]; exact mt.me.fn) pins s σ H xs us Q I r ?_
    obtain ⟨x, rfl, pv, ds, S, Hd, M, Qd, rl, sr, hc, ⟨xe, w⟩, fin⟩ := q
    obtain ⟨d, rfl, r1⟩ := repl_one rl
    obtain ⟨p1, dx, fs, rfl, ea, _⟩ := isI_of sr r1 (xe d (by simp))
    rw [eC] at w
    rw [eF] at hc fin
    refine ⟨p1, dx, fs, rfl, ea, pv, _, S, Hd, M, _, rl, sr, hc, w, fun r S' Hd' H' v mv sr' rd q => ?_⟩
    obtain ⟨b, rfl, hb, q⟩ := q
    have := fin (.int b) S' Hd' H' v mv sr' rd q
    simp only [Rep] at rd
    subst rd
    exact ⟨b, rfl, hb, this⟩
theorem strI_call (B : TabOk P w K mg base T n) {k f : Nat} (h : ∀ j ≤ k, Keeps P w K mg base T j) {c : Str} (h1 : AB ≤ f) (h2 : f < GB) (hs : splitDot (fnm T f) = some (c, ("__str__" : Str))) {X : Cx} (g : GX P w K mg base k X) :
    CallR X (.type "str") (fun xs H Q => ∃ x, xs = [x] ∧ vSem K (fun ds S Qd => xend .str c ds S ∧ wC T k f ds S (xpost .str Qd)) (cF T k f) [x] H Q) := by
  rcases al_ent B h h1 h2 hs with rfl | ⟨j, a, fd, ps, i, rfl, mt, bd, F, eC, eF⟩
  · intro pins s σ H xs us Q I r q
    obtain ⟨x, rfl, pv, ds, S, Hd, M, Qd, rl, sr, hc, ⟨_, w⟩, fin⟩ := q
    exact (show False from w).elim
  · have F' : FnG X.prog X.w X.K X.mg X.base j a fd ps (spD K (wC T j i) (cF T j i)) := by rw [g.prog, g.w_, g.K_, g.mg_, g.base_]; exact F
    intro pins s σ H xs us Q I r q
    refine call_strI (C := He.ga K c) F' g.room g.gd (by rw [g.K_]; exact bd) (by rw [g.K_]; exact mt.me.at_) (by rw [g.K_]; exact mt.me.fn) pins s σ H xs us Q I r ?_
    obtain ⟨x, rfl, pv, ds, S, Hd, M, Qd, rl, sr, hc, ⟨xe, w⟩, fin⟩ := q
    obtain ⟨d, rfl, r1⟩ := repl_one rl
    obtain ⟨p1, dx, fs, rfl, ea, _⟩ := isI_of sr r1 (xe d (by simp))
    rw [eC] at w
    rw [eF] at hc fin
    refine ⟨p1, dx, fs, rfl, ea, pv, _, S, Hd, M, _, rl, sr, hc, w, fun r S' Hd' H' v mv sr' rd q => ?_⟩
    obtain ⟨b, rfl, q⟩ := q
    have := fin (.str b) S' Hd' H' v mv sr' rd q
    simp only [Rep] at rd
    subst rd
    exact ⟨b, rfl, this⟩
/-- the parts of a method's call, of an operator's -/
theorem xn_parts {k : XK} {m : Str} {sc : Scope} {e o : Expr} {es : List Expr} (h : xshape k m sc e = some (o, es)) :
    (k = .om ∧ ∃ apos pos, e = .Call (.Attribute o m apos) es [] pos ∧ notSuper o = true ∧ es.length < 20 ∧ (apos.endLine == pos.line) = true) ∨
    (k = .eq ∧ m = ("__eq__" : Str) ∧ ∃ b pos, e = .Compare o [.Eq] [b] pos ∧ es = [b] ∧ behindInMarks .Eq b = false) ∨
    (k = .ne ∧ m = ("__eq__" : Str) ∧ ∃ b pos, e = .Compare o [.NotEq] [b] pos ∧ es = [b] ∧ behindInMarks .NotEq b = false) ∨
    (k = .len ∧ m = ("__len__" : Str) ∧ ∃ p pos, e = .Call (.Name ("len" : Str) p) [o] [] pos ∧ es = [] ∧ glB sc ("len" : Str) = true ∧ notStar o = true) ∨
    (k = .str ∧ m = ("__str__" : Str) ∧ ∃ p pos, e = .Call (.Name ("str" : Str) p) [o] [] pos ∧ es = [] ∧ glB sc ("str" : Str) = true ∧ notStar o = true) := by
  unfold xshape at h
  split at h
  · split at h
    · rename_i c
      simp only [Bool.and_eq_true, decide_eq_true_eq] at c
      obtain ⟨rfl, c2, c3, c4⟩ := c
      cases h
      exact .inl ⟨rfl, _, _, rfl, c2, c3, c4⟩
    · cases h
  · split at h
    · rename_i c
      simp only [Bool.and_eq_true, decide_eq_true_eq, Bool.not_eq_true'] at c
      cases h
      exact .inr (.inl ⟨rfl, c.1, _, _, rfl, rfl, c.2⟩)
    · cases h
  · split at h
    · rename_i c
      simp only [Bool.and_eq_true, decide_eq_true_eq, Bool.not_eq_true'] at c
      cases h
      exact .inr (.inr (.inl ⟨rfl, c.1, _, _, rfl, rfl, c.2⟩))
    · cases h
  · split at h
    · rename_i c
      simp only [Bool.and_eq_true, decide_eq_true_eq] at c
      obtain ⟨rfl, c4, c2, c3⟩ := c
      cases h
      exact .inr (.inr (.inr (.inl ⟨rfl, c2, _, _, rfl, rfl, c3, c4⟩)))
    · cases h
  · split at h
    · rename_i c
      simp only [Bool.and_eq_true, decide_eq_true_eq] at c
      obtain ⟨rfl, c4, c2, c3⟩ := c
      cases h
      exact .inr (.inr (.inr (.inr ⟨rfl, c2, _, _, rfl, rfl, c3, c4⟩)))
    · cases h
  · cases h
theorem xrng_op {k : XK} {f : Nat} (h : xrng k f = true) (hk : k ≠ .om) : AB ≤ f ∧ f < GB := by
  cases k <;> first | exact absurd rfl hk | (simp only [xrng, Bool.and_eq_true, decide_eq_true_eq] at h; exact h)
end
section
variable {P : Program} {w : World} {K : PySem.W.Frag} {mg : Str → Option Value} {base : Heap} {T : Nat → Option FDef} {n : Nat}
theorem xn_pe (B : TabOk P w K mg base T n) {k : Nat} (h : ∀ j ≤ k, Keeps P w K mg base T j) (X : Cx) (kk : XK) (c m : Str) (f : Nat) (e o : Expr) (es : List Expr) (to : TE) (ts : List TE) (g : GX P w K mg base k X) (hr : xrng kk f = true)
    (hs : splitDot (fnm T f) = some (c, m)) (hx : xshape kk m X.env.scope e = some (o, es)) (po : PE X o to) (mo : MonoE to) (ps : PEs X es ts) : PE X e (tXn X.K kk c (wC T k f) (cF T k f) to ts) := by
  have eK := g.K_
  rcases xn_parts hx with ⟨rfl, apos, pos, rfl, x1, x2, x3⟩ | ⟨rfl, rfl, b, pos, rfl, rfl, x1⟩ | ⟨rfl, rfl, b, pos, rfl, rfl, x1⟩ | ⟨rfl, rfl, p, pos, rfl, rfl, x1, x2⟩ | ⟨rfl, rfl, p, pos, rfl, rfl, x1, x2⟩
  · have hlt : f < AB := by simpa [xrng] using hr
    obtain ⟨d, hT, en⟩ := fnm_some hs
    rw [en] at hs
    obtain ⟨a, fd, ⟨params, body, scope, at_⟩, F⟩ := h k (Nat.le_refl k) f d hlt hT (meth_ent B hlt hT hs)
    have mt := at_.glob.me hs
    have F' : FnG X.prog X.w X.K X.mg X.base k a fd d.ps (spD K (wC T k f) (cF T k f)) := by rw [g.prog, g.w_, g.K_, g.mg_, g.base_]; exact F
    refine (pe_methG po (super_base x1) x2 x3 (C := He.ga K c) (by rw [eK]; exact mt.cl.cl) (by rw [eK]; exact mt.me) F' g.room g.gd (by rw [eK]; exact at_.binds) ps).of fun σ H Q q => ?_
    refine mo _ _ _ _ (fun x H1 q => ?_) q
    obtain ⟨⟨pv, d', S, Hd, M, r, sr, hc⟩, q⟩ := q
    rw [eK] at r sr
    obtain ⟨p1, dx, fs, rfl, ea, nl⟩ := isI_of sr r hc
    refine ⟨⟨p1, dx, fs, rfl, ea, nl m mt.nf⟩, ps.mono (fun vs H2 q => ?_) q⟩
    obtain ⟨pv2, ds, S2, Hd2, M2, Qd, rl, sr2, hc2, ⟨_, w'⟩, fin⟩ := q
    rw [eK] at rl sr2 fin
    exact ⟨pv2, ds, S2, Hd2, M2, Qd, rl, sr2, hc2, w', fin⟩
  · obtain ⟨r1, r2⟩ := xrng_op hr (fun z => nomatch z)
    cases ps with
    | cons n1 m1 p1 pr =>
      cases pr
      refine (pe_cmpR (eqI_op B h r1 r2 hs g) po p1 x1).of fun σ H Q q => ?_
      refine mo _ _ _ _ (fun x H1 q => ?_) q
      refine m1 _ _ _ _ (fun y H2 q => ?_) q.2
      rw [eK] at q
      obtain ⟨pv, ds, S, Hd, M, Qd, rl, sr, hc, ⟨xe, w'⟩, fin⟩ := q
      exact ⟨pv, ds, S, Hd, M, fun b S' => Qd (.bl b) S', rl, sr, hc, ⟨xe, w'⟩, fun b S' Hd' H' mv sr' q => fin (.bl b) S' Hd' H' (.bl b) mv sr' (by simp only [Rep]) q⟩
  · obtain ⟨r1, r2⟩ := xrng_op hr (fun z => nomatch z)
    cases ps with
    | cons n1 m1 p1 pr =>
      cases pr
      refine (pe_cmpR (neI_op B h r1 r2 hs g) po p1 x1).of fun σ H Q q => ?_
      refine mo _ _ _ _ (fun x H1 q => ?_) q
      refine m1 _ _ _ _ (fun y H2 q => ?_) q.2
      rw [eK] at q
      obtain ⟨pv, ds, S, Hd, M, Qd, rl, sr, hc, ⟨xe, w'⟩, fin⟩ := q
      exact ⟨pv, ds, S, Hd, M, fun b S' => Qd (.bl b) S', rl, sr, hc, ⟨xe, w'⟩, fun b S' Hd' H' mv sr' q => fin (.bl b) S' Hd' H' (.bl b) mv sr' (by simp only [Rep]) q⟩
  · obtain ⟨r1, r2⟩ := xrng_op hr (fun z => nomatch z)
    cases ps
    have ns : starEach [o] X.env = (false, eval o X.env) :: starEach [] X.env := star_cons x2
    refine (pe_callB (lenI_call B h r1 r2 hs g) (glB_ok x1) (by rw [g.mg_]; exact B.fr _ (by decide +kernel)) (by decide +kernel) (pa_cons po pa_nil ns) (by decide +kernel) (by decide +kernel) ns rfl).of fun σ H Q q => ?_
    refine mo _ _ _ _ (fun x H1 q => ?_) q
    have q2 := q.2
    rw [eK] at q2
    exact ⟨x, rfl, q2⟩
  · obtain ⟨r1, r2⟩ := xrng_op hr (fun z => nomatch z)
    cases ps
    have ns : starEach [o] X.env = (false, eval o X.env) :: starEach [] X.env := star_cons x2
    refine (pe_callTy (strI_call B h r1 r2 hs g) (glB_ok x1) (by rw [g.mg_]; exact B.fr _ (by decide +kernel)) (by decide +kernel) (pa_cons po pa_nil ns) (by decide +kernel) (by decide +kernel) ns rfl).of fun σ H Q q => ?_
    refine mo _ _ _ _ (fun x H1 q => ?_) q
    have q2 := q.2
    rw [eK] at q2
    exact ⟨x, rfl, q2⟩
theorem xn_pt (B : TabOk P w K mg base T n) {k : Nat} (h : ∀ j ≤ k, Keeps P w K mg base T j) (X : Cx) (kk : XK) (c m : Str) (f : Nat) (e o : Expr) (es : List Expr) (to : TE) (ts : List TE) (g : GX P w K mg base k X) (hr : xrng kk f = true)
    (hs : splitDot (fnm T f) = some (c, m)) (hx : xshape kk m X.env.scope e = some (o, es)) (po : PE X o to) (mo : MonoE to) (ps : PEs X es ts) : PT X e (tXnT X.K kk c (wC T k f) (cF T k f) to ts) := by
  have eK := g.K_
  have pe := xn_pe B h X kk c m f e o es to ts g hr hs hx po mo ps
  rcases xn_parts hx with ⟨rfl, apos, pos, rfl, x1, x2, x3⟩ | ⟨rfl, rfl, b, pos, rfl, rfl, x1⟩ | ⟨rfl, rfl, b, pos, rfl, rfl, x1⟩ | ⟨rfl, rfl, p, pos, rfl, rfl, x1, x2⟩ | ⟨rfl, rfl, p, pos, rfl, rfl, x1, x2⟩
  · refine (pt_truth pe fun _ => rfl).of fun σ H Q q => ?_
    refine mo _ _ _ _ (fun x H1 q => ?_) q
    refine ⟨q.1, ps.mono (fun vs H2 q => ?_) q.2⟩
    obtain ⟨pv, ds, S, Hd, M, Qd, rl, sr, hc, ⟨xe, w'⟩, fin⟩ := q
    refine ⟨pv, ds, S, Hd, M, _, rl, sr, hc, ⟨xe, w'⟩, fun d S' Hd' H' v mv sr' rd q => ?_⟩
    obtain ⟨b, hb, q⟩ := q
    exact ⟨b, truV_of sr' rd hb, fin b S' Hd' H' mv sr' q⟩
  · obtain ⟨r1, r2⟩ := xrng_op hr (fun z => nomatch z)
    cases ps with
    | cons n1 m1 p1 pr =>
      cases pr
      refine (pt_cmpR (eqI_op B h r1 r2 hs g) po p1 x1).of fun σ H Q q => ?_
      refine mo _ _ _ _ (fun x H1 q => ?_) q
      refine m1 _ _ _ _ (fun y H2 q => ?_) q.2
      rw [eK] at q
      obtain ⟨pv, ds, S, Hd, M, Qd, rl, sr, hc, w', fin⟩ := q
      exact ⟨pv, ds, S, Hd, M, Qd, rl, sr, hc, w', fun b S' Hd' H' mv sr' q => ⟨b, rfl, fin b S' Hd' H' mv sr' q⟩⟩
  · obtain ⟨r1, r2⟩ := xrng_op hr (fun z => nomatch z)
    cases ps with
    | cons n1 m1 p1 pr =>
      cases pr
      refine (pt_cmpR (neI_op B h r1 r2 hs g) po p1 x1).of fun σ H Q q => ?_
      refine mo _ _ _ _ (fun x H1 q => ?_) q
      refine m1 _ _ _ _ (fun y H2 q => ?_) q.2
      rw [eK] at q
      obtain ⟨pv, ds, S, Hd, M, Qd, rl, sr, hc, w', fin⟩ := q
      exact ⟨pv, ds, S, Hd, M, Qd, rl, sr, hc, w', fun b S' Hd' H' mv sr' q => ⟨b, rfl, fin b S' Hd' H' mv sr' q⟩⟩
  · refine (pt_truth pe fun _ => rfl).of fun σ H Q q => ?_
    refine mo _ _ _ _ (fun x H1 q => ?_) q
    refine ⟨q.1, ps.mono (fun vs H2 q => ?_) q.2⟩
    obtain ⟨pv, ds, S, Hd, M, Qd, rl, sr, hc, ⟨xe, w'⟩, fin⟩ := q
    refine ⟨pv, ds, S, Hd, M, fun z S => ∃ i, z = .int i ∧ Qd (i != 0) S, rl, sr, hc, ⟨xe, ?_⟩, fun d S' Hd' H' v mv sr' rd q => ?_⟩
    · have e : xpost .len (fun z S => ∃ i, z = D.int i ∧ Qd (i != 0) S) = xpostT .len Qd := by
        funext r S
        refine propext ⟨fun ⟨i, e1, e2, j, e3, e4⟩ => ?_, fun ⟨i, e1, e2, e4⟩ => ⟨i, e1, e2, i, rfl, e4⟩⟩
        cases e3
        exact ⟨i, e1, e2, e4⟩
      rw [e]; exact w'
    · obtain ⟨i, rfl, q⟩ := q
      exact ⟨_, truV_of sr' rd rfl, fin _ S' Hd' H' mv sr' q⟩
  · refine (pt_truth pe fun _ => rfl).of fun σ H Q q => ?_
    refine mo _ _ _ _ (fun x H1 q => ?_) q
    refine ⟨q.1, ps.mono (fun vs H2 q => ?_) q.2⟩
    obtain ⟨pv, ds, S, Hd, M, Qd, rl, sr, hc, ⟨xe, w'⟩, fin⟩ := q
    refine ⟨pv, ds, S, Hd, M, fun z S => False, rl, sr, hc, ⟨xe, ?_⟩, fun d S' Hd' H' v mv sr' rd q => q.elim⟩
    have e : xpost .str (fun _ _ => False) = xpostT .str Qd := by
      funext r S
      exact propext ⟨fun ⟨x, _, z⟩ => z, fun z => z.elim⟩
    rw [e]; exact w'
theorem isi_pe (B : TabOk P w K mg base T n) {k : Nat} (X : Cx) (c m : Str) (f : Nat) (x : Str) (p : Pos) (a : Expr) (y : Str) (py pos : Pos) (to : TE) (g : GX P w K mg base k X) (hlt : f < AB)
    (hs : splitDot (fnm T f) = some (c, m)) (hx : x = ("isinstance" : Str)) (gx : glB X.env.scope x = true) (hy : y = c) (gy : glB X.env.scope y = true) (oy : okName y = true) (na : notStar a = true) (mo : MonoE to) (po : PE X a to) :
    PE X (.Call (.Name x p) [a, .Name y py] [] pos) (tIsi X.K c to) := by
  have eK := g.K_
  subst hx hy
  obtain ⟨d, hT, en⟩ := fnm_some hs
  rw [en] at hs
  obtain ⟨ad, mt⟩ := meth_at B hlt hT hs
  obtain ⟨d1, _, _⟩ := okName_d oy
  have py' : PE X (.Name y py) (fun σ H Q => Q (.ref (He.ga K y)) H) := pe_glob (glB_ok gy) (by rw [g.mg_]; exact mt.gl) rfl d1
  have ns2 : starEach [.Name y py] X.env = (false, eval (.Name y py) X.env) :: starEach [] X.env := rfl
  have ns : starEach [a, .Name y py] X.env = (false, eval a X.env) :: starEach [.Name y py] X.env := star_cons na
  refine (pe_callB call_isi (glB_ok gx) (by rw [g.mg_]; exact B.fr _ (by decide +kernel)) (by decide +kernel) (pa_cons po (pa_cons py' pa_nil ns2) ns) (by decide +kernel) (by decide +kernel) ns rfl).of fun σ H Q q => ?_
  refine mo _ _ _ _ (fun v H1 q => ?_) q
  obtain ⟨pv, d', S, Hd, M, b, r, sr, hb, q⟩ := q
  rw [eK] at r sr
  obtain ⟨t, tx, kt⟩ := tyx_of mt.cl sr r hb
  rw [← eK] at tx kt
  refine ⟨v, .ref (He.ga K y), t, .ref (He.ga K y), b, rfl, .own _, tx, ?_, q⟩
  rw [← eK]; exact kt
/-- every def of the table keeps what its body's reading says, to any depth -/
theorem all_keep (B : TabOk P w K mg base T n) : ∀ k ≤ n, ∀ j ≤ k, Keeps P w K mg base T j := by
  intro k
  induction k with
  | zero =>
    intro _ j hj f d hlt hd nmk
    have : j = 0 := by omega
    subst this
    rcases B.hb f d hlt hd with ⟨i, frz, hp, _⟩ | ⟨a, fd, params, body, scope, at_, _⟩
    · exact absurd hp (nmk i frz)
    · refine ⟨a, fd, ⟨_, _, _, at_⟩, ⟨fun vs H Q h => ?_, fun A outer s H args us vs Q _ _ _ _ _ h => ?_⟩⟩
      · obtain ⟨pv, ds, S, Hd, M, Qd, rl, sr, hc, w', fin⟩ := h
        exact (show False from w').elim
      · obtain ⟨pv, ds, S, Hd, M, Qd, rl, sr, hc, w', fin⟩ := h
        exact (show False from w').elim
  | succ k ih =>
    intro hkn j hj
    by_cases hjk : j ≤ k
    · exact ih (by omega) j hjk
    have : j = k + 1 := by omega
    subst this
    have ih' := ih (by omega)
    intro f d hlt hd nmk
    rcases B.hb f d hlt hd with ⟨i, frz, hp, _⟩ | ⟨a, fd, params, body, scope, at_, hbody⟩
    · exact absurd hp (nmk i frz)
    refine ⟨a, fd, ⟨_, _, _, at_⟩, ?_⟩
    rcases hbody with ⟨hp, hm⟩ | ⟨p, hp, F⟩
    · have eC : ∀ ds S Q, wC T (k + 1) f ds S Q = (ds.length = d.ps.length ∧ wSs (wC T k) d.body { nx := fun _ S' => Q .non S', rt := Q } (startE d.N ds) S) := fun ds S Q => by
        simp only [wC, hd, hp]
      have eF : cF T (k + 1) f = cSs (cF T k) d.body := by simp only [cF, hd, hp]
      refine fnG_of at_.fun_ at_.sc (fun vs H Q h => ?_) fun X vs H Q e1 e2 e3 e4 e5 hr gd cl eN esc ef ex h => ?_
      · obtain ⟨pv, ds, S, Hd, M, Qd, rl, sr, hc, w', fin⟩ := h
        rw [eC] at w'
        rw [rl.length]; exact w'.1
      · have G : GX P w K mg base k X := ⟨e1, e2, e3, e4, e5, hr, gd, cl, by rw [eN]; exact at_.sc.nd⟩
        have W : Wd (wC T k) (cF T k) (fnm T) (GX P w K mg base k) := by
          refine ⟨fun X g => g.amb B.fr B.sm, fun X g => g.nd, fun X s H scope cl c fp g => ⟨g.prog, g.w_, g.K_, g.mg_, g.base_, g.room, g.gd, g.calm, g.nd⟩, fun X f' p' pos es ts g hlt' hg hx hsd pe => ?_,
            fun X kk c m f' e o es to ts g => xn_pe B ih' X kk c m f' e o es to ts g, fun X kk c m f' e o es to ts g => xn_pt B ih' X kk c m f' e o es to ts g,
            fun X c m f' x p a y py pos to g => isi_pe B X c m f' x p a y py pos to g, fun X f' p' g hge hg hx => ?_, fun X f' p' apos cpos a to g hge hg hx hl hns mo po => ?_⟩
          · obtain ⟨d', hT, en⟩ := fnm_ok hx
            rcases B.hb f' d' hlt' hT with ⟨i, frz, hp', kt⟩ | ⟨a0, fd0, pa0, bo0, sc0, at0, hb0⟩
            · have gl := kt.gl
              cases k with
              | zero =>
                refine (pe_callF hg (by rw [g.mg_, en]; exact gl) (by rw [g.K_]; exact kt.mkr.kp) hx pe).of fun σ H Q q => pe.mono (fun vs H1 q => ?_) q
                obtain ⟨pv, ds, S, Hd, M, Qd, rl, sr, hc, w', fin⟩ := q
                exact w'
              | succ k =>
                obtain ⟨di, xx, hTi, hsi, hpi, hni⟩ := kt.it
                obtain ⟨ai, fdi, ⟨_, _, _, ati⟩, Fi⟩ := ih' k (by omega) i di kt.lt hTi hni
                have mt := ati.glob.me hsi
                have F2 : FnG X.prog X.w X.K X.mg X.base k ai fdi di.ps (spD K (wC T k i) (cF T k i)) := by rw [g.prog, g.w_, g.K_, g.mg_, g.base_]; exact Fi
                have M2 : Mk X.K (He.ga K d'.name) ai := by rw [g.K_, mt.eq]; exact kt.mkr
                refine (pe_makeG (x := fnm T f') (p := p') (pos := pos) M2 F2 g.room g.gd hg (by rw [g.mg_, en]; exact gl) (by rw [g.K_]; exact ati.binds) hx pe).of fun σ H Q q => pe.mono (fun vs H1 q => ?_) q
                intro x dx h1 h2 ne
                rw [g.K_] at q
                exact mk_imp hT hp' kt.cl q x dx h1 h2 ne
            · have nm' : ∀ j z, d'.prim ≠ some (.mk j z) := fun j z e => by
                rcases hb0 with ⟨q, _⟩ | ⟨p, q, _⟩
                · rw [q] at e; cases e
                · rw [q] at e; cases e
              obtain ⟨a', fd', ⟨_, _, _, at'⟩, F'⟩ := ih' k (Nat.le_refl k) f' d' hlt' hT nm'
              rw [en] at hsd
              have m' := at'.glob.fn hsd
              have kp' := at'.fun_.kp
              have b' := at'.binds
              have F2 : FnG X.prog X.w X.K X.mg X.base k a' fd' d'.ps (spD K (wC T k f') (cF T k f')) := by rw [g.prog, g.w_, g.K_, g.mg_, g.base_]; exact F'
              have := pe_callG (x := fnm T f') (p := p') (pos := pos) F2 g.room g.gd hg (by rw [g.mg_, en]; exact m') (by rw [g.K_]; exact kp') (by rw [g.K_]; exact b') hx pe
              rw [g.K_]
              exact this
          · obtain ⟨d', hT, en⟩ := fnm_ok hx
            have ct := B.hk f' d' hge hT
            obtain ⟨u, v, dd, m', r', rd, hp', _⟩ := ct.val
            obtain ⟨d1, _, _⟩ := okName_d hx
            refine (pe_glob (v := v) (u := u) hg (by rw [g.mg_, en]; exact m') r' d1).of fun σ H Q q => ?_
            obtain ⟨pv, ds, S, Hd, M, Qd, rl, sr, hc, w', fin⟩ := q
            have eF : cF T k f' = 0 := by
              cases k with
              | zero => rfl
              | succ k => simp only [cF, hT, hp', ct.pc]
            have eN : ds = [] := by
              cases ds with
              | nil => rfl
              | cons d ds => simp only [RepL] at rl; obtain ⟨_, _, z, _⟩ := rl; cases z
            subst eN
            have w2 : Qd dd S := by
              cases k with
              | zero => exact (show False from w').elim
              | succ k => simp only [wC, hT, hp'] at w'; exact w'.2
            rw [g.K_] at fin
            exact fin dd S Hd H v (.refl ..) (by rw [eF]; rw [g.K_] at sr; exact sr) (rd Hd) w2
          · obtain ⟨d', hT, en⟩ := fnm_ok hx
            have ct := B.hk f' d' hge hT
            obtain ⟨u, v, dd, m', r', rd, hp', tp⟩ := ct.val
            obtain ⟨d1, _, _⟩ := okName_d hx
            have eF : cF T k f' = 0 := by
              cases k with
              | zero => rfl
              | succ k => simp only [cF, hT, hp', ct.pc]
            have pn : PE X (.Name (fnm T f') p') (fun _ H Q => Q v H) := pe_glob (v := v) (u := u) hg (by rw [g.mg_, en]; exact m') r' d1
            have few : ((backTo cpos (starEach [a] X.env)).all (fun x => !x.1) && (backToKw cpos (keywordEach [] X.env)).all (fun x => x.1.isSome) && decide ([a].length + ([] : List Keyword).length + (if ([] : List Keyword).isEmpty then 0 else 1) < 30)) = true := by
              rw [star_cons hns]; rfl
            refine ⟨fun pins s σ H Q I q => ?_⟩
            obtain ⟨pv, S, Hd, M, Qd, sr, hc, w', fin⟩ := q
            have w2 : Qd dd S := by
              cases k with
              | zero => exact (show False from w').elim
              | succ k => simp only [wC, hT, hp'] at w'; exact w'.2
            obtain ⟨xs, exs, q⟩ := fin dd S Hd H v (.refl ..) (by rw [eF]; exact sr) (by rw [g.K_]; exact rd Hd) w2
            obtain ⟨ad, o, rfl, hk, hcls, hdict⟩ := tp _ exs
            have ev : v = V.ref ad := by cases v <;> first | (cases r'; rfl) | (obtain ⟨_, z⟩ := r'; cases z) | cases r'
            subst ev
            have q' : to σ H fun y H2 => ∃ p, ∃ ys : List Str, ∃ z j, V.ref ad = .ref p ∧ [y] = [V.str z] ∧ SqT X.K H2 p (ys.map V.str) ∧ ys[j]? = some z ∧ (∀ m, m < j → ys[m]? ≠ some z) ∧ Q (.int (j : Nat)) H2 := by
              refine mo _ _ _ _ (fun y H2 q => ?_) q
              obtain ⟨z, j, rfl, h1, h2, q⟩ := q
              have rd2 := rd H2
              rw [exs] at rd2
              simp only [Rep] at rd2
              obtain ⟨a', vs', e', st, rl⟩ := rd2
              cases e'
              rw [RepL.strs rl] at st
              rw [g.K_]
              exact ⟨ad, xs, z, j, rfl, rfl, st, h1, h2, q⟩
            have pa := pa_cons po pa_nil (star_cons hns)
            have hs : starEach [a] X.env = (false, eval a X.env) :: starEach [] X.env := star_cons hns
            refine wpAny_Call_method_late (by rfl) few hl rfl (thn (pn.run pins s σ H (fun x1 H1 => x1 = V.ref ad ∧ H1 = H) I ⟨rfl, rfl⟩) fun v1 s1 ⟨x1, H1, I1, r1, e1, e2⟩ => ?_)
            subst e1 e2
            obtain rfl : v1 = Value.ref ad := r1
            have kin : s1.heap.get? ad = some o := I1.kIn ad o (by rw [g.K_]; exact hk)
            refine ⟨"tuple", "tuple.index", PySem.F.plainAttrs_tuple, PySem.F.slot_tuple_index, PySem.F.type_tuple_index, ⟨o, kin, hcls⟩, fun a e => by cases e; exact ⟨o, kin, hdict⟩, ?_⟩
            have hA := pa.run cpos pins s1 σ H1 (fun vs H2 => ∃ p, ∃ ys : List Str, ∃ z j, V.ref ad = .ref p ∧ vs = [V.str z] ∧ SqT X.K H2 p (ys.map V.str) ∧ ys[j]? = some z ∧ (∀ m, m < j → ys[m]? ≠ some z) ∧ Q (.int (j : Nat)) H2) I1 q'
            rw [hs] at hA ⊢
            refine Calls.callWith_builtin (by rfl) (Calls.evalArgs_plain ?_)
            exact thn hA fun us s2 ⟨vs, H2, I2, r2, q2⟩ => mt_tup_index pins s2 σ H2 (.ref ad) vs (.ref ad) us Q I2 rfl r2 q2
        obtain ⟨pv, ds, S, Hd, M, Qd, rl, sr, hc, w', fin⟩ := h
        rw [eC] at w'
        rw [eF] at hc fin
        refine ⟨_, sSs W G (by rw [ex]; exact .never) (by rw [esc]; exact at_.sc.kind) ef d.body body (by rw [eN, esc]; exact hm k (by omega)), ?_⟩
        rw [e3]
        exact ⟨pv, _, S, Hd, M, _, enStart rl, sr, hc, w'.2, ⟨fun ρ S' Hd' H' σ m s _ q => fin _ S' Hd' H' .non m s (by simp only [Rep]) q, fun d' S' Hd' H' v m s r q => fin d' S' Hd' H' v m s r q, fun _ _ _ _ _ _ _ _ q => q, fun _ _ _ _ _ _ _ _ q => q⟩⟩
    · refine (F.mono (by omega)).imp fun vs H Q h => ?_
      obtain ⟨pv, ds, S, Hd, M, Qd, rl, sr, hc, w', fin⟩ := h
      have eF : cF T (k + 1) f = d.pc := by simp only [cF, hd, hp]
      simp only [wC, hd, hp] at w'
      rw [eF] at hc fin
      exact ⟨pv, ds, S, Hd, M, Qd, rl, sr, hc, w', fin⟩
end
end
section
open PySem PySem.Spec L2
theorem opOf {X : Cx} {f : Value → Value → Sem Value} {r r' : R2} (h : OpR X f r) (i : ∀ x y H Q, r' x y H Q → r x y H Q) : OpR X f r' := fun pins s σ H x y v u Q I rx ry q => h pins s σ H x y v u Q I rx ry (i _ _ _ _ q)
theorem callOf {X : Cx} {f : Value} {r r' : List V → Hp → VK → Prop} (h : CallR X f r) (i : ∀ xs H Q, r' xs H Q → r xs H Q) : CallR X f r' := fun pins s σ H xs us Q I rx q => h pins s σ H xs us Q I rx (i _ _ _ q)
theorem opOr {X : Cx} {f : Value → Value → Sem Value} {r r1 r2 : R2} (h1 : OpR X f r1) (h2 : OpR X f r2) (i : ∀ x y H Q, r x y H Q → r1 x y H Q ∨ r2 x y H Q) : OpR X f r := opOf (h1.or h2) i
mutual
def pyD : D → Option PyData
  | .non => some .none
  | .bl b => some (.bool b)
  | .int i => some (.int i)
  | .str s => some (.str s)
  | .tup xs => (pyL xs).map .tuple
  | .lst xs => (pyL xs).map .list
  | _ => none
def pyL : List D → Option (List PyData)
  | [] => some []
  | x :: xs => match pyD x, pyL xs with
    | some a, some b => some (a :: b)
    | _, _ => none
end
def seqS (S : Sto) : D → Option (List D)
  | .tup xs => some xs
  | .lst xs => some xs
  | .loc a => match S.m a with
    | some (.lst xs) => some xs
    | _ => none
  | _ => none
def pyS (S : Sto) : D → Option PyData
  | .loc a => match S.m a with
    | some (.lst xs) => (pyL xs).map .list
    | _ => none
  | d => pyD d
mutual
theorem dp_of {K : PySem.W.Frag} {Hd H : Hp} (le : Le Hd H) : ∀ {d : D} {v : V} {p : PyData}, Rep K Hd d v → pyD d = some p → Dp K H v p
  | .non, _, _, r, e => by simp only [Rep] at r; subst r; simp only [pyD] at e; cases e; exact .non
  | .bl b, _, _, r, e => by simp only [Rep] at r; subst r; simp only [pyD] at e; cases e; exact .bl b
  | .int i, _, _, r, e => by simp only [Rep] at r; subst r; simp only [pyD] at e; cases e; exact .int i
  | .str s, _, _, r, e => by simp only [Rep] at r; subst r; simp only [pyD] at e; cases e; exact .str s
  | .ty _, _, _, _, e => by simp [pyD] at e
  | .loc _, _, _, _, e => by simp [pyD] at e
  | .dic _ _, _, _, _, e => by simp [pyD] at e
  | .obj _ _ _, _, _, _, e => by simp [pyD] at e
  | .scr _, _, _, _, e => by simp [pyD] at e
  | .tup xs, _, _, r, e => by
    simp only [Rep] at r
    obtain ⟨a, vs, rfl, st, rl⟩ := r
    simp only [pyD] at e
    cases q : pyL xs with
    | none => rw [q] at e; cases e
    | some ds => rw [q] at e; cases e; exact .tup (le.sqT st) (dpAll_of le rl q)
  | .lst xs, _, _, r, e => by
    simp only [Rep] at r
    obtain ⟨a, vs, rfl, st, rl⟩ := r
    simp only [pyD] at e
    cases q : pyL xs with
    | none => rw [q] at e; cases e
    | some ds => rw [q] at e; cases e; exact .lst (.inl (le.rd st)) (dpAll_of le rl q)
theorem dpAll_of {K : PySem.W.Frag} {Hd H : Hp} (le : Le Hd H) : ∀ {ds : List D} {vs : List V} {ps : List PyData}, RepL K Hd ds vs → pyL ds = some ps → DpAll K H vs ps
  | [], _, _, r, e => by simp only [RepL] at r; subst r; simp only [pyL] at e; cases e; exact .nil
  | d :: ds, _, _, r, e => by
    simp only [RepL] at r
    obtain ⟨v, vr, rfl, ra, rb⟩ := r
    simp only [pyL] at e
    split at e
    · rename_i a b qa qb
      cases e
      exact .cons (dp_of le ra qa) (dpAll_of le rb qb)
    · cases e
end
theorem dpS {K : PySem.W.Frag} {pv : List Addr} {S : Sto} {Hd H : Hp} {M : Nat} {d : D} {v : V} {p : PyData} (sr : SR K pv S Hd H M) (r : Rep K Hd d v) (e : pyS S d = some p) : Dp K H v p := by
  unfold pyS at e
  split at e
  · rename_i a
    simp only [Rep] at r; subst r
    split at e
    · rename_i xs hm
      obtain ⟨_, ho, e2, vs, rfl, rl⟩ := sr.sto _ _ hm
      cases q : pyL xs with
      | none => rw [q] at e; cases e
      | some ds => rw [q] at e; cases e; exact .lst (.of e2) (dpAll_of sr.sub rl q)
    · cases e
  · exact dp_of sr.sub r e
/-- what stands where a sequence is -/
theorem seq_of {K : PySem.W.Frag} {pv : List Addr} {S : Sto} {Hd H : Hp} {M : Nat} {d : D} {v : V} {xs : List D} (sr : SR K pv S Hd H M) (r : Rep K Hd d v) (e : seqS S d = some xs) :
    ∃ a vs, v = .ref a ∧ RepL K Hd xs vs ∧ ((∃ ys, d = .tup ys) ∧ SqT K H a vs ∨ (¬ ∃ ys, d = .tup ys) ∧ Rd H a (.lst vs)) := by
  cases d with
  | tup ys =>
    simp only [seqS] at e; cases e
    simp only [Rep] at r
    obtain ⟨a, vs, rfl, st, rl⟩ := r
    exact ⟨a, vs, rfl, rl, .inl ⟨⟨_, rfl⟩, Le.sqT sr.sub st⟩⟩
  | lst ys =>
    simp only [seqS] at e; cases e
    simp only [Rep] at r
    obtain ⟨a, vs, rfl, st, rl⟩ := r
    exact ⟨a, vs, rfl, rl, .inr ⟨fun ⟨_, z⟩ => (by cases z), Le.rd sr.sub st⟩⟩
  | loc l =>
    simp only [seqS] at e
    split at e
    · rename_i ys hm
      cases e
      simp only [Rep] at r; subst r
      obtain ⟨_, ho, e2, vs, rfl, rl⟩ := sr.sto _ _ hm
      exact ⟨l, vs, rfl, rl, .inr ⟨fun ⟨_, z⟩ => (by cases z), Rd.of e2⟩⟩
    · cases e
  | _ => simp [seqS] at e
theorem seq_any {K : PySem.W.Frag} {pv : List Addr} {S : Sto} {Hd H : Hp} {M : Nat} {d : D} {v : V} {xs : List D} (sr : SR K pv S Hd H M) (r : Rep K Hd d v) (e : seqS S d = some xs) :
    ∃ a vs, v = .ref a ∧ RepL K Hd xs vs ∧ (SqL K H a vs ∨ SqT K H a vs) := by
  obtain ⟨a, vs, e1, rl, h⟩ := seq_of sr r e
  exact ⟨a, vs, e1, rl, h.elim (fun z => .inr z.2) fun z => .inl (.inl z.2)⟩
/-- a list that is not a tuple -/
def lstS (S : Sto) : D → Option (List D)
  | .tup _ => none
  | d => seqS S d
theorem lst_of {K : PySem.W.Frag} {pv : List Addr} {S : Sto} {Hd H : Hp} {M : Nat} {d : D} {v : V} {xs : List D} (sr : SR K pv S Hd H M) (r : Rep K Hd d v) (e : lstS S d = some xs) : ∃ a vs, v = .ref a ∧ RepL K Hd xs vs ∧ Rd H a (.lst vs) := by
  have hn : ∀ ys, d ≠ .tup ys := fun ys z => by subst z; simp [lstS] at e
  have e' : seqS S d = some xs := by
    unfold lstS at e
    split at e
    · cases e
    · exact e
  obtain ⟨a, vs, e1, rl, h⟩ := seq_of sr r e'
  rcases h with ⟨⟨ys, z⟩, _⟩ | ⟨_, h⟩
  · exact absurd z (hn ys)
  · exact ⟨a, vs, e1, rl, h⟩
def tupS : D → Option (List D)
  | .tup xs => some xs
  | _ => none
theorem tup_of {K : PySem.W.Frag} {pv : List Addr} {S : Sto} {Hd H : Hp} {M : Nat} {d : D} {v : V} {xs : List D} (sr : SR K pv S Hd H M) (r : Rep K Hd d v) (e : tupS d = some xs) : ∃ a vs, v = .ref a ∧ RepL K Hd xs vs ∧ SqT K H a vs := by
  cases d with
  | tup ys =>
    simp only [tupS] at e; cases e
    simp only [Rep] at r
    obtain ⟨a, vs, rfl, st, rl⟩ := r
    exact ⟨a, vs, rfl, rl, Le.sqT sr.sub st⟩
  | _ => simp [tupS] at e
/-- the store's list at a loc, or a frozen list or tuple: as the heap holds it -/
theorem Rep.tupI {K : PySem.W.Frag} {H : Hp} {a : Addr} {ds : List D} {vs : List V} (h : H a = some (.tup vs)) (r : RepL K H ds vs) : Rep K H (.tup ds) (.ref a) := by
  simp only [Rep]; exact ⟨a, vs, rfl, .of h, r⟩
theorem Rep.lstI {K : PySem.W.Frag} {H : Hp} {a : Addr} {ds : List D} {vs : List V} (h : H a = some (.lst vs)) (r : RepL K H ds vs) : Rep K H (.lst ds) (.ref a) := by
  simp only [Rep]; exact ⟨a, vs, rfl, .of h, r⟩
section
variable {K : PySem.W.Frag} {pv : List Addr} {S : Sto} {Hd H : Hp} {M : Nat} {Qd : PostE} {Q : VK}
abbrev Fin' (K : PySem.W.Frag) (pv : List Addr) (Hd H : Hp) (M : Nat) (Qd : PostE) (Q : VK) : Prop := ∀ d S' Hd' H' v, Mv pv Hd H Hd' H' → SR K pv S' Hd' H' (M + 0) → Rep K Hd' d v → Qd d S' → Q v H'
theorem fin_val (fin : Fin' K pv Hd H M Qd Q) (sr : SR K pv S Hd H M) {d : D} {v : V} (r : Rep K Hd d v) (q : Qd d S) : Q v H := fin d S Hd H v (.refl ..) sr r q
theorem fin_tup (fin : Fin' K pv Hd H M Qd Q) (sr : SR K pv S Hd H M) {ds : List D} {vs : List V} (r : RepL K Hd ds vs) (q : Qd (.tup ds) S) {p : Addr} (hp : H p = none) : Q (.ref p) (upd H p (.tup vs)) :=
  fin (.tup ds) S (upd Hd p (.tup vs)) _ _ (.new sr hp) (sr.frz hp) (.tupI upd_same (r.mono (.new (sr.freshD hp)))) q
theorem fin_lst {o : Bool} (fin : Fin' K pv Hd H M Qd Q) (sr : SR K pv S Hd H M) {ds : List D} {vs : List V} (r : RepL K Hd ds vs) (q : newL o ds S Qd) {p : Addr} (hp : H p = none) : Q (.ref p) (upd H p (.lst vs)) := by
  unfold newL at q
  cases o with
  | true =>
    simp only [if_true] at q
    exact fin _ _ Hd _ _ (.newH sr hp) (sr.own hp (o := O.lst ds) ⟨vs, rfl, r⟩) (by simp only [Rep]) (q p (sr.freshS hp))
  | false =>
    simp only [Bool.false_eq_true, if_false] at q
    exact fin (.lst ds) S (upd Hd p (.lst vs)) _ _ (.new sr hp) (sr.frz hp) (.lstI upd_same (r.mono (.new (sr.freshD hp)))) q
end
def nInt (i : Int) : Node := .plain (fun _ e => match e with
    | .Constant (.int j) _ _ => if j = i then some [] else none
    | _ => none) (fun _ S Q => Q (.int i) S)
  (fun sc e es h => by cases e <;> first | rfl | (simp at h))
  (fun X e es ts A h p => by
    split at h
    · rename_i j k pos
      split at h
      · rename_i ej; subst ej; cases h; cases p
        refine pe_int.of fun σ H Q q => ?_
        obtain ⟨pv, ds, S, Hd, M, Qd, rl, sr, hc, w, fin⟩ := q
        exact fin_val fin sr (by simp only [Rep]) w
      · cases h
    · cases h)
def nStr (x : Str) : Node := .plain (fun _ e => match e with
    | .Constant (.str y) _ _ => if y = x then some [] else none
    | _ => none) (fun _ S Q => Q (.str x) S)
  (fun sc e es h => by cases e <;> first | rfl | (simp at h))
  (fun X e es ts A h p => by
    split at h
    · rename_i j k pos
      split at h
      · rename_i ej; subst ej; cases h; cases p
        refine pe_str.of fun σ H Q q => ?_
        obtain ⟨pv, ds, S, Hd, M, Qd, rl, sr, hc, w, fin⟩ := q
        exact fin_val fin sr (by simp only [Rep]) w
      · cases h
    · cases h)
def nBl (b : Bool) : Node := .plain (fun _ e => match e with
    | .Constant (.bool c) _ _ => if c = b then some [] else none
    | _ => none) (fun _ S Q => Q (.bl b) S)
  (fun sc e es h => by cases e <;> first | rfl | (simp at h))
  (fun X e es ts A h p => by
    split at h
    · rename_i j k pos
      split at h
      · rename_i ej; subst ej; cases h; cases p
        refine pe_bl.of fun σ H Q q => ?_
        obtain ⟨pv, ds, S, Hd, M, Qd, rl, sr, hc, w, fin⟩ := q
        exact fin_val fin sr (by simp only [Rep]) w
      · cases h
    · cases h)
def nNon : Node := .plain (fun _ e => match e with
    | .Constant .none _ _ => some []
    | _ => none) (fun _ S Q => Q .non S)
  (fun sc e es h => by cases e <;> first | rfl | (simp at h))
  (fun X e es ts A h p => by
    split at h
    · rename_i k pos
      cases h; cases p
      refine pe_non.of fun σ H Q q => ?_
      obtain ⟨pv, ds, S, Hd, M, Qd, rl, sr, hc, w, fin⟩ := q
      exact fin_val fin sr (by simp only [Rep]) w
    · cases h)
/-- a built-in type by its name, as a value -/
def nTy (x : Str) (n : String) (hn : x ∈ bNames) (hb : bootBuiltins x = some (.type n)) (hx : okName x = true) : Node := .plain (fun sc e => match e with
    | .Name y _ => if (decide (y = x) && glB sc y) = true then some [] else none
    | _ => none) (fun _ S Q => Q (.ty n) S)
  (fun sc e es h => by cases e <;> first | rfl | (simp at h))
  (fun X e es ts A h p => by
    split at h
    · rename_i y pos
      split at h
      · rename_i c
        simp only [Bool.and_eq_true, decide_eq_true_eq] at c
        obtain ⟨rfl, g⟩ := c
        cases h; cases p
        obtain ⟨d1, d2, d3⟩ := okName_d hx
        refine (pe_bltn (v := .ty n) (glB_ok g) (A.fr _ hn) hb rfl d3 d1).of fun σ H Q q => ?_
        obtain ⟨pv, ds, S, Hd, M, Qd, rl, sr, hc, w, fin⟩ := q
        exact fin_val fin sr (by simp only [Rep]) w
      · cases h
    · cases h)
def nTup : Node := .plain (fun _ e => match e with
    | .Tuple es _ _ => some es
    | _ => none) (fun ds S Q => ds.length ≤ sizeLine ∧ Q (.tup ds) S)
  (fun sc e es h => by cases e <;> first | rfl | (simp at h))
  (fun X e es ts A h p => by
    split at h
    · cases h
      refine (pe_tup p.pa).of fun σ H Q q => ?_
      refine p.mono (fun vs H1 q => ?_) q
      obtain ⟨pv, ds, S, Hd, M, Qd, rl, sr, hc, w, fin⟩ := q
      exact ⟨by rw [rl.length]; exact w.1, fun a ha => fin_tup fin sr rl w.2 ha⟩
    · cases h)
def nLst (o : Bool) : Node := .plain (fun _ e => match e with
    | .List es _ => some es
    | _ => none) (fun ds S Q => ds.length ≤ sizeLine ∧ newL o ds S Q)
  (fun sc e es h => by cases e <;> first | rfl | (simp at h))
  (fun X e es ts A h p => by
    split at h
    · cases h
      refine (pe_lst p.pa).of fun σ H Q q => ?_
      refine p.mono (fun vs H1 q => ?_) q
      obtain ⟨pv, ds, S, Hd, M, Qd, rl, sr, hc, w, fin⟩ := q
      exact ⟨by rw [rl.length]; exact w.1, fun a ha => fin_lst fin sr rl w.2 ha⟩
    · cases h)
def v2 (K : PySem.W.Frag) (sem : List D → Sto → PostE → Prop) : R2 := fun x y H Q => vSem K sem 0 [x, y] H Q
def nBin (op : Operator) (sem : List D → Sto → PostE → Prop) (h : ∀ X, Amb X → OpR X (binaryOp op) (v2 X.K sem)) : Node := .plain (fun _ e => match e with
    | .BinOp a o b _ => if o = op then some [a, b] else none
    | _ => none) sem
  (fun sc e es h => by cases e <;> first | rfl | (simp at h))
  (fun X e es ts A hs p => by
    split at hs
    · split at hs
      · rename_i eo; subst eo; cases hs
        cases p with
        | cons n1 m1 p1 p =>
          cases p with
          | cons n2 m2 p2 p =>
            cases p
            exact pe_op (h X A) p1 p2
      · cases hs
    · cases hs)
/-- ints alone -/
theorem int2 {K : PySem.W.Frag} {f : Int → Int → Int} {c : Int → Int → Prop} {x y : V} {H : Hp} {Q : VK} (q : v2 K (fun ds S Q => ∃ i j, ds = [.int i, .int j] ∧ c i j ∧ Q (.int (f i j)) S) x y H Q) : ∃ i j, x = .int i ∧ y = .int j ∧ c i j ∧ Q (.int (f i j)) H := by
  obtain ⟨pv, ds, S, Hd, M, Qd, rl, sr, hc, w, fin⟩ := q
  obtain ⟨i, j, rfl, hc', w⟩ := w
  obtain ⟨v, u, e, r1, r2⟩ := rl.two
  simp only [List.cons.injEq, and_true] at e
  obtain ⟨rfl, rfl⟩ := e
  simp only [Rep] at r1 r2
  exact ⟨i, j, r1, r2, hc', fin_val fin sr (by simp only [Rep]) w⟩
def sAdd (o : Bool) (ds : List D) (S : Sto) (Q : PostE) : Prop := match ds with
  | [.int i, .int j] => Q (.int (i + j)) S
  | [.tup xs, .tup ys] => xs.length + ys.length ≤ sizeLine ∧ Q (.tup (xs ++ ys)) S
  | [.str x, .str y] => x.length + y.length ≤ sizeLine ∧ Q (.str (x ++ y)) S
  | [x, y] => ∃ xs ys, lstS S x = some xs ∧ lstS S y = some ys ∧ xs.length + ys.length ≤ sizeLine ∧ newL o (xs ++ ys) S Q
  | _ => False
/-- list + list -/
def rCatL : R2 := fun x y H Q => ∃ l b xs zs, x = .ref l ∧ y = .ref b ∧ Rd H l (.lst xs) ∧ Rd H b (.lst zs) ∧ xs.length + zs.length ≤ sizeLine ∧ ∀ p, H p = none → Q (.ref p) (upd H p (.lst (xs ++ zs)))
theorem op_catL {X : Cx} : OpR X (binaryOp .Add) rCatL := by
  rintro pins st σ T _ _ u1 u2 Q I r1 r2 ⟨l1, l2, xs, zs, rfl, rfl, d1, d2, few, q⟩
  cases r1
  cases r2
  obtain ⟨_, is1, _, v1, g1⟩ := d1.ok I.hok
  obtain ⟨_, is2, _, v2, g2⟩ := d2.ok I.hok
  have n1 := v1.length
  have n2 := v2.length
  have both : is1.toArray ++ is2.toArray = (is1 ++ is2).toArray := by simp
  refine PySem.P.add_list g1 g2 ?_ (by rw [List.size_toArray, List.size_toArray]; omega)
  rw [both]
  exact ⟨.ref st.heap.objs.size, _, I.lnew (t' := st.toks) (v1.append v2) (by rw [List.length_append]; exact few), rfl, q _ I.fresh⟩
theorem RepL.nil_iff {K : PySem.W.Frag} {H : Hp} {ds : List D} {vs : List V} (r : RepL K H ds vs) : vs = [] ↔ ds = [] := by
  have := r.length
  cases ds <;> cases vs <;> simp at this ⊢
def nAdd (o : Bool) : Node := nBin .Add (sAdd o) fun X A => by
  refine opOr (r1 := rI0 fun i j => .int (i + j)) (r2 := fun x y H Q => rCatA X.K x y H Q ∨ ((∃ i j, x = .str i ∧ y = .str j ∧ i.length + j.length ≤ sizeLine ∧ Q (.str (i ++ j)) H) ∨ rCatL x y H Q)) op_add (op_catA.or (op_add_str.or op_catL)) ?_
  intro x y H Q q
  obtain ⟨pv, ds, S, Hd, M, Qd, rl, sr, hc, w, fin⟩ := q
  unfold sAdd at w
  split at w
  · obtain ⟨v, u, e, r1, r2⟩ := rl.two
    simp only [List.cons.injEq, and_true] at e
    obtain ⟨rfl, rfl⟩ := e
    simp only [Rep] at r1 r2
    exact .inl ⟨_, _, r1, r2, fin_val fin sr (by simp only [Rep]) w⟩
  · rename_i xs ys
    obtain ⟨v, u, e, r1, r2⟩ := rl.two
    simp only [List.cons.injEq, and_true] at e
    obtain ⟨rfl, rfl⟩ := e
    obtain ⟨a, vs, rfl, ra, ta⟩ := tup_of sr r1 rfl
    obtain ⟨b, us, rfl, rb, tb⟩ := tup_of sr r2 rfl
    refine .inr (.inl ⟨a, b, vs, us, rfl, rfl, ta, tb, by rw [ra.length, rb.length]; exact w.1, fun h => ?_, fun h1 h => ?_, fun _ _ p hp => fin_tup fin sr (ra.append rb) w.2 hp⟩)
    · rw [ra.nil_iff] at h; subst h
      exact fin_val fin sr r2 w.2
    · rw [rb.nil_iff] at h; subst h
      exact fin_val fin sr r1 (by have := w.2; rwa [List.append_nil] at this)
  · obtain ⟨v, u, e, r1, r2⟩ := rl.two
    simp only [List.cons.injEq, and_true] at e
    obtain ⟨rfl, rfl⟩ := e
    simp only [Rep] at r1 r2
    exact .inr (.inr (.inl ⟨_, _, r1, r2, w.1, fin_val fin sr (by simp only [Rep]) w.2⟩))
  · obtain ⟨v, u, e, r1, r2⟩ := rl.two
    simp only [List.cons.injEq, and_true] at e
    obtain ⟨rfl, rfl⟩ := e
    obtain ⟨xs, ys, h1, h2, hl, w⟩ := w
    obtain ⟨a, vs, rfl, ra, ta⟩ := lst_of sr r1 h1
    obtain ⟨b, us, rfl, rb, tb⟩ := lst_of sr r2 h2
    exact .inr (.inr (.inr ⟨a, b, vs, us, rfl, rfl, ta, tb, by rw [ra.length, rb.length]; exact hl, fun p hp => fin_lst fin sr (ra.append rb) w hp⟩))
  · exact w.elim
end
section
open PySem PySem.Spec L2
/-- the numbers and items at which the built-in gives the tuple itself; an empty one -/
theorem mul_same (l : Addr) (its : Array Value) (n : Nat) (dx : Option Addr) (sl : Array (Option Value)) (k : Int) (u : Tok) (in63 : (decide (k < -(2 ^ 63)) || decide (k ≥ 2 ^ 63)) = false) (keep : (its.isEmpty || k == 1) = true) :
    Meets (Builtin.«tuple.__mul__» ⟨[.ref l, .int k u], []⟩) (fun _ R t => t.heap.get? l = some { cls := .type "tuple", dict := dx, data := .seq its n, slots := sl } ∧ R (.ok (.ret (Value.ref l))) t) :=
  .of_wp fun P w A R t ⟨g, fin⟩ => by
    obtain ⟨_, _, _, _, _⟩ := t
    have ix := AutoSeq1.idx_int
    have no : ¬ (decide (k < -(2 ^ 63)) || decide (k ≥ 2 ^ 63)) = true := by rw [in63]; decide
    wp_walk using wpAny_loadPart' g
    repeat (first
      | (apply wpAny_ite_false (decide_eq_false no); wp_walk using wpAny_loadPart' g)
      | (apply wpAny_ite_true (decide_eq_true keep); wp_walk using wpAny_loadPart' g))
    exact ⟨_, rfl, fin⟩
theorem mul_none (l : Addr) (its : Array Value) (n : Nat) (dx : Option Addr) (sl : Array (Option Value)) (k : Int) (u : Tok) (in63 : (decide (k < -(2 ^ 63)) || decide (k ≥ 2 ^ 63)) = false) (turn : (its.isEmpty || k == 1) = false) (nil : (decide (k ≤ 0) || its.isEmpty) = true) :
    Meets (Builtin.«tuple.__mul__» ⟨[.ref l, .int k u], []⟩) (fun _ R t => t.heap.get? l = some { cls := .type "tuple", dict := dx, data := .seq its n, slots := sl } ∧
      R (.ok (.ret (Value.ref t.heap.objs.size))) { t with heap := t.heap.push { cls := Value.type "tuple", data := Data.seq #[] } }) :=
  .of_wp fun P w A R t ⟨g, fin⟩ => by
    obtain ⟨_, _, _, _, _⟩ := t
    have ix := AutoSeq1.idx_int
    have no : ¬ (decide (k < -(2 ^ 63)) || decide (k ≥ 2 ^ 63)) = true := by rw [in63]; decide
    have no2 : ¬ (its.isEmpty || k == 1) = true := by rw [turn]; decide
    wp_walk using wpAny_loadPart' g
    repeat (first
      | (apply wpAny_ite_false (decide_eq_false no); wp_walk using wpAny_loadPart' g)
      | (apply wpAny_ite_false (decide_eq_false no2); wp_walk using wpAny_loadPart' g)
      | (apply wpAny_ite_true (decide_eq_true nil); wp_walk using wpAny_loadPart' g))
    exact ⟨_, rfl, fin⟩
/-- tuple * int, of any small numbers -/
def rRepA (K : PySem.W.Frag) : R2 := fun x y H Q => ∃ l k xs, x = .ref l ∧ y = .int k ∧ SqT K H l xs ∧ -1000 ≤ k ∧ k ≤ 1000 ∧ xs.length ≤ 1000 ∧
  ((xs = [] ∨ k = 1) → Q (.ref l) H) ∧ (¬ (xs = [] ∨ k = 1) → ∀ p, H p = none → Q (.ref p) (upd H p (.tup (List.replicate k.toNat xs).flatten)))
theorem op_repA {X : Cx} : OpR X (binaryOp .Mult) (rRepA X.K) := by
  rintro pins st σ T _ _ u1 u2 Q I r1 r2 ⟨l, k, xs, rfl, rfl, sq, lo, hi, few, q1, q2⟩
  by_cases big : xs ≠ [] ∧ 2 ≤ k
  · have nk : ¬ (xs = [] ∨ k = 1) := by rintro (z | z); exact big.1 z; omega
    exact op_repT pins st σ T _ _ u1 u2 Q I r1 r2 ⟨l, k, xs, rfl, rfl, sq, big.1, big.2, hi, few, q2 nk⟩
  · cases r1
    obtain ⟨tk, rfl⟩ := r2
    obtain ⟨is, rel, ⟨⟨_, dx, _, sl⟩, at_l, isT, n, isS⟩, _⟩ := I.tuple sq
    simp only at isT isS
    subst isT isS
    have none_iff : is.toArray.isEmpty = true ↔ xs = [] := by
      have e := rel.length
      cases is <;> cases xs <;> simp at e ⊢
    have in63 : (decide (k < -(2 ^ 63)) || decide (k ≥ 2 ^ 63)) = false := by
      have a : ¬ k < -(2 ^ 63) := by omega
      have b : ¬ k ≥ 2 ^ 63 := by omega
      rw [decide_eq_false a, decide_eq_false b]
      rfl
    have ty : st.TypeIs (.ref l) "tuple" := ⟨_, at_l, rfl⟩
    refine wpAny_binaryOp_repeat_ref (T := "tuple") (U := "int") (by decide) ty (fun t => typeIs_int t k tk) noFill_tuple_mul F.fills_int_mul F.slot_int_rmul repeat_tuple F.slot_int_index.lookup ?_
    refine call_meets F.slot_int_rmul (typeIs_int st k tk) F.entry_int_rmul (F.args_int_rmul_2 _ _) (int_rmul_tuple k tk l is.toArray n dx sl) ⟨at_l, rfl, ty, ?_⟩
    by_cases c : (is.toArray.isEmpty || k == 1) = true
    · refine call_meets F.slot_tuple_mul ty F.entry_tuple_mul (F.args_tuple_mul_2 _ _) (mul_same l is.toArray n dx sl k tk in63 c) ⟨at_l, .ref l, T, I, rfl, q1 ?_⟩
      rwa [Bool.or_eq_true, none_iff, beq_iff_eq] at c
    · have nk : ¬ (xs = [] ∨ k = 1) := by rwa [Bool.or_eq_true, none_iff, beq_iff_eq] at c
      have k0 : k ≤ 0 := by
        have a : xs ≠ [] := fun z => nk (.inl z)
        have b : ¬ 2 ≤ k := fun z => big ⟨a, z⟩
        have d : k ≠ 1 := fun z => nk (.inr z)
        omega
      have nil : (List.replicate k.toNat xs).flatten = [] := by
        rw [show k.toNat = 0 by omega]
        rfl
      have q := q2 nk
      rw [nil] at q
      refine call_meets F.slot_tuple_mul ty F.entry_tuple_mul (F.args_tuple_mul_2 _ _) (mul_none l is.toArray n dx sl k tk in63 (by simpa using c) (by rw [decide_eq_true k0]; rfl)) ⟨at_l, ?_⟩
      have I2 := I.laid (t' := st.toks) (o := .tup []) (fun b r g => Heap.get?_push_of_some _ g) (Nat.le_refl _) ⟨Nat.zero_le _, [], .nil, PyProof.Rows.IsTup.new st.heap #[]⟩
      exact ⟨.ref st.heap.objs.size, _, I2, rfl, q _ I.fresh⟩
def sMul (o : Bool) (ds : List D) (S : Sto) (Q : PostE) : Prop := match ds with
  | [.int i, .int j] => (CMul i j ∨ CMulW i j) ∧ Q (.int (i * j)) S
  | [.tup xs, .int k] => -1000 ≤ k ∧ k ≤ 1000 ∧ xs.length ≤ 1000 ∧ Q (.tup (List.replicate k.toNat xs).flatten) S
  | _ => False
theorem flat_one (xs : List D) : (List.replicate 1 xs).flatten = xs := by simp
theorem flat_nil (n : Nat) : (List.replicate n ([] : List D)).flatten = [] := by
  induction n with
  | zero => rfl
  | succ n ih => simp [List.replicate_succ]
def nMul (o : Bool) : Node := nBin .Mult (sMul o) fun X A => by
  refine opOr (r1 := fun x y H Q => rI CMul (fun i j => .int (i * j)) x y H Q ∨ rI CMulW (fun i j => .int (i * j)) x y H Q) (r2 := rRepA X.K) (op_mul.or op_mulW) op_repA ?_
  intro x y H Q q
  obtain ⟨pv, ds, S, Hd, M, Qd, rl, sr, hc, w, fin⟩ := q
  unfold sMul at w
  split at w
  · obtain ⟨v, u, e, r1, r2⟩ := rl.two
    simp only [List.cons.injEq, and_true] at e
    obtain ⟨rfl, rfl⟩ := e
    simp only [Rep] at r1 r2
    rename_i i j
    have f := fin_val fin sr (d := .int (i * j)) (v := .int (i * j)) (by simp only [Rep]) w.2
    rcases w.1 with c | c
    · exact .inl (.inl ⟨_, _, r1, r2, c, f⟩)
    · exact .inl (.inr ⟨_, _, r1, r2, c, f⟩)
  · rename_i xs k
    obtain ⟨v, u, e, r1, r2⟩ := rl.two
    simp only [List.cons.injEq, and_true] at e
    obtain ⟨rfl, rfl⟩ := e
    obtain ⟨a, vs, rfl, ra, ta⟩ := tup_of sr r1 rfl
    simp only [Rep] at r2
    refine .inr ⟨a, k, vs, rfl, r2, ta, w.1, w.2.1, by rw [ra.length]; exact w.2.2.1, fun h => ?_, fun _ p hp => fin_tup fin sr (ra.rep _) w.2.2.2 hp⟩
    have e : (List.replicate k.toNat xs).flatten = xs := by
      rcases h with h | h
      · rw [ra.nil_iff] at h; rw [h]; exact flat_nil _
      · rw [h]; exact flat_one xs
    have w2 := w.2.2.2
    rw [e] at w2
    exact fin_val fin sr r1 w2
  · exact w.elim
def nSub : Node := nBin .Sub (fun ds S Q => ∃ i j, ds = [.int i, .int j] ∧ True ∧ Q (.int (i - j)) S) fun X A => opOf op_sub fun x y H Q q => by
  obtain ⟨i, j, r1, r2, _, q⟩ := int2 (f := fun i j => i - j) (c := fun _ _ => True) q
  exact ⟨i, j, r1, r2, q⟩
/-- a positive divisor -/
def nMod : Node := nBin .Mod (fun ds S Q => ∃ i j, ds = [.int i, .int j] ∧ 0 < j ∧ Q (.int (i % j)) S) fun X A => opOf op_mod fun x y H Q q => by
  obtain ⟨i, j, r1, r2, c, q⟩ := int2 (f := fun i j => i % j) (c := fun _ j => 0 < j) q
  exact ⟨i, j, r1, r2, c, q⟩
def nFdiv : Node := nBin .FloorDiv (fun ds S Q => ∃ i j, ds = [.int i, .int j] ∧ CDivW i j ∧ Q (.int (i / j)) S) fun X A => opOf op_fdivW fun x y H Q q => by
  obtain ⟨i, j, r1, r2, c, q⟩ := int2 (f := fun i j => i / j) (c := CDivW) q
  exact ⟨i, j, r1, r2, c, q⟩
def nPow : Node := nBin .Pow (fun ds S Q => ∃ i j, ds = [.int i, .int j] ∧ CPow i j ∧ Q (.int (i ^ j.toNat)) S) fun X A => opOf op_pow fun x y H Q q => by
  obtain ⟨i, j, r1, r2, c, q⟩ := int2 (f := fun i j => i ^ j.toNat) (c := CPow) q
  exact ⟨i, j, r1, r2, c, q⟩
def nNeg : Node := .plain (fun _ e => match e with
    | .UnaryOp .USub a _ => some [a]
    | _ => none) (fun ds S Q => ∃ i, ds = [.int i] ∧ Q (.int (-i)) S)
  (fun sc e es h => by
    cases e <;> first | rfl | (simp at h; done) | skip
    rename_i op _ _
    cases op <;> first | rfl | (simp at h))
  (fun X e es ts A h p => by
    split at h
    · cases h
      cases p with
      | cons n m p1 p =>
        cases p
        refine (pe_un un_neg p1).of fun σ H Q q => m _ _ _ _ (fun v H1 q => ?_) q
        obtain ⟨pv, ds, S, Hd, M, Qd, rl, sr, hc, w, fin⟩ := q
        obtain ⟨i, rfl, w⟩ := w
        obtain ⟨v', e, r1⟩ := rl.one
        cases e
        simp only [Rep] at r1
        exact ⟨i, r1, fin_val fin sr (by simp only [Rep]) w⟩
    · cases h)
theorem cmpI {X : Cx} {op : CmpOp} {f : Int → Int → Bool} (h : OpR X (compareOp op) (rI0 fun i j => .bl (f i j))) : OpR X (compareOp op) (vC X.K fun d e _ => match d, e with
    | .int i, .int j => some (f i j)
    | _, _ => none) := opOf h fun x y H Q q => by
  obtain ⟨pv, d, e, S, Hd, M, b, r1, r2, sr, hb, q⟩ := q
  dsimp only at hb
  split at hb
  · cases hb
    simp only [Rep] at r1 r2
    exact ⟨_, _, r1, r2, q⟩
  · cases hb
def csI (f : Int → Int → Bool) : D → D → Sto → Option Bool := fun d e _ => match d, e with
  | .int i, .int j => some (f i j)
  | _, _ => none
def cLt : CNode := ⟨.Lt, csI fun i j => decide (i < j), fun X _ => cmpI op_lt⟩
def cLe : CNode := ⟨.LtE, csI fun i j => decide (i ≤ j), fun X _ => cmpI op_le⟩
def cGt : CNode := ⟨.Gt, csI fun i j => decide (j < i), fun X _ => cmpI op_gt⟩
def cGe : CNode := ⟨.GtE, csI fun i j => decide (j ≤ i), fun X _ => cmpI op_ge⟩
/-- == of data -/
def csE (neg : Bool) (d e : D) (S : Sto) : Option Bool := match d, e with
  | .int i, .int j => some (xor neg (decide (i = j)))
  | .str x, .str y => some (xor neg (decide (x = y)))
  | .bl x, .bl y => some (xor neg (decide (x = y)))
  | d, e => match pyS S d, pyS S e with
    | some a, some b => if (SeqAt.shaped a && SeqAt.shaped b) = true then some (xor neg (PyData.eqv a b)) else none
    | _, _ => none
theorem csE_ok {X : Cx} {op : CmpOp} {neg : Bool} (h1 : OpR X (compareOp op) fun x y H Q => scal x y = true ∧ Q (.bl (xor neg (decide (x = y)))) H)
    (h2 : OpR X (compareOp op) fun x y H Q => ∃ d e, Dp X.K H x d ∧ Dp X.K H y e ∧ SeqAt.shaped d = true ∧ SeqAt.shaped e = true ∧ Q (.bl (xor neg (PyData.eqv d e))) H) : OpR X (compareOp op) (vC X.K (csE neg)) :=
  opOr h1 h2 fun x y H Q q => by
    obtain ⟨pv, d, e, S, Hd, M, b, r1, r2, sr, hb, q⟩ := q
    unfold csE at hb
    split at hb
    · cases hb
      simp only [Rep] at r1 r2
      subst r1 r2
      refine .inl ⟨rfl, ?_⟩
      simpa using q
    · cases hb
      simp only [Rep] at r1 r2
      subst r1 r2
      refine .inl ⟨rfl, ?_⟩
      simpa using q
    · cases hb
      simp only [Rep] at r1 r2
      subst r1 r2
      refine .inl ⟨rfl, ?_⟩
      simpa using q
    · split at hb
      · rename_i a c qa qc
        split at hb
        · rename_i hs
          cases hb
          simp only [Bool.and_eq_true] at hs
          exact .inr ⟨a, c, dpS sr r1 qa, dpS sr r2 qc, hs.1, hs.2, q⟩
        · cases hb
      · cases hb
def cEq : CNode := ⟨.Eq, csE false, fun X A => csE_ok (opOf op_eq fun x y H Q q => ⟨q.1, by simpa using q.2⟩) (opOf (op_eqD A.un) fun x y H Q q => by
  obtain ⟨d, e, h1, h2, h3, h4, q⟩ := q
  exact ⟨d, e, h1, h2, h3, h4, by simpa using q⟩)⟩
def cNe : CNode := ⟨.NotEq, csE true, fun X A => csE_ok (opOf op_ne fun x y H Q q => ⟨q.1, by simpa using q.2⟩) (opOf (op_neD A.un) fun x y H Q q => by
  obtain ⟨d, e, h1, h2, h3, h4, q⟩ := q
  exact ⟨d, e, h1, h2, h3, h4, by simpa using q⟩)⟩
/-- is: None, True, False -/
def csIs (neg : Bool) (d e : D) (_ : Sto) : Option Bool := match d, e with
  | .bl a, .bl b => some (xor neg (decide (a = b)))
  | .non, .non => some (xor neg true)
  | .bl _, .non => some (xor neg false)
  | .int _, .non => some (xor neg false)
  | .str _, .non => some (xor neg false)
  | .tup _, .non => some (xor neg false)
  | .lst _, .non => some (xor neg false)
  | .loc _, .non => some (xor neg false)
  | .obj _ _ _, .non => some (xor neg false)
  | _, _ => none
theorem csIs_ok {X : Cx} {op : CmpOp} {neg : Bool} (h1 : OpR X (compareOp op) fun x y H Q => y = .non ∧ Q (.bl (xor neg (decide (x = .non)))) H)
    (h2 : OpR X (compareOp op) fun x y H Q => ∃ a b : Bool, x = .bl a ∧ y = .bl b ∧ Q (.bl (xor neg (decide (a = b)))) H) : OpR X (compareOp op) (vC X.K (csIs neg)) :=
  opOr h1 h2 fun x y H Q q => by
    obtain ⟨pv, d, e, S, Hd, M, b, r1, r2, sr, hb, q⟩ := q
    unfold csIs at hb
    split at hb <;> first | (cases hb; done) | skip
    · cases hb
      simp only [Rep] at r1 r2
      exact .inr ⟨_, _, r1, r2, q⟩
    all_goals
      cases hb
      simp only [Rep] at r1 r2
      refine .inl ⟨r2, ?_⟩
      first
        | (subst r1; simpa using q)
        | (obtain ⟨a, vs, rfl, _⟩ := r1; simpa using q)
        | (obtain ⟨a, dx, vs, rfl, _⟩ := r1; simpa using q)
def cIs : CNode := ⟨.Is, csIs false, fun X A => csIs_ok (opOf op_isN fun x y H Q q => ⟨q.1, by simpa using q.2⟩) (opOf op_isBl fun x y H Q q => by
  obtain ⟨a, b, h1, h2, q⟩ := q
  exact ⟨a, b, h1, h2, by simpa using q⟩)⟩
def cIsNot : CNode := ⟨.IsNot, csIs true, fun X A => csIs_ok (opOf op_notN fun x y H Q q => ⟨q.1, by simpa using q.2⟩) (opOf op_notBl fun x y H Q q => by
  obtain ⟨a, b, h1, h2, q⟩ := q
  exact ⟨a, b, h1, h2, by simpa using q⟩)⟩
/-- in a sequence of flat things -/
def flatD : D → Option V
  | .non => some .non
  | .bl b => some (.bl b)
  | .int i => some (.int i)
  | .str x => some (.str x)
  | _ => none
def flatL : List D → Option (List V)
  | [] => some []
  | d :: ds => match flatD d, flatL ds with
    | some v, some vs => some (v :: vs)
    | _, _ => none
theorem flatD_ok {K : PySem.W.Frag} {H : Hp} {d : D} {v u : V} (r : Rep K H d v) (h : flatD d = some u) : v = u ∧ flatV v = true := by
  cases d <;> simp only [flatD] at h <;> first | (cases h; done) | skip
  all_goals
    cases h
    simp only [Rep] at r
    subst r
    exact ⟨rfl, rfl⟩
theorem flatL_ok {K : PySem.W.Frag} {H : Hp} : ∀ {ds : List D} {vs us : List V}, RepL K H ds vs → flatL ds = some us → vs = us ∧ vs.all flatV = true
  | [], _, _, r, h => by simp only [RepL] at r; subst r; simp only [flatL] at h; cases h; exact ⟨rfl, rfl⟩
  | d :: ds, _, _, r, h => by
    simp only [RepL] at r
    obtain ⟨v, vr, rfl, ra, rb⟩ := r
    simp only [flatL] at h
    split at h
    · rename_i a b qa qb
      cases h
      obtain ⟨e1, f1⟩ := flatD_ok ra qa
      obtain ⟨e2, f2⟩ := flatL_ok rb qb
      subst e1 e2
      exact ⟨rfl, by simp [f1, f2]⟩
    · cases h
def csIn (neg : Bool) (d e : D) (S : Sto) : Option Bool := match flatD d, (seqS S e).bind flatL with
  | some v, some vs => some (xor neg (inV v vs))
  | _, _ => none
theorem csIn_ok {X : Cx} {op : CmpOp} {neg : Bool} (h : OpR X (compareOp op) (rIn X.K neg)) : OpR X (compareOp op) (vC X.K (csIn neg)) := opOf h fun x y H Q q => by
  obtain ⟨pv, d, e, S, Hd, M, b, r1, r2, sr, hb, q⟩ := q
  unfold csIn at hb
  split at hb
  · rename_i v vs hv hs
    cases hb
    cases hq : seqS S e with
    | none => rw [hq] at hs; cases hs
    | some ys =>
      rw [hq] at hs
      obtain ⟨a, us, rfl, rl, st⟩ := seq_any sr r2 hq
      obtain ⟨e1, f1⟩ := flatD_ok r1 hv
      obtain ⟨e2, f2⟩ := flatL_ok rl hs
      subst e1 e2
      refine ⟨a, us, rfl, st, f1, f2, ?_⟩
      cases neg <;> simpa using q
  · cases hb
def cIn : CNode := ⟨.In, csIn false, fun X A => csIn_ok op_in_seq⟩
def cNotIn : CNode := ⟨.NotIn, csIn true, fun X A => csIn_ok op_notIn_seq⟩
end
section
open PySem PySem.Spec L2
def callSh (x : Str) (n : Nat) : Scope → Expr → Option (List Expr) := fun sc e => match e with
  | .Call (.Name y _) (a :: as) [] _ => if (decide (y = x) && (glB sc y && decide ((a :: as).length = n))) = true then some (a :: as) else none
  | _ => none
theorem callSh_pl {x : Str} {n : Nat} (sc : Scope) (e : Expr) (es : List Expr) (h : callSh x n sc e = some es) : plainE e = true := by
  unfold callSh at h
  split at h
  · rfl
  · cases h
theorem pe_ofB {X : Cx} {x : Str} {n : Nat} {id : String} {sem : List D → Sto → PostE → Prop} {e : Expr} {es : List Expr} {ts : List TE} (A : Amb X) (hx : x ∈ bNames) (hb : bootBuiltins x = some (.builtin id)) (hn : okName x = true)
    (h : CallR X (.builtin id) (fun vs H Q => vSem X.K sem 0 vs H Q)) (hs : callSh x n X.env.scope e = some es) (p : PEs X es ts) : PE X e (tNd X.K sem 0 ts) := by
  unfold callSh at hs
  split at hs
  · split at hs
    · rename_i c
      simp only [Bool.and_eq_true, decide_eq_true_eq] at c
      obtain ⟨rfl, g, _⟩ := c
      cases hs
      obtain ⟨d1, d2, d3⟩ := okName_d hn
      cases p with
      | cons n m p1 p =>
        exact pe_callB h (glB_ok g) (A.fr _ hx) hb (PEs.cons n m p1 p).pa d3 d1 (star_cons n) (p.plain _)
    · cases hs
  · cases hs
theorem pe_ofT {X : Cx} {x : Str} {n : Nat} {T : String} {sem : List D → Sto → PostE → Prop} {e : Expr} {es : List Expr} {ts : List TE} (A : Amb X) (hx : x ∈ bNames) (hb : bootBuiltins x = some (.type T)) (hn : okName x = true)
    (h : CallR X (.type T) (fun vs H Q => vSem X.K sem 0 vs H Q)) (hs : callSh x n X.env.scope e = some es) (p : PEs X es ts) : PE X e (tNd X.K sem 0 ts) := by
  unfold callSh at hs
  split at hs
  · split at hs
    · rename_i c
      simp only [Bool.and_eq_true, decide_eq_true_eq] at c
      obtain ⟨rfl, g, _⟩ := c
      cases hs
      obtain ⟨d1, d2, d3⟩ := okName_d hn
      cases p with
      | cons n m p1 p =>
        exact pe_callTy h (glB_ok g) (A.fr _ hx) hb (PEs.cons n m p1 p).pa d3 d1 (star_cons n) (p.plain _)
    · cases hs
  · cases hs
def nB (x : Str) (id : String) (n : Nat) (hx : x ∈ bNames) (hb : bootBuiltins x = some (.builtin id)) (hn : okName x = true) (sem : List D → Sto → PostE → Prop) (h : ∀ X, Amb X → CallR X (.builtin id) (fun vs H Q => vSem X.K sem 0 vs H Q)) : Node :=
  .plain (callSh x n) sem callSh_pl fun X e es ts A hs p => pe_ofB A hx hb hn (h X A) hs p
def nT (x : Str) (T : String) (n : Nat) (hx : x ∈ bNames) (hb : bootBuiltins x = some (.type T)) (hn : okName x = true) (sem : List D → Sto → PostE → Prop) (h : ∀ X, Amb X → CallR X (.type T) (fun vs H Q => vSem X.K sem 0 vs H Q)) : Node :=
  .plain (callSh x n) sem callSh_pl fun X e es ts A hs p => pe_ofT A hx hb hn (h X A) hs p
def lenS (S : Sto) : D → Option Nat
  | .str z => if z.length ≤ sizeLine then some z.length else none
  | d => (seqS S d).map List.length
def nLen : Node := nB "len" "len" 1 (by decide +kernel) (by decide +kernel) (by decide +kernel) (fun ds S Q => ∃ d n, ds = [d] ∧ lenS S d = some n ∧ Q (.int n) S) fun X A => callOf (call_len_seq.or call_len_str) fun xs H Q q => by
  obtain ⟨pv, ds, S, Hd, M, Qd, rl, sr, hc, w, fin⟩ := q
  obtain ⟨d, n, rfl, hl, w⟩ := w
  obtain ⟨v, rfl, r⟩ := rl.one
  have f := fin_val fin sr (d := .int n) (v := .int n) (by simp only [Rep]) w
  unfold lenS at hl
  split at hl
  · split at hl
    · rename_i z hz
      cases hl
      simp only [Rep] at r
      exact .inr ⟨_, by rw [r], hz, f⟩
    · cases hl
  · cases hq : seqS S d with
    | none => rw [hq] at hl; cases hl
    | some ys =>
      rw [hq] at hl
      cases hl
      obtain ⟨a, us, rfl, rl', st⟩ := seq_any sr r hq
      exact .inl ⟨a, us, rfl, st, by rw [rl'.length]; exact f⟩
/-- the name of a value's type -/
def isT (a b : String) : Bool := a == b || (a == "bool" && b == "int")
def tyNames : List String := ["NoneType", "bool", "int", "str", "tuple", "list", "dict"]
def clsNames : List String := ["bool", "int", "str", "tuple", "list"]
theorem kit_all : (tyNames.all fun a => clsNames.all fun b => decide (kitB a b = some (isT a b))) = true := by decide +kernel
theorem tyN_mem {S : Sto} {d : D} {n : String} (h : tyN S d = some n) : n ∈ tyNames := by
  cases d <;> simp only [tyN] at h <;> first | (cases h; decide) | (cases h; done) | skip
  split at h <;> first | (cases h; decide) | cases h
def nIsi : Node := nB "isinstance" "isinstance" 2 (by decide +kernel) (by decide +kernel) (by decide +kernel) (fun ds S Q => ∃ d n t, ds = [d, .ty n] ∧ tyN S d = some t ∧ n ∈ clsNames ∧ Q (.bl (isT t n)) S) fun X A => callOf call_isi fun xs H Q q => by
  obtain ⟨pv, ds, S, Hd, M, Qd, rl, sr, hc, w, fin⟩ := q
  obtain ⟨d, n, t, rfl, ht, hn, w⟩ := w
  obtain ⟨v, u, rfl, r1, r2⟩ := rl.two
  simp only [Rep] at r2
  subst r2
  have k := List.all_eq_true.mp (List.all_eq_true.mp kit_all t (tyN_mem ht)) n hn
  exact ⟨v, .ty n, _, _, isT t n, rfl, .ty n, tyN_ok sr r1 ht, kit_ty (of_decide_eq_true k), fin_val fin sr (by simp only [Rep]) w⟩
def nTuple : Node := nT "tuple" "tuple" 1 (by decide +kernel) (by decide +kernel) (by decide +kernel) (fun ds S Q => ∃ d xs, ds = [d] ∧ seqS S d = some xs ∧ Q (.tup xs) S) fun X A => callOf call_tuple_of fun xs H Q q => by
  obtain ⟨pv, ds, S, Hd, M, Qd, rl, sr, hc, w, fin⟩ := q
  obtain ⟨d, xs, rfl, hl, w⟩ := w
  obtain ⟨v, rfl, r⟩ := rl.one
  obtain ⟨a, us, rfl, rl', st⟩ := seq_of sr r hl
  rcases st with ⟨⟨ys, rfl⟩, st⟩ | ⟨_, st⟩
  · simp only [seqS] at hl; cases hl
    exact ⟨a, us, rfl, .inr ⟨st, fin_val fin sr r w⟩⟩
  · exact ⟨a, us, rfl, .inl ⟨.inl st, fun l hl => fin_tup fin sr rl' w hl⟩⟩
def nList (o : Bool) : Node := nT "list" "list" 1 (by decide +kernel) (by decide +kernel) (by decide +kernel) (fun ds S Q => ∃ d xs, ds = [d] ∧ seqS S d = some xs ∧ newL o xs S Q) fun X A => callOf call_list_of fun xs H Q q => by
  obtain ⟨pv, ds, S, Hd, M, Qd, rl, sr, hc, w, fin⟩ := q
  obtain ⟨d, xs, rfl, hl, w⟩ := w
  obtain ⟨v, rfl, r⟩ := rl.one
  obtain ⟨a, us, rfl, rl', st⟩ := seq_any sr r hl
  exact ⟨a, us, rfl, st, fun l hl => fin_lst fin sr rl' w hl⟩
def sInt (ds : List D) (S : Sto) (Q : PostE) : Prop := match ds with
  | [.int i] => Q (.int i) S
  | [.bl b] => Q (.int (if b then 1 else 0)) S
  | _ => False
def nIntOf : Node := nT "int" "int" 1 (by decide +kernel) (by decide +kernel) (by decide +kernel) sInt fun X A => callOf call_int1 fun xs H Q q => by
  obtain ⟨pv, ds, S, Hd, M, Qd, rl, sr, hc, w, fin⟩ := q
  unfold sInt at w
  split at w
  · rename_i i
    obtain ⟨v, rfl, r⟩ := rl.one
    simp only [Rep] at r; subst r
    exact .inl ⟨i, rfl, fin_val fin sr (by simp only [Rep]) w⟩
  · rename_i b
    obtain ⟨v, rfl, r⟩ := rl.one
    simp only [Rep] at r; subst r
    exact .inr ⟨b, rfl, fin_val fin sr (by simp only [Rep]) w⟩
  · exact w.elim
def nSum : Node := nB "sum" "sum" 1 (by decide +kernel) (by decide +kernel) (by decide +kernel) (fun ds S Q => ∃ (d : D) (ns : List Int), ds = [d] ∧ lstS S d = some (ns.map D.int) ∧ Q (.int ns.sum) S) fun X A => callOf (cr_sum A.calm) fun xs H Q q => by
  obtain ⟨pv, ds, S, Hd, M, Qd, rl, sr, hc, w, fin⟩ := q
  obtain ⟨d, ns, rfl, hl, w⟩ := w
  obtain ⟨v, rfl, r⟩ := rl.one
  obtain ⟨a, us, rfl, rl', st⟩ := lst_of sr r hl
  rw [rl'.ints] at st
  exact ⟨a, ns, rfl, .inl st, fin_val fin sr (by simp only [Rep]) w⟩
theorem RepL.bls {K : PySem.W.Frag} {H : Hp} : ∀ {bs : List Bool} {vs : List V}, RepL K H (bs.map D.bl) vs → vs = bs.map V.bl
  | [], _, h => by simpa only [List.map_nil, RepL] using h
  | n :: ns, _, h => by
    simp only [List.map_cons, RepL, Rep] at h
    obtain ⟨v, r, rfl, rfl, b⟩ := h
    rw [RepL.bls b, List.map_cons]
def nAll : Node := nB "all" "all" 1 (by decide +kernel) (by decide +kernel) (by decide +kernel) (fun ds S Q => ∃ (d : D) (bs : List Bool), ds = [d] ∧ lstS S d = some (bs.map D.bl) ∧ Q (.bl (bs.all id)) S) fun X A => callOf (cr_all A.calm) fun xs H Q q => by
  obtain ⟨pv, ds, S, Hd, M, Qd, rl, sr, hc, w, fin⟩ := q
  obtain ⟨d, ns, rfl, hl, w⟩ := w
  obtain ⟨v, rfl, r⟩ := rl.one
  obtain ⟨a, us, rfl, rl', st⟩ := lst_of sr r hl
  rw [rl'.bls] at st
  exact ⟨a, ns, rfl, .inl st, fin_val fin sr (by simp only [Rep]) w⟩
def nAny : Node := nB "any" "any" 1 (by decide +kernel) (by decide +kernel) (by decide +kernel) (fun ds S Q => ∃ (d : D) (bs : List Bool), ds = [d] ∧ lstS S d = some (bs.map D.bl) ∧ Q (.bl (bs.any id)) S) fun X A => callOf (cr_any A.calm) fun xs H Q q => by
  obtain ⟨pv, ds, S, Hd, M, Qd, rl, sr, hc, w, fin⟩ := q
  obtain ⟨d, ns, rfl, hl, w⟩ := w
  obtain ⟨v, rfl, r⟩ := rl.one
  obtain ⟨a, us, rfl, rl', st⟩ := lst_of sr r hl
  rw [rl'.bls] at st
  exact ⟨a, ns, rfl, .inl st, fin_val fin sr (by simp only [Rep]) w⟩
def nMin : Node := nB "min" "min" 2 (by decide +kernel) (by decide +kernel) (by decide +kernel) (fun ds S Q => ∃ i j, ds = [.int i, .int j] ∧ Q (.int (if j < i then j else i)) S) fun X A => callOf (call_min2 A.calm) fun xs H Q q => by
  obtain ⟨pv, ds, S, Hd, M, Qd, rl, sr, hc, w, fin⟩ := q
  obtain ⟨i, j, rfl, w⟩ := w
  obtain ⟨v, u, rfl, r1, r2⟩ := rl.two
  simp only [Rep] at r1 r2
  subst r1 r2
  exact ⟨i, j, rfl, fin_val fin sr (by simp only [Rep]) w⟩
def reprOk (p : PyData) : Prop := p.showable = true ∧ p.depth ≤ 50 ∧ p.shown.length ≤ sizeLine
theorem plainIx {b : Expr} (h : notSlice b = true) : PlainIx b := by
  intro o i
  cases b <;> first | rfl | cases h
def nIx : Node := .plain (fun _ e => match e with
    | .Subscript a b _ => if notSlice b = true then some [a, b] else none
    | _ => none) (fun ds S Q => ∃ d i xs v, ds = [d, .int i] ∧ seqS S d = some xs ∧ atI xs i = some v ∧ Q v S)
  (fun sc e es h => by cases e <;> first | rfl | (simp at h))
  (fun X e es ts A hs p => by
    split at hs
    · rename_i a b pos
      split at hs
      · rename_i hb
        cases hs
        cases p with
        | cons n1 m1 p1 p =>
          cases p with
          | cons n2 m2 p2 p =>
            cases p
            refine (pe_ix ix_seq p1 p2 (plainIx hb)).of fun σ H Q q => m1 _ _ _ _ (fun x H1 q => m2 _ _ _ _ (fun y H2 q => ?_) q) q
            obtain ⟨pv, ds, S, Hd, M, Qd, rl, sr, hc, w, fin⟩ := q
            obtain ⟨d, i, xs, v, rfl, hq, ha, w⟩ := w
            obtain ⟨x', y', e, r1, r2⟩ := rl.two
            simp only [List.cons.injEq, and_true] at e
            obtain ⟨rfl, rfl⟩ := e
            simp only [Rep] at r2
            obtain ⟨a, us, rfl, rl', st⟩ := seq_any sr r1 hq
            have hl := rl'.length
            have hv : ∃ u, atI us i = some u ∧ Rep X.K Hd v u := by
              unfold atI at ha ⊢
              rw [hl]
              cases hj : ixN xs.length i with
              | none => rw [hj] at ha; cases ha
              | some j =>
                rw [hj] at ha
                exact rl'.get ha
            obtain ⟨u, hu, ru⟩ := hv
            rcases st with st | st
            · exact .inl ⟨a, us, i, u, rfl, r2, st, hu, fin_val fin sr ru w⟩
            · exact .inr (.inl ⟨a, us, i, u, rfl, r2, st, hu, fin_val fin sr ru w⟩)
      · cases hs
    · cases hs)
def rgD (a b : Int) : List D := (List.range (b - a).toNat).map fun i => D.int (a + (i : Nat))
theorem rgD_rep {K : PySem.W.Frag} {H : Hp} (a b : Int) : RepL K H (rgD a b) (rgV a b) := RepL.map (fun i => by simp only [Rep]) _
def rg1Sh (x : Str) : Scope → Expr → Option (List Expr) := fun sc e => match e with
  | .Call (.Name y _) [.Call (.Name z _) [a] [] _] [] _ => if (decide (y = x) && (decide (z = ("range" : Str)) && (glB sc y && (glB sc z && notStar a)))) = true then some [a] else none
  | _ => none
def nListRg1 (o : Bool) : Node := .plain (rg1Sh "list") (fun ds S Q => ∃ n, ds = [.int n] ∧ RgOk 0 n ∧ newL o (rgD 0 n) S Q)
  (fun sc e es h => by unfold rg1Sh at h; split at h <;> first | rfl | cases h)
  (fun X e es ts A hs p => by
    unfold rg1Sh at hs
    split at hs
    · split at hs
      · rename_i c
        simp only [Bool.and_eq_true, decide_eq_true_eq] at c
        obtain ⟨rfl, rfl, g1, g2, na⟩ := c
        cases hs
        cases p with
        | cons n1 m1 p1 p =>
          cases p
          refine (pe_listRg A.calm (glB_ok g1) (A.fr _ (by decide +kernel)) (prg_1 (glB_ok g2) (A.fr _ (by decide +kernel)) p1 (star_cons na))).of fun σ H Q q => m1 _ _ _ _ (fun x H1 q => ?_) q
          obtain ⟨pv, ds, S, Hd, M, Qd, rl, sr, hc, w, fin⟩ := q
          obtain ⟨n, rfl, ok, w⟩ := w
          obtain ⟨v, e, r⟩ := rl.one
          cases e
          simp only [Rep] at r
          exact ⟨n, r, ok, fun p hp => fin_lst fin sr (rgD_rep 0 n) w hp⟩
      · cases hs
    · cases hs)
theorem foldP {e : Expr} {env : Env} {x : Value} (h : ∀ a b c, e ≠ .Set a b c) : foldedSetIterable e env x = pure x := by
  cases e <;> first | rfl | exact absurd rfl (h _ _ _)
def notSet : Expr → Bool
  | .Set _ _ _ => false
  | _ => true
/-- a list, a tuple: as it stands; a list that may change must not, while it is walked -/
def stayS (d : D) (xs : List D) (S : Sto) : Prop := seqS S d = some xs
def iAnyS (K : PySem.W.Frag) (tl : TE) : TI := fun σ H R => tl σ H fun x H1 => ∃ a, x = .ref a ∧ (((∃ xs, SqL K H1 a xs) ∧ R (Itl K a) H1) ∨ ((∃ xs, SqT K H1 a xs) ∧ R (Itt K a) H1))
/-- an iterator just laid at the heap's end: nobody's but the loop's -/
theorem laid_it {X : Cx} {tg : Expr} {pins : List (Addr × Obj)} {σ : St} {T : Hp} {st : Shared} {R : It → Hp → Prop} {J : It} {ob : Obj} {tn : Nat → Heap → Prop} (I : Inv X pins σ T st) (tu : Turn X.prog X.w X.K tg J [st.heap.objs.size] st.heap.objs.size tn)
    (t0 : tn 0 (st.heap.push ob)) (q : R J T) : PIE X pins σ tg R (.ref st.heap.objs.size) { st with heap := st.heap.push ob } :=
  ⟨_, _, tn, J, T, rfl, Inv.kept (t' := st.toks) I fun _ _ g => Heap.get?_push_of_some _ g, tu, t0, fun b hb => by rw [List.mem_singleton.mp hb]; exact I.fpOk (Nat.le_refl _) I.fresh, q⟩
theorem pi_anyS {X : Cx} {tg l : Expr} {tl : TE} (hl : PE X l tl) : PI X tg l (iAnyS X.K tl) := by
  constructor
  intro pins st σ T R I wish
  refine thn (hl.run pins st σ T _ I wish) ?_
  rintro v st' ⟨x, T', I', rv, a, rfl, q⟩
  cases rv
  rcases q with ⟨⟨xs, sq⟩, q⟩ | ⟨⟨xs, sq⟩, q⟩
  · obtain ⟨its, _, at_a, _⟩ := I'.list sq
    exact wpAny_pyIter_list at_a.isList (laid_it I' (turn_list a _) ⟨_, Heap.get?_push_size _ rfl, rfl, rfl⟩ q)
  · obtain ⟨its, _, at_a, _⟩ := I'.tuple sq
    have at_a' : st'.heap.IsTuple a its.toArray := at_a
    exact wpAny_pyIter_tuple at_a' (laid_it I' (turn_tuple a _) ⟨_, Heap.get?_push_size _ rfl, rfl, rfl⟩ q)
theorem _root_.L2.PI.of {X : Cx} {tg e : Expr} {t t' : TI} (h : PI X tg e t) (i : ∀ σ H R, t' σ H R → t σ H R) : PI X tg e t' := ⟨fun pins s σ H R I q => h.run pins s σ H R I (i σ H R q)⟩
theorem iter_seqL {K : PySem.W.Frag} {Hd0 : Hp} {d : D} {xs : List D} {a : Addr} (hx : xs.length ≤ MX) (r : Rep K Hd0 d (.ref a)) (nt : ¬ ∃ ys, d = .tup ys) : Iter K xs (stayS d xs) Hd0 (Itl K a) := by
  refine ⟨hx, fun pv S Hd H M le sr st i => ?_⟩
  obtain ⟨a', us, e, rl, h⟩ := seq_of sr (r.mono le) st
  cases e
  rcases h with ⟨z, _⟩ | ⟨_, h⟩
  · exact absurd z nt
  refine ⟨fun hi => ?_, fun hi => ⟨us, .inl h, by rw [rl.length]; exact hi⟩⟩
  obtain ⟨u, hu, ru⟩ := rl.get (List.getElem?_eq_getElem hi)
  refine ⟨⟨us, u, .inl h, hu⟩, fun x H' y => ?_⟩
  obtain ⟨rfl, y⟩ := y
  have e := y us (.inl h)
  rw [hu] at e; cases e
  exact ⟨Hd, _, List.getElem?_eq_getElem hi, .refl .., sr, ru⟩
theorem iter_seqT {K : PySem.W.Frag} {Hd0 : Hp} {d : D} {xs : List D} {a : Addr} (hx : xs.length ≤ MX) (r : Rep K Hd0 d (.ref a)) (nt : ∃ ys, d = .tup ys) : Iter K xs (stayS d xs) Hd0 (Itt K a) := by
  refine ⟨hx, fun pv S Hd H M le sr st i => ?_⟩
  obtain ⟨a', us, e, rl, h⟩ := seq_of sr (r.mono le) st
  cases e
  rcases h with ⟨_, h⟩ | ⟨z, _⟩
  · refine ⟨fun hi => ?_, fun hi => ⟨us, h, by rw [rl.length]; exact hi⟩⟩
    obtain ⟨u, hu, ru⟩ := rl.get (List.getElem?_eq_getElem hi)
    refine ⟨⟨us, u, h, hu⟩, fun x H' y => ?_⟩
    obtain ⟨rfl, y⟩ := y
    have e := y us h
    rw [hu] at e; cases e
    exact ⟨Hd, _, List.getElem?_eq_getElem hi, .refl .., sr, ru⟩
  · exact absurd nt z
theorem sizeMX {n : Nat} (h : n ≤ sizeLine) : n ≤ MX := Nat.le_trans h (by decide +kernel)
def iSeq : INode where
  shape := fun _ e => if (notSet e && notStar e) = true then some [e] else none
  sem := fun ds S k => ∃ d xs, ds = [d] ∧ seqS S d = some xs ∧ xs.length ≤ sizeLine ∧ k xs (stayS d xs)
  tgt := fun _ => true
  fold := fun sc e es h env x => by
    split at h
    · rename_i c
      refine foldP fun a b d z => ?_
      subst z
      simp [notSet] at c
    · cases h
  ok := fun X tg e es ts A ht hs p => by
    split at hs
    · cases hs
      cases p with
      | cons n m p1 p =>
        cases p
        refine (pi_anyS p1).of fun σ H R q => m _ _ _ _ (fun x H1 q => ?_) q
        obtain ⟨pv, ds, S, Hd, M, k, rl, sr, w, fin⟩ := q
        obtain ⟨d, xs, rfl, hx, hl, w⟩ := w
        obtain ⟨v, e, r⟩ := rl.one
        cases e
        obtain ⟨a, us, rfl, rl', h⟩ := seq_of sr r hx
        refine ⟨a, rfl, ?_⟩
        rcases h with ⟨z, h⟩ | ⟨z, h⟩
        · exact .inr ⟨⟨us, h⟩, fin _ _ _ Hd H1 w (.refl ..) sr (iter_seqT (sizeMX hl) r z)⟩
        · exact .inl ⟨⟨us, .inl h⟩, fin _ _ _ Hd H1 w (.refl ..) sr (iter_seqL (sizeMX hl) r z)⟩
    · cases hs
theorem foldC {f : Expr} {as : List Expr} {ks : List Keyword} {p : Pos} {env : Env} {x : Value} : foldedSetIterable (.Call f as ks p) env x = pure x := rfl
theorem iter_rg {K : PySem.W.Frag} {Hd0 : Hp} (lo hi : Int) (h : (hi - lo).toNat ≤ MX) : Iter K (rgD lo hi) (fun _ => True) Hd0 (Itr lo (hi - lo).toNat) := by
  have el : (rgD lo hi).length = (hi - lo).toNat := by simp [rgD]
  refine ⟨by rw [el]; exact h, fun pv S Hd H M le sr st i => ⟨fun hi' => ⟨by rw [el] at hi'; exact hi', fun x H' y => ?_⟩, fun hi' => by rw [el] at hi'; exact hi'⟩⟩
  obtain ⟨rfl, rfl⟩ := y
  refine ⟨Hd, .int (lo + (i : Nat)), ?_, .refl .., sr, by simp only [Rep]⟩
  rw [el] at hi'
  simp [rgD, hi']
def rng1Sh : Scope → Expr → Option (List Expr) := fun sc e => match e with
  | .Call (.Name y _) [a] [] _ => if (decide (y = ("range" : Str)) && (glB sc y && notStar a)) = true then some [a] else none
  | _ => none
def rng2Sh : Scope → Expr → Option (List Expr) := fun sc e => match e with
  | .Call (.Name y _) [a, b] [] _ => if (decide (y = ("range" : Str)) && (glB sc y && (notStar a && notStar b))) = true then some [a, b] else none
  | _ => none
def Rg62 (i : Int) : Prop := -(2 ^ 62) ≤ i ∧ i < 2 ^ 62
def iRg1 : INode where
  shape := rng1Sh
  sem := fun ds S k => ∃ n, ds = [.int n] ∧ Rg62 n ∧ k (rgD 0 n) (fun _ => True)
  tgt := fun _ => true
  fold := fun sc e es h env x => by
    unfold rng1Sh at h
    split at h <;> first | exact foldC | cases h
  ok := fun X tg e es ts A ht hs p => by
    unfold rng1Sh at hs
    split at hs
    · split at hs
      · rename_i c
        simp only [Bool.and_eq_true, decide_eq_true_eq] at c
        obtain ⟨rfl, g, na⟩ := c
        cases hs
        cases p with
        | cons n m p1 p =>
          cases p
          refine (pi_range1 (glB_ok g) (A.fr _ (by decide +kernel)) (PEs.cons n m p1 .nil).pa (star_cons na)).of fun σ H R q => m _ _ _ _ (fun x H1 q => ?_) q
          obtain ⟨pv, ds, S, Hd, M, k, rl, sr, w, fin⟩ := q
          obtain ⟨n, rfl, hn, w⟩ := w
          obtain ⟨v, e, r⟩ := rl.one
          cases e
          simp only [Rep] at r
          subst r
          have := iter_rg (K := X.K) (Hd0 := Hd) 0 n (by unfold MX; have := hn.2; omega)
          rw [Int.sub_zero] at this
          exact ⟨n, rfl, hn.1, hn.2, fin _ _ _ Hd H1 w (.refl ..) sr this⟩
      · cases hs
    · cases hs
def iRg2 : INode where
  shape := rng2Sh
  sem := fun ds S k => ∃ i j, ds = [.int i, .int j] ∧ Rg62 i ∧ Rg62 j ∧ k (rgD i j) (fun _ => True)
  tgt := fun _ => true
  fold := fun sc e es h env x => by
    unfold rng2Sh at h
    split at h <;> first | exact foldC | cases h
  ok := fun X tg e es ts A ht hs p => by
    unfold rng2Sh at hs
    split at hs
    · split at hs
      · rename_i c
        simp only [Bool.and_eq_true, decide_eq_true_eq] at c
        obtain ⟨rfl, g, na, nb⟩ := c
        cases hs
        cases p with
        | cons n m p1 p =>
          cases p with
          | cons n2 m2 p2 p =>
            cases p
            refine (pi_range2 (glB_ok g) (A.fr _ (by decide +kernel)) (PEs.cons n m p1 (.cons n2 m2 p2 .nil)).pa (by rw [star_cons na, star_cons nb]; rfl) (star_cons nb)).of fun σ H R q => m _ _ _ _ (fun x H1 q => m2 _ _ _ _ (fun y H2 q => ?_) q) q
            obtain ⟨pv, ds, S, Hd, M, k, rl, sr, w, fin⟩ := q
            obtain ⟨i, j, rfl, hi, hj, w⟩ := w
            obtain ⟨v, u, e, r, r2⟩ := rl.two
            simp only [List.cons.injEq, and_true] at e
            obtain ⟨rfl, rfl⟩ := e
            simp only [Rep] at r r2
            subst r r2
            exact ⟨i, j, rfl, ⟨hi.1, hi.2, hj.1, hj.2⟩, fin _ _ _ Hd H2 w (.refl ..) sr (iter_rg i j (by unfold MX; have := hi.1; have := hj.2; omega))⟩
      · cases hs
    · cases hs
def isTupE : Expr → Bool
  | .Tuple _ _ _ => true
  | _ => false
def fnSh1 (x : Str) : Scope → Expr → Option (List Expr) := fun sc e => match e with
  | .Call (.Name y _) [a] [] _ => if (decide (y = x) && (glB sc y && notStar a)) = true then some [a] else none
  | _ => none
def fnSh2 (x : Str) : Scope → Expr → Option (List Expr) := fun sc e => match e with
  | .Call (.Name y _) [a, b] [] _ => if (decide (y = x) && (glB sc y && (notStar a && notStar b))) = true then some [a, b] else none
  | _ => none
def zipD (xs ys : List D) : List D := List.zipWith (fun x y => D.tup [x, y]) xs ys
theorem zipD_at {xs ys : List D} {i : Nat} (h1 : i < xs.length) (h2 : i < ys.length) : (zipD xs ys)[i]? = some (.tup [xs[i], ys[i]]) := by
  unfold zipD
  rw [List.getElem?_zipWith]
  simp [h1, h2]
theorem zipD_len {xs ys : List D} : (zipD xs ys).length = min xs.length ys.length := by simp [zipD]
theorem mk_pair {K : PySem.W.Frag} {pv : List Addr} {S : Sto} {Hd H : Hp} {M : Nat} {T : Addr} {x y : V} {d e : D} (sr : SR K pv S Hd H M) (hT : H T = none) (r1 : Rep K Hd d x) (r2 : Rep K Hd e y) :
    Mv pv Hd H (upd Hd T (.tup [x, y])) (upd H T (.tup [x, y])) ∧ SR K pv S (upd Hd T (.tup [x, y])) (upd H T (.tup [x, y])) M ∧ Rep K (upd Hd T (.tup [x, y])) (.tup [d, e]) (.ref T) :=
  ⟨.new sr hT, sr.frz hT, .tupI upd_same (.cons (r1.mono (.new (sr.freshD hT))) (.cons (r2.mono (.new (sr.freshD hT))) .nil))⟩
theorem iter_zipL {K : PySem.W.Frag} {Hd0 : Hp} {d e : D} {xs ys : List D} {a b : Addr} (hx : xs.length ≤ MX) (r : Rep K Hd0 d (.ref a)) (r2 : Rep K Hd0 e (.ref b)) (nt : ¬ ∃ ys, d = .tup ys) (nt2 : ¬ ∃ ys, e = .tup ys) :
    Iter K (zipD xs ys) (fun S => stayS d xs S ∧ stayS e ys S) Hd0 (Itz K a b) := by
  refine ⟨by rw [zipD_len]; omega, fun pv S Hd H M le sr st i => ?_⟩
  obtain ⟨a', us, e, rl, h⟩ := seq_of sr (r.mono le) st.1
  cases e
  obtain ⟨b', us2, e, rl2, h2⟩ := seq_of sr (r2.mono le) st.2
  cases e
  replace h := (h.resolve_left fun z => nt z.1).2
  replace h2 := (h2.resolve_left fun z => nt2 z.1).2
  rw [zipD_len]
  refine ⟨fun hi => ?_, fun hi => ⟨us, us2, .inl h, .inl h2, by rw [rl.length, rl2.length]; omega⟩⟩
  have l1 : i < xs.length := by omega
  have l2 : i < ys.length := by omega
  obtain ⟨u, hu, ru⟩ := rl.get (List.getElem?_eq_getElem l1)
  obtain ⟨u2, hu2, ru2⟩ := rl2.get (List.getElem?_eq_getElem l2)
  refine ⟨⟨us, us2, u, u2, .inl h, .inl h2, hu, hu2⟩, fun x H' y => ?_⟩
  obtain ⟨T, x', y', rfl, hT, rfl, f1, f2⟩ := y
  have e1 := f1 us (.inl h)
  have e2 := f2 us2 (.inl h2)
  rw [hu] at e1; cases e1
  rw [hu2] at e2; cases e2
  obtain ⟨m, s', rr⟩ := mk_pair sr hT ru ru2
  exact ⟨_, _, zipD_at l1 l2, m, s', rr⟩
theorem iter_zipT {K : PySem.W.Frag} {Hd0 : Hp} {d e : D} {xs ys : List D} {a b : Addr} (hx : xs.length ≤ MX) (r : Rep K Hd0 d (.ref a)) (r2 : Rep K Hd0 e (.ref b)) (nt : ∃ ys, d = .tup ys) (nt2 : ∃ ys, e = .tup ys) :
    Iter K (zipD xs ys) (fun S => stayS d xs S ∧ stayS e ys S) Hd0 (RZ.ItzT K a b) := by
  refine ⟨by rw [zipD_len]; omega, fun pv S Hd H M le sr st i => ?_⟩
  obtain ⟨a', us, e, rl, h⟩ := seq_of sr (r.mono le) st.1
  cases e
  obtain ⟨b', us2, e, rl2, h2⟩ := seq_of sr (r2.mono le) st.2
  cases e
  replace h := (h.resolve_right fun z => z.1 nt).2
  replace h2 := (h2.resolve_right fun z => z.1 nt2).2
  rw [zipD_len]
  refine ⟨fun hi => ?_, fun hi => ⟨us, us2, h, h2, by rw [rl.length, rl2.length]; omega⟩⟩
  have l1 : i < xs.length := by omega
  have l2 : i < ys.length := by omega
  obtain ⟨u, hu, ru⟩ := rl.get (List.getElem?_eq_getElem l1)
  obtain ⟨u2, hu2, ru2⟩ := rl2.get (List.getElem?_eq_getElem l2)
  refine ⟨⟨us, us2, u, u2, h, h2, hu, hu2⟩, fun x H' y => ?_⟩
  obtain ⟨T, x', y', rfl, hT, rfl, f1, f2⟩ := y
  have e1 := f1 us h
  have e2 := f2 us2 h2
  rw [hu] at e1; cases e1
  rw [hu2] at e2; cases e2
  obtain ⟨m, s', rr⟩ := mk_pair sr hT ru ru2
  exact ⟨_, _, zipD_at l1 l2, m, s', rr⟩
def isTupD : D → Bool
  | .tup _ => true
  | _ => false
theorem isTupD_iff {d : D} : isTupD d = true ↔ ∃ ys, d = .tup ys := by
  cases d <;> simp [isTupD]
def iZip : INode where
  shape := fnSh2 "zip"
  sem := fun ds S k => ∃ d e xs ys, ds = [d, e] ∧ seqS S d = some xs ∧ seqS S e = some ys ∧ isTupD d = isTupD e ∧ xs.length ≤ sizeLine ∧ k (zipD xs ys) (fun S => stayS d xs S ∧ stayS e ys S)
  tgt := isTupE
  fold := fun sc e es h env x => by
    unfold fnSh2 at h
    split at h <;> first | exact foldC | cases h
  ok := fun X tg e es ts A ht hs p => by
    unfold fnSh2 at hs
    split at hs
    · split at hs
      · rename_i c
        simp only [Bool.and_eq_true, decide_eq_true_eq] at c
        obtain ⟨rfl, g, na, nb⟩ := c
        cases hs
        unfold isTupE at ht
        split at ht
        · cases p with
          | cons n m p1 p =>
            have pl := p.plain
            cases p with
            | cons n2 m2 p2 p =>
              cases p
              refine (RZ.pi_zipA (glB_ok g) (A.fr _ (by decide +kernel)) (PEs.cons n m p1 (.cons n2 m2 p2 .nil)).pa (star_cons na) (pl _)).of fun σ H R q => m _ _ _ _ (fun x H1 q => m2 _ _ _ _ (fun y H2 q => ?_) q) q
              obtain ⟨pv, ds, S, Hd, M, k, rl, sr, w, fin⟩ := q
              obtain ⟨d, d2, xs, ys, rfl, h1, h2, hb, hl, w⟩ := w
              obtain ⟨v, u, e, r, r2⟩ := rl.two
              simp only [List.cons.injEq, and_true] at e
              obtain ⟨rfl, rfl⟩ := e
              obtain ⟨a, us, rfl, rl', h⟩ := seq_of sr r h1
              obtain ⟨b, us2, rfl, rl2', h'⟩ := seq_of sr r2 h2
              refine ⟨a, b, us, us2, rfl, ?_⟩
              by_cases c : isTupD d = true
              · have t1 := isTupD_iff.mp c
                have t2 := isTupD_iff.mp (hb ▸ c)
                exact .inr ⟨(h.resolve_right fun z => z.1 t1).2, (h'.resolve_right fun z => z.1 t2).2, fin _ _ _ Hd H2 w (.refl ..) sr (iter_zipT (sizeMX hl) r r2 t1 t2)⟩
              · have t1 : ¬ ∃ ys, d = .tup ys := fun z => c (isTupD_iff.mpr z)
                have t2 : ¬ ∃ ys, d2 = .tup ys := fun z => c (hb ▸ isTupD_iff.mpr z)
                exact .inl ⟨.inl (h.resolve_left fun z => t1 z.1).2, .inl (h'.resolve_left fun z => t2 z.1).2, fin _ _ _ Hd H2 w (.refl ..) sr (iter_zipL (sizeMX hl) r r2 t1 t2)⟩
        · cases ht
      · cases hs
    · cases hs
def enumD (xs : List D) : List D := xs.mapIdx fun i x => D.tup [.int (i : Nat), x]
theorem iter_enum {K : PySem.W.Frag} {Hd0 : Hp} {d : D} {xs : List D} {a : Addr} (hx : xs.length ≤ MX) (r : Rep K Hd0 d (.ref a)) (nt : ¬ ∃ ys, d = .tup ys) : Iter K (enumD xs) (stayS d xs) Hd0 (Ite K a) := by
  have el : (enumD xs).length = xs.length := by simp [enumD]
  refine ⟨by rw [el]; exact hx, fun pv S Hd H M le sr st i => ?_⟩
  obtain ⟨a', us, e, rl, h⟩ := seq_of sr (r.mono le) st
  cases e
  replace h := (h.resolve_left fun z => nt z.1).2
  rw [el]
  refine ⟨fun hi => ?_, fun hi => ⟨us, .inl h, by rw [rl.length]; exact hi⟩⟩
  obtain ⟨u, hu, ru⟩ := rl.get (List.getElem?_eq_getElem hi)
  refine ⟨⟨us, u, .inl h, hu⟩, fun x H' y => ?_⟩
  obtain ⟨T, x', rfl, hT, rfl, f1⟩ := y
  have e1 := f1 us (.inl h)
  rw [hu] at e1; cases e1
  obtain ⟨m, s', rr⟩ := mk_pair (d := .int (i : Nat)) (x := .int (i : Nat)) sr hT (by simp only [Rep]) ru
  exact ⟨_, _, by simp [enumD, hi], m, s', rr⟩
def iEnumr : INode where
  shape := fnSh1 "enumerate"
  sem := fun ds S k => ∃ d xs, ds = [d] ∧ lstS S d = some xs ∧ xs.length ≤ sizeLine ∧ k (enumD xs) (stayS d xs)
  tgt := isTupE
  fold := fun sc e es h env x => by
    unfold fnSh1 at h
    split at h <;> first | exact foldC | cases h
  ok := fun X tg e es ts A ht hs p => by
    unfold fnSh1 at hs
    split at hs
    · split at hs
      · rename_i c
        simp only [Bool.and_eq_true, decide_eq_true_eq] at c
        obtain ⟨rfl, g, na⟩ := c
        cases hs
        unfold isTupE at ht
        split at ht
        · cases p with
          | cons n m p1 p =>
            cases p
            refine (pi_enum (glB_ok g) (A.fr _ (by decide +kernel)) (PEs.cons n m p1 .nil).pa (star_cons na)).of fun σ H R q => m _ _ _ _ (fun x H1 q => ?_) q
            obtain ⟨pv, ds, S, Hd, M, k, rl, sr, w, fin⟩ := q
            obtain ⟨d, xs, rfl, h1, hl, w⟩ := w
            obtain ⟨v, e, r⟩ := rl.one
            cases e
            obtain ⟨a, us, rfl, rl', h⟩ := lst_of sr r h1
            have nt : ¬ ∃ ys, d = .tup ys := fun ⟨ys, z⟩ => by subst z; simp [lstS] at h1
            exact ⟨a, us, rfl, .inl h, fin _ _ _ Hd H1 w (.refl ..) sr (iter_enum (sizeMX hl) r nt)⟩
        · cases ht
      · cases hs
    · cases hs
end
section
open PySem PySem.Spec L2
def nDic0 : Node := .plain (fun _ e => match e with
    | .Dict [] [] _ => some []
    | _ => none) (fun ds S Q => Q (.dic [] []) S)
  (fun sc e es h => by cases e <;> first | rfl | (simp at h))
  (fun X e es ts A h p => by
    split at h
    · cases h; cases p
      refine pe_dnewK.of fun σ H Q q => ?_
      obtain ⟨pv, ds, S, Hd, M, Qd, rl, sr, hc, w, fin⟩ := q
      exact fun p hp => fin (.dic [] []) S (upd Hd p (.dK [])) _ _ (.new sr hp) (sr.frz hp) (by simp only [Rep]; exact ⟨p, [], rfl, upd_same, rfl, .nil⟩) w
    · cases h)
/-- the receiver is a name, a constant, a subscript: no call of super -/
def plainRcv : Expr → Bool
  | .Name _ _ => true
  | .Constant _ _ _ => true
  | .Subscript _ _ _ => true
  | _ => false
theorem rcv_base {o : Expr} {m : Str} {env : Env} (h : plainRcv o = true) : attributeBase o m env (eval o env) = eval o env := by
  cases o <;> first | rfl | cases h
def mthSh (m : Str) (n : Nat) : Scope → Expr → Option (Expr × List Expr) := fun _ e => match e with
  | .Call (.Attribute o y apos) (a :: as) [] cpos => if (decide (y = m) && (plainRcv o && (decide ((a :: as).length = n) && (decide (n < 20) && (apos.endLine == cpos.line))))) = true then some (o, a :: as) else none
  | _ => none
theorem mthSh_pl {m : Str} {n : Nat} (sc : Scope) (e : Expr) (p : Expr × List Expr) (h : mthSh m n sc e = some p) : plainE e = true := by
  unfold mthSh at h
  split at h
  · rfl
  · cases h
theorem PEs.few {X : Cx} {es : List Expr} {ts : List TE} (h : PEs X es ts) (pos : Pos) : (backTo pos (starEach es X.env)).all (fun x => !x.1) = true := by
  have := h.plain pos
  rw [List.any_eq_false] at this
  rw [List.all_eq_true]
  intro x hx
  have := this x hx
  simpa using this
/-- a method with arguments -/
def mB (m : Str) (n : Nat) (T id : String) (pa : PlainAttrs T) (slot : Slot T m id) (hty : typeOf (.builtin id) = pure (.type "method_descriptor")) (chk : D → Sto → Prop) (sem : List D → Sto → PostE → Prop)
    (ht : ∀ K pv S Hd H M d x, SR K pv S Hd H M → Rep K Hd d x → chk d S → tyV K T x H) (h : ∀ X, Amb X → MtR X id (fun x xs H Q => vSem X.K sem 0 (x :: xs) H Q)) : MNode where
  shape := mthSh m n
  chk := chk
  sem := sem
  pl := mthSh_pl
  ok := fun X e o es to ts A hs po mo p => by
    unfold mthSh at hs
    split at hs
    · split at hs
      · rename_i c
        simp only [Bool.and_eq_true, decide_eq_true_eq] at c
        obtain ⟨rfl, pr, hn, hlt, hl⟩ := c
        cases hs
        have few := p.few
        cases p with
        | cons n1 m1 p1 p =>
          refine (pe_bm pa slot hty (h X A) po (PEs.cons n1 m1 p1 p).pa (rcv_base pr) (by rw [few]; simp only [List.length_nil, List.isEmpty_nil, if_true, Bool.true_and]; refine Bool.and_eq_true_iff.mpr ⟨rfl, decide_eq_true ?_⟩; omega) hl (star_cons n1) (p.plain _)).of fun σ H Q q => ?_
          refine mo _ _ _ _ (fun x H1 q => ?_) q
          obtain ⟨⟨pv, d, S, Hd, M, r, sr, hc⟩, q⟩ := q
          exact ⟨ht _ _ _ _ _ _ _ _ sr r hc, q⟩
      · cases hs
    · cases hs
def mutS (d : D) (S : Sto) : Prop := ∃ a xs, d = .loc a ∧ S.m a = some (.lst xs)
theorem mutS_ty {K : PySem.W.Frag} {pv : List Addr} {S : Sto} {Hd H : Hp} {M : Nat} {d : D} {x : V} (sr : SR K pv S Hd H M) (r : Rep K Hd d x) (h : mutS d S) : tyV K "list" x H := by
  obtain ⟨a, xs, rfl, hm⟩ := h
  simp only [Rep] at r; subst r
  obtain ⟨_, ho, e2, vs, rfl, rl⟩ := sr.sto _ _ hm
  exact .inl ⟨rfl, vs, .inl (.inl e2)⟩
theorem mut_of {K : PySem.W.Frag} {pv : List Addr} {S : Sto} {Hd H : Hp} {M : Nat} {a : Addr} {x : V} {xs : List D} (sr : SR K pv S Hd H M) (r : Rep K Hd (.loc a) x) (h : S.m a = some (.lst xs)) : ∃ vs, x = .ref a ∧ H a = some (.lst vs) ∧ RepL K Hd xs vs := by
  simp only [Rep] at r; subst r
  obtain ⟨_, ho, e2, vs, rfl, rl⟩ := sr.sto _ _ h
  exact ⟨vs, rfl, e2, rl⟩
/-- a mutable list rewritten -/
theorem fin_wr {K : PySem.W.Frag} {pv : List Addr} {S : Sto} {Hd H : Hp} {M : Nat} {Qd : PostE} {Q : VK} {a : Addr} {o : O} {xs : List D} {vs : List V} {d : D} {v : V} (fin : Fin' K pv Hd H M Qd Q) (sr : SR K pv S Hd H M) (h : S.m a = some o) (r : RepL K Hd xs vs) (rd : Rep K Hd d v) (q : Qd d (S.put a (.lst xs))) :
    Q v (upd H a (.lst vs)) :=
  fin d (S.put a (.lst xs)) Hd _ v ⟨.refl _, fun b hb => upd_ne fun e => sr.notP h (e ▸ hb)⟩ (sr.wr h (o' := .lst xs) (ho := .lst vs) ⟨vs, rfl, r⟩) rd q
def mApp : MNode := mB "append" 1 "list" "list.append" PySem.F.plainAttrs_list PySem.F.slot_list_append PySem.F.type_list_append mutS
  (fun ds S Q => ∃ a d xs, ds = [.loc a, d] ∧ S.m a = some (.lst xs) ∧ xs.length < sizeLine ∧ Q .non (S.put a (.lst (xs ++ [d]))))
  (fun _ _ _ _ _ _ _ _ sr r h => mutS_ty sr r h) fun X A pins s σ H x xs v us Q I rx rxs q => by
    obtain ⟨pv, ds, S, Hd, M, Qd, rl, sr, hc, w, fin⟩ := q
    obtain ⟨a, d, ys, rfl, hm, hl, w⟩ := w
    obtain ⟨x', y, e, r1, r2⟩ := rl.two
    cases e
    obtain ⟨vs, rfl, hH, rl'⟩ := mut_of sr r1 hm
    exact mt_append pins s σ H _ _ v us Q I rx rxs ⟨a, vs, y, rfl, rfl, hH, by rw [rl'.length]; exact hl, fin_wr fin sr hm (rl'.append (.cons r2 .nil)) (by simp only [Rep]) w⟩
def mPopAt : MNode := mB "pop" 1 "list" "list.pop" PySem.F.plainAttrs_list PySem.F.slot_list_pop PySem.F.type_list_pop mutS
  (fun ds S Q => ∃ a d xs i k, ds = [.loc a, .int i] ∧ S.m a = some (.lst xs) ∧ (-(2 ^ 63) ≤ i ∧ i < 2 ^ 63) ∧ seqIndex? i xs.length = some k ∧ xs[k]? = some d ∧ Q d (S.put a (.lst (xs.eraseIdx k))))
  (fun _ _ _ _ _ _ _ _ sr r h => mutS_ty sr r h) fun X A pins s σ H x xs v us Q I rx rxs q => by
    obtain ⟨pv, ds, S, Hd, M, Qd, rl, sr, hc, w, fin⟩ := q
    obtain ⟨a, d, ys, i, k, rfl, hm, hi, hk, hl, w⟩ := w
    obtain ⟨x', y, e, r1, r2⟩ := rl.two
    cases e
    simp only [Rep] at r2
    subst r2
    obtain ⟨vs, rfl, hH, rl'⟩ := mut_of sr r1 hm
    obtain ⟨u, hu, ru⟩ := rl'.get hl
    exact mt_popAt pins s σ H _ _ v us Q I rx rxs ⟨a, vs, i, k, u, rfl, rfl, hH, hi.1, hi.2, by rw [rl'.length]; exact hk, hu, fin_wr fin sr hm (rl'.eraseIdx k) ru w⟩
def mIns : MNode := mB "insert" 2 "list" "list.insert" PySem.F.plainAttrs_list PySem.F.slot_list_insert PySem.F.type_list_insert mutS
  (fun ds S Q => ∃ a d xs i, ds = [.loc a, .int i, d] ∧ S.m a = some (.lst xs) ∧ xs.length < sizeLine ∧ 0 ≤ i ∧ i < 2 ^ 63 ∧ Q .non (S.put a (.lst (xs.take i.toNat ++ [d] ++ xs.drop i.toNat))))
  (fun _ _ _ _ _ _ _ _ sr r h => mutS_ty sr r h) fun X A pins s σ H x xs v us Q I rx rxs q => by
    obtain ⟨pv, ds, S, Hd, M, Qd, rl, sr, hc, w, fin⟩ := q
    obtain ⟨a, d, ys, i, rfl, hm, hl, h0, h1, w⟩ := w
    obtain ⟨x', y, z, e, r1, r2, r3⟩ := rl.three
    cases e
    simp only [Rep] at r2
    subst r2
    obtain ⟨vs, rfl, hH, rl'⟩ := mut_of sr r1 hm
    exact mt_insert pins s σ H _ _ v us Q I rx rxs ⟨a, vs, i, z, rfl, rfl, hH, by rw [rl'.length]; exact hl, h0, h1, fin_wr fin sr hm (((rl'.take _).append (.cons r3 .nil)).append (rl'.drop _)) (by simp only [Rep]) w⟩
end
section
open PySem PySem.Spec L2
def nAbs : Node := nB "abs" "abs" 1 (by decide +kernel) (by decide +kernel) (by decide +kernel) (fun ds S Q => ∃ i, ds = [.int i] ∧ Q (.int (if i < 0 then -i else i)) S) fun X A => callOf call_abs fun xs H Q q => by
  obtain ⟨pv, ds, S, Hd, M, Qd, rl, sr, hc, w, fin⟩ := q
  obtain ⟨i, rfl, w⟩ := w
  obtain ⟨v, rfl, r⟩ := rl.one
  simp only [Rep] at r
  subst r
  exact ⟨i, rfl, fin_val fin sr (by simp only [Rep]) w⟩
theorem iter_scr {K : PySem.W.Frag} {Hd0 : Hp} {ns : List Int} {a : Addr} (hx : ns.length ≤ MX) (r : SqL K Hd0 a (ns.map V.int)) : Iter K (ns.map D.int) (fun _ => True) Hd0 (Itl K a) := by
  refine ⟨by simpa using hx, fun pv S Hd H M le sr st i => ?_⟩
  have h := Le.sqL sr.sub (Le.sqL le r)
  refine ⟨fun hi => ?_, fun hi => ⟨_, h, by simpa using hi⟩⟩
  have hi' : i < ns.length := by simpa using hi
  have hu : (ns.map V.int)[i]? = some (V.int ns[i]) := by simp [hi']
  refine ⟨⟨_, _, h, hu⟩, fun x H' y => ?_⟩
  obtain ⟨rfl, y⟩ := y
  have e := y _ h
  rw [hu] at e; cases e
  exact ⟨Hd, .int ns[i], by simp [hi'], .refl .., sr, by simp only [Rep]⟩
/-- the script, walked -/
def iScr : INode where
  shape := fun _ e => if (notSet e && notStar e) = true then some [e] else none
  sem := fun ds S k => ∃ ns, ds = [.scr ns] ∧ ns.length ≤ sizeLine ∧ k (ns.map D.int) (fun _ => True)
  tgt := fun _ => true
  fold := fun sc e es h env x => by
    split at h
    · rename_i c
      refine foldP fun a b d z => ?_
      subst z
      simp [notSet] at c
    · cases h
  ok := fun X tg e es ts A ht hs p => by
    split at hs
    · cases hs
      cases p with
      | cons n m p1 p =>
        cases p
        refine (pi_anyS p1).of fun σ H R q => m _ _ _ _ (fun x H1 q => ?_) q
        obtain ⟨pv, ds, S, Hd, M, k, rl, sr, w, fin⟩ := q
        obtain ⟨ns, rfl, hl, w⟩ := w
        obtain ⟨v, e, r⟩ := rl.one
        cases e
        simp only [Rep] at r
        obtain ⟨a, rfl, h⟩ := r
        exact ⟨a, rfl, .inl ⟨⟨_, Le.sqL sr.sub h⟩, fin _ _ _ Hd H1 w (.refl ..) sr (iter_scr (sizeMX hl) h)⟩⟩
    · cases hs
/-- the store with the deck's three lists in it -/
structure Dks (S0 S : Sto) (a g c : Addr) (gs cs : List Int) (n : Int) : Prop where
  dk : S.dk = none
  a_ : S.m a = some (.lst [.loc g, .loc c, .int n])
  g_ : S.m g = some (.lst (gs.map D.int))
  c_ : S.m c = some (.lst (cs.map D.int))
  ag : a ≠ g
  ac : a ≠ c
  gc : g ≠ c
  rest : ∀ b, b ≠ a → b ≠ g → b ≠ c → S.m b = S0.m b
structure Gd (gs cs : List Int) (n : Int) : Prop where
  g : ∀ x ∈ gs, Small x
  c : ∀ x ∈ cs, Small x
  ne : cs ≠ []
  cl : cs.length ≤ 64
  gl : gs.length ≤ 63
  n0 : 0 ≤ n
theorem SR.deckIn {K : PySem.W.Frag} {pv : List Addr} {S0 S : Sto} {Hd H : Hp} {N : Nat} {a g c : Addr} {gs cs : List Int} {n : Int} (r : SR K pv S Hd H N) (d : Dks S0 S a g c gs cs n) (G : Gd gs cs n) (hn : n ≤ N) (s0 : S0.m a = none ∧ S0.m g = none ∧ S0.m c = none) :
    SR K pv { m := S0.m, dk := some a } Hd H N := by
  obtain ⟨da, ha, ea, vs, rfl, rl⟩ := r.sto _ _ d.a_
  obtain ⟨dg, hg, eg, vg, rfl, rg⟩ := r.sto _ _ d.g_
  obtain ⟨dc, hc, ec, vc, rfl, rc⟩ := r.sto _ _ d.c_
  obtain ⟨v1, v2, v3, rfl, q1, q2, q3⟩ := rl.three
  simp only [Rep] at q1 q2 q3
  subst q1 q2 q3
  have eg' := rg.ints
  have ec' := rc.ints
  subst eg' ec'
  have sub : ∀ b o, S0.m b = some o → S.m b = some o := fun b o e => by
    rw [d.rest b (fun z => by rw [z, s0.1] at e; cases e) (fun z => by rw [z, s0.2.1] at e; cases e) (fun z => by rw [z, s0.2.2] at e; cases e)]; exact e
  refine ⟨r.sub, fun b o e => r.sto b o (sub b o e), fun b e => ?_, fun b hb => ?_⟩
  · have eb : a = b := Option.some.inj e
    subst eb
    exact ⟨g, c, gs, cs, n, ea, eg, ec, d.ag, d.ac, d.gc, ⟨da, dg, dc⟩, s0, ⟨r.notP d.a_, r.notP d.g_, r.notP d.c_⟩, G.g, G.c, G.ne, G.cl, G.gl, G.n0, hn⟩
  · obtain ⟨x, y, z⟩ := r.prv b hb
    refine ⟨x, y, ?_⟩
    cases q : S0.m b with
    | none => rfl
    | some o => rw [sub b o q] at z; cases z
theorem SR.deckOut {K : PySem.W.Frag} {pv : List Addr} {S : Sto} {Hd H : Hp} {N : Nat} {a : Addr} (r : SR K pv S Hd H N) (h : S.dk = some a) :
    ∃ S' g c gs cs n, SR K pv S' Hd H N ∧ Dks S S' a g c gs cs n ∧ Gd gs cs n ∧ n ≤ N ∧ (S.m a = none ∧ S.m g = none ∧ S.m c = none) := by
  obtain ⟨g, c, gs, cs, n, h1, h2, h3, h4, h5, h6, ⟨a1, a2, a3⟩, ⟨b1, b2, b3⟩, ⟨c1, c2, c3⟩, h9, h10, h11, h12, h13, h14, h15⟩ := r.dk a h
  let S' : Sto := { m := fun b => if b = a then some (.lst [.loc g, .loc c, .int n]) else if b = g then some (.lst (gs.map D.int)) else if b = c then some (.lst (cs.map D.int)) else S.m b, dk := none }
  have ea : S'.m a = some (.lst [.loc g, .loc c, .int n]) := if_pos rfl
  have eg : S'.m g = some (.lst (gs.map D.int)) := (if_neg (Ne.symm h4)).trans (if_pos rfl)
  have ec : S'.m c = some (.lst (cs.map D.int)) := (if_neg (Ne.symm h5)).trans ((if_neg (Ne.symm h6)).trans (if_pos rfl))
  have er : ∀ b, b ≠ a → b ≠ g → b ≠ c → S'.m b = S.m b := fun b x y z => (if_neg x).trans ((if_neg y).trans (if_neg z))
  refine ⟨S', g, c, gs, cs, n, ⟨r.sub, fun b o e => ?_, fun b e => (by cases e), fun b hb => ?_⟩, ⟨rfl, ea, eg, ec, h4, h5, h6, er⟩, ⟨h9, h10, h11, h12, h13, h14⟩, h15, b1, b2, b3⟩
  · by_cases xa : b = a
    · subst xa
      rw [ea] at e; cases e
      exact ⟨a1, _, h1, _, rfl, .cons (by simp only [Rep]) (.cons (by simp only [Rep]) (.cons (by simp only [Rep]) .nil))⟩
    · by_cases xg : b = g
      · subst xg
        rw [eg] at e; cases e
        exact ⟨a2, _, h2, _, rfl, .of_ints gs⟩
      · by_cases xc : b = c
        · subst xc
          rw [ec] at e; cases e
          exact ⟨a3, _, h3, _, rfl, .of_ints cs⟩
        · rw [er b xa xg xc] at e
          exact r.sto b o e
  · obtain ⟨x, y, z⟩ := r.prv b hb
    exact ⟨x, y, (er b (fun e => c1 (e ▸ hb)) (fun e => c2 (e ▸ hb)) (fun e => c3 (e ▸ hb))).trans z⟩
def bDeck : List RS := [
  .asgL 1 (.lc false (.nd nAbs [.var 2]) (.nm 2) iScr [.var 0] [] [("_law_cell", 2)]),
  .ret (.nd (nLst true) [.lc true (.var 2) (.nm 2) iSeq [.var 1] [.cmp cGe (.var 2) (.nd nPow [.nd (nInt 10) [], .nd (nInt 18) []])] [("_law_cell", 2)],
    .nd (nAdd true) [.var 1, .nd (nLst false) [.nd (nAdd false) [.nd nLen [.var 1], .nd (nInt 3) []]]], .nd (nInt 0) []])]
def d0 : RE := .nd nIx [.var 0, .nd (nInt 0) []]
def d1 : RE := .nd nIx [.var 0, .nd (nInt 1) []]
def d2 : RE := .nd nIx [.var 0, .nd (nInt 2) []]
def eI (i : Int) : RE := .nd (nInt i) []
def eMul (a b : RE) : RE := .nd (nMul false) [a, b]
def eAdd (a b : RE) : RE := .nd (nAdd false) [a, b]
def eMod (a b : RE) : RE := .nd nMod [a, b]
def eDiv (a b : RE) : RE := .nd nFdiv [a, b]
def bNext : List RS := [
  .whl (.cmp cNe d0 (.nd (nLst false) [])) [
    .asg (.nm 2) (.nd nIx [d0, eI 0]),
    .ifs (.cmp cGt (.var 2) (eI 0)) [.setI (eDiv (.var 2) (.var 1)) d0 (eI 0), .ret (eMod (.var 2) (.var 1))] [],
    .expr (.mth mPopAt d0 [eI 0])],
  .setI (eAdd d2 (eI 1)) (.var 0) (eI 2),
  .asg (.nm 3) (eMod (.nd nIx [d1, eMod d2 (.nd nLen [d1])]) (eI 2147483647)),
  .asg (.nm 4) (eAdd (eAdd (eMul (.var 3) (eAdd (eI 48271) (eMul (eI 69621) d2))) (eMul (eMul (eI 40692) d2) d2)) (eI 11)),
  .asg (.nm 4) (eMod (.var 4) (eI 2147483629)),
  .ret (eMod (eDiv (eMod (eMul (.var 4) (.var 4)) (eI 2147483587)) (eI 16)) (.var 1))]
def nmDeck : List Str := ["_law_script", "_law_cells", "_law_cell"]
def nmNext : List Str := ["_law_deck_here", "_law_many", "_law_rest", "_law_cell", "_law_mixed"]
/-- what the deck's making promises -/
def pDeck (ds : List D) (S : Sto) (Q : PostE) : Prop := ∃ ns : List Int, ds = [.scr ns] ∧ ns.length ≤ 63 ∧ (∀ n ∈ ns, Builtin.Int.intBits n ≤ 1048576) ∧ S.dk = none ∧ ∀ a, S.m a = none → Q (.loc a) { S with dk := some a }
/-- what a number's drawing promises -/
def pNext (ds : List D) (S : Sto) (Q : PostE) : Prop := ∃ (a : Addr) (n : Int), ds = [.loc a, .int n] ∧ S.dk = some a ∧ 0 < n ∧ n.natAbs.log2 < 9000 ∧ ∀ k, 0 ≤ k → k < n → Q (.int k) S
end
section
open PySem PySem.Spec L2
/-- typed items, some kept -/
theorem lc_fm {α : Type} {emb : α → D} {p : α → Bool} {f : α → D} {step : D → Sto → (Option D → Sto → Prop) → Prop} {stay : Sto → Prop} {S : Sto} {Q : List D → Sto → Prop} (st : stay S) : ∀ {xs : List α} {acc : List D},
    (∀ x ∈ xs, ∀ k : Option D → Sto → Prop, (p x = true → k (some (f x)) S) → (p x = false → k none S) → step (emb x) S k) → Q (acc ++ (xs.filter p).map f) S → lcRun step stay (xs.map emb) acc S Q
  | [], acc, _, q => ⟨st, by simpa using q⟩
  | x :: xs, acc, h, q => by
    refine ⟨st, h x (by simp) _ (fun e => ?_) fun e => ?_⟩
    · refine lc_fm st (fun y hy => h y (by simp [hy])) ?_
      simpa [List.filter_cons, e] using q
    · refine lc_fm st (fun y hy => h y (by simp [hy])) ?_
      simpa [List.filter_cons, e] using q
theorem lc_m {α : Type} {emb : α → D} {f : α → D} {step : D → Sto → (Option D → Sto → Prop) → Prop} {stay : Sto → Prop} {S : Sto} {Q : List D → Sto → Prop} (st : stay S) {xs : List α} {acc : List D}
    (h : ∀ x ∈ xs, ∀ k : Option D → Sto → Prop, k (some (f x)) S → step (emb x) S k) (q : Q (acc ++ xs.map f) S) : lcRun step stay (xs.map emb) acc S Q :=
  lc_fm (p := fun _ => true) st (fun x hx k h1 _ => h x hx k (h1 rfl)) (by rw [show xs.filter (fun _ => true) = xs from List.filter_eq_self.mpr (by simp)]; exact q)
abbrev C0 : Nat → List D → Sto → PostE → Prop := fun _ _ _ _ => False
def absI (i : Int) : Int := if i < 0 then -i else i
theorem small_abs {i : Int} (h : Builtin.Int.intBits i ≤ 1048576) : Small (absI i) := by
  unfold absI Small
  split
  · refine ⟨by omega, ?_⟩
    unfold Builtin.Int.intBits at h ⊢
    rw [Int.natAbs_neg]
    split
    · omega
    · rename_i h1
      split at h
      · rename_i h2
        simp at h1 h2
        omega
      · exact h
  · exact ⟨by omega, h⟩
theorem deck_read (ns : List Int) (S : Sto) (hl : ns.length ≤ 63) (hb : ∀ n ∈ ns, Builtin.Int.intBits n ≤ 1048576) (Q : PostE)
    (q : ∀ a g c gs cs S', Dks { S with dk := none } S' a g c gs cs 0 → S.dk = none → Gd gs cs 0 → S.m a = none → S.m g = none → S.m c = none → Q (.loc a) S') (hd : S.dk = none) :
    wSs C0 bDeck { nx := fun _ S' => Q .non S', rt := Q } [some (.scr ns), none, none] S := by
  have l0 : (100 : Nat) ≤ sizeLine := by decide +kernel
  simp only [bDeck, wSs, wS, wE, wEs]
  refine ⟨.scr ns, rfl, ns, rfl, by omega, ?_⟩
  refine ⟨by simpa using by omega, ?_⟩
  refine lc_m (f := fun i => .int (absI i)) (by exact trivial) (fun i hi k hk => ?_) ?_
  · simp only [bindT, wTs]
    exact ⟨.int i, rfl, i, rfl, hk⟩
  have e : ns.map (fun i => D.int (absI i)) = (ns.map absI).map D.int := by rw [List.map_map]; rfl
  rw [e]
  simp only [newL, Bool.false_eq_true, if_false, List.nil_append]
  refine ⟨.lst ((ns.map absI).map D.int), rfl, .lst _, _, rfl, rfl, by simpa using by omega, ?_⟩
  refine ⟨by simpa using by omega, ?_⟩
  refine lc_fm (p := fun i => decide ((10 : Int) ^ 18 ≤ i)) (f := D.int) (by exact rfl) (fun i hi k h1 h2 => ?_) ?_
  · simp only [bindT, wTs, wT, wE, wEs]
    refine ⟨.int i, rfl, 10, 18, rfl, ⟨by omega, by omega, by decide⟩, decide (((10 : Int) ^ ((18 : Int)).toNat) ≤ i), rfl, ?_⟩
    by_cases c : (10 : Int) ^ 18 ≤ i
    · have c' : decide (((10 : Int) ^ ((18 : Int)).toNat) ≤ i) = true := decide_eq_true c
      rw [if_pos c']
      exact ⟨.int i, rfl, h1 (decide_eq_true c)⟩
    · have c' : ¬ decide (((10 : Int) ^ ((18 : Int)).toNat) ≤ i) = true := by simpa using c
      rw [if_neg c']
      exact h2 (decide_eq_false c)
  simp only [newL, if_true, List.nil_append]
  intro g hg0
  generalize hgs : (ns.map absI).filter (fun i => decide ((10 : Int) ^ 18 ≤ i)) = gs
  have lgs : gs.length ≤ ns.length := by
    rw [← hgs]
    exact Nat.le_trans (List.length_filter_le _ _) (by simp)
  refine ⟨.lst ((ns.map absI).map D.int), rfl, .lst ((ns.map absI).map D.int), rfl, ?_⟩
  refine ⟨.lst _, ns.length, rfl, by simp [lenS, seqS], ?_⟩
  refine ⟨by simpa using by omega, ?_⟩
  refine ⟨(ns.map absI).map D.int, [.int (ns.length + 3)], rfl, rfl, by simp; omega, ?_⟩
  intro c hc0
  refine ⟨by simp; omega, ?_⟩
  intro a ha0
  generalize hcs : ns.map absI ++ [((ns.length : Int) + 3)] = cs
  have ecs : (ns.map absI).map D.int ++ [D.int (ns.length + 3)] = cs.map D.int := by rw [← hcs]; simp
  rw [ecs] at ha0 ⊢
  have ag : a ≠ g := fun z => by
    subst z
    by_cases h : a = c
    · subst h; simp [Sto.put] at ha0
    · simp [Sto.put, h] at ha0
  have ac : a ≠ c := fun z => by subst z; simp [Sto.put] at ha0
  have gc : g ≠ c := fun z => by subst z; simp [Sto.put] at hc0
  have hc1 : S.m c = none := by simpa [Sto.put, Ne.symm gc] using hc0
  have ha1 : S.m a = none := by simpa [Sto.put, ac, ag] using ha0
  have sm : ∀ x ∈ ns.map absI, Small x := fun x hx => by
    obtain ⟨i, hi, rfl⟩ := List.mem_map.mp hx
    exact small_abs (hb i hi)
  refine q a g c gs cs _ ⟨hd, by simp [Sto.put], ?_, ?_, ag, ac, gc, fun b x y z => by simp [Sto.put, x, y, z]⟩ hd ⟨fun x hx => ?_, fun x hx => ?_, ?_, ?_, by omega, by omega⟩ ha1 hg0 hc1
  · simp [Sto.put, Ne.symm ag, gc]
  · simp [Sto.put, Ne.symm ac]
  · rw [← hgs] at hx
    exact sm x (List.mem_filter.mp hx).1
  · rw [← hcs] at hx
    rcases List.mem_append.mp hx with hx | hx
    · exact sm x hx
    · simp only [List.mem_singleton] at hx
      subst hx
      refine ⟨by omega, ?_⟩
      have h2 : ((ns.length : Int) + 3).natAbs < 2 ^ 10 := by omega
      unfold Builtin.Int.intBits
      split
      · omega
      · have : ((ns.length : Int) + 3).natAbs.log2 < 10 := (Nat.log2_lt (by omega)).mpr h2
        omega
  · rw [← hcs]; simp
  · rw [← hcs]; simp; omega
theorem pyL_ints : ∀ ns : List Int, pyL (ns.map D.int) = some (ns.map PyData.int)
  | [] => rfl
  | n :: ns => by simp only [List.map_cons, pyL, pyD, pyL_ints ns]
theorem lay_ints : ∀ ns : List Int, PyData.canLayAll0 (ns.map PyData.int) = true
  | [] => rfl
  | n :: ns => by simp only [List.map_cons, PyData.canLayAll0, PyData.canLay0, lay_ints ns, Bool.and_self]
theorem dep_ints : ∀ ns : List Int, PyData.depthAll (ns.map PyData.int) = 0
  | [] => rfl
  | n :: ns => by simp only [List.map_cons, PyData.depthAll, PyData.depth, dep_ints ns, Nat.max_self]
theorem shaped_ints (ns : List Int) : SeqAt.shaped (.list (ns.map PyData.int)) = true := by
  simp only [SeqAt.shaped, PyData.canLay0, lay_ints, PyData.depth, dep_ints, Bool.true_and]
  decide
theorem ne_nil_ints {S : Sto} {g : Addr} {gs : List Int} (h : S.m g = some (.lst (gs.map D.int))) : csE true (.loc g) (.lst []) S = some (!gs.isEmpty) := by
  have h1 : pyS S (.loc g) = some (.list (gs.map PyData.int)) := by simp only [pyS, h, pyL_ints, Option.map_some]
  have h2 : pyS S (.lst []) = some (.list []) := by simp only [pyS, pyD, pyL, Option.map_some]
  have h3 : SeqAt.shaped (.list []) = true := shaped_ints []
  show (match pyS S (.loc g), pyS S (.lst []) with
    | some a, some b => if (SeqAt.shaped a && SeqAt.shaped b) = true then some (xor true (PyData.eqv a b)) else none
    | _, _ => none) = _
  rw [h1, h2]
  simp only [shaped_ints, h3, Bool.and_self, if_true]
  cases gs with
  | nil => rfl
  | cons n gs => rfl
theorem seq_loc {S : Sto} {a : Addr} {xs : List D} (h : S.m a = some (.lst xs)) : seqS S (.loc a) = some xs := by simp only [seqS, h]
theorem atI_nat {xs : List D} {k : Nat} {d : D} (h : xs[k]? = some d) : atI xs (k : Int) = some d := by
  unfold atI ixN
  have hk : k < xs.length := (List.getElem?_eq_some_iff.mp h).1
  simp [hk]
  exact (List.getElem?_eq_some_iff.mp h).2
theorem atI_int {xs : List D} {k : Int} {d : D} (h0 : 0 ≤ k) (h : xs[k.toNat]? = some d) : atI xs k = some d := by
  have := atI_nat h
  rwa [Int.toNat_of_nonneg h0] at this
theorem small_div {x m : Int} (h : Small x) (hm : 0 < m) : Small (x / m) := by
  obtain ⟨h1, h2⟩ := h
  refine ⟨Int.ediv_nonneg h1 (by omega), ?_⟩
  unfold Builtin.Int.intBits at h2 ⊢
  split
  · omega
  · rename_i c
    have c' : x / m ≠ 0 := by simpa using c
    have le : x / m ≤ x := Int.ediv_le_self _ h1
    have p : 0 ≤ x / m := Int.ediv_nonneg h1 (by omega)
    have nx : x ≠ 0 := fun z => by subst z; simp at c'
    split at h2
    · rename_i z; simp at z; exact absurd z nx
    · have q : (x / m).natAbs ≤ x.natAbs := by omega
      have : (x / m).natAbs.log2 ≤ x.natAbs.log2 := by
        have a := Nat.log2_self_le (n := (x / m).natAbs) (by omega)
        have b := Nat.lt_log2_self (n := x.natAbs)
        by_cases hh : (x / m).natAbs.log2 ≤ x.natAbs.log2
        · exact hh
        · have : 2 ^ (x.natAbs.log2 + 1) ≤ 2 ^ (x / m).natAbs.log2 := Nat.pow_le_pow_right (by omega) (by omega)
          omega
      omega
theorem Dks.setG {S0 S : Sto} {a g c : Addr} {gs cs gs' : List Int} {n : Int} (d : Dks S0 S a g c gs cs n) : Dks S0 (S.put g (.lst (gs'.map D.int))) a g c gs' cs n :=
  ⟨d.dk, by rw [Sto.put_ne d.ag]; exact d.a_, Sto.put_same, by rw [Sto.put_ne (Ne.symm d.gc)]; exact d.c_, d.ag, d.ac, d.gc, fun b x y z => by rw [Sto.put_ne y]; exact d.rest b x y z⟩
theorem Dks.setN {S0 S : Sto} {a g c : Addr} {gs cs : List Int} {n n' : Int} (d : Dks S0 S a g c gs cs n) : Dks S0 (S.put a (.lst [.loc g, .loc c, .int n'])) a g c gs cs n' :=
  ⟨d.dk, Sto.put_same, by rw [Sto.put_ne (Ne.symm d.ag)]; exact d.g_, by rw [Sto.put_ne (Ne.symm d.ac)]; exact d.c_, d.ag, d.ac, d.gc, fun b x y z => by rw [Sto.put_ne x]; exact d.rest b x y z⟩
theorem log2_le_of_lt {i : Int} {k : Nat} (h : i.natAbs < 2 ^ (k + 1)) : i.natAbs.log2 ≤ k := by
  by_cases z : i.natAbs = 0
  · rw [z]; simp
  · have := (Nat.log2_lt z).mpr h
    omega
theorem cap_lt : CAP + 1 < 2 ^ (300000 + 1) := by
  unfold CAP
  rw [Nat.pow_succ]
  have h : 1 < 2 ^ 300000 := Nat.one_lt_two_pow (by decide)
  generalize 2 ^ 300000 = B at *
  omega
theorem cap_log {i : Int} (h0 : 0 ≤ i) (h : i ≤ (CAP : Int) + 1) : i.natAbs.log2 ≤ 300000 := by
  have h1 : i.natAbs ≤ CAP + 1 := by omega
  exact log2_le_of_lt (Nat.lt_of_le_of_lt h1 cap_lt)
theorem cap_log2 {i : Int} (h0 : 0 ≤ i) (h : i ≤ (CAP : Int) + 1) : (40692 * i).natAbs.log2 ≤ 300016 := by
  have h1 : i.natAbs ≤ CAP + 1 := by omega
  have h2 : i.natAbs < 2 ^ (300000 + 1) := Nat.lt_of_le_of_lt h1 cap_lt
  refine log2_le_of_lt ?_
  rw [Int.natAbs_mul, show 300016 + 1 = 16 + (300000 + 1) from rfl, Nat.pow_add]
  exact Nat.mul_lt_mul'' (by decide) h2
theorem next_read (S0 S : Sto) (a g c : Addr) (gs cs : List Int) (n many : Int) (d : Dks S0 S a g c gs cs n) (G : Gd gs cs n) (hn : n ≤ (CAP : Int)) (hm : 0 < many) (hm2 : many.natAbs.log2 < 9000) (Q : PostE)
    (q : ∀ k gs' n' S', 0 ≤ k → k < many → Dks S0 S' a g c gs' cs n' → Gd gs' cs n' → n' ≤ n + 1 → Q (.int k) S') :
    wSs C0 bNext { nx := fun _ S' => Q .non S', rt := Q } [some (.loc a), some (.int many), none, none, none] S := by
  simp only [bNext, wSs, wS]
  refine ⟨fun m ρ S => ∃ gs x, m = gs.length ∧ ρ = [some (.loc a), some (.int many), x, none, none] ∧ Dks S0 S a g c gs cs n ∧ Gd gs cs n, ⟨_, gs, none, rfl, rfl, d, G⟩, ?_⟩
  rintro m ρ S ⟨gs, x, rfl, rfl, d, G⟩
  simp only [wT, wE, wEs, d0]
  have A0 : seqS S (.loc a) = some [.loc g, .loc c, .int n] := seq_loc d.a_
  refine ⟨.loc a, rfl, .loc a, 0, _, _, rfl, A0, rfl, ?_⟩
  refine ⟨by simp only [List.length_nil]; omega, ?_⟩
  simp only [newL, Bool.false_eq_true, if_false]
  refine ⟨!gs.isEmpty, ne_nil_ints d.g_, ?_⟩
  cases gs with
  | cons r gs =>
    simp only [List.isEmpty_cons, Bool.not_false, if_true]
    simp only [wSs, wS, wE, wEs, bindT]
    refine ⟨.loc a, rfl, .loc a, 0, _, _, rfl, A0, rfl, ?_⟩
    refine ⟨.loc g, 0, _, .int r, rfl, seq_loc d.g_, atI_nat (k := 0) rfl, ?_⟩
    simp only [wT, wE, wEs]
    refine ⟨.int r, rfl, decide (0 < r), rfl, ?_⟩
    by_cases hr : 0 < r
    · rw [if_pos (by simpa using hr)]
      simp only [wSs, wS, wE, wEs, eDiv, eMod, eI]
      refine ⟨.int r, rfl, .int many, rfl, r, many, rfl, ⟨hm, hm2⟩, .loc a, rfl, .loc a, 0, _, _, rfl, A0, rfl, g, _, 0, 0, rfl, rfl, d.g_, by simp [ixN], ?_⟩
      refine ⟨.int r, rfl, .int many, rfl, r, many, rfl, hm, ?_⟩
      have e : ((r :: gs).map D.int).set 0 (.int (r / many)) = ((r / many) :: gs).map D.int := rfl
      rw [e]
      exact q _ _ _ _ (Int.emod_nonneg _ (by omega)) (Int.emod_lt_of_pos _ hm) d.setG ⟨fun y hy => (by
        rcases List.mem_cons.mp hy with rfl | hy
        · exact small_div (G.g r (by simp)) hm
        · exact G.g y (by simp [hy])), G.c, G.ne, G.cl, by simpa using G.gl, G.n0⟩ (by omega)
    · rw [if_neg (by simpa using hr)]
      simp only [wSs, wS, wE, wEs, eI]
      refine ⟨.loc a, rfl, .loc a, 0, _, _, rfl, A0, rfl, ⟨g, _, rfl, d.g_⟩, ?_⟩
      refine ⟨g, .int r, (r :: gs).map D.int, 0, 0, rfl, d.g_, ⟨by omega, by omega⟩, by simp [seqIndex?], rfl, ?_⟩
      have e : ((r :: gs).map D.int).eraseIdx 0 = gs.map D.int := rfl
      rw [e]
      exact ⟨gs.length, by simp, gs, some (.int r), rfl, rfl, d.setG, ⟨fun y hy => G.g y (by simp [hy]), G.c, G.ne, G.cl, by have := G.gl; simp at this; omega, G.n0⟩⟩
  | nil =>
    simp only [List.isEmpty_nil, Bool.not_true, Bool.false_eq_true, if_false]
    simp only [wE, wEs, d1, d2, eI, eAdd, eMul, eMod, eDiv]
    have hn0 := G.n0
    refine ⟨.loc a, rfl, .loc a, 2, _, _, rfl, A0, rfl, ?_⟩
    refine ⟨.loc a, rfl, a, _, 2, 2, rfl, rfl, d.a_, rfl, ?_⟩
    have e : [D.loc g, D.loc c, D.int n].set 2 (.int (n + 1)) = [.loc g, .loc c, .int (n + 1)] := rfl
    rw [e]
    have d' := d.setN (n' := n + 1)
    generalize S.put a (.lst [.loc g, .loc c, .int (n + 1)]) = S1 at d'
    have A1 : seqS S1 (.loc a) = some [.loc g, .loc c, .int (n + 1)] := seq_loc d'.a_
    have A2 : seqS S1 (.loc c) = some (cs.map D.int) := seq_loc d'.c_
    refine ⟨.loc a, rfl, .loc a, 1, _, _, rfl, A1, rfl, .loc a, rfl, .loc a, 2, _, _, rfl, A1, rfl, .loc a, rfl, .loc a, 1, _, _, rfl, A1, rfl, ?_⟩
    have lp : 0 < (cs.length : Int) := by
      have := G.ne
      cases cs <;> simp at this ⊢
    refine ⟨.loc c, cs.length, rfl, by simp [lenS, A2], n + 1, cs.length, rfl, lp, ?_⟩
    have i0 : 0 ≤ (n + 1) % (cs.length : Int) := Int.emod_nonneg _ (by omega)
    have i1 : (n + 1) % (cs.length : Int) < cs.length := Int.emod_lt_of_pos _ lp
    have hx : ∃ x, cs[((n + 1) % (cs.length : Int)).toNat]? = some x := ⟨_, List.getElem?_eq_getElem (by omega)⟩
    obtain ⟨x, hx⟩ := hx
    refine ⟨.loc c, _, _, .int x, rfl, A2, atI_int i0 (by rw [List.getElem?_map, hx]; rfl), x, 2147483647, rfl, by omega, ?_⟩
    have x0 : 0 ≤ x % 2147483647 := Int.emod_nonneg _ (by omega)
    have x1 : x % 2147483647 < 2147483647 := Int.emod_lt_of_pos _ (by omega)
    generalize x % 2147483647 = x at x0 x1
    refine ⟨.int x, rfl, ?_⟩
    refine ⟨.loc a, rfl, .loc a, 2, _, _, rfl, A1, rfl, ?_⟩
    refine ⟨Or.inl (Or.inl ⟨by omega, by omega⟩), ?_⟩
    refine ⟨Or.inl (Or.inl ⟨by omega, by omega⟩), ?_⟩
    refine ⟨.loc a, rfl, .loc a, 2, _, _, rfl, A1, rfl, ?_⟩
    refine ⟨Or.inl (Or.inl ⟨by omega, by omega⟩), ?_⟩
    refine ⟨.loc a, rfl, .loc a, 2, _, _, rfl, A1, rfl, ?_⟩
    refine ⟨Or.inr ?_, ?_⟩
    · have h1 := cap_log2 (i := n + 1) (by omega) (by omega)
      have h2 := cap_log (i := n + 1) (by omega) (by omega)
      show _ < _
      omega
    refine ⟨_, rfl, _, 2147483629, rfl, by omega, ?_⟩
    generalize hy : (x * (48271 + 69621 * (n + 1)) + 40692 * (n + 1) * (n + 1) + 11) % 2147483629 = y
    have y0 : 0 ≤ y := by rw [← hy]; exact Int.emod_nonneg _ (by omega)
    have y1 : y < 2147483629 := by rw [← hy]; exact Int.emod_lt_of_pos _ (by omega)
    refine ⟨.int y, rfl, .int y, rfl, ⟨Or.inl (Or.inl ⟨by omega, by omega⟩), ?_⟩⟩
    refine ⟨_, 2147483587, rfl, by omega, _, 16, rfl, ⟨by omega, by decide⟩, .int many, rfl, _, many, rfl, hm, ?_⟩
    exact q _ _ _ _ (Int.emod_nonneg _ (by omega)) (Int.emod_lt_of_pos _ hm) d' ⟨G.g, G.c, G.ne, G.cl, by simp, by omega⟩ (by omega)
end
section
open PySem PySem.Spec L2
def fn0 : Nat → Str := fun _ => ("__debug__" : Str)
def cf0 : Nat → Nat := fun _ => 0
section
variable {P : Program} {w : World} {K : PySem.W.Frag} {mg : Str → Option Value} {base : Heap} {a : Addr} {fd : FuncData} {params : Arguments} {body : List Stmt} {scope : Scope}
theorem leaf_ok {d : FDef} (fr : ∀ x ∈ bNames, mg x = none) (sm : SysD K) (at_ : FAt K mg d a fd params body scope) (hm : mSs fn0 cf0 d.N d.body scope body = true) :
    FnG P w K mg base 1 a fd d.ps (spD K (fun ds S Q => ds.length = d.ps.length ∧ wSs C0 d.body { nx := fun _ S' => Q .non S', rt := Q } (startE d.N ds) S) (cSs cf0 d.body)) := by
  refine fnG_of at_.fun_ at_.sc (fun vs H Q h => ?_) fun X vs H Q e1 e2 e3 e4 e5 hr gd cl eN esc ef ex h => ?_
  · obtain ⟨pv, ds, S, Hd, M, Qd, rl, sr, hc, w', fin⟩ := h
    rw [rl.length]; exact w'.1
  · have G : GX P w K mg base 0 X := ⟨e1, e2, e3, e4, e5, hr, gd, cl, by rw [eN]; exact at_.sc.nd⟩
    have no : okName (fn0 0) = true → False := by decide +kernel
    have nos : ∀ {f : Nat} {c m : Str}, splitDot (fn0 f) = some (c, m) → False := fun {f c m} hs => by
      have : splitDot (fn0 f) = none := dbg_split
      rw [this] at hs; cases hs
    have W : Wd C0 cf0 fn0 (GX P w K mg base 0) :=
      ⟨fun X g => g.amb fr sm, fun X g => g.nd, fun X s H scope cl c fp g => ⟨g.prog, g.w_, g.K_, g.mg_, g.base_, g.room, g.gd, g.calm, g.nd⟩, fun X f' p' pos es ts g hlt' hg hx _ pe => (no hx).elim,
        fun X k c m f e o es to ts g hr hs => (nos hs).elim, fun X k c m f e o es to ts g hr hs => (nos hs).elim, fun X c m f x p a y py pos to g hlt hs => (nos hs).elim, fun X f' p' g hge hg hx => (no hx).elim, fun X f' p' apos cpos a to g hge hg hx => (no hx).elim⟩
    obtain ⟨pv, ds, S, Hd, M, Qd, rl, sr, hc, w', fin⟩ := h
    refine ⟨_, sSs W G (by rw [ex]; exact .never) (by rw [esc]; exact at_.sc.kind) ef d.body body (by rw [eN, esc]; exact hm), ?_⟩
    rw [e3]
    exact ⟨pv, _, S, Hd, M, _, enStart rl, sr, hc, w'.2, ⟨fun ρ S' Hd' H' σ m s _ q => fin _ S' Hd' H' .non m s (by simp only [Rep]) q, fun d' S' Hd' H' v m s r q => fin d' S' Hd' H' v m s r q, fun _ _ _ _ _ _ _ _ q => q, fun _ _ _ _ _ _ _ _ q => q⟩⟩
def fdDeck : FDef := ⟨"_law_deck", ["_law_script"], nmDeck, bDeck, some (.p pDeck), 0⟩
def fdNext : FDef := ⟨"_law_next", ["_law_deck_here", "_law_many"], nmNext, bNext, some (.p pNext), 1⟩
theorem deck_cost : cSs cf0 bDeck = 0 := by decide +kernel
theorem next_cost : cSs cf0 bNext = 0 := by decide +kernel
theorem deck_ok (fr : ∀ x ∈ bNames, mg x = none) (sm : SysD K) (at_ : FAt K mg fdDeck a fd params body scope) (hm : mSs fn0 cf0 nmDeck bDeck scope body = true) :
    FnG P w K mg base 1 a fd fdDeck.ps (spD K (fun ds S Q => ds.length = fdDeck.ps.length ∧ pDeck ds S Q) 0) := by
  refine (leaf_ok fr sm at_ hm).imp fun vs H Q h => ?_
  obtain ⟨pv, ds, S, Hd, M, Qd, rl, sr, hc, ⟨hl, ns, rfl, l63, hb, hdk, q⟩, fin⟩ := h
  have hc0 : cSs cf0 fdDeck.body = 0 := deck_cost
  rw [hc0]
  refine ⟨pv, _, S, Hd, M, fun d S' => ∃ a g c gs cs, d = .loc a ∧ Dks { S with dk := none } S' a g c gs cs 0 ∧ Gd gs cs 0 ∧ S.m a = none ∧ S.m g = none ∧ S.m c = none, rl, sr, hc, ⟨hl, ?_⟩, fun d S' Hd' H' v mv sr' rd q' => ?_⟩
  · exact deck_read ns S l63 hb _ (fun a g c gs cs S' d _ G h1 h2 h3 => ⟨a, g, c, gs, cs, rfl, d, G, h1, h2, h3⟩) hdk
  · obtain ⟨a, g, c, gs, cs, rfl, dk, G, h1, h2, h3⟩ := q'
    exact fin (.loc a) { S with dk := some a } Hd' H' v mv (sr'.deckIn (S0 := { S with dk := none }) dk G (by omega) ⟨h1, h2, h3⟩) rd (q a h1)
theorem next_ok (fr : ∀ x ∈ bNames, mg x = none) (sm : SysD K) (at_ : FAt K mg fdNext a fd params body scope) (hm : mSs fn0 cf0 nmNext bNext scope body = true) :
    FnG P w K mg base 1 a fd fdNext.ps (spD K (fun ds S Q => ds.length = fdNext.ps.length ∧ pNext ds S Q) 1) := by
  refine (leaf_ok fr sm at_ hm).imp fun vs H Q h => ?_
  obtain ⟨pv, ds, S, Hd, M, Qd, rl, sr, hc, ⟨hl, a, many, rfl, hdk, h0, h1, q⟩, fin⟩ := h
  have hc0 : cSs cf0 fdNext.body = 0 := next_cost
  rw [hc0]
  obtain ⟨S1, g, c, gs, cs, n, sr1, dk, G, hn, s0⟩ := sr.deckOut hdk
  refine ⟨pv, _, S1, Hd, M, fun d S' => ∃ k gs' n', d = .int k ∧ 0 ≤ k ∧ k < many ∧ Dks S S' a g c gs' cs n' ∧ Gd gs' cs n' ∧ n' ≤ n + 1, rl, sr1, by omega, ⟨hl, ?_⟩, fun d S' Hd' H' v mv sr' rd q' => ?_⟩
  · exact next_read S S1 a g c gs cs n many dk G (by omega) h0 h1 _ fun k gs' n' S' k0 k1 d' G' hn' => ⟨k, gs', n', rfl, k0, k1, d', G', hn'⟩
  · obtain ⟨k, gs', n', rfl, k0, k1, d', G', hn'⟩ := q'
    have sr2 := (sr'.up (M := M + 1) (by omega)).deckIn d' G' (by omega) s0
    have e : ({ m := S.m, dk := some a } : Sto) = S := by
      cases S; simp only at hdk; subst hdk; rfl
    rw [e] at sr2
    exact fin (.int k) S Hd' H' v mv sr2 rd (q k k0 k1)
end
def S00 : Sto := ⟨fun _ => none, none⟩
section
open PySem.Calls PyProof.Rows
/-- one list at l, frozen, and nothing else -/
def lone (l : Addr) (us : List Value) (ns : List Int) : Hp := fun b => if b = l then some (.frz ⟨.type "list", none, .seq us.toArray 0, #[]⟩ (.lst (ns.map V.int))) else none
theorem lone_at {l : Addr} {us : List Value} {ns : List Int} : lone l us ns l = some (.frz ⟨.type "list", none, .seq us.toArray 0, #[]⟩ (.lst (ns.map V.int))) := by unfold lone; rw [if_pos rfl]
theorem lone_off {l b : Addr} {us : List Value} {ns : List Int} (h : b ≠ l) : lone l us ns b = none := by unfold lone; rw [if_neg h]
/-- the state behind the top, with at most the script tracked, is one in which a def may be called -/
theorem top_env {P : Program} {w : World} {K : PySem.W.Frag} {mg mb : Str → Option Value} {l : Addr} {st : Shared} {us : List Value} {T : Hp} (kIn : K.In st.heap) (nsG : st.heap.Ns mainGlobals mg) (nsB : st.heap.Ns builtinsNs mb)
    (bB : ∀ y : Str, y ≠ "__name__" → mb y = bootBuiltins y) (lim : st.heap.NoLimit) (noG : st.gens = #[]) (at_l : st.heap.get? l = some ⟨.type "list", none, .seq us.toArray 0, #[]⟩)
    (off : ∀ b, b ≠ l → T b = none) (own : T l = none ∨ K.lookup l = none) (ok : HOk P w T st.heap) :
    K.In (hidT st.heap T) ∧ (hidT st.heap T).Ns mainGlobals mg ∧ Env0 P w K mg (hidT st.heap T) callerA [] st T := by
  have seen : ∀ b r, st.heap.get? b = some r → T b = none → (hidT st.heap T).get? b = some r := fun b r g n => hidT_get g n
  have isDict : ∀ (b : Addr) (m : Str → Option Value), st.heap.Ns b m → (hidT st.heap T).Ns b m := by
    rintro b m ⟨r, es, ep, g, dd, q⟩
    have nb : b ≠ l := by
      rintro rfl
      rw [at_l] at g
      cases g
      cases dd
    exact ⟨r, es, ep, seen b r g (off b nb), dd, q⟩
  have kIn' : K.In (hidT st.heap T) := by
    intro b r g
    refine seen b r (kIn b r g) ?_
    by_cases nb : b = l
    · rcases own with n | n
      · rw [nb]; exact n
      · rw [nb, n] at g; cases g
    · exact off b nb
  obtain ⟨mc, l1, l2⟩ := lim
  refine ⟨kIn', isDict _ _ nsG, rfl, ⟨kIn', isDict _ _ nsG, ⟨mb, isDict _ _ nsB, bB⟩, ⟨mc, isDict _ _ l1, l2⟩⟩, fun b r g => of_hidT g, ?_, trivial, fun b z => (nomatch (show b ∈ ([] : List Addr) from z)), ok, .of_eq noG⟩
  rw [hidT_size]
  exact Nat.le_refl _
/-- the law's def, called on the script behind the top, tells True and leaves what stood there -/
theorem law_callG {P : Program} {w : World} {K : PySem.W.Frag} {mg mb : Str → Option Value} {k : Nat} {g l : Addr} {fd : FuncData} {x : Str} {sp : SpG} {st : Shared} {us : List Value} {ns : List Int}
    (kIn : K.In st.heap) (nsG : st.heap.Ns mainGlobals mg) (nsB : st.heap.Ns builtinsNs mb) (bB : ∀ y : Str, y ≠ "__name__" → mb y = bootBuiltins y) (lim : st.heap.NoLimit) (noG : st.gens = #[])
    (at_l : st.heap.get? l = some ⟨.type "list", none, .seq us.toArray 0, #[]⟩) (are : IntsAre us ns) (few : ns.length ≤ sizeLine) (room : Room k callerA)
    (F : ∀ base : Heap, K.In base → base.Ns mainGlobals mg → FnG P w K mg base k g fd [x] sp) (bind : ∀ (s : Shared) (u : Value), K.In s.heap → BindsTo s fd ⟨[u], []⟩ [(x, u)])
    (wish : ∀ T : Hp, SqL K T l (ns.map V.int) → sp [.ref l] T (fun v _ => v = .bl true)) :
    codeAny (model P w) callerA (.call (.ref g) ⟨[.ref l], []⟩) (fun r t => r = .ok (.ret (.bool true)) ∧ OldK st.heap t.heap ∧ t.os = st.os ∧ AllBare t.gens) st := by
  have rel : Vals (ns.map V.int) us := vals_ints are
  have many : us.length = ns.length := are.length
  suffices main : ∃ T : Hp, (∀ b, b ≠ l → T b = none) ∧ (T l = none ∨ K.lookup l = none) ∧ HOk P w T st.heap ∧ SqL K T l (ns.map V.int) ∧ (∀ r, T l = some r → ∃ ob ys, r = .frz ob (.lst ys)) by
    obtain ⟨T, off, own, ok, sq, fz⟩ := main
    obtain ⟨k1, k2, env⟩ := top_env kIn nsG nsB bB lim noG at_l off own ok
    have ran := (F _ k1 k2).run callerA [] st T ⟨[.ref l], []⟩ [.ref l] [.ref l] _ room rfl env (bind st (.ref l) kIn) (.cons rfl .nil) (wish T sq)
    refine codeAny_mono ran ?_
    rintro (bad | fl) t got
    · exact (show False from got).elim
    · cases fl <;> first | exact False.elim got | skip
      obtain ⟨v, T', os_, bare_, un, ok', rv, isT⟩ := got
      rw [show v = .bl true from isT] at rv
      have ev : _ = Value.bool true := rv
      rw [ev]
      refine ⟨rfl, OldK.of_keep ?_, os_, bare_⟩
      intro b r gb
      cases tb : T b with
      | none =>
        refine un.keep b r gb tb ?_ (by simp)
        intro z
        have z' : b ∈ ([] : List Addr) := z
        cases z'
      | some q =>
        have eb : b = l := by
          by_cases nb : b = l
          · exact nb
          · rw [off b nb] at tb; cases tb
        rw [eb] at tb gb ⊢
        obtain ⟨ob, ys, rfl⟩ := fz q tb
        have was := (ok l _ tb).1
        have now := (ok' l _ (un.frzs l ob _ tb)).1
        rw [gb] at was
        cases was
        exact now
  by_cases inK : ∃ r, K.lookup l = some r
  · obtain ⟨r, hr⟩ := inK
    have same := kIn l r hr
    rw [at_l] at same
    cases same
    refine ⟨fun _ => none, fun _ _ => rfl, .inl rfl, fun _ _ z => (nomatch (show (none : Option HO) = some _ from z)), .inr ⟨_, us.toArray, 0, hr, rfl, rfl, rfl, ?_, ?_⟩, fun _ z => (nomatch (show (none : Option HO) = some _ from z))⟩
    · rw [List.size_toArray, many]; exact few
    · simpa using rel
  · have out : K.lookup l = none := by
      cases z : K.lookup l with
      | none => rfl
      | some r => exact absurd ⟨r, z⟩ inK
    refine ⟨lone l us ns, fun b nb => lone_off nb, .inr out, ?_, .inl (.inr ⟨_, lone_at⟩), fun r z => ?_⟩
    · intro b r z
      by_cases nb : b = l
      · rw [nb, lone_at] at z
        cases z
        rw [nb]
        exact ⟨at_l, by rw [List.length_map]; exact few, us, 0, rel, at_l⟩
      · rw [lone_off nb] at z; cases z
    · rw [lone_at] at z
      cases z
      exact ⟨_, _, rfl⟩
end
/-- the law's promise at the script -/
theorem law_sp {K : PySem.W.Frag} {H : Hp} {a : Addr} {ns : List Int} {sem : List D → Sto → PostE → Prop} {c : Nat} (hS : SqL K H a (ns.map V.int)) (hc : c ≤ CAP) (h : sem [.scr ns] S00 fun d _ => d = .bl true) : spD K sem c [.ref a] H (fun v _ => v = .bl true) := by
  refine ⟨[], [.scr ns], S00, H, 0, _, .cons (by simp only [Rep]; exact ⟨a, rfl, hS⟩) .nil, ⟨fun _ _ e => e, fun _ _ e => (by cases e), fun _ e => (by cases e), fun _ e => (by cases e)⟩, by omega, h, fun d S' Hd' H' v _ _ r q => ?_⟩
  subst q
  simpa only [Rep] using r
mutual
def vB (K : PySem.W.Frag) : D → Value → Bool
  | .non, .none => true
  | .bl b, .bool c => b == c
  | .int i, .int j _ => decide (i = j)
  | .str x, .str y _ => decide (x = y)
  | .tup xs, .ref a => (match K.lookup a with
    | some ⟨.type c, none, .seq its _, _⟩ => decide (c = "tuple") && (decide (its.size ≤ sizeLine) && vBs K xs its.toList)
    | _ => false)
  | _, _ => false
def vBs (K : PySem.W.Frag) : List D → List Value → Bool
  | [], [] => true
  | d :: ds, v :: vs => vB K d v && vBs K ds vs
  | _, _ => false
end
def isTyD : D → Bool
  | .ty _ => true
  | _ => false
/-- a constant of the module; with a kind in its place: a class of the module -/
def gcB (K : PySem.W.Frag) (p : Str × D) : Bool := if isTyD p.2 = true then clB K p.1 else match PySem.W.nsIn K mainGlobals p.1 with
  | some (some u) => vB K p.2 u
  | _ => false
def smB (K : PySem.W.Frag) : Bool := match K.lookup sysModules with
  | some ⟨_, _, .dict _ _, _⟩ => true
  | _ => false
theorem smB_ok {K : PySem.W.Frag} (h : smB K = true) : SysD K := by
  unfold smB at h
  split at h
  · rename_i e; exact ⟨_, _, _, e, rfl⟩
  · cases h
abbrev AlC : Type := He.AlD × Bool
def obsC (fa : List He.Fa) (fn : List He.DefD) (gs : List (Str × D)) (K : PySem.W.Frag) : AlC := (He.obsD fa fn K, smB K && gs.all (gcB K))
def SaysC (fa : List He.Fa) (fn : List He.DefD) (gs : List (Str × D)) (K : PySem.W.Frag) : Prop := obsC fa fn gs K = (He.valD fn, true)
def obsCG (n : Nat) (fa : List He.Fa) (fn : List He.DefD) (gs : List (Str × D)) (g : Addr → Option Obj) : AlC := obsC fa fn gs (He.frG g (sysModules :: He.asD g n))
def hookC (n : Nat) (fa : List He.Fa) (fn : List He.DefD) (gs : List (Str × D)) : PySem.W.Hook where
  α := AlC
  obs := fun s => obsCG n fa fn gs s.heap.get?
  val := fun _ => (He.valD fn, true)
  says := fun _ h => ∃ K : PySem.W.Frag, K.In h ∧ SaysC fa fn gs K
  of := fun _ _ e => ⟨_, He.frG_in, e⟩
  keeps := fun _ _ _ ⟨K, hK, c⟩ k => ⟨K, PySem.W.Frag.In.keeps hK k, c⟩
theorem obsCG_eq {n : Nat} {fa : List He.Fa} {fn : List He.DefD} {gs : List (Str × D)} {g : Addr → Option Obj} {s : Shared} (h : ∀ a, g a = s.heap.get? a) : obsCG n fa fn gs g = (hookC n fa fn gs).obs s := by
  have e : g = s.heap.get? := funext h
  rw [e] <;> rfl
theorem SaysC.d {fa : List He.Fa} {fn : List He.DefD} {gs : List (Str × D)} {K : PySem.W.Frag} (c : SaysC fa fn gs K) : He.SaysD fa fn K := congrArg (fun z : AlC => z.1) c
theorem SaysC.c {fa : List He.Fa} {fn : List He.DefD} {gs : List (Str × D)} {K : PySem.W.Frag} (c : SaysC fa fn gs K) (i : Nat) {p : Str × D} (h : gs[i]? = some p) : gcB K p = true := by
  have c1 := (Bool.and_eq_true_iff.mp (show (smB K && gs.all (gcB K)) = true from congrArg (fun z : AlC => z.2) c)).2
  exact List.all_eq_true.mp c1 p (List.mem_of_getElem? h)
theorem SaysC.sm {fa : List He.Fa} {fn : List He.DefD} {gs : List (Str × D)} {K : PySem.W.Frag} (c : SaysC fa fn gs K) : SysD K :=
  smB_ok (Bool.and_eq_true_iff.mp (show (smB K && gs.all (gcB K)) = true from congrArg (fun z : AlC => z.2) c)).1
/-- the goal that the head leaves -/
theorem walk_ofG {l : PySem.W.OpenLaw} {n k : Nat} {q : Program} {loose : List Str} {XP : (Str → Option Value) → Heap → Prop} {YP : World → Heap → Prop} {d : PySem.DefRec} {x : Str}
    (most : l.most = some n) (small : n ≤ sizeLine) (noD : d.params.defaults = []) (room : Room k callerA)
    (F : ∀ (w : World) (mg : Str → Option Value) (g : Addr) (h : Heap), YP w h → h.Ns mainGlobals mg → mg d.name = some (.ref g) → ∃ (K : PySem.W.Frag) (fd : FuncData) (sp : SpG), K.In h ∧ (∀ (s : Shared) (u : Value), K.In s.heap → BindsTo s fd ⟨[u], []⟩ [(x, u)]) ∧
      (∀ (T : Hp) (a : Addr) (ns : List Int), ns.length ≤ n → (∀ z ∈ ns, Builtin.Int.intBits z ≤ 1048576) → SqL K T a (ns.map V.int) → sp [.ref a] T (fun v _ => v = .bl true)) ∧
      ∀ base : Heap, K.In base → base.Ns mainGlobals mg → FnG l.prog w K mg base k g fd [x] sp) :
    PySem.W.WalkO q loose XP YP l.row.toRowW d [] (fun f vs => PySem.call f vs) :=
  Att.attach_callB most noD fun w _ st mg _ g _ _ _ _ a us ns G Y _ _ _ at_g at_a are few bits noG => by
    obtain ⟨K, fd, sp, kIn, bind, wish, ran⟩ := F w mg g _ Y G.T.g at_g
    refine law_callG kIn G.T.g G.T.b G.T.builtins G.T.nolimit noG at_a are (Nat.le_trans few small) room ran bind fun T sq => ?_
    exact wish T a ns few bits sq
end
section
open PySem PySem.Spec L2
def tyInt : Node := nTy "int" "int" (by decide +kernel) (by decide +kernel) (by decide +kernel)
def tyBool : Node := nTy "bool" "bool" (by decide +kernel) (by decide +kernel) (by decide +kernel)
def tyTuple : Node := nTy "tuple" "tuple" (by decide +kernel) (by decide +kernel) (by decide +kernel)
def tyList : Node := nTy "list" "list" (by decide +kernel) (by decide +kernel) (by decide +kernel)
def tyStr : Node := nTy "str" "str" (by decide +kernel) (by decide +kernel) (by decide +kernel)
def tyDict : Node := nTy "dict" "dict" (by decide +kernel) (by decide +kernel) (by decide +kernel)
theorem fact_mem {fa : List He.Fa} {fn : List He.DefD} {K : PySem.W.Frag} (c : He.SaysD fa fn K) {f : He.Fa} (h : f ∈ fa) : f.ok K = true := by
  obtain ⟨i, hi, e⟩ := List.getElem_of_mem h
  exact He.SaysD.fact c i (by rw [List.getElem?_eq_getElem hi, e])
theorem free_all {fa : List He.Fa} {fn : List He.DefD} {gs : List (Str × D)} {K : PySem.W.Frag} {h : Heap} {mg : Str → Option Value} (X : K.In h) (G : h.Ns mainGlobals mg) (c : SaysC fa fn gs K) (hs : ∀ x ∈ bNames, He.Fa.free x ∈ fa) : ∀ x ∈ bNames, mg x = none :=
  fun x hx => He.free_ok X G (fact_mem c.d (hs x hx))
theorem fAt_of {fa : List He.Fa} {fn : List He.DefD} {gs : List (Str × D)} {K : PySem.W.Frag} {h : Heap} {mg : Str → Option Value} (X : K.In h) (G : h.Ns mainGlobals mg) (c : SaysC fa fn gs K) {d : FDef} (i : Nat) {params : Arguments} {body : List Stmt} {scope : Scope}
    (hd : fn[i]? = some ⟨(d.name, none), d.name, d.name, params, body, scope, [], []⟩) (hg : fa[i]? = some (.glo d.name)) (sc : FnScope d.N d.ps scope)
    (hs : splitDot d.name = none) (hb : ∀ (kV doc pm : Value) (an : Option Addr) (cdv ct : Value) (us : List Value), us.length = d.ps.length → bindArgs (PySem.W.fnOf d.name d.name params body scope .none kV doc pm an cdv ct) ⟨us, []⟩ = pure (d.ps.zip us)) :
    ∃ a fd, FAt K mg d a fd params body scope := by
  obtain ⟨fd, F⟩ := c.d.def_ i hd
  have e : shN d.name = d.name := by unfold shN; rw [hs]
  exact ⟨_, fd, by rw [e]; exact F, .of hs (He.glo_ok X G (He.SaysD.fact c.d i hg)), F.bindsN hb, sc⟩
/-- all of a law -/
theorem law_all {l : PySem.W.OpenLaw} {q : Program} {loose : List Str} {XP : (Str → Option Value) → Heap → Prop} {d : PySem.DefRec} {fa : List He.Fa} {fn : List He.DefD} {gs : List (Str × D)} {m : Nat} (T : Nat → Option FDef) (k f : Nat) (dl : FDef)
    (hn : l.most = some 63) (hdf : d.params.defaults = []) (hr : Room k callerA) (hnm : d.name = dl.name) (hT : T f = some dl) (hf : f < AB) (hps : dl.ps = [("_law_script" : Str)]) (hfree : ∀ x ∈ bNames, He.Fa.free x ∈ fa)
    (hb : ∀ (w : World) (mg : Str → Option Value) (h : Heap) (K : PySem.W.Frag) (base : Heap), K.In h → h.Ns mainGlobals mg → SaysC fa fn gs K → (∀ x ∈ bNames, mg x = none) → SysD K → TabOk l.prog w K mg base T k)
    (hf' : splitDot dl.name = none) (hpr : dl.prim = none)
    (hc : cF T k f ≤ CAP)
    (law : ∀ ns : List Int, ns.length ≤ 63 → (∀ z ∈ ns, Builtin.Int.intBits z ≤ 1048576) → wC T k f [.scr ns] S00 fun d _ => d = .bl true) :
    PySem.W.WalkO q loose XP (hookC m fa fn gs).says l.row.toRowW d [] (fun f vs => PySem.call f vs) := by
  refine walk_ofG (x := "_law_script") hn (by decide +kernel) hdf hr fun w mg fad h Y G hmg => ?_
  obtain ⟨K, X, c⟩ := Y
  have fr := free_all X G c hfree
  have nmk : ∀ j z, dl.prim ≠ some (.mk j z) := fun j z e => by rw [hpr] at e; cases e
  obtain ⟨a, fd, ⟨params, body, scope, at_⟩, _⟩ := all_keep (hb w mg h K h X G c fr c.sm) k (Nat.le_refl k) k (Nat.le_refl k) f dl hf hT nmk
  rw [hnm] at hmg
  have ea : fad = a := by
    have := hmg.symm.trans (at_.glob.fn hf')
    cases this; rfl
  subst ea
  refine ⟨K, fd, _, X, fun s u KI => ?_, fun H a ns hl hbits hS => law_sp hS hc (law ns hl hbits), fun base KB GB' => ?_⟩
  · have b := at_.binds s [u] KI (by rw [hps]; rfl)
    rw [hps] at b
    exact b
  · obtain ⟨a', fd', ⟨_, _, _, at'⟩, F⟩ := all_keep (hb w mg h K base X G c fr c.sm) k (Nat.le_refl k) k (Nat.le_refl k) f dl hf hT nmk
    obtain ⟨e1, e2⟩ := at_.inj at'
    subst e1 e2
    rw [hps] at F
    exact F
def clsBody (s : Stmt) : List Stmt := match s with
  | .ClassDef _ _ _ b _ _ _ _ _ _ _ => b
  | _ => []
def mkT (tab ctab : List FDef) : Nat → Option FDef := fun f => if f < AB then tab[f]? else if f < GB then (tab[f - AB]?).map (fun d => ⟨d.name, d.ps, [], [], some (.al (f - AB)), 0⟩) else ctab[f - GB]?
theorem mkT_lt {tab ctab : List FDef} {f : Nat} (h : f < AB) : mkT tab ctab f = tab[f]? := if_pos h
theorem mkT_gb {tab ctab : List FDef} {f : Nat} (h : GB ≤ f) : mkT tab ctab f = ctab[f - GB]? := by
  have h1 : ¬ f < AB := by unfold GB at h; unfold AB; omega
  have h2 : ¬ f < GB := by omega
  unfold mkT
  rw [if_neg h1, if_neg h2]
theorem tabOk_of {P : Program} {w : World} {K : PySem.W.Frag} {mg : Str → Option Value} {base : Heap} {tab ctab : List FDef} {n : Nat} (fr : ∀ x ∈ bNames, mg x = none) (sm : SysD K) (hc : ∀ (i : Nat) (d : FDef), ctab[i]? = some d → CAt K mg d)
    (hb : ∀ (f : Nat) (d : FDef), f < AB → tab[f]? = some d → (∃ i frz, d.prim = some (.mk i frz) ∧ KAt K mg (mkT tab ctab) d i) ∨ ∃ a fd params body scope, FAt K mg d a fd params body scope ∧
      ((d.prim = none ∧ ∀ k < n, mSs (fnm (mkT tab ctab)) (cF (mkT tab ctab) k) d.N d.body scope body = true) ∨ ∃ p, d.prim = some (.p p) ∧ FnG P w K mg base 1 a fd d.ps (spD K (fun ds S Q => ds.length = d.ps.length ∧ p ds S Q) d.pc))) :
    TabOk P w K mg base (mkT tab ctab) n := by
  refine ⟨fr, sm, fun f d hf h => hc _ d (by rw [mkT_gb hf] at h; exact h), fun f d h1 h2 h => ?_, fun f d hf h => hb f d hf (by rw [mkT_lt hf] at h; exact h)⟩
  have h3 : ¬ f < AB := by omega
  unfold mkT at h
  rw [if_neg h3, if_pos h2, Option.map_eq_some_iff] at h
  obtain ⟨di, e1, e2⟩ := h
  have hlt : f - AB < AB := by unfold GB at h2; unfold AB at h1 ⊢; omega
  refine ⟨f - AB, di, hlt, by rw [mkT_lt hlt]; exact e1, ?_, ?_⟩
  · subst e2; rfl
  · subst e2; rfl
end
section
open PySem PySem.Spec L2
theorem wC_body {T : Nat → Option FDef} {k f : Nat} {d : FDef} {ds : List D} {S : Sto} {Q : PostE} (hT : T f = some d) (hp : d.prim = none) (h : ds.length = d.ps.length ∧ wSs (wC T k) d.body { nx := fun _ S' => Q .non S', rt := Q } (startE d.N ds) S) : wC T (k + 1) f ds S Q := by
  simpa only [wC, hT, hp] using h
theorem wC_prim {T : Nat → Option FDef} {k f : Nat} {d : FDef} {p : List D → Sto → PostE → Prop} {ds : List D} {S : Sto} {Q : PostE} (hT : T f = some d) (hp : d.prim = some (.p p)) (h : ds.length = d.ps.length ∧ p ds S Q) : wC T (k + 1) f ds S Q := by
  simpa only [wC, hT, hp] using h
/-- nothing that was known is lost, the deck stays -/
structure Ext (S S' : Sto) : Prop where
  dk : S'.dk = S.dk
  m : ∀ b o, S.m b = some o → S'.m b = some o
theorem Ext.refl (S : Sto) : Ext S S := ⟨rfl, fun _ _ h => h⟩
theorem Ext.trans {A B C : Sto} (p : Ext A B) (q : Ext B C) : Ext A C := ⟨q.dk.trans p.dk, fun b o h => q.m b o (p.m b o h)⟩
theorem Ext.put {S S' : Sto} {l : Addr} {o : O} (e : Ext S S') (h : S'.m l = none) : Ext S (S'.put l o) := ⟨e.dk, fun b u z => by
  have z' := e.m b u z
  rw [Sto.put_ne (fun q => by rw [q, h] at z'; cases z')]; exact z'⟩
/-- own lists (not of S) rewritten -/
theorem Ext.wr {S S' : Sto} {l : Addr} {o : O} (e : Ext S S') (h : S.m l = none) : Ext S (S'.put l o) := ⟨e.dk, fun b u z => by
  rw [Sto.put_ne (fun q => by rw [q, h] at z; cases z)]; exact e.m b u z⟩
def whole : D → Bool
  | .int _ => true
  | _ => false
theorem sz {n : Nat} (h : Nat.ble n 1000 = true) : n ≤ sizeLine := Nat.le_trans (Nat.le_of_ble_eq_true h) (by decide +kernel)
section
variable {S : Sto} {Q : PostE} {o : Bool} {d e : D} {i j : Int} {x y : Str} {xs ys ds : List D} {b c : Bool} {n : String}
theorem sem_tyInt : tyInt.sem ds S Q = Q (.ty "int") S := rfl
theorem sem_tyBool : tyBool.sem ds S Q = Q (.ty "bool") S := rfl
theorem sem_tyTuple : tyTuple.sem ds S Q = Q (.ty "tuple") S := rfl
theorem sem_tyList : tyList.sem ds S Q = Q (.ty "list") S := rfl
theorem sem_tyStr : tyStr.sem ds S Q = Q (.ty "str") S := rfl
theorem sem_tyDict : tyDict.sem ds S Q = Q (.ty "dict") S := rfl
theorem sem_int : (nInt i).sem ds S Q = Q (.int i) S := rfl
theorem sem_str : (nStr x).sem ds S Q = Q (.str x) S := rfl
theorem sem_bl : (nBl b).sem ds S Q = Q (.bl b) S := rfl
theorem sem_non : nNon.sem ds S Q = Q .non S := rfl
theorem sem_dic0 : nDic0.sem ds S Q = Q (.dic [] []) S := rfl
theorem sem_tup : nTup.sem ds S Q = (ds.length ≤ sizeLine ∧ Q (.tup ds) S) := rfl
theorem sem_lst : (nLst false).sem ds S Q = (ds.length ≤ sizeLine ∧ Q (.lst ds) S) := rfl
theorem sem_lstO : (nLst true).sem ds S Q = (ds.length ≤ sizeLine ∧ ∀ l, S.m l = none → Q (.loc l) (S.put l (.lst ds))) := rfl
theorem sem_isi : nIsi.sem [d, .ty n] S Q = ∃ t, tyN S d = some t ∧ n ∈ clsNames ∧ Q (.bl (isT t n)) S := by
  refine propext ⟨fun ⟨d', n', t, e, h⟩ => ?_, fun ⟨t, h⟩ => ⟨d, n, t, rfl, h⟩⟩
  cases e
  exact ⟨t, h⟩
theorem sem_sub : nSub.sem [.int i, .int j] S Q = Q (.int (i - j)) S := by
  refine propext ⟨fun ⟨d', n', e, _, h⟩ => ?_, fun h => ⟨i, j, rfl, trivial, h⟩⟩
  cases e
  exact h
theorem sem_mod : nMod.sem [.int i, .int j] S Q = (0 < j ∧ Q (.int (i % j)) S) := by
  refine propext ⟨fun ⟨d', n', e, h⟩ => ?_, fun h => ⟨i, j, rfl, h⟩⟩
  cases e
  exact h
theorem sem_fdiv : nFdiv.sem [.int i, .int j] S Q = (CDivW i j ∧ Q (.int (i / j)) S) := by
  refine propext ⟨fun ⟨d', n', e, h⟩ => ?_, fun h => ⟨i, j, rfl, h⟩⟩
  cases e
  exact h
theorem sem_pow : nPow.sem [.int i, .int j] S Q = (CPow i j ∧ Q (.int (i ^ j.toNat)) S) := by
  refine propext ⟨fun ⟨d', n', e, h⟩ => ?_, fun h => ⟨i, j, rfl, h⟩⟩
  cases e
  exact h
theorem sem_neg : nNeg.sem [.int i] S Q = Q (.int (-i)) S := by
  refine propext ⟨fun ⟨d', e, h⟩ => ?_, fun h => ⟨i, rfl, h⟩⟩
  cases e
  exact h
theorem sem_add : (nAdd o).sem [.int i, .int j] S Q = Q (.int (i + j)) S := rfl
theorem sem_addT : (nAdd o).sem [.tup xs, .tup ys] S Q = (xs.length + ys.length ≤ sizeLine ∧ Q (.tup (xs ++ ys)) S) := rfl
theorem sem_addL : (nAdd false).sem [.lst xs, .lst ys] S Q = (xs.length + ys.length ≤ sizeLine ∧ Q (.lst (xs ++ ys)) S) := by
  refine propext ⟨fun ⟨a, b, h1, h2, h3, h4⟩ => ?_, fun h => ⟨xs, ys, rfl, rfl, h.1, h.2⟩⟩
  cases h1; cases h2
  exact ⟨h3, h4⟩
theorem sem_mul : (nMul o).sem [.int i, .int j] S Q = ((CMul i j ∨ CMulW i j) ∧ Q (.int (i * j)) S) := rfl
theorem sem_mulT : (nMul o).sem [.tup xs, .int j] S Q = (-1000 ≤ j ∧ j ≤ 1000 ∧ xs.length ≤ 1000 ∧ Q (.tup (List.replicate j.toNat xs).flatten) S) := rfl
theorem sem_ix : nIx.sem [d, .int i] S Q = ∃ xs v, seqS S d = some xs ∧ atI xs i = some v ∧ Q v S := by
  refine propext ⟨fun ⟨d', n', xs, v, e, h⟩ => ?_, fun ⟨xs, v, h⟩ => ⟨d, i, xs, v, rfl, h⟩⟩
  cases e
  exact ⟨xs, v, h⟩
theorem sem_len : nLen.sem [d] S Q = ∃ n, lenS S d = some n ∧ Q (.int n) S := by
  refine propext ⟨fun ⟨d', n', e, h⟩ => ?_, fun ⟨n, h⟩ => ⟨d, n, rfl, h⟩⟩
  cases e
  exact ⟨n', h⟩
theorem sem_tuple : nTuple.sem [d] S Q = ∃ xs, seqS S d = some xs ∧ Q (.tup xs) S := by
  refine propext ⟨fun ⟨d', n', e, h⟩ => ?_, fun ⟨n, h⟩ => ⟨d, n, rfl, h⟩⟩
  cases e
  exact ⟨n', h⟩
theorem sem_intI : nIntOf.sem [.int i] S Q = Q (.int i) S := rfl
theorem sem_intB : nIntOf.sem [.bl b] S Q = Q (.int (if b then 1 else 0)) S := rfl
theorem tr_bl : truth S (.bl b) = some b := rfl
theorem tr_int : truth S (.int i) = some (i != 0) := rfl
theorem tr_tup : truth S (.tup xs) = some (!xs.isEmpty) := rfl
theorem tr_lst : truth S (.lst xs) = some (!xs.isEmpty) := rfl
theorem cs_lt : cLt.cs (.int i) (.int j) S = some (decide (i < j)) := rfl
theorem cs_le : cLe.cs (.int i) (.int j) S = some (decide (i ≤ j)) := rfl
theorem cs_gt : cGt.cs (.int i) (.int j) S = some (decide (j < i)) := rfl
theorem cs_ge : cGe.cs (.int i) (.int j) S = some (decide (j ≤ i)) := rfl
theorem cs_eqI : cEq.cs (.int i) (.int j) S = some (decide (i = j)) := by show some (xor false _) = _; simp
theorem cs_eqB : cEq.cs (.bl b) (.bl c) S = some (decide (b = c)) := by show some (xor false _) = _; simp
theorem cs_eqS : cEq.cs (.str x) (.str y) S = some (decide (x = y)) := by show some (xor false _) = _; simp
theorem cs_neI : cNe.cs (.int i) (.int j) S = some (!decide (i = j)) := by show some (xor true _) = _; simp
theorem cs_neB : cNe.cs (.bl b) (.bl c) S = some (!decide (b = c)) := by show some (xor true _) = _; simp
theorem cs_neS : cNe.cs (.str x) (.str y) S = some (!decide (x = y)) := by show some (xor true _) = _; simp
theorem cs_in : cIn.cs d e S = csIn false d e S := rfl
theorem cs_isB : cIs.cs (.bl b) (.bl c) S = some (decide (b = c)) := by show some (xor false _) = _; simp
theorem cs_isNotB : cIsNot.cs (.bl b) (.bl c) S = some (!decide (b = c)) := by show some (xor true _) = _; simp
end
theorem next_at {T : Nat → Option FDef} {k f : Nat} {a : Addr} {n : Int} {S : Sto} {Q : PostE} (hT : T f = some fdNext) (hd : S.dk = some a) (h0 : 0 < n) (h1 : n.natAbs.log2 < 9000) (q : ∀ i, 0 ≤ i → i < n → Q (.int i) S) : wC T (k + 1) f [.loc a, .int n] S Q :=
  wC_prim (p := pNext) hT rfl ⟨rfl, a, n, rfl, hd, h0, h1, q⟩
/-- a bound of below 2^64 -/
theorem next_sm {T : Nat → Option FDef} {k f : Nat} {a : Addr} {n : Int} {S : Sto} {Q : PostE} (hT : T f = some fdNext) (hd : S.dk = some a) (h0 : 0 < n) (h1 : n < 2 ^ 64) (q : ∀ i, 0 ≤ i → i < n → Q (.int i) S) : wC T (k + 1) f [.loc a, .int n] S Q :=
  next_at hT hd h0 (Nat.lt_of_le_of_lt (log2_le_of_lt (k := 63) (by omega)) (by omega)) q
theorem deck_at {T : Nat → Option FDef} {k f : Nat} {ns : List Int} {S : Sto} {Q : PostE} (hT : T f = some fdDeck) (hl : ns.length ≤ 63) (hb : ∀ z ∈ ns, Builtin.Int.intBits z ≤ 1048576) (hd : S.dk = none) (q : ∀ a S', S'.m = S.m → S'.dk = some a → Q (.loc a) S') : wC T (k + 1) f [.scr ns] S Q :=
  wC_prim (p := pDeck) hT rfl ⟨rfl, ns, rfl, hl, hb, hd, fun a _ => q a _ rfl rfl⟩
theorem rg62 {i : Int} (h0 : -1000000 ≤ i) (h1 : i ≤ 1000000) : Rg62 i := ⟨by omega, by omega⟩
end
section
open PySem PySem.Spec L2
mutual
/-- plain data: whole numbers of at most forty figures, no objects -/
def dok : D → Bool
  | .non => true
  | .bl _ => true
  | .int i => decide (i.natAbs < 10 ^ 45)
  | .str x => PyData.canLay0 (.str x)
  | .tup xs => doks xs
  | .lst xs => doks xs
  | _ => false
def doks : List D → Bool
  | [] => true
  | d :: ds => dok d && doks ds
end
mutual
def dsz : D → Nat
  | .str x => x.cps.size
  | .tup xs => dszs xs
  | .lst xs => dszs xs
  | _ => 0
def dszs : List D → Nat
  | [] => 0
  | d :: ds => dsz d + 1 + dszs ds
end
mutual
def ddp : D → Nat
  | .tup xs => ddps xs + 1
  | .lst xs => ddps xs + 1
  | _ => 0
def ddps : List D → Nat
  | [] => 0
  | d :: ds => max (ddp d) (ddps ds)
end
theorem int_short {i : Int} (h : i.natAbs < 10 ^ 45) : ((PyData.int i).shown).length ≤ 46 := by
  have e := int_text_length_le10 (k := 45) (by decide) h
  show (Str.ofString (toString i)).length ≤ 46
  rw [ofString_length]; exact e
theorem int_log {i : Int} (h : i.natAbs < 10 ^ 45) : i.natAbs.log2 < 1920 := by
  have : i.natAbs < 2 ^ (180 + 1) := Nat.lt_of_lt_of_le h (by decide +kernel)
  exact Nat.lt_of_le_of_lt (log2_le_of_lt this) (by omega)
/-- plain data of at most c items and h levels -/
structure Nc (c h : Nat) (d : D) : Prop where
  ok : dok d = true
  sz : dsz d ≤ c
  dp : ddp d ≤ h
theorem Nc.mono {c h c' h' : Nat} {d : D} (n : Nc c h d) (hc : c ≤ c') (hh : h ≤ h') : Nc c' h' d := ⟨n.ok, Nat.le_trans n.sz hc, Nat.le_trans n.dp hh⟩
theorem Nc.int {i : Int} (h : i.natAbs < 10 ^ 45) : Nc 0 0 (.int i) := ⟨by simp only [dok, decide_eq_true_eq]; exact h, Nat.le_refl _, Nat.le_refl _⟩
theorem ncs {c h : Nat} : ∀ {xs : List D}, (∀ x ∈ xs, Nc c h x) → doks xs = true ∧ dszs xs ≤ (c + 1) * xs.length ∧ ddps xs ≤ h
  | [], _ => ⟨rfl, by simp [dszs], Nat.zero_le _⟩
  | x :: xs, n => by
    obtain ⟨a, b, d⟩ := ncs (xs := xs) fun y hy => n y (by simp [hy])
    have hx := n x (by simp)
    refine ⟨by simp only [doks, hx.ok, a, Bool.and_self], ?_, ?_⟩
    · simp only [dszs, List.length_cons, Nat.mul_succ]
      have := hx.sz
      omega
    · simp only [ddps]
      have := hx.dp
      omega
theorem Nc.tup {c h : Nat} {xs : List D} (n : ∀ x ∈ xs, Nc c h x) : Nc ((c + 1) * xs.length) (h + 1) (.tup xs) := by
  obtain ⟨a, b, d⟩ := ncs n
  exact ⟨by simpa only [dok] using a, by simpa only [dsz] using b, by simp only [ddp]; omega⟩
theorem Nc.lst {c h : Nat} {xs : List D} (n : ∀ x ∈ xs, Nc c h x) : Nc ((c + 1) * xs.length) (h + 1) (.lst xs) := by
  obtain ⟨a, b, d⟩ := ncs n
  exact ⟨by simpa only [dok] using a, by simpa only [dsz] using b, by simp only [ddp]; omega⟩
end
section
open PySem PySem.Spec L2
local macro_rules
  | `(tactic| symm_saturate) => `(tactic| simp only [wipeE, List.map_cons, List.map_nil, wSs, wS, wE, wEs, wAnd, wOr, wT, wAndT, wOrT, wTs, bindT, bindTs, eI, Bool.false_eq_true, Bool.not_true, Bool.not_false, if_true, if_false, tr_bl, tr_int, tr_tup, tr_lst, List.getElem?_cons_zero, List.getElem?_cons_succ, Option.some.injEq, exists_eq_left', exists_eq_left, List.set_cons_zero, List.set_cons_succ, sem_tyInt, sem_tyBool, sem_tyTuple,
      sem_int, sem_str, sem_bl, sem_non, sem_dic0, sem_isi, sem_sub, sem_mod, sem_fdiv, sem_pow, sem_neg, sem_add, sem_addT, sem_mul, sem_mulT, sem_ix, sem_len, sem_tuple, sem_lst, sem_tup, sem_lstO, sem_intI, sem_intB, cs_lt, cs_le, cs_gt, cs_ge, cs_eqI, cs_eqB, cs_eqS, cs_neI, cs_neB, cs_neS, cs_in, cs_isB, cs_isNotB])
abbrev Rw := List (Int × Int)
def prD (q : Int × Int) : D := .tup [.int q.1, .int q.2]
def rowD (r : Rw) : D := .tup (r.map prD)
/-- within p -/
def In (p : Int) (r : Rw) : Prop := ∀ q ∈ r, 0 ≤ q.1 ∧ q.1 < p ∧ 0 ≤ q.2 ∧ q.2 < p
theorem lim20 {n : Nat} (h : n ≤ 100000) : n ≤ sizeLine := Nat.le_trans h (by decide +kernel)
section
variable {T : Nat → Option FDef} {k f : Nat} {S : Sto} {Q : PostE}
def addR (p : Int) (r s : Rw) : Rw := (r.zip s).map fun q => ((q.1.1 + q.2.1) % p, (q.1.2 + q.2.2) % p)
def mulR (p n : Int) (r : Rw) : Rw := r.map fun q => (n * q.1 % p, n * q.2 % p)
def meetI (r s : Rw) : Int := ((r.zip s).map fun q => q.1.1 * q.2.2 - q.2.1 * q.1.2).sum
def isPr (p : Int) : Prop := p = 2 ∨ p = 3 ∨ p = 5 ∨ p = 7 ∨ p = 11 ∨ p = 13
theorem isPr_b {p : Int} (h : isPr p) : 2 ≤ p ∧ p ≤ 13 := by unfold isPr at h; omega
end
theorem addR_in {p : Int} {r s : Rw} (hp : 0 < p) : In p (addR p r s) := fun q hq => by
  obtain ⟨z, _, rfl⟩ := List.mem_map.mp hq
  exact ⟨Int.emod_nonneg _ (by omega), Int.emod_lt_of_pos _ hp, Int.emod_nonneg _ (by omega), Int.emod_lt_of_pos _ hp⟩
theorem mulR_in {p n : Int} {r : Rw} (hp : 0 < p) : In p (mulR p n r) := fun q hq => by
  obtain ⟨z, _, rfl⟩ := List.mem_map.mp hq
  exact ⟨Int.emod_nonneg _ (by omega), Int.emod_lt_of_pos _ hp, Int.emod_nonneg _ (by omega), Int.emod_lt_of_pos _ hp⟩
theorem nought_in {p : Int} {n : Nat} (hp : 0 < p) : In p (List.replicate n (0, 0)) := fun q hq => by
  rw [List.eq_of_mem_replicate hq]
  exact ⟨by omega, hp, by omega, hp⟩
theorem addR_len {p : Int} {r s : Rw} : (addR p r s).length = min r.length s.length := by simp [addR]
theorem mulR_len {p n : Int} {r : Rw} : (mulR p n r).length = r.length := by simp [mulR]
end
section
open PySem PySem.Spec L2
def kP : Key → PyData
  | .inl i => .int i
  | .inr x => .str x
mutual
/-- data as repr shows it -/
def xD : D → Option PyData
  | .non => some .none
  | .bl b => some (.bool b)
  | .int i => some (.int i)
  | .str s => some (.str s)
  | .tup xs => (xL xs).map .tuple
  | .lst xs => (xL xs).map .list
  | .dic ks ds => (xL ds).map fun vs => .dict ((ks.map kP).zip vs)
  | _ => none
def xL : List D → Option (List PyData)
  | [] => some []
  | x :: xs => match xD x, xL xs with
    | some a, some b => some (a :: b)
    | _, _ => none
end
def xS (S : Sto) : D → Option PyData
  | .loc a => match S.m a with
    | some (.lst xs) => (xL xs).map .list
    | _ => none
  | d => xD d
section
variable {X : Cx} {pins : List (Addr × Obj)} {σ : St} {H Hd : Hp} {s : Shared}
theorem not_sys {a : Addr} {its : Array Value} (I : Inv X pins σ H s) (sm : SysD X.K) (h : PlainL s.heap a its) : a ≠ sysModules := by
  rintro rfl
  obtain ⟨o, es, n, lk, hd⟩ := sm
  obtain ⟨o2, m, e, _, _, hd2⟩ := h
  have := I.kIn _ _ lk
  rw [e] at this
  cases this
  rw [hd] at hd2
  cases hd2
theorem keys_read {P : Program} {w : World} {h : Heap} : ∀ {es : List DictEntry} {rs : List (Key × Value)}, Pairs (mixKind P w) es rs → ReadsAll h (es.map (·.key)) (rs.map fun p => kP p.1) []
  | [], _, p => by cases p; exact .nil
  | e :: es, _, p => by
    cases p with
    | @cons _ kv _ kvs h1 h2 hr =>
      have r := keys_read (h := h) hr
      have e1 : Reads h e.key (kP kv.1) [] := by
        have h1' : keyIs kv.1 e.key = true := h1
        rcases keyIs_shape h1' with ⟨i, t, ek, ev⟩ | ⟨x, t, ek, ev⟩
        · rw [ek, ev]; exact Reads.int i t
        · rw [ek, ev]; exact Reads.str x t
      exact ReadsAll.cons (as := []) (bs := []) e1 r
theorem zip_fst {α β : Type} : ∀ {as : List α} {bs : List β}, as.length = bs.length → (as.zip bs).map (·.1) = as ∧ (as.zip bs).map (·.2) = bs
  | [], [], _ => ⟨rfl, rfl⟩
  | [], _ :: _, h => by simp at h
  | _ :: _, [], h => by simp at h
  | a :: as, b :: bs, h => by
    obtain ⟨x, y⟩ := zip_fst (as := as) (bs := bs) (by simpa using h)
    simp [x, y]
theorem kv_vals : ∀ {kvs : List (Key × V)} {rs : List (Key × Value)}, KV kvs rs → Vals (kvs.map (·.2)) (rs.map (·.2)) ∧ kvs.map (·.1) = rs.map (·.1)
  | [], _, h => by cases h; exact ⟨.nil, rfl⟩
  | p :: kvs, _, h => by
    cases h with
    | cons a b =>
      obtain ⟨x, y⟩ := kv_vals b
      exact ⟨.cons a.2 x, by simp only [List.map_cons, y, a.1]⟩
theorem pair_vals {P : Program} {w : World} : ∀ {es : List DictEntry} {rs : List (Key × Value)}, Pairs (mixKind P w) es rs → es.map (·.val) = rs.map (·.2)
  | [], _, p => by cases p; rfl
  | e :: es, _, p => by
    cases p with
    | cons h1 h2 hr => simp only [List.map_cons, pair_vals hr, h2]
theorem xL_len : ∀ {ds : List D} {ps : List PyData}, xL ds = some ps → ps.length = ds.length
  | [], _, h => by simp only [xL] at h; cases h; rfl
  | d :: ds, _, h => by
    simp only [xL] at h
    split at h
    · rename_i a b q1 q2
      cases h
      simp [xL_len q2]
    · cases h
mutual
theorem x_reads (I : Inv X pins σ H s) (sm : SysD X.K) (le : Le Hd H) : ∀ {d : D} {v : V} {u : Value} {p : PyData}, Rep X.K Hd d v → RelV v u → xD d = some p → ∃ as, Reads s.heap u p as ∧ sysModules ∉ as
  | .non, _, _, _, r, rv, e => by simp only [Rep] at r; subst r; simp only [xD] at e; cases e; cases rv; exact ⟨_, .none, by simp⟩
  | .bl b, _, _, _, r, rv, e => by simp only [Rep] at r; subst r; simp only [xD] at e; cases e; cases rv; exact ⟨_, .bool b, by simp⟩
  | .int i, _, _, _, r, rv, e => by simp only [Rep] at r; subst r; simp only [xD] at e; cases e; obtain ⟨t, rfl⟩ := rv; exact ⟨_, .int i t, by simp⟩
  | .str x, _, _, _, r, rv, e => by simp only [Rep] at r; subst r; simp only [xD] at e; cases e; obtain ⟨t, rfl⟩ := rv; exact ⟨_, .str x t, by simp⟩
  | .ty _, _, _, _, _, _, e => by simp [xD] at e
  | .loc _, _, _, _, _, _, e => by simp [xD] at e
  | .obj _ _ _, _, _, _, _, _, e => by simp [xD] at e
  | .scr _, _, _, _, _, _, e => by simp [xD] at e
  | .tup xs, _, _, _, r, rv, e => by
    simp only [Rep] at r
    obtain ⟨a, vs, rfl, st, rl⟩ := r
    simp only [xD] at e
    cases q : xL xs with
    | none => rw [q] at e; cases e
    | some ps =>
      rw [q] at e
      cases e
      cases rv
      obtain ⟨its, rel, ⟨o, ho, hc, n, hd⟩, _⟩ := I.tuple (le.sqT st)
      obtain ⟨as, ra, na⟩ := x_readsL I sm le rl rel q
      exact ⟨_, .tuple ho hc hd ra, na⟩
  | .lst xs, _, _, _, r, rv, e => by
    simp only [Rep] at r
    obtain ⟨a, vs, rfl, st, rl⟩ := r
    simp only [xD] at e
    cases q : xL xs with
    | none => rw [q] at e; cases e
    | some ps =>
      rw [q] at e
      cases e
      cases rv
      obtain ⟨its, rel, pl, _⟩ := I.list (.inl (le.rd st))
      have ns := not_sys I sm pl
      obtain ⟨o, n, ho, hc, _, hd⟩ := pl
      obtain ⟨as, ra, na⟩ := x_readsL I sm le rl rel q
      exact ⟨_, .list ho hc hd ra, by simp only [List.mem_cons, not_or]; exact ⟨Ne.symm ns, na⟩⟩
  | .dic ks ds, _, _, _, r, rv, e => by
    simp only [Rep] at r
    obtain ⟨a, kvs, rfl, st, hk, rl⟩ := r
    simp only [xD] at e
    cases q : xL ds with
    | none => rw [q] at e; cases e
    | some ps =>
      rw [q] at e
      cases e
      cases rv
      obtain ⟨_, ns, rs, kv, o, es, ep, ho, ex, hd, _, pr, _⟩ := dk_of I.hok (le _ _ st)
      obtain ⟨rel, ek⟩ := kv_vals kv
      have rk := keys_read (h := s.heap) pr
      have rel' : Vals (kvs.map (·.2)) (es.toList.map (·.val)) := by rw [pair_vals pr]; exact rel
      obtain ⟨as, ra, na⟩ := x_readsL I sm le rl rel' q
      have hl : (ks.map kP).length = ps.length := by
        rw [List.length_map, ← hk, List.length_map, xL_len q, ← rl.length, List.length_map]
      obtain ⟨z1, z2⟩ := zip_fst hl
      refine ⟨a :: [] ++ as, .dict (kvs := (ks.map kP).zip ps) ho ex.1 hd ?_ ?_, ?_⟩
      · rw [z1, ← hk, ek, List.map_map]; exact rk
      · rw [z2]; exact ra
      · simp only [List.cons_append, List.nil_append, List.mem_cons, not_or]
        exact ⟨fun z => by rw [← z] at ns; simp at ns, na⟩
theorem x_readsL (I : Inv X pins σ H s) (sm : SysD X.K) (le : Le Hd H) : ∀ {ds : List D} {vs : List V} {us : List Value} {ps : List PyData}, RepL X.K Hd ds vs → Vals vs us → xL ds = some ps → ∃ as, ReadsAll s.heap us ps as ∧ sysModules ∉ as
  | [], _, _, _, r, rv, e => by simp only [RepL] at r; subst r; cases rv; simp only [xL] at e; cases e; exact ⟨_, .nil, by simp⟩
  | d :: ds, _, _, _, r, rv, e => by
    simp only [RepL] at r
    obtain ⟨v, vr, rfl, ra, rb⟩ := r
    cases rv with
    | cons r1 r2 =>
      simp only [xL] at e
      split at e
      · rename_i a b q1 q2
        cases e
        obtain ⟨as, h1, n1⟩ := x_reads I sm le ra r1 q1
        obtain ⟨bs, h2, n2⟩ := x_readsL I sm le rb r2 q2
        exact ⟨_, .cons h1 h2, by simp only [List.mem_append, not_or]; exact ⟨n1, n2⟩⟩
      · cases e
end
end
/-- repr of anything that is shown -/
theorem call_reprX {X : Cx} (A : Amb X) : CallR X (.builtin "repr") (fun xs H Q => vSem X.K (fun ds S Q => ∃ d p, ds = [d] ∧ xS S d = some p ∧ reprOk p ∧ Q (.str p.shown) S) 0 xs H Q) := by
  intro pins s σ H xs us Q I r h
  obtain ⟨pv, ds, S, Hd, M, Qd, rl, sr, hc, w, fin⟩ := h
  obtain ⟨d, p, rfl, hp, ok, w⟩ := w
  obtain ⟨v, rfl, rd⟩ := rl.one
  obtain ⟨u, rfl, ru⟩ := vals1 r
  have f := fin_val fin sr (d := .str p.shown) (v := .str p.shown) (by simp only [Rep]) w
  have box : (∃ a as, u = .ref a ∧ Reads s.heap u p as ∧ sysModules ∉ as) → wpAny (model X.prog X.w) X.A (call (.builtin "repr") [u]) (EP X pins σ Q) X.xe s := by
    rintro ⟨a, as, rfl, rs, na⟩
    refine repr_of_reads' rs ok.1 (fun _ => na) A.gd (by have := A.un; have := ok.2.1; omega) (fun b o e => e) (fun h' t tk hk => ⟨.str p.shown, H, I.kept hk, ⟨t, rfl⟩, f⟩) ok.2.2
  have plain : xD d = some p → wpAny (model X.prog X.w) X.A (call (.builtin "repr") [u]) (EP X pins σ Q) X.xe s := fun hx => by
    cases d with
    | non =>
      simp only [Rep] at rd; subst rd; simp only [xD] at hx; cases hx; cases ru
      exact PySem.P.repr_of_none ⟨.str _, H, I.tok _, ⟨_, rfl⟩, by simpa only [PyData.shown_none] using f⟩
    | bl b =>
      simp only [Rep] at rd; subst rd; simp only [xD] at hx; cases hx; cases ru
      refine PySem.P.repr_of_bool ⟨.str _, H, I.tok _, ⟨_, rfl⟩, ?_⟩
      have := f
      rw [PyData.shown_bool] at this
      exact this
    | int i =>
      simp only [Rep] at rd; subst rd; simp only [xD] at hx; cases hx; obtain ⟨t, rfl⟩ := ru
      have h1 := ok.1
      simp only [PyData.showable, decide_eq_true_eq] at h1
      refine PySem.P.repr_of_int h1 ⟨.str _, H, I.tok _, ⟨_, rfl⟩, ?_⟩
      have := f
      rw [PyData.shown_int] at this
      exact this
    | str x =>
      simp only [Rep] at rd; subst rd; simp only [xD] at hx; cases hx; obtain ⟨t, rfl⟩ := ru
      have h2 := ok.2.2
      rw [PyData.shown_str] at h2 f
      exact PySem.P.repr_of_str ⟨.str _, H, I.tok _, ⟨_, rfl⟩, f⟩ h2
    | tup xs =>
      obtain ⟨as, rs, na⟩ := x_reads I A.sm sr.sub rd ru hx
      simp only [Rep] at rd; obtain ⟨a, vs, rfl, _⟩ := rd; cases ru
      exact box ⟨a, as, rfl, rs, na⟩
    | lst xs =>
      obtain ⟨as, rs, na⟩ := x_reads I A.sm sr.sub rd ru hx
      simp only [Rep] at rd; obtain ⟨a, vs, rfl, _⟩ := rd; cases ru
      exact box ⟨a, as, rfl, rs, na⟩
    | dic ks es =>
      obtain ⟨as, rs, na⟩ := x_reads I A.sm sr.sub rd ru hx
      simp only [Rep] at rd; obtain ⟨a, vs, rfl, _⟩ := rd; cases ru
      exact box ⟨a, as, rfl, rs, na⟩
    | _ => simp [xD] at hx
  unfold xS at hp
  split at hp
  · rename_i a
    split at hp
    · rename_i xs hm
      cases q : xL xs with
      | none => rw [q] at hp; cases hp
      | some ps =>
        rw [q] at hp
        cases hp
        simp only [Rep] at rd; subst rd; cases ru
        obtain ⟨_, ho, e2, vs, rfl, rl'⟩ := sr.sto _ _ hm
        obtain ⟨its, rel, pl, _⟩ := I.list (.inl (.of e2))
        have ns := not_sys I A.sm pl
        obtain ⟨o, n, ho, hc, _, hd⟩ := pl
        obtain ⟨as, ra, na⟩ := x_readsL I A.sm sr.sub rl' rel q
        exact box ⟨a, a :: as, rfl, .list ho hc hd ra, by simp only [List.mem_cons, not_or]; exact ⟨Ne.symm ns, na⟩⟩
    · cases hp
  · exact plain hp
def nReprX : Node := nB "repr" "repr" 1 (by decide +kernel) (by decide +kernel) (by decide +kernel) (fun ds S Q => ∃ d p, ds = [d] ∧ xS S d = some p ∧ reprOk p ∧ Q (.str p.shown) S) fun X A => call_reprX A
/-- == and != with an empty tuple -/
def csT0 (neg : Bool) (d e : D) (_ : Sto) : Option Bool := match d, e with
  | .tup xs, .tup [] => some (xor neg xs.isEmpty)
  | _, _ => none
theorem empty_right {α : Type} {n : Nat} {e : Nat → Bool} {xs : List α} (h : n = xs.length) : ((List.range (min n 0)).all e && n == 0) = xs.isEmpty := by
  subst h
  cases xs <;> simp
theorem t0_of {X : Cx} {pins : List (Addr × Obj)} {σ : St} {H Hd : Hp} {s : Shared} {xs : List D} {x : V} {v : Value} (I : Inv X pins σ H s) (le : Le Hd H) (r : Rep X.K Hd (.tup xs) x) (rv : RelV x v) : ∃ a its, v = .ref a ∧ s.heap.IsTuple a its ∧ its.size = xs.length := by
  simp only [Rep] at r
  obtain ⟨a, vs, rfl, st, rl⟩ := r
  cases rv
  obtain ⟨its, rel, at_a, _⟩ := I.tuple (le.sqT st)
  exact ⟨a, its.toArray, rfl, at_a, by rw [List.size_toArray, ← rel.length, rl.length]⟩
theorem csT0_inv {neg b : Bool} {d e : D} {S : Sto} (h : csT0 neg d e S = some b) : ∃ xs, d = .tup xs ∧ e = .tup [] ∧ b = xor neg xs.isEmpty := by
  unfold csT0 at h
  split at h
  · rename_i xs
    cases h
    exact ⟨xs, rfl, rfl, rfl⟩
  · cases h
def cEqT0 : CNode := ⟨.Eq, csT0 false, fun X A pins s σ H x y v u Q I rx ry q => by
  obtain ⟨pv, d, e, S, Hd, M, b, r1, r2, sr, hb, q⟩ := q
  obtain ⟨xs, rfl, rfl, rfl⟩ := csT0_inv hb
  obtain ⟨a1, i1, rfl, t1, l1⟩ := t0_of I sr.sub r1 rx
  obtain ⟨a2, i2, rfl, t2, l2⟩ := t0_of I sr.sub r2 ry
  have z : i2.size = 0 := by simpa using l2
  refine PySem.SeqAt.eq_tupleAt (e := fun _ => true) t1 t2 (by have := A.un; omega) (fun j _ h2 => by omega) ⟨.bl _, H, I, rfl, ?_⟩
  rw [z, empty_right l1]
  simpa using q⟩
def cNeT0 : CNode := ⟨.NotEq, csT0 true, fun X A pins s σ H x y v u Q I rx ry q => by
  obtain ⟨pv, d, e, S, Hd, M, b, r1, r2, sr, hb, q⟩ := q
  obtain ⟨xs, rfl, rfl, rfl⟩ := csT0_inv hb
  obtain ⟨a1, i1, rfl, t1, l1⟩ := t0_of I sr.sub r1 rx
  obtain ⟨a2, i2, rfl, t2, l2⟩ := t0_of I sr.sub r2 ry
  have z : i2.size = 0 := by simpa using l2
  refine PySem.SeqAt.RcNeAt.tuples (e := fun _ => true) t1 t2 (by have := A.un; omega) (fun j _ h2 => by omega) _ _ _ _ ⟨.bl _, H, I, rfl, ?_⟩
  rw [z, empty_right l1]
  simpa using q⟩
end
section
open PySem PySem.Spec L2
mutual
def xok : D → Bool
  | .non => true
  | .bl _ => true
  | .int i => decide (i.natAbs < 10 ^ 45)
  | .str x => PyData.canLay0 (.str x)
  | .tup xs => xoks xs
  | .lst xs => xoks xs
  | .dic ks ds => ks.isEmpty && ds.isEmpty
  | _ => false
def xoks : List D → Bool
  | [] => true
  | d :: ds => xok d && xoks ds
end
mutual
def toX : D → PyData
  | .bl b => .bool b
  | .int i => .int i
  | .str x => .str x
  | .tup xs => .tuple (toXs xs)
  | .lst xs => .list (toXs xs)
  | .dic _ _ => .dict []
  | _ => .none
def toXs : List D → List PyData
  | [] => []
  | d :: ds => toX d :: toXs ds
end
mutual
def xsz : D → Nat
  | .str x => x.cps.size
  | .tup xs => xszs xs
  | .lst xs => xszs xs
  | _ => 0
def xszs : List D → Nat
  | [] => 0
  | d :: ds => xsz d + 1 + xszs ds
end
mutual
def xdp : D → Nat
  | .tup xs => xdps xs + 1
  | .lst xs => xdps xs + 1
  | .dic _ _ => 1
  | _ => 0
def xdps : List D → Nat
  | [] => 0
  | d :: ds => max (xdp d) (xdps ds)
end
mutual
theorem xok_all : ∀ {d : D}, xok d = true → xD d = some (toX d) ∧ (toX d).showable = true ∧ (toX d).leavesShort 46 = true ∧ (toX d).bulk = xsz d ∧ (toX d).depth = xdp d
  | .non, _ => ⟨rfl, rfl, rfl, rfl, rfl⟩
  | .bl _, _ => ⟨rfl, rfl, rfl, rfl, rfl⟩
  | .int i, h => by
    simp only [xok, decide_eq_true_eq] at h
    refine ⟨rfl, ?_, ?_, rfl, rfl⟩
    · simp only [toX, PyData.showable, decide_eq_true_eq]; exact int_log h
    · simp only [toX, PyData.leavesShort, decide_eq_true_eq]; exact int_short h
  | .str x, h => by
    have h' : PyData.canLay0 (.str x) = true := by simpa only [xok] using h
    exact ⟨rfl, rfl, PyData.leavesShort_of_canLay0 46 (.str x) h' (by simp only [PyData.intsShort]), rfl, rfl⟩
  | .tup xs, h => by
    simp only [xok] at h
    obtain ⟨a, b, c, d, e⟩ := xoks_all h
    exact ⟨by simp only [xD, a, Option.map_some, toX], by simpa only [toX, PyData.showable] using b, by simpa only [toX, PyData.leavesShort] using c, by simpa only [toX, PyData.bulk, xsz] using d,
      by simp only [toX, PyData.depth, xdp, e]⟩
  | .lst xs, h => by
    simp only [xok] at h
    obtain ⟨a, b, c, d, e⟩ := xoks_all h
    exact ⟨by simp only [xD, a, Option.map_some, toX], by simpa only [toX, PyData.showable] using b, by simpa only [toX, PyData.leavesShort] using c, by simpa only [toX, PyData.bulk, xsz] using d,
      by simp only [toX, PyData.depth, xdp, e]⟩
  | .dic ks ds, h => by
    simp only [xok, Bool.and_eq_true, List.isEmpty_iff] at h
    obtain ⟨rfl, rfl⟩ := h
    exact ⟨rfl, rfl, rfl, rfl, rfl⟩
  | .ty _, h => by simp [xok] at h
  | .loc _, h => by simp [xok] at h
  | .scr _, h => by simp [xok] at h
  | .obj _ _ _, h => by simp [xok] at h
theorem xoks_all : ∀ {ds : List D}, xoks ds = true → xL ds = some (toXs ds) ∧ PyData.showableAll (toXs ds) = true ∧ PyData.leavesShortAll 46 (toXs ds) = true ∧ PyData.bulkAll (toXs ds) = xszs ds ∧ PyData.depthAll (toXs ds) = xdps ds
  | [], _ => ⟨rfl, rfl, rfl, rfl, rfl⟩
  | x :: xs, h => by
    simp only [xoks, Bool.and_eq_true] at h
    obtain ⟨a, b, c, d, e⟩ := xok_all h.1
    obtain ⟨a', b', c', d', e'⟩ := xoks_all h.2
    refine ⟨?_, ?_, ?_, ?_, ?_⟩
    · simp only [xL, a, a', toXs]
    · simp only [toXs, PyData.showableAll, b, b', Bool.and_self]
    · simp only [toXs, PyData.leavesShortAll, c, c', Bool.and_self]
    · simp only [toXs, PyData.bulkAll, d, d', xszs]
    · simp only [toXs, PyData.depthAll, e, e', xdps]
end
/-- data of at most c items and h levels -/
structure Xc (c h : Nat) (d : D) : Prop where
  ok : xok d = true
  sz : xsz d ≤ c
  dp : xdp d ≤ h
/-- several -/
structure Xs (c h : Nat) (ds : List D) : Prop where
  ok : xoks ds = true
  sz : xszs ds ≤ c
  dp : xdps ds ≤ h
theorem Xc.mono {c h c' h' : Nat} {d : D} (n : Xc c h d) (hc : c ≤ c') (hh : h ≤ h') : Xc c' h' d := ⟨n.ok, Nat.le_trans n.sz hc, Nat.le_trans n.dp hh⟩
theorem Xs.mono {c h c' h' : Nat} {d : List D} (n : Xs c h d) (hc : c ≤ c') (hh : h ≤ h') : Xs c' h' d := ⟨n.ok, Nat.le_trans n.sz hc, Nat.le_trans n.dp hh⟩
theorem Xs.nil : Xs 0 0 [] := ⟨rfl, Nat.le_refl _, Nat.le_refl _⟩
theorem Xs.cons {c c' h : Nat} {d : D} {ds : List D} (n : Xc c h d) (m : Xs c' h ds) : Xs (c + 1 + c') h (d :: ds) :=
  ⟨by simp only [xoks, n.ok, m.ok, Bool.and_self], by simp only [xszs]; have := n.sz; have := m.sz; omega, by simp only [xdps]; have := n.dp; have := m.dp; omega⟩
theorem xoks_app {xs ys : List D} : xoks (xs ++ ys) = (xoks xs && xoks ys) := by
  induction xs with
  | nil => rfl
  | cons x xs ih => simp only [List.cons_append, xoks, ih, Bool.and_assoc]
theorem xszs_app {xs ys : List D} : xszs (xs ++ ys) = xszs xs + xszs ys := by
  induction xs with
  | nil => simp [xszs]
  | cons x xs ih => simp only [List.cons_append, xszs, ih]; omega
theorem xdps_app {xs ys : List D} : xdps (xs ++ ys) = max (xdps xs) (xdps ys) := by
  induction xs with
  | nil => simp [xdps]
  | cons x xs ih => simp only [List.cons_append, xdps, ih]; omega
theorem Xs.sub {c h : Nat} {xs ys zs : List D} (n : Xs c h (xs ++ ys ++ zs)) : Xs c h xs ∧ Xs c h ys ∧ Xs c h zs := by
  obtain ⟨a, b, d⟩ := n
  rw [xoks_app, xoks_app, Bool.and_eq_true, Bool.and_eq_true] at a
  rw [xszs_app, xszs_app] at b
  rw [xdps_app, xdps_app] at d
  exact ⟨⟨a.1.1, by omega, by omega⟩, ⟨a.1.2, by omega, by omega⟩, ⟨a.2, by omega, by omega⟩⟩
theorem Xs.take {c h : Nat} {xs : List D} (n : Xs c h xs) (i : Nat) : Xs c h (xs.take i) := (Xs.sub (xs := []) (zs := xs.drop i) (by rw [List.nil_append, List.take_append_drop]; exact n)).2.1
theorem Xs.drop {c h : Nat} {xs : List D} (n : Xs c h xs) (i : Nat) : Xs c h (xs.drop i) := (Xs.sub (xs := xs.take i) (ys := xs.drop i) (zs := []) (by rw [List.append_nil, List.take_append_drop]; exact n)).2.1
theorem Xc.tup {c h : Nat} {xs : List D} (n : Xs c h xs) : Xc c (h + 1) (.tup xs) := ⟨by simpa only [xok] using n.ok, by simpa only [xsz] using n.sz, by simp only [xdp]; have := n.dp; omega⟩
theorem Xc.lst {c h : Nat} {xs : List D} (n : Xs c h xs) : Xc c (h + 1) (.lst xs) := ⟨by simpa only [xok] using n.ok, by simpa only [xsz] using n.sz, by simp only [xdp]; have := n.dp; omega⟩
theorem Xc.int {i : Int} (h : i.natAbs < 10 ^ 45) : Xc 0 0 (.int i) := ⟨by simp only [xok, decide_eq_true_eq]; exact h, Nat.le_refl _, Nat.le_refl _⟩
theorem Xc.small {i : Int} (h : -1000000 ≤ i) (h2 : i ≤ 1000000) : Xc 0 0 (.int i) := .int (by
  have : i.natAbs < 1000001 := by omega
  exact Nat.lt_trans this (by decide +kernel))
theorem do_reprX {c h : Nat} {d : D} {S : Sto} {Q : PostE} (n : Xc c h d) (hc : c ≤ 200000) (hh : h ≤ 50) (q : Q (.str (toX d).shown) S) : nReprX.sem [d] S Q := by
  obtain ⟨a, b, l, e, f⟩ := xok_all n.ok
  have hx : xS S d = some (toX d) := by
    have ok := n.ok
    cases d <;> first | exact a | (simp [xok] at ok)
  refine ⟨d, toX d, rfl, hx, ⟨b, by rw [f]; exact Nat.le_trans n.dp hh, ?_⟩, q⟩
  have := PyData.shown_le_bulk 46 (by omega) (toX d) l
  rw [e] at this
  have hs : 48 * 200000 + 46 ≤ sizeLine := by decide +kernel
  have := n.sz
  omega
theorem cs_eqT0 {S : Sto} {xs : List D} : cEqT0.cs (.tup xs) (.tup []) S = some xs.isEmpty := by show some (xor false _) = _; simp
theorem cs_neT0 {S : Sto} {xs : List D} : cNeT0.cs (.tup xs) (.tup []) S = some (!xs.isEmpty) := by show some (xor true _) = _; simp
end
section
open PySem PySem.Spec L2
/-- list * int, wherever the list stands -/
def rRepL : R2 := fun x y H Q => ∃ l k xs, x = .ref l ∧ y = .int k ∧ Rd H l (.lst xs) ∧ -(2 ^ 63) ≤ k ∧ k < 2 ^ 63 ∧ xs.length * k.toNat ≤ sizeLine ∧ ∀ p, H p = none → Q (.ref p) (upd H p (.lst (List.replicate k.toNat xs).flatten))
theorem op_repL {X : Cx} : OpR X (binaryOp .Mult) rRepL := by
  rintro pins st σ T _ _ u1 u2 Q I r1 r2 ⟨l, k, xs, rfl, rfl, rd, lo, hi, few, q⟩
  cases r1
  obtain ⟨tk, rfl⟩ := r2
  obtain ⟨_, its, n, rel, at_l⟩ := rd.ok I.hok
  have sz : its.toArray.size * k.toNat ≤ sizeLine := by
    rw [List.size_toArray, ← rel.length]; exact few
  have cap : (sizeLine : Nat) ≤ (2 ^ 63 - 1) / 8 := by decide
  have made : List.foldl (fun a b => a ++ b) #[] (List.replicate (if its.toArray.isEmpty = true then 0 else k.toNat) its.toArray) = (List.replicate k.toNat its).flatten.toArray := by
    have every : ∀ m : Nat, List.foldl (fun a b => a ++ b) #[] (List.replicate m its.toArray) = (List.replicate m its).flatten.toArray := fun m => by
      simpa using foldl_rep its m []
    rw [every]
    cases its <;> simp
  have ty : st.TypeIs (.ref l) "list" := ⟨_, at_l, rfl⟩
  refine wpAny_binaryOp_repeat_ref (T := "list") (U := "int") (by decide) ty (fun t => typeIs_int t k tk) noFill_list_mul F.fills_int_mul F.slot_int_rmul repeat_list F.slot_int_index.lookup ?_
  refine call_meets F.slot_int_rmul (typeIs_int st k tk) F.entry_int_rmul (F.args_int_rmul_2 _ _) (int___rmul___int_list k tk l its.toArray n) ⟨at_l, rfl, ty, ?_⟩
  refine call_meets F.slot_list_mul ty F.entry_list_mul (F.args_list_mul_2 _ _) (AutoListH.list___mul___list_int_3 l its.toArray n k tk (by rw [fitsIndex_both lo hi]; decide) (by omega) (by rw [notLongL sz]; decide)) ⟨at_l, ?_⟩
  rw [made]
  exact ⟨.ref _, _, I.lnew (t' := st.toks) (rel.rep k.toNat) (by rw [PyProof.Rows.lm_len_rep_flat, Nat.mul_comm]; exact few), rfl, q _ I.fresh⟩
def nMulL (o : Bool) : Node := nBin .Mult (fun ds S Q => ∃ d k xs, ds = [d, .int k] ∧ lstS S d = some xs ∧ -1000000 ≤ k ∧ k ≤ 1000000 ∧ xs.length * k.toNat ≤ sizeLine ∧ newL o (List.replicate k.toNat xs).flatten S Q) fun X A => opOf op_repL fun x y H Q q => by
  obtain ⟨pv, ds, S, Hd, M, Qd, rl, sr, hc, w, fin⟩ := q
  obtain ⟨d, k, xs, rfl, hx, lo, hi, few, w⟩ := w
  obtain ⟨v, u, e, r1, r2⟩ := rl.two
  simp only [List.cons.injEq, and_true] at e
  obtain ⟨rfl, rfl⟩ := e
  simp only [Rep] at r2
  obtain ⟨a, us, rfl, rl', st⟩ := lst_of sr r1 hx
  exact ⟨a, k, us, rfl, r2, st, by omega, by omega, by rw [rl'.length]; exact few, fun p hp => fin_lst fin sr (rl'.rep _) w hp⟩
def pickD {α : Type} (xs : List α) (lo hi st : Option Int) : List α := (sliceRange (sliceBounds lo hi st xs.length).1 (sliceBounds lo hi st xs.length).2.1 (sliceBounds lo hi st xs.length).2.2).filterMap (xs[·]?)
theorem pick_rep {K : PySem.W.Frag} {H : Hp} {ds : List D} {vs : List V} (r : RepL K H ds vs) : ∀ is : List Nat, RepL K H (is.filterMap (ds[·]?)) (is.filterMap (vs[·]?))
  | [] => .nil
  | i :: is => by
    simp only [List.filterMap_cons]
    cases q : ds[i]? with
    | none =>
      have : vs[i]? = none := by
        rw [List.getElem?_eq_none_iff] at q ⊢
        rw [r.length]; exact q
      rw [this]
      exact pick_rep r is
    | some d =>
      obtain ⟨v, hv, rv⟩ := r.get q
      rw [hv]
      exact .cons rv (pick_rep r is)
theorem pick_vals {vs : List V} {us : List Value} (r : Vals vs us) : ∀ is : List Nat, Vals (is.filterMap (vs[·]?)) (is.filterMap (us[·]?))
  | [] => .nil
  | i :: is => by
    simp only [List.filterMap_cons]
    cases q : vs[i]? with
    | none =>
      have : us[i]? = none := by
        rw [List.getElem?_eq_none_iff] at q ⊢
        rw [← r.length]; exact q
      rw [this]
      exact pick_vals r is
    | some v =>
      obtain ⟨u, hu, ru⟩ := r.get q
      rw [hu]
      exact .cons ru (pick_vals r is)
theorem pick_eq (us : List Value) (lo hi st : Option Int) : slicePick us.toArray lo hi st = (pickD us lo hi st).toArray := by
  unfold slicePick pickD
  simp
theorem pe_pickL {X : Cx} {e se : Expr} {le : Option Expr} {te : TE} {lo : Option Int} {i : Int} {p2 pos : Pos} (he : PE X e te) (hl : PO X le (fun _ H Q => Q lo H)) (hs : PE X se (tC (.int i))) (h0 : i ≠ 0) :
    PE X (.Subscript e (.Slice le none (some se) p2) pos) (fun σ H Q => te σ H fun x H1 => ∃ a xs, x = .ref a ∧ SqL X.K H1 a xs ∧ ∀ p, H1 p = none → Q (.ref p) (upd H1 p (.lst (pickD xs lo none (some i))))) := by
  constructor
  intro pins st σ T Q I wish
  refine PyProof.Rows.Subscript_ (thn (he.run pins st σ T _ I wish) ?_)
  rintro v st1 ⟨x, T1, I1, rv, a, xs, rfl, sq, q⟩
  cases rv
  refine wpAny_Slice (thn (hl.run pins st1 σ T1 (fun o T' => o = lo ∧ T' = T1) I1 ⟨rfl, rfl⟩) ?_)
  rintro vl st2 ⟨o', T', I2, pl, ho, hT⟩
  rw [ho] at pl
  rw [hT] at I2
  rw [evalPart_none]
  refine wpAny_pure ?_
  rw [evalPart_some]
  refine thn (hs.run pins st2 σ _ (fun y T' => y = .int i ∧ T' = T1) I2 ⟨rfl, rfl⟩) ?_
  rintro vs st3 ⟨y', T3, I3, rs, hy, hT3⟩
  rw [hy] at rs
  rw [hT3] at I3
  obtain ⟨tk, rfl⟩ := rs
  have I4 := Inv.kept (t' := st3.toks) (h' := st3.heap.push { cls := .type "slice", data := .fields #[vl, .none, .int i tk] }) I3 fun _ _ g => Heap.get?_push_of_some _ g
  obtain ⟨its, rel, at_a, few⟩ := I4.list sq
  refine PyProof.Rows.tail_any (ops := [.ref a, .ref st3.heap.objs.size]) at_a.isList.typeIs (PySem.slot_list_getitem.lookup) ?_ (by with_unfolding_all rfl)
  refine wpAny_getItem_list_slice at_a.isList (Heap.IsSliceOf.new ..) pl .none (.int i tk) (fun z => h0 (Option.some.inj z)) ?_ (by rw [List.size_toArray, ← rel.length]; exact few)
  have le := slicePick_size_le its.toArray lo none (some i)
  rw [pick_eq] at le ⊢
  have hv : Vals (pickD xs lo none (some i)) (pickD its lo none (some i)) := by
    unfold pickD
    rw [rel.length]
    exact pick_vals rel _
  refine ⟨.ref _, _, I4.lnew (t' := st3.toks) hv ?_, rfl, q _ I4.fresh⟩
  rw [hv.length]
  simp only [List.size_toArray] at le
  have := rel.length
  omega
theorem po_lit {X : Cx} {k : Nat} {p : Pos} {j : Int} : PO X (some (.Constant (.int j) k p)) (fun _ H Q => Q (some j) H) :=
  ⟨fun pins s σ H Q I h => (po_some (te := tC (.int j)) pe_int).run pins s σ H Q I ⟨j, rfl, h⟩⟩
theorem po_no {X : Cx} : PO X none (fun _ H Q => Q none H) := ⟨fun pins s σ H Q I h => po_none.run pins s σ H Q I h⟩
/-- xs[::i], xs[j::i] of a list, j and i as written -/
def nPick (o : Bool) (lo : Option Int) (i : Int) (h0 : i ≠ 0) : Node := .plain (fun _ e => match e with
    | .Subscript a (.Slice none none (some (.Constant (.int c) _ _)) _) _ => if lo = none ∧ c = i then some [a] else none
    | .Subscript a (.Slice (some (.Constant (.int j) _ _)) none (some (.Constant (.int c) _ _)) _) _ => if lo = some j ∧ c = i then some [a] else none
    | _ => none) (fun ds S Q => ∃ d xs, ds = [d] ∧ lstS S d = some xs ∧ newL o (pickD xs lo none (some i)) S Q)
  (fun sc e es h => by cases e <;> first | rfl | (simp at h))
  (fun X e es ts A hs p => by
    have fin : ∀ {te : TE}, MonoE te → ∀ σ H Q, tNd X.K (fun ds S Q => ∃ d xs, ds = [d] ∧ lstS S d = some xs ∧ newL o (pickD xs lo none (some i)) S Q) 0 [te] σ H Q →
        te σ H fun x H1 => ∃ a xs, x = .ref a ∧ SqL X.K H1 a xs ∧ ∀ p, H1 p = none → Q (.ref p) (upd H1 p (.lst (pickD xs lo none (some i)))) := fun m σ H Q q => m _ _ _ _ (fun x H1 q => by
      obtain ⟨pv, ds, S, Hd, M, Qd, rl, sr, hc, w, fin⟩ := q
      obtain ⟨d, xs, rfl, hx, w⟩ := w
      obtain ⟨v, e, r⟩ := rl.one
      cases e
      obtain ⟨a, us, rfl, rl', st⟩ := lst_of sr r hx
      have rp : RepL X.K Hd (pickD xs lo none (some i)) (pickD us lo none (some i)) := by
        unfold pickD
        rw [rl'.length]
        exact pick_rep rl' _
      exact ⟨a, us, rfl, .inl st, fun p hp => fin_lst fin sr rp w hp⟩) q
    split at hs
    · split at hs
      · rename_i c
        obtain ⟨rfl, rfl⟩ := c
        cases hs
        cases p with
        | cons n1 m1 p1 p => cases p; exact (pe_pickL p1 po_no pe_int h0).of fun σ H Q q => fin m1 σ H Q q
      · cases hs
    · split at hs
      · rename_i c
        obtain ⟨rfl, rfl⟩ := c
        cases hs
        cases p with
        | cons n1 m1 p1 p => cases p; exact (pe_pickL p1 po_lit pe_int h0).of fun σ H Q q => fin m1 σ H Q q
      · cases hs
    · cases hs)
end
section
open PySem PySem.Spec L2
def nSortI (o : Bool) : Node := nB "sorted" "sorted" 1 (by decide +kernel) (by decide +kernel) (by decide +kernel) (fun ds S Q => ∃ (d : D) (ns : List Int), ds = [d] ∧ lstS S d = some (ns.map D.int) ∧ ∀ ms : List Int, ms.Perm ns → ms.Pairwise (· ≤ ·) → newL o (ms.map D.int) S Q) fun X A => callOf cr_sortedI fun xs H Q q => by
  obtain ⟨pv, ds, S, Hd, M, Qd, rl, sr, hc, w, fin⟩ := q
  obtain ⟨d, ns, rfl, hl, w⟩ := w
  obtain ⟨v, rfl, r⟩ := rl.one
  obtain ⟨a, us, rfl, rl', st⟩ := lst_of sr r hl
  rw [rl'.ints] at st
  exact ⟨a, ns, rfl, .inl st, fun ms p pm pw hp => fin_lst fin sr (.of_ints ms) (w ms pm pw) hp⟩
end
section
open PySem PySem.Spec L2
section
variable {prog : Program} {w : World} {A : Around} {E : Value → Shared → Prop} {s : Shared} {z TI TO i1 i2 T : Addr} {fp1 fp2 : List Addr} {n1 n2 i : Nat} {P1 P2 : Nat → Value → Prop} {St1 St2 : Nat → Heap → Prop} {f : Bool} {oT : Obj}
theorem zipH_item {Q : Value → Shared → Prop} (S : ZipSep2 z TI TO i1 i2 fp1 fp2) (D1 : Draws prog w A i1 fp1 n1 P1 St1) (D2 : Draws prog w A i2 fp2 n2 P2 St2)
    (hz : IsZipHeld s.heap z TI TO T f) (hT : s.heap.get? T = some oT) (hTI : IsTupOf2 s.heap TI (.ref i1) (.ref i2)) (st1 : St1 i s.heap) (st2 : St2 i s.heap) (hlt1 : i < n1) (hlt2 : i < n2)
    (hQ : ∀ x1 x2 h' tk, P1 i x1 → P2 i x2 → IsZipHeld h' z TI TO T true → St1 (i + 1) h' → St2 (i + 1) h' → IsTupOf2 h' s.heap.objs.size x1 x2 → h'.objs.size = s.heap.objs.size + 1 →
      (∀ c o, c ≠ z → c ≠ i1 → c ≠ i2 → s.heap.get? c = some o → h'.get? c = some o) → Q (.ref s.heap.objs.size) { s with heap := h', toks := tk }) :
    wpAny (model prog w) A (Builtin.«zip.__next__» ⟨[.ref z], []⟩) (fun fin s' => ∃ v, fin = .done (.ret v) ∧ Q v s') E s := by
  obtain ⟨hp, g, d, tk0, os⟩ := s
  show wpAny _ _ (field (.ref z) 2 >>= _) _ _ _
  refine wpAny_bind (wpAny_field hz rfl (x := .bool false) rfl ?_)
  show wpAny _ _ (field (.ref z) 3 >>= _) _ _ _
  refine wpAny_bind (wpAny_field hz rfl (x := .ref TI) rfl ?_)
  refine wpAny_bind (wpAny_seqItems hTI rfl ?_)
  show wpAny _ _ (Builtin.SmallTypes.ownedTupleIsFree (.ref z) >>= _) _ _ _
  refine wpAny_bind (wpAny_tupleHeld_zip hz hT fun g0 hz0 hs0 => ?_)
  replace hs0 : Heap.SameBut z hp g0 := hs0
  simp only [Bool.false_eq_true, if_false]
  refine wpAny_bind ?_
  rw [← Array.forIn_toList]
  simp only [List.forIn_cons, List.forIn_nil]
  refine wpAny_bind (wpAny_bind (wpAny_holding ?_))
  show wpAny _ _ (Builtin.SmallTypes.nextOf (.ref i1) >>= _) _ _ ⟨g0, g, d, tk0, os⟩
  refine wpAny_bind (D1.item i _ _ _ hlt1 (D1.over st1 hs0 S.zf1) fun x1 p1 tk1 hx1 sn1 hp1 => wpAny_pure ?_)
  replace hp1 : Heap.SameBut i1 g0 p1 := hp1
  refine wpAny_pure ?_
  refine wpAny_bind (wpAny_bind (wpAny_holding ?_))
  show wpAny _ _ (Builtin.SmallTypes.nextOf (.ref i2) >>= _) _ _ ⟨p1, g, d, tk1, os⟩
  refine wpAny_bind (D2.item i _ _ _ hlt2 (D2.over (D2.over st2 hs0 S.zf2) hp1 S.sep1_2) fun x2 p2 tk2 hx2 sn2 hp2 => wpAny_pure ?_)
  replace hp2 : Heap.SameBut i2 p1 p2 := hp2
  refine wpAny_pure (wpAny_pure ?_)
  show wpAny _ _ (newTuple [x1, x2] >>= _) _ _ ⟨p2, g, d, tk2, os⟩
  refine wpAny_bind (wpAny_newTuple ?_)
  have hsz : p2.objs.size = hp.objs.size := by rw [hp2.1, hp1.1, hs0.1]
  have hzz : IsZipHeld p2 z TI TO T true := hp2.extBut _ _ S.zi2 (hp1.extBut _ _ S.zi1 hz0)
  have hk : ∀ c o, c ≠ z → c ≠ i1 → c ≠ i2 → hp.get? c = some o → p2.get? c = some o := fun c o c1 c2 c3 e => hp2.extBut _ _ c3 (hp1.extBut _ _ c2 (hs0.extBut _ _ c1 e))
  have hj1 : St1 (i + 1) p2 := D1.over sn1 hp2 S.sep2_1
  have hp' : IsTupOf2 (p2.push { cls := .type "tuple", data := .seq #[x1, x2] }) p2.objs.size x1 x2 := Heap.get?_push_size _ rfl
  have hz4 : (p2.push { cls := .type "tuple", data := .seq #[x1, x2] }).objs.size = p2.objs.size + 1 := Heap.size_push ..
  refine wpAny_pure ⟨_, rfl, ?_⟩
  show Q (.ref p2.objs.size) ⟨p2.push { cls := .type "tuple", data := .seq #[x1, x2] }, g, d, tk2, os⟩
  rw [hsz] at hp' hz4 ⊢
  exact hQ x1 x2 _ tk2 hx1 hx2 (Heap.get?_push_of_some _ hzz) (D1.frame _ _ _ hj1 fun b _ o e => Heap.get?_push_of_some _ e) (D2.frame _ _ _ sn2 fun b _ o e => Heap.get?_push_of_some _ e) hp' hz4
    fun c o c1 c2 c3 e => Heap.get?_push_of_some _ (hk c o c1 c2 c3 e)
theorem zipH_end {Q : Fin → Shared → Prop} (S : ZipSep2 z TI TO i1 i2 fp1 fp2) (D1 : Draws prog w A i1 fp1 n1 P1 St1) (D2 : Draws prog w A i2 fp2 n2 P2 St2)
    (hz : IsZipHeld s.heap z TI TO T f) (hT : s.heap.get? T = some oT) (hTI : IsTupOf2 s.heap TI (.ref i1) (.ref i2)) (st1 : St1 i s.heap) (st2 : St2 i s.heap) (hle1 : i ≤ n1) (hle2 : i ≤ n2) (hend : i = n1 ∨ i = n2)
    (hE : ∀ h' tk e, (∀ c o, c ≠ z → c ≠ i1 → c ≠ i2 → s.heap.get? c = some o → h'.get? c = some o) → (∃ o, h'.get? e = some o ∧ o.cls = .type "StopIteration") → E (.ref e) { s with heap := h', toks := tk }) :
    wpAny (model prog w) A (Builtin.«zip.__next__» ⟨[.ref z], []⟩) Q E s := by
  obtain ⟨hp, g, d, tk0, os⟩ := s
  show wpAny _ _ (field (.ref z) 2 >>= _) _ _ _
  refine wpAny_bind (wpAny_field hz rfl (x := .bool false) rfl ?_)
  show wpAny _ _ (field (.ref z) 3 >>= _) _ _ _
  refine wpAny_bind (wpAny_field hz rfl (x := .ref TI) rfl ?_)
  refine wpAny_bind (wpAny_seqItems hTI rfl ?_)
  show wpAny _ _ (Builtin.SmallTypes.ownedTupleIsFree (.ref z) >>= _) _ _ _
  refine wpAny_bind (wpAny_tupleHeld_zip hz hT fun g0 hz0 hs0 => ?_)
  replace hs0 : Heap.SameBut z hp g0 := hs0
  simp only [Bool.false_eq_true, if_false]
  refine wpAny_bind ?_
  rw [← Array.forIn_toList]
  simp only [List.forIn_cons, List.forIn_nil]
  refine wpAny_bind (wpAny_bind (wpAny_holding ?_))
  show wpAny _ _ (Builtin.SmallTypes.nextOf (.ref i1) >>= _) _ _ ⟨g0, g, d, tk0, os⟩
  by_cases c1 : i < n1
  · have c2 : i = n2 := by omega
    subst c2
    refine wpAny_bind (D1.item i _ _ _ c1 (D1.over st1 hs0 S.zf1) fun x1 p1 tk1 hx1 sn1 hp1 => wpAny_pure ?_)
    replace hp1 : Heap.SameBut i1 g0 p1 := hp1
    refine wpAny_pure ?_
    refine wpAny_bind (wpAny_bind (wpAny_holding ?_))
    show wpAny _ _ (Builtin.SmallTypes.nextOf (.ref i2) >>= _) _ _ ⟨p1, g, d, tk1, os⟩
    refine wpAny_bind (D2.done _ _ _ (D2.over (D2.over st2 hs0 S.zf2) hp1 S.sep1_2) fun h₃ e hs₃ he => ?_)
    exact hE h₃ tk1 e (fun c o k1 k2 k3 x => hs₃ _ _ k3 (hp1.extBut _ _ k2 (hs0.extBut _ _ k1 x))) he
  · have c2 : i = n1 := by omega
    subst c2
    refine wpAny_bind (D1.done _ _ _ (D1.over st1 hs0 S.zf1) fun h₂ e hs₂ he => ?_)
    exact hE h₂ tk0 e (fun c o k1 k2 _ x => hs₂ _ _ k2 (hs0.extBut _ _ k1 x)) he
/-- what next gives: the tuple that was out before may be held -/
def ZSt (h : Heap) (z TI TO i1 i2 S : Addr) (i : Nat) : Prop :=
  IsTupOf2 h TI (.ref i1) (.ref i2) ∧ ((IsZip h z TI TO .none ∧ ∃ a1 a2, IsTupOf2 h TO a1 a2) ∨ ∃ T f oT, IsZipHeld h z TI TO T f ∧ h.get? T = some oT ∧ T ≠ z ∧ T ≠ i1 ∧ T ≠ i2 ∧ T ≠ S)
theorem pyNext_zipAny_item {S : Addr} {Q : Option Value → Shared → Prop} (Z : ZipSep2 z TI TO i1 i2 fp1 fp2) (D1 : Draws prog w A.in1 i1 fp1 n1 P1 St1) (D2 : Draws prog w A.in1 i2 fp2 n2 P2 St2)
    (hz : ZSt s.heap z TI TO i1 i2 S i) (hS : S < s.heap.objs.size) (li1 : i1 < s.heap.objs.size) (li2 : i2 < s.heap.objs.size) (lz : z < s.heap.objs.size) (TIi1 : TI ≠ i1) (TIi2 : TI ≠ i2) (st1 : St1 i s.heap) (st2 : St2 i s.heap) (hlt1 : i < n1) (hlt2 : i < n2)
    (hQ : ∀ x1 x2 h' tk, P1 i x1 → P2 i x2 → ZSt h' z TI TO i1 i2 S (i + 1) → St1 (i + 1) h' → St2 (i + 1) h' → IsTupOf2 h' s.heap.objs.size x1 x2 → h'.objs.size = s.heap.objs.size + 1 →
      (∀ c o, c ≠ z → c ≠ TO → c ≠ i1 → c ≠ i2 → s.heap.get? c = some o → h'.get? c = some o) → Q (some (.ref s.heap.objs.size)) { s with heap := h', toks := tk }) :
    wpAny (model prog w) A (pyNext (.ref z)) Q E s := by
  obtain ⟨hTI, hz⟩ := hz
  rcases hz with ⟨hz, a1, a2, hTO⟩ | ⟨T, f, oT, hz, hT, Tz, T1, T2, TS⟩
  · have hTy : s.TypeIs (.ref z) "zip" := ⟨_, hz, rfl⟩
    unfold pyNext
    refine wpAny_bind (wpAny_attempt (wpAny_callSpecial?_slot (name := Str.ofString "__next__") hTy F.slot_zip_next
      (wpAny_call_entry F.slot_zip_next hTy F.entry_zip_next
        (zipD2_next_item Z D1 D2 hz hTI hTO st1 st2 hlt1 hlt2 fun x1 x2 h' tk e1 e2 z' TO' s1 s2 hT hsz hk => wpAny_pure ?_) (F.args_zip_next_1 _))))
    exact hQ x1 x2 h' tk e1 e2 ⟨hk _ _ Z.TIz Z.TITO TIi1 TIi2 hTI, .inr ⟨s.heap.objs.size, false, _, z', hT, Nat.ne_of_gt lz, Nat.ne_of_gt li1, Nat.ne_of_gt li2, Nat.ne_of_gt hS⟩⟩ s1 s2 hT hsz hk
  · have hTy : s.TypeIs (.ref z) "zip" := ⟨_, hz, rfl⟩
    unfold pyNext
    refine wpAny_bind (wpAny_attempt (wpAny_callSpecial?_slot (name := Str.ofString "__next__") hTy F.slot_zip_next
      (wpAny_call_entry F.slot_zip_next hTy F.entry_zip_next
        (zipH_item Z D1 D2 hz hT hTI st1 st2 hlt1 hlt2 fun x1 x2 h' tk e1 e2 z' s1 s2 hT' hsz hk => wpAny_pure ?_) (F.args_zip_next_1 _))))
    exact hQ x1 x2 h' tk e1 e2 ⟨hk _ _ Z.TIz TIi1 TIi2 hTI, .inr ⟨T, true, oT, z', hk _ _ Tz T1 T2 hT, Tz, T1, T2, TS⟩⟩ s1 s2 hT' hsz fun c o c1 _ c3 c4 => hk c o c1 c3 c4
theorem pyNext_zipAny_end {S : Addr} {Q : Option Value → Shared → Prop} (Z : ZipSep2 z TI TO i1 i2 fp1 fp2) (D1 : Draws prog w A.in1 i1 fp1 n1 P1 St1) (D2 : Draws prog w A.in1 i2 fp2 n2 P2 St2)
    (hz : ZSt s.heap z TI TO i1 i2 S i) (st1 : St1 i s.heap) (st2 : St2 i s.heap) (hle1 : i ≤ n1) (hle2 : i ≤ n2) (hend : i = n1 ∨ i = n2)
    (hQ : ∀ h' tk, (∀ c o, c ≠ z → c ≠ TO → c ≠ i1 → c ≠ i2 → s.heap.get? c = some o → h'.get? c = some o) → Q none { s with heap := h', toks := tk }) :
    wpAny (model prog w) A (pyNext (.ref z)) Q E s := by
  obtain ⟨hTI, hz⟩ := hz
  rcases hz with ⟨hz, a1, a2, hTO⟩ | ⟨T, f, oT, hz, hT, Tz, T1, T2, TS⟩
  · have hTy : s.TypeIs (.ref z) "zip" := ⟨_, hz, rfl⟩
    unfold pyNext
    refine wpAny_bind (wpAny_attempt (wpAny_callSpecial?_slot (name := Str.ofString "__next__") hTy F.slot_zip_next
      (wpAny_call_entry F.slot_zip_next hTy F.entry_zip_next (zipD2_next_end Z D1 D2 hz hTI hTO st1 st2 hle1 hle2 hend fun h' tk e hk he => ?_) (F.args_zip_next_1 _))))
    obtain ⟨o, ho, hc⟩ := he
    refine wpAny_bind (wpAny_isInstance (T := "StopIteration") (b := true) ⟨o, ho, hc⟩ isSubtype_stop ?_)
    exact wpAny_pure (hQ _ _ hk)
  · have hTy : s.TypeIs (.ref z) "zip" := ⟨_, hz, rfl⟩
    unfold pyNext
    refine wpAny_bind (wpAny_attempt (wpAny_callSpecial?_slot (name := Str.ofString "__next__") hTy F.slot_zip_next
      (wpAny_call_entry F.slot_zip_next hTy F.entry_zip_next (zipH_end Z D1 D2 hz hT hTI st1 st2 hle1 hle2 hend fun h' tk e hk he => ?_) (F.args_zip_next_1 _))))
    obtain ⟨o, ho, hc⟩ := he
    refine wpAny_bind (wpAny_isInstance (T := "StopIteration") (b := true) ⟨o, ho, hc⟩ isSubtype_stop ?_)
    exact wpAny_pure (hQ _ _ fun c o c1 _ c3 c4 => hk c o c1 c3 c4)
end
/-- the addresses as hold the pairs, in order -/
structure ZipG (P1 P2 : Nat → Value → Prop) (lo : Addr) (h : Heap) (as : List Addr) : Prop where
  rise : as.Pairwise (· < ·)
  above : ∀ a ∈ as, lo < a
  pairs : ∀ (j : Nat) (a : Addr), as[j]? = some a → ∃ x1 x2, P1 j x1 ∧ P2 j x2 ∧ IsTupOf2 h a x1 x2
theorem ZipG.there {P1 P2 : Nat → Value → Prop} {lo : Addr} {h : Heap} {as : List Addr} (g : ZipG P1 P2 lo h as) {a : Addr} (ha : a ∈ as) : a < h.objs.size := by
  obtain ⟨j, hj⟩ := List.mem_iff_getElem?.mp ha
  obtain ⟨_, _, _, _, e⟩ := g.pairs j a hj
  exact Heap.lt_size e
section
variable {prog : Program} {w : World} {A : Around} {E : Value → Shared → Prop} {s : Shared} {R : Result → Shared → Prop} {z TI TO i1 i2 S : Addr} {fp1 fp2 : List Addr} {n1 n2 n : Nat} {P1 P2 : Nat → Value → Prop} {St1 St2 : Nat → Heap → Prop}
theorem lz_loop (Z : ZipSep2 z TI TO i1 i2 fp1 fp2) (D1 : Draws prog w A.in1.in1 i1 fp1 n1 P1 St1) (D2 : Draws prog w A.in1.in1 i2 fp2 n2 P2 St2) (hn : n = min n1 n2) (hsl : n ≤ sizeLine) (S1 : S ∉ fp1) (S2 : S ∉ fp2) (Sz : z < S) (STI : TI < S) (STO : TO < S) (Si1 : i1 < S) (Si2 : i2 < S) (TIi2 : TI ≠ i2) (res : Value) {h₁ : Heap}
    (hR : ∀ h' tk acc c as, (∀ b o, b ≠ S → b ≠ z → b ≠ TO → b ≠ i1 → b ≠ i2 → h₁.get? b = some o → h'.get? b = some o) → h'.get? S = some { cls := .type "list", dict := none, data := .seq acc c, slots := #[] } → as.length = n → ZipG P1 P2 S h' as →
      acc.toList = as.map Value.ref → R (.ok (.ret res)) { s with heap := h', toks := tk }) :
    ∀ (k i : Nat) (h : Heap) (tk c : Nat) (acc : Array Value) (as : List Addr), n - i = k → i ≤ n → ZSt h z TI TO i1 i2 S i → St1 i h → St2 i h → (∀ b o, b ≠ S → b ≠ z → b ≠ TO → b ≠ i1 → b ≠ i2 → h₁.get? b = some o → h.get? b = some o) →
      h.get? S = some { cls := .type "list", dict := none, data := .seq acc c, slots := #[] } → acc.toList = as.map Value.ref → as.length = i → ZipG P1 P2 S h as →
      codeAny (model prog w) A (.builtin "list.extend.loop" ⟨[.ref S, .ref z, res], []⟩) R { s with heap := h, toks := tk } := by
  intro k
  induction k with
  | zero =>
    intro i h tk c acc as hk hi hst s1 s2 hkeep hS hacc hal hG
    refine codeAny_builtin PySem.F.entry_extend_loop ?_
    rw [Around.under_plainId PySem.F.plain_extend_loop _]
    show wpAny _ A.in1 (pyNext (.ref z) >>= _) _ _ _
    refine wpAny_bind (pyNext_zipAny_end (s := { s with heap := h, toks := tk }) (S := S) Z D1 D2 hst s1 s2 (by omega) (by omega) (by omega) fun h' tk' he => ?_)
    refine wpAny_pure (hR h' tk' acc c as (fun b o h1 h2 h3 h4 h5 e => he b o h2 h3 h4 h5 (hkeep b o h1 h2 h3 h4 h5 e)) (he S _ (Nat.ne_of_gt Sz) (Nat.ne_of_gt STO) (Nat.ne_of_gt Si1) (Nat.ne_of_gt Si2) hS) (by omega) ⟨hG.rise, hG.above, fun j a hj => ?_⟩ hacc)
    obtain ⟨x1, x2, e1, e2, e3⟩ := hG.pairs j a hj
    have ha := hG.above a (List.mem_of_getElem? hj)
    exact ⟨x1, x2, e1, e2, he a _ (Nat.ne_of_gt (Nat.lt_trans Sz ha)) (Nat.ne_of_gt (Nat.lt_trans STO ha)) (Nat.ne_of_gt (Nat.lt_trans Si1 ha)) (Nat.ne_of_gt (Nat.lt_trans Si2 ha)) e3⟩
  | succ k ih =>
    intro i h tk c acc as hk hi hst s1 s2 hkeep hS hacc hal hG
    have hsz : acc.size = i := by rw [← Array.length_toList, hacc, List.length_map, hal]
    have hSl : S < h.objs.size := Heap.lt_size hS
    refine codeAny_builtin PySem.F.entry_extend_loop ?_
    rw [Around.under_plainId PySem.F.plain_extend_loop _]
    show wpAny _ A.in1 (pyNext (.ref z) >>= _) _ _ _
    refine wpAny_bind (pyNext_zipAny_item (s := { s with heap := h, toks := tk }) (S := S) Z D1 D2 hst hSl (Nat.lt_trans Si1 hSl) (Nat.lt_trans Si2 hSl) (Nat.lt_trans Sz hSl) Z.TIi1 TIi2 s1 s2 (by omega) (by omega) fun x1 x2 h' tk' p1 p2 hst' t1 t2 ht hz hkp => ?_)
    dsimp only at ht hz hkp ⊢
    have hS' := hkp S _ (Nat.ne_of_gt Sz) (Nat.ne_of_gt STO) (Nat.ne_of_gt Si1) (Nat.ne_of_gt Si2) hS
    have up : ∀ b o, b ≠ S → h'.get? b = some o → (h'.update S (Obj.mapSeq (·.push (Value.ref h.objs.size)))).get? b = some o := fun b o hb e => (Heap.get?_update_other _ _ (Ne.symm hb)).trans e
    show wpAny _ A.in1 (updateSeq S (·.push (Value.ref h.objs.size)) >>= _) _ _ _
    refine wpAny_bind ?_
    refine wpAny_updateSeq hS' rfl (wpAny_pure ⟨plainId_quiet PySem.F.plain_extend_loop _, ih (i + 1) _ tk' _ (acc.push (Value.ref h.objs.size)) (as ++ [h.objs.size]) (by omega) (by omega) ?_ (D1.frame _ _ _ t1 fun b hb o e => up b o (fun q => S1 (q ▸ hb)) e) (D2.frame _ _ _ t2 fun b hb o e => up b o (fun q => S2 (q ▸ hb)) e)
      (fun b o h1 h2 h3 h4 h5 e => up b o h1 (hkp b o h2 h3 h4 h5 (hkeep b o h1 h2 h3 h4 h5 e))) (Heap.get?_update_self _ hS' rfl) (by rw [Array.toList_push, hacc, List.map_append]; rfl) (by rw [List.length_append, hal]; rfl) ⟨?_, ?_, ?_⟩⟩) (by rw [hsz]; omega) (by show (acc.push (Value.ref h.objs.size)).size ≤ sizeLine + 1; rw [Array.size_push, hsz]; omega)
    · obtain ⟨a1, a2⟩ := hst'
      refine ⟨up _ _ (Nat.ne_of_lt STI) a1, ?_⟩
      rcases a2 with ⟨b1, b2, b3, b4⟩ | ⟨T, f, oT, b1, b2, b3, b4, b5, b6⟩
      · exact .inl ⟨up _ _ (Nat.ne_of_lt Sz) b1, b2, b3, up _ _ (Nat.ne_of_lt STO) b4⟩
      · exact .inr ⟨T, f, oT, up _ _ (Nat.ne_of_lt Sz) b1, up _ _ b6 b2, b3, b4, b5, b6⟩
    · refine List.pairwise_append.mpr ⟨hG.rise, List.pairwise_singleton _ _, fun a ha b hb => ?_⟩
      rw [List.mem_singleton.mp hb]
      exact hG.there ha
    · intro a ha
      rcases List.mem_append.mp ha with ha | ha
      · exact hG.above a ha
      · rw [List.mem_singleton.mp ha]; exact hSl
    · intro j b hj
      rcases Nat.lt_trichotomy j as.length with h1 | h1 | h1
      · rw [List.getElem?_append_left h1] at hj
        obtain ⟨y1, y2, q1, q2, e3⟩ := hG.pairs j b hj
        have hb := hG.above b (List.mem_of_getElem? hj)
        exact ⟨y1, y2, q1, q2, up b _ (Nat.ne_of_gt hb) (hkp b _ (Nat.ne_of_gt (Nat.lt_trans Sz hb)) (Nat.ne_of_gt (Nat.lt_trans STO hb)) (Nat.ne_of_gt (Nat.lt_trans Si1 hb)) (Nat.ne_of_gt (Nat.lt_trans Si2 hb)) e3)⟩
      · subst h1
        have hb : h.objs.size = b := by simpa using hj
        subst hb
        subst hal
        exact ⟨x1, x2, p1, p2, up _ _ (Nat.ne_of_gt hSl) ht⟩
      · have hnone : (as ++ [h.objs.size])[j]? = none := List.getElem?_eq_none (by rw [List.length_append, List.length_singleton]; omega)
        rw [hnone] at hj; cases hj
theorem zip_no_len : typeLookup (.type "zip") "__len__" = pure none := am_miss_of_fast (by decide +kernel)
theorem zip_no_hint : typeLookup (.type "zip") "__length_hint__" = pure none := am_miss_of_fast (by decide +kernel)
theorem ZSt.keep {h h' : Heap} {i : Nat} (hst : ZSt h z TI TO i1 i2 S i) (Sz : z ≠ S) (STI : TI ≠ S) (STO : TO ≠ S) (k : ∀ b o, b ≠ S → h.get? b = some o → h'.get? b = some o) : ZSt h' z TI TO i1 i2 S i := by
  obtain ⟨a1, a2⟩ := hst
  refine ⟨k _ _ STI a1, ?_⟩
  rcases a2 with ⟨b1, b2, b3, b4⟩ | ⟨T, f, oT, b1, b2, b3, b4, b5, b6⟩
  · exact .inl ⟨k _ _ Sz b1, b2, b3, k _ _ STO b4⟩
  · exact .inr ⟨T, f, oT, k _ _ Sz b1, k _ _ b6 b2, b3, b4, b5, b6⟩
theorem lz_extend (Z : ZipSep2 z TI TO i1 i2 fp1 fp2) (D1 : Draws prog w A.in1.in1 i1 fp1 n1 P1 St1) (D2 : Draws prog w A.in1.in1 i2 fp2 n2 P2 St2) (hn : n = min n1 n2) (hsl : n ≤ sizeLine) (S1 : S ∉ fp1) (S2 : S ∉ fp2) (Sz : z < S) (STI : TI < S) (STO : TO < S) (Si1 : i1 < S) (Si2 : i2 < S) (TIi2 : TI ≠ i2) (res : Value) (c₀ : Nat)
    (hz : IsZip s.heap z TI TO .none) (hTI : IsTupOf2 s.heap TI (.ref i1) (.ref i2)) (hTO : ∃ a1 a2, IsTupOf2 s.heap TO a1 a2) (st1 : St1 0 s.heap) (st2 : St2 0 s.heap) (hS : s.heap.get? S = some { cls := .type "list", data := .seq #[] c₀ })
    (hR : ∀ h' tk acc c as, (∀ b o, b ≠ S → b ≠ z → b ≠ TO → b ≠ i1 → b ≠ i2 → s.heap.get? b = some o → h'.get? b = some o) → h'.get? S = some { cls := .type "list", dict := none, data := .seq acc c, slots := #[] } → as.length = n → ZipG P1 P2 S h' as →
      acc.toList = as.map Value.ref → R (.ok (.ret res)) { s with heap := h', toks := tk }) :
    wpAny (model prog w) A.in1 (Builtin.List.listExtendWith (.ref S) (.ref z) res)
      (fun fin s' => match fin with | .done f => R (.ok f) s' | .again c' => c'.quiet = true ∧ codeAny (model prog w) A c' R s') (fun e s' => R (.error e) s') s := by
  have hTy : s.TypeIs (.ref z) "zip" := ⟨_, hz, rfl⟩
  unfold Builtin.List.listExtendWith
  refine wpAny_bind (wpAny_typeOf (T := "zip") hTy ?_)
  have h1 : Builtin.List.listSameRef (.ref S) (.ref z) = false := by simp [Builtin.List.listSameRef, Nat.ne_of_gt Sz]
  have h2 : (Value.type "zip" == Value.type "list") = false := by decide
  have h3 : (Value.type "zip" == Value.type "tuple") = false := by decide
  simp only [h1, h2, h3, Bool.or_false, Bool.false_eq_true, if_false]
  refine wpAny_bind (wpAny_pyIter_zip hz ?_)
  refine wpAny_bind (wpAny_holding ?_)
  unfold Builtin.List.listLengthHint
  refine wpAny_bind (wpAny_specialOf hTy zip_no_len ?_)
  show wpAny _ A.in1 (specialOf (Value.ref z) (Str.ofString "__length_hint__") >>= _) _ _ _
  refine wpAny_bind (wpAny_specialOf hTy zip_no_hint ?_)
  refine wpAny_pure ?_
  show wpAny _ A.in1 (rule "list.extend.makes-room" >>= fun _ => Builtin.List.listTouch (.ref S) >>= fun _ =>
    again (.builtin "list.extend.loop" ⟨[.ref S, .ref z, res], []⟩)) _ _ _
  refine wpAny_bind (wpAny_rule ?_)
  refine wpAny_bind ?_
  show wpAny _ A.in1 (updateSeq S (·.push .none) >>= fun _ => updateSeq S (·.pop)) _ _ _
  refine wpAny_bind (wpAny_updateSeq hS rfl ?_)
  have hS₂ := Heap.get?_update_self (Obj.mapSeq (·.push Value.none)) hS rfl
  refine wpAny_updateSeq (hz := by seq_fits) hS₂ rfl ?_
  have hS₃ := Heap.get?_update_self (Obj.mapSeq (·.pop)) hS₂ rfl
  have oth : ∀ b o, b ≠ S → s.heap.get? b = some o → ((s.heap.update S (Obj.mapSeq (·.push Value.none))).update S (Obj.mapSeq (·.pop))).get? b = some o :=
    fun b o hb e => (Heap.get?_update_other _ _ (Ne.symm hb)).trans ((Heap.get?_update_other _ _ (Ne.symm hb)).trans e)
  refine wpAny_pure ⟨plainId_quiet PySem.F.plain_extend_loop _, lz_loop (s := s) (h₁ := s.heap) Z D1 D2 hn hsl S1 S2 Sz STI STO Si1 Si2 TIi2 res hR n 0 _ s.toks _ #[] [] (Nat.sub_zero _) (Nat.zero_le _)
    (ZSt.keep ⟨hTI, .inl ⟨hz, hTO⟩⟩ (Nat.ne_of_lt Sz) (Nat.ne_of_lt STI) (Nat.ne_of_lt STO) oth) (D1.frame _ _ _ st1 fun b hb o e => oth b o (fun q => S1 (q ▸ hb)) e) (D2.frame _ _ _ st2 fun b hb o e => oth b o (fun q => S2 (q ▸ hb)) e)
    (fun b o hb _ _ _ _ e => oth b o hb e) hS₃ rfl rfl ⟨List.Pairwise.nil, (fun _ ha => nomatch ha), (fun j a hj => by simp at hj)⟩⟩
end
end
section
open PySem PySem.Spec L2 PyProof.Rows
section
variable {prog : Program} {w : World} {A : Around} {E : Value → Shared → Prop} {s : Shared} {z TI TO i1 i2 S : Addr} {fp1 fp2 : List Addr} {n1 n2 n : Nat} {P1 P2 : Nat → Value → Prop} {St1 St2 : Nat → Heap → Prop}
theorem lz_call {Q : Value → Shared → Prop} (Z : ZipSep2 z TI TO i1 i2 fp1 fp2) (D1 : Draws prog w A.in1.in1.in1 i1 fp1 n1 P1 St1) (D2 : Draws prog w A.in1.in1.in1 i2 fp2 n2 P2 St2) (hn : n = min n1 n2) (hsl : n ≤ sizeLine)
    (F1 : ∀ b ∈ fp1, b < s.heap.objs.size) (F2 : ∀ b ∈ fp2, b < s.heap.objs.size) (Sz : z < s.heap.objs.size) (STI : TI < s.heap.objs.size) (STO : TO < s.heap.objs.size) (TIi2 : TI ≠ i2)
    (hz : IsZip s.heap z TI TO .none) (hTI : IsTupOf2 s.heap TI (.ref i1) (.ref i2)) (hTO : ∃ a1 a2, IsTupOf2 s.heap TO a1 a2) (st1 : St1 0 s.heap) (st2 : St2 0 s.heap)
    (hQ : ∀ h' tk acc c as, (∀ b o, b ≠ z → b ≠ TO → b ≠ i1 → b ≠ i2 → s.heap.get? b = some o → h'.get? b = some o) → h'.get? s.heap.objs.size = some { cls := .type "list", dict := none, data := .seq acc c, slots := #[] } → as.length = n → ZipG P1 P2 s.heap.objs.size h' as →
      acc.toList = as.map Value.ref → Q (.ref s.heap.objs.size) { s with heap := h', toks := tk }) :
    wpAny (model prog w) A (call (.type "list") [.ref z]) Q E s := by
  refine callType_codes (Q₁ := fun obj s₁ => obj = .ref s.heap.objs.size ∧ s₁ = { s with heap := s.heap.push { cls := .type "list", data := .seq #[] } }) PySem.F.called_list (PySem.F.typeCall_list_1 _) PySem.F.entry_list_init
    (code_list_new _ ⟨rfl, rfl⟩) fun obj s₁ h₁ => ?_
  obtain ⟨rfl, rfl⟩ := h₁
  have hS : (s.heap.push { cls := .type "list", data := .seq #[] }).get? s.heap.objs.size = some { cls := .type "list", data := .seq #[] } := Heap.get?_push_size _ rfl
  refine ⟨⟨_, hS, rfl⟩, PySem.F.args_list_init_2 _ _, ?_⟩
  generalize hN : s.heap.objs.size = N at *
  show wpAny _ _ (do let old ← Builtin.List.listItems (.ref N); Builtin.List.listUpdate (.ref N) (fun _ => #[]); letGo old.toList.reverse; Builtin.List.listExtendWith (.ref N) (.ref z) .none) _ _ _
  refine wpAny_bind ?_
  unfold Builtin.List.listItems
  refine wpAny_bind (wpAny_seqItems hS rfl (wpAny_pure ?_))
  show wpAny _ _ (updateSeq N (fun _ => #[]) >>= fun _ => letGo (#[] : Array Value).toList.reverse >>= fun _ => Builtin.List.listExtendWith (.ref N) (.ref z) .none) _ _ _
  refine wpAny_bind (wpAny_updateSeq hS rfl ?_)
  have hS₂ := Heap.get?_update_self (Obj.mapSeq (fun _ => (#[] : Array Value))) hS rfl
  have oth : ∀ b o, b ≠ N → s.heap.get? b = some o → ((s.heap.push { cls := .type "list", data := .seq #[] }).update N (Obj.mapSeq (fun _ => (#[] : Array Value)))).get? b = some o :=
    fun b o hb e => (Heap.get?_update_other _ _ (Ne.symm hb)).trans (Heap.get?_push_of_some _ e)
  have ne : ∀ b, b < N → b ≠ N := fun b hb => Nat.ne_of_lt hb
  refine wpAny_bind (wpAny_letGo ?_)
  obtain ⟨a1, a2, hTO⟩ := hTO
  refine lz_extend Z D1 D2 hn hsl (fun q => ne _ (F1 _ q) rfl) (fun q => ne _ (F2 _ q) rfl) Sz STI STO (F1 _ Z.mem1) (F2 _ Z.mem2) TIi2 .none _
    (oth _ _ (ne _ Sz) hz) (oth _ _ (ne _ STI) hTI) ⟨a1, a2, oth _ _ (ne _ STO) hTO⟩ (D1.frame _ _ _ st1 fun b hb o e => oth b o (ne _ (F1 b hb)) e) (D2.frame _ _ _ st2 fun b hb o e => oth b o (ne _ (F2 b hb)) e) hS₂ fun h' tk acc c as hk hS' hl hG hacc => ?_
  exact ⟨rfl, hQ h' tk acc c as (fun b o c1 c2 c3 c4 e => hk b o (Nat.ne_of_lt (by have := Heap.lt_size e; rw [hN] at this; exact this)) c1 c2 c3 c4 (oth b o (Nat.ne_of_lt (by have := Heap.lt_size e; rw [hN] at this; exact this)) e)) hS' hl hG hacc⟩
end
/-- what zip walks: how it begins, what it draws -/
def Src (prog : Program) (w : World) (A : Around) (h0 : Heap) (v : Value) (its : Array Value) : Prop :=
  ∃ (o : Obj) (Hp' : Heap → Prop) (l : Addr), Begins v o Hp' ∧ Hp' h0 ∧ l < h0.objs.size ∧ ∀ it, l ≠ it → ∃ St, Draws prog w A it [it, l] its.size (fun i x => its[i]? = some x) St ∧ ∀ h, h.get? it = some o → Hp' h → St 0 h
theorem src_list {prog : Program} {w : World} {A : Around} (hh : A.handled = none) {h0 : Heap} {l : Addr} {its : Array Value} (hl : h0.IsList l its) : Src prog w A h0 (.ref l) its := by
  obtain ⟨o, ho, x⟩ := id hl
  exact ⟨_, _, l, begins_list l its, hl, Heap.lt_size ho, fun it hne => ⟨_, Draws.list hh it l hne its, fun h e x => ⟨⟨_, e, rfl, rfl⟩, x⟩⟩⟩
theorem src_tuple {prog : Program} {w : World} {A : Around} (hh : A.handled = none) {h0 : Heap} {l : Addr} {its : Array Value} (hl : h0.IsTuple l its) : Src prog w A h0 (.ref l) its := by
  obtain ⟨o, ho, x⟩ := id hl
  exact ⟨_, _, l, begins_tuple l its, hl, Heap.lt_size ho, fun it hne => ⟨_, Draws.tuple hh it l hne its, fun h e x => ⟨⟨_, e, rfl, rfl⟩, x⟩⟩⟩
/-- zip(v1, v2), then list of it -/
theorem listzip_call {prog : Program} {w : World} {A : Around} {E : Value → Shared → Prop} {s : Shared} {v1 v2 : Value} {xs ys : Array Value} {Q : Value → Shared → Prop} (s1 : Src prog w A.in1.in1.in1 s.heap v1 xs) (s2 : Src prog w A.in1.in1.in1 s.heap v2 ys) (hsl : min xs.size ys.size ≤ sizeLine)
    (hQ : ∀ p h' tk acc c as, (∀ b o, s.heap.get? b = some o → h'.get? b = some o) → s.heap.objs.size ≤ p → h'.get? p = some { cls := .type "list", dict := none, data := .seq acc c, slots := #[] } → as.length = min xs.size ys.size →
      ZipG (fun i x => xs[i]? = some x) (fun i x => ys[i]? = some x) p h' as → acc.toList = as.map Value.ref → Q (.ref p) { s with heap := h', toks := tk }) :
    wpAny (model prog w) A (call (.type "zip") [v1, v2]) (fun r s' => wpAny (model prog w) A (call (.type "list") [r]) Q E s') E s := by
  obtain ⟨o1, H1, l1, B1, h1, lt1, k1⟩ := s1
  obtain ⟨o2, H2, l2, B2, h2, lt2, k2⟩ := s2
  refine zip_begins2 B1 B2 h1 h2 fun h' hz hTI hTO g1 g2 hsz hk => ?_
  have F1 : ∀ b ∈ [l1], b < s.heap.objs.size := fun b hb => by rw [List.mem_singleton.mp hb]; exact lt1
  have F2 : ∀ b ∈ [l2], b < s.heap.objs.size := fun b hb => by rw [List.mem_singleton.mp hb]; exact lt2
  obtain ⟨St1, D1, t1⟩ := k1 s.heap.objs.size (Nat.ne_of_lt lt1)
  obtain ⟨St2, D2, t2⟩ := k2 (s.heap.objs.size + 1) (Nat.ne_of_lt (Nat.lt_succ_of_lt lt2))
  have Z := zip_sep2 F1 F2
  have g5 : h'.objs.size = s.heap.objs.size + 5 := hsz
  have ar : ∀ j : Nat, j < 5 → s.heap.objs.size + j < h'.objs.size := fun j hj => by rw [g5]; exact Nat.add_lt_add_left hj _
  have ar0 : s.heap.objs.size < h'.objs.size := by have := ar 0 (by decide); exact this
  refine lz_call (s := { s with heap := h' }) (n := min xs.size ys.size) Z D1 D2 rfl hsl (fun b hb => ?_) (fun b hb => ?_) (ar 4 (by decide)) (ar 2 (by decide)) (ar 3 (by decide)) (fun q => absurd (Nat.add_left_cancel q) (by decide))
    hz hTI ⟨_, _, hTO⟩ (t1 _ g1 (B1.keeps _ _ h1 hk)) (t2 _ g2 (B2.keeps _ _ h2 hk)) fun h2' tk acc c as hk2 hS hl hG hacc => ?_
  · rcases List.mem_cons.mp hb with hb | hb
    · rw [hb]; exact ar0
    · exact Nat.lt_trans (F1 b hb) ar0
  · rcases List.mem_cons.mp hb with hb | hb
    · rw [hb]; exact ar 1 (by decide)
    · exact Nat.lt_trans (F2 b hb) ar0
  · dsimp only at hS hG hk2 ⊢
    refine hQ h'.objs.size h2' tk acc c as (fun b o e => hk2 b o ?_ ?_ ?_ ?_ (hk b o e)) (Nat.le_of_lt ar0) hS hl hG hacc
    all_goals
      have t' := Heap.lt_size e
      intro q
      rw [q] at t'
      exact absurd t' (Nat.not_lt.mpr (by first | exact Nat.le_refl _ | exact Nat.le_add_right _ _))
def lays (H : Hp) (L : List (Addr × HO)) : Hp := L.foldl (fun H e => upd H e.1 e.2) H
theorem lays_other : ∀ {L : List (Addr × HO)} {H : Hp} {b : Addr}, (∀ e ∈ L, e.1 ≠ b) → lays H L b = H b
  | [], _, _, _ => rfl
  | e :: L, H, b, h => by
    show lays (upd H e.1 e.2) L b = _
    rw [lays_other fun f hf => h f (by simp [hf]), upd_ne (fun q => h e (by simp) q.symm)]
theorem lays_some : ∀ {L : List (Addr × HO)} {H : Hp} {b : Addr} {u : HO}, lays H L b = some u → (b, u) ∈ L ∨ (H b = some u ∧ ∀ e ∈ L, e.1 ≠ b) ∨ (∃ e ∈ L, e.1 = b ∧ e.2 = u)
  | [], _, _, _, h => .inr (.inl ⟨h, by simp⟩)
  | e :: L, H, b, u, h => by
    rcases lays_some (L := L) (H := upd H e.1 e.2) h with h | ⟨h, k⟩ | ⟨f, hf, h⟩
    · exact .inl (by simp [h])
    · by_cases hb : b = e.1
      · rw [hb, upd_same] at h; cases h
        exact .inr (.inr ⟨e, by simp, hb.symm, rfl⟩)
      · rw [upd_ne hb] at h
        refine .inr (.inl ⟨h, fun f hf => ?_⟩)
        rcases List.mem_cons.mp hf with rfl | hf
        · exact fun q => hb q.symm
        · exact k f hf
    · exact .inr (.inr ⟨f, by simp [hf], h⟩)
theorem _root_.L2.Inv.laidMany {X : Cx} {pins : List (Addr × Obj)} {σ : L2.St} {H : Hp} {s : Shared} {h' : Heap} {t' : Nat} {L : List (Addr × HO)} (I : Inv X pins σ H s) (k : ∀ b u, s.heap.get? b = some u → h'.get? b = some u) (hp : ∀ e ∈ L, s.heap.objs.size ≤ e.1)
    (new : ∀ e ∈ L, ObjOk X.prog X.w (lays H L) h' e.1 e.2) : Inv X pins σ (lays H L) { s with heap := h', toks := t' } := by
  have old : ∀ b u, s.heap.get? b = some u → ∀ e ∈ L, e.1 ≠ b := fun b u q e he z => absurd (Heap.lt_size q) (Nat.not_lt.mpr (z ▸ hp e he))
  have oldH : ∀ b u, H b = some u → ∀ e ∈ L, e.1 ≠ b := fun b u q e he z => by
    have := I.hok.fresh (hp e he)
    rw [z, q] at this; cases this
  refine I.un ⟨fun b u q _ _ _ => k b u q, fun b u q _ _ _ => ⟨u.slots, k b u q⟩, fun b u q n _ => ?_, fun b u q _ => ⟨u, k b u q⟩, fun b xs q => ?_, fun b u xs q => ?_, fun b ps q => ⟨#[], ?_⟩⟩ fun b u e => ?_
  · rw [lays_other (old b u q)]; exact n
  · rw [lays_other (oldH b _ q)]; exact q
  · rw [lays_other (oldH b _ q)]; exact q
  · rw [lays_other (oldH b _ q), q]; simp
  · rcases lays_some e with h | ⟨h, _⟩ | ⟨f, hf, h1, h2⟩
    · exact new _ h
    · exact (I.hok b u h).stay (fun c v _ q => k c v q) (fun c q => by rw [lays_other (oldH c _ q)]; exact q) fun c xs q => by rw [lays_other (oldH c _ q)]; exact q
    · subst h1 h2; exact new f hf
def pairsH (as : List Addr) (xs ys : List V) : List (Addr × HO) := (as.zip (xs.zip ys)).map fun e => (e.1, .tup [e.2.1, e.2.2])
def tLZ (K : PySem.W.Frag) (ta : TA) : TE := fun σ H Q => ta σ H fun vs H1 => ∃ a b xs ys, vs = [.ref a, .ref b] ∧ (SqL K H1 a xs ∨ SqT K H1 a xs) ∧ (SqL K H1 b ys ∨ SqT K H1 b ys) ∧
  ∀ (as : List Addr) (p : Addr), as.length = (xs.zip ys).length → as.Nodup → p ∉ as → (∀ c ∈ as, H1 c = none) → H1 p = none → Q (.ref p) (upd (lays H1 (pairsH as xs ys)) p (.lst (as.map V.ref)))
theorem vals_refs (as : List Addr) : Vals (as.map V.ref) (as.map Value.ref) := by
  induction as with
  | nil => exact .nil
  | cons a as ih => exact .cons rfl ih
theorem lays_snoc {H : Hp} {L : List (Addr × HO)} {p : Addr} {o : HO} : lays H (L ++ [(p, o)]) = upd (lays H L) p o := by simp [lays]
theorem pe_listZip {X : Cx} {e1 e2 : Expr} {ta : TA} {p1 p2 pos pos2 : Pos} (hc : X.calm = true) (hg : Gl X "list") (hm : X.mg "list" = none) (hg2 : Gl X "zip") (hm2 : X.mg "zip" = none) (ha : PA X [e1, e2] ta)
    (hs : starEach [e1, e2] X.env = (false, eval e1 X.env) :: starEach [e2] X.env) (hpl : (backTo pos2 (starEach [e2] X.env)).any (·.1) = false) :
    PE X (.Call (.Name "list" p1) [.Call (.Name "zip" p2) [e1, e2] [] pos2] [] pos) (tLZ X.K ta) := by
  refine ⟨fun pins s σ H Q I h => ?_⟩
  refine Call_ (ld_blt I hg hm boot_list (PyProof.Rows.callWith_type1 (args_cons ?_ rfl) rfl))
  refine Call_ (ld_blt I hg2 hm2 PyProof.Rows.boot_zip (PyProof.Rows.callWith_type1 (thn (ha.run pos2 pins s σ H _ I h) fun us s1 ⟨vs, H1, I1, r1, q1⟩ => ?_) hs hpl))
  obtain ⟨a, b, xs, ys, ex, sx, sy, q1⟩ := q1
  subst ex
  cases r1 with
  | cons r rr =>
    cases rr with
    | cons r' rr =>
      cases rr
      cases r
      cases r'
      have hh : X.A.in1.in1.in1.handled = none := I1.ok.hd hc
      have sq : ∀ a xs, (SqL X.K H1 a xs ∨ SqT X.K H1 a xs) → ∃ its : List Value, Vals xs its ∧ Src X.prog X.w X.A.in1.in1.in1 s1.heap (.ref a) its.toArray ∧ xs.length ≤ sizeLine := fun a xs z => by
        rcases z with z | z
        · obtain ⟨its, rv, p, hl⟩ := I1.list z
          exact ⟨its, rv, src_list hh p.isList, hl⟩
        · obtain ⟨its, rv, p, hl⟩ := I1.tuple z
          exact ⟨its, rv, src_tuple hh (show s1.heap.IsTuple a its.toArray from p), hl⟩
      obtain ⟨ix, rx, srx, lx⟩ := sq _ _ sx
      obtain ⟨iy, ry, sry, ly⟩ := sq _ _ sy
      have el1 := rx.length
      have el2 := ry.length
      refine wpAny_mono (listzip_call srx sry (by simp; omega) (Q := fun v s' => EP X pins σ Q v s') fun p h' tk acc c as hk hp hS hl hG hacc => ?_) (fun v s' z => args_nil z) fun _ _ z => z
      have hl' : as.length = (xs.zip ys).length := by rw [hl, List.length_zip]; simp; omega
      have above : ∀ c ∈ as, s1.heap.objs.size ≤ c := fun c hc => Nat.le_trans hp (Nat.le_of_lt (hG.above c hc))
      have pn : p ∉ as := fun z => absurd (hG.above p z) (Nat.lt_irrefl _)
      have nd : as.Nodup := hG.rise.imp fun h => Nat.ne_of_lt h
      have key : Inv X pins σ (lays H1 (pairsH as xs ys ++ [(p, .lst (as.map V.ref))])) { s1 with heap := h', toks := tk } := by
        refine I1.laidMany hk (fun e he => ?_) (fun e he => ?_)
        · rcases List.mem_append.mp he with he | he
          · obtain ⟨q, hq, rfl⟩ := List.mem_map.mp he
            exact above _ (List.of_mem_zip hq).1
          · rw [List.mem_singleton.mp he]; exact hp
        · rcases List.mem_append.mp he with he | he
          · obtain ⟨q, hq, rfl⟩ := List.mem_map.mp he
            obtain ⟨j, hj⟩ := List.mem_iff_getElem?.mp hq
            have hj' := List.getElem?_zip_eq_some.mp hj
            obtain ⟨x1, x2, e1, e2, e3⟩ := hG.pairs j _ hj'.1
            have hxy := List.getElem?_zip_eq_some.mp hj'.2
            obtain ⟨u1, hu1, ru1⟩ := rx.get hxy.1
            obtain ⟨u2, hu2, ru2⟩ := ry.get hxy.2
            have g1 : u1 = x1 := by
              have : ix[j]? = some x1 := by simpa using e1
              rw [hu1] at this; exact Option.some.inj this
            have g2 : u2 = x2 := by
              have : iy[j]? = some x2 := by simpa using e2
              rw [hu2] at this; exact Option.some.inj this
            subst g1 g2
            exact ⟨by show 2 ≤ sizeLine; decide, [u1, u2], .cons ru1 (.cons ru2 .nil), ⟨_, e3, rfl, _, rfl⟩⟩
          · rw [List.mem_singleton.mp he]
            refine ⟨by rw [List.length_map, hl]; simp; omega, as.map Value.ref, c, vals_refs as, ?_⟩
            rw [← hacc]; simpa using hS
      rw [lays_snoc] at key
      exact ⟨.ref p, _, key, rfl, q1 as p hl' nd pn (fun c hc => I1.hok.fresh (above c hc)) (I1.hok.fresh hp)⟩
theorem frz_pairs {K : PySem.W.Frag} {pv : List Addr} {S : Sto} {Hd0 H0 : Hp} {M : Nat} : ∀ {as : List Addr} {us vs : List V} {xs ys : List D} {Hd H : Hp}, SR K pv S Hd H M → Mv pv Hd0 H0 Hd H → RepL K Hd xs us → RepL K Hd ys vs → as.length = (us.zip vs).length → as.Nodup → (∀ c ∈ as, H c = none) →
    ∃ Hd', SR K pv S Hd' (lays H (pairsH as us vs)) M ∧ Mv pv Hd0 H0 Hd' (lays H (pairsH as us vs)) ∧ Le Hd Hd' ∧ RepL K Hd' (zipD xs ys) (as.map V.ref)
  | [], us, vs, xs, ys, Hd, H, sr, mv, r1, r2, hl, _, _ => by
    have e : zipD xs ys = [] := by
      have l1 := r1.length
      have l2 := r2.length
      refine List.eq_nil_of_length_eq_zero ?_
      simp only [List.length_nil, List.length_zip] at hl
      rw [zipD_len]; omega
    rw [e]
    exact ⟨Hd, by simpa [pairsH, lays] using sr, by simpa [pairsH, lays] using mv, .refl _, .nil⟩
  | a :: as, [], vs, xs, ys, Hd, H, sr, mv, r1, r2, hl, _, _ => by simp at hl
  | a :: as, u :: us, [], xs, ys, Hd, H, sr, mv, r1, r2, hl, _, _ => by simp at hl
  | a :: as, u :: us, v :: vs, [], ys, Hd, H, sr, mv, r1, r2, hl, _, _ => by simp [RepL] at r1
  | a :: as, u :: us, v :: vs, x :: xs, [], Hd, H, sr, mv, r1, r2, hl, _, _ => by simp [RepL] at r2
  | a :: as, u :: us, v :: vs, x :: xs, y :: ys, Hd, H, sr, mv, r1, r2, hl, nd, hn => by
    simp only [RepL] at r1 r2
    obtain ⟨_, _, e1, ru, r1⟩ := r1
    obtain ⟨_, _, e2, rv, r2⟩ := r2
    cases e1; cases e2
    have ha := hn a (by simp)
    have le : Le Hd (upd Hd a (.tup [u, v])) := .new (sr.freshD ha)
    obtain ⟨nd1, nd2⟩ := List.nodup_cons.mp nd
    obtain ⟨Hd', s', m', l', r'⟩ := frz_pairs (sr.frz (ho := .tup [u, v]) ha) (mv.trans (.new sr ha)) (r1.mono le) (r2.mono le) (by simpa using hl) nd2 (fun c hc => by
      rw [upd_ne (fun q : c = a => nd1 (by rw [← q]; exact hc))]; exact hn c (by simp [hc]))
    refine ⟨Hd', s', m', le.trans l', .cons ?_ r'⟩
    exact (Rep.tupI upd_same (.cons (ru.mono le) (.cons (rv.mono le) .nil))).mono l'
def lzSh : Scope → Expr → Option (List Expr) := fun sc e => match e with
  | .Call (.Name y _) [.Call (.Name z _) [a, b] [] _] [] _ => if (decide (y = ("list" : Str)) && (decide (z = ("zip" : Str)) && (glB sc y && (glB sc z && (notStar a && notStar b))))) = true then some [a, b] else none
  | _ => none
theorem lays_none {H : Hp} {L : List (Addr × HO)} {p : Addr} (h : H p = none) (k : ∀ e ∈ L, e.1 ≠ p) : lays H L p = none := by rw [lays_other k]; exact h
def nLZip (o : Bool) : Node := .plain lzSh (fun ds S Q => ∃ d e xs ys, ds = [d, e] ∧ seqS S d = some xs ∧ seqS S e = some ys ∧ newL o (zipD xs ys) S Q)
  (fun sc e es h => by unfold lzSh at h; split at h <;> first | rfl | cases h)
  (fun X e es ts A hs p => by
    unfold lzSh at hs
    split at hs
    · split at hs
      · rename_i c
        simp only [Bool.and_eq_true, decide_eq_true_eq] at c
        obtain ⟨rfl, rfl, g1, g2, na, nb⟩ := c
        cases hs
        cases p with
        | cons n1 m1 p1 p =>
          have pl := p.plain
          cases p with
          | cons n2 m2 p2 p =>
            cases p
            refine (pe_listZip A.calm (glB_ok g1) (A.fr _ (by decide +kernel)) (glB_ok g2) (A.fr _ (by decide +kernel)) (PEs.cons n1 m1 p1 (.cons n2 m2 p2 .nil)).pa (star_cons na) (pl _)).of fun σ H Q q => m1 _ _ _ _ (fun x H1 q => m2 _ _ _ _ (fun y H2 q => ?_) q) q
            obtain ⟨pv, ds, S, Hd, M, Qd, rl, sr, hc, w, fin⟩ := q
            obtain ⟨d, d2, xs, ys, rfl, h1, h2, w⟩ := w
            obtain ⟨v, u, e, r, r2⟩ := rl.two
            simp only [List.cons.injEq, and_true] at e
            obtain ⟨rfl, rfl⟩ := e
            obtain ⟨a, us, rfl, rl', st⟩ := seq_any sr r h1
            obtain ⟨b, us2, rfl, rl2', st2⟩ := seq_any sr r2 h2
            refine ⟨a, b, us, us2, rfl, ?_, ?_, fun as p hl nd pn hn hp => ?_⟩
            · rcases st with st | st
              · exact .inl st
              · exact .inr st
            · rcases st2 with st | st
              · exact .inl st
              · exact .inr st
            · obtain ⟨Hd', s', m', l', r'⟩ := frz_pairs sr (.refl pv Hd _) rl' rl2' hl nd hn
              have hp' : lays H2 (pairsH as us us2) p = none := lays_none hp fun e he z => by
                obtain ⟨q, hq, rfl⟩ := List.mem_map.mp he
                exact pn (z ▸ (List.of_mem_zip hq).1)
              exact fin_lst (fun d S' Hd2 H2' v mv sr2 r2 q => fin d S' Hd2 H2' v (m'.trans mv) sr2 r2 q) s' r' w hp'
      · cases hs
    · cases hs)
end
section
open PySem PySem.Spec L2 PyProof.Rows
/-- true: a list, false: a tuple -/
def SqK (k : Bool) (K : PySem.W.Frag) (H : Hp) (a : Addr) (xs : List V) : Prop := match k with
  | true => SqL K H a xs
  | false => SqT K H a xs
def SeqK (k : Bool) (h : Heap) (l : Addr) (its : Array Value) : Prop := match k with
  | true => h.IsList l its
  | false => h.IsTuple l its
def ItK (k : Bool) (h : Heap) (it l : Addr) (i : Nat) : Prop := match k with
  | true => h.IsListIter it l i
  | false => h.IsTupleIter it l i
def oK (k : Bool) (l : Addr) : Obj := match k with
  | true => { cls := .type "list_iterator", data := .fields #[.ref l, .int 0 0] }
  | false => { cls := .type "tuple_iterator", data := .fields #[.ref l, .int 0 0] }
theorem drawsK {prog : Program} {w : World} {A : Around} (k : Bool) (hh : A.handled = none) (it l : Addr) (hne : l ≠ it) (items : Array Value) :
    Draws prog w A it [it, l] items.size (fun i v => items[i]? = some v) (fun i h => ItK k h it l i ∧ SeqK k h l items) := by
  cases k
  · exact Draws.tuple hh it l hne items
  · exact Draws.list hh it l hne items
theorem drawsE {prog : Program} {w : World} {A : Around} (k : Bool) (hh : A.handled = none) (it l : Addr) (items : Array Value) (i : Nat) (hi : items.size ≤ i) :
    Draws prog w A it [it, l] i (fun i v => items[i]? = some v) (fun j h => j = i ∧ ItK k h it l j ∧ SeqK k h l items) := by
  cases k
  · exact ⟨fun _ _ st => let ⟨o, ho, _⟩ := st.2.1; ⟨o, ho⟩, fun _ _ _ st hk => ⟨st.1, Heap.IsTupleIter.at st.2.1 fun o e => hk it (by simp) o e, Heap.IsTuple.at st.2.2 fun o e => hk l (by simp) o e⟩,
      fun j s Q E hj st hQ => absurd st.1 (Nat.ne_of_lt hj), fun s Q E st hE => wpAny_nextOf_tuple_end hh st.2.1 st.2.2 (by simpa using hi) hE⟩
  · exact ⟨fun _ _ st => let ⟨o, ho, _⟩ := st.2.1; ⟨o, ho⟩, fun _ _ _ st hk => ⟨st.1, Heap.IsListIter.at st.2.1 fun o e => hk it (by simp) o e, Heap.IsList.at st.2.2 fun o e => hk l (by simp) o e⟩,
      fun j s Q E hj st hQ => absurd st.1 (Nat.ne_of_lt hj), fun s Q E st hE => wpAny_nextOf_list_end hh st.2.1 st.2.2 (by simpa using hi) hE⟩
theorem drawsU {prog : Program} {w : World} {A : Around} (k : Bool) (hh : A.handled = none) (it l : Addr) (hne : l ≠ it) (items : Array Value) (i : Nat) {h : Heap} (hi : ItK k h it l i) (hs : SeqK k h l items) :
    ∃ n P St, Draws prog w A it [it, l] n P St ∧ St i h ∧ i ≤ n ∧ (items.size ≤ i → n = i) := by
  by_cases c : items.size ≤ i
  · exact ⟨i, _, _, drawsE k hh it l items i c, ⟨rfl, hi, hs⟩, Nat.le_refl _, fun _ => rfl⟩
  · exact ⟨_, _, _, drawsK k hh it l hne items, ⟨hi, hs⟩, by omega, fun q => absurd q c⟩
theorem beginsK (k : Bool) (l : Addr) (its : Array Value) : Begins (.ref l) (oK k l) (fun h => SeqK k h l its) := by
  cases k
  · exact begins_tuple l its
  · exact begins_list l its
theorem itK_new {k : Bool} {h : Heap} {it l : Addr} (e : h.get? it = some (oK k l)) : ItK k h it l 0 := by
  cases k
  · exact ⟨_, e, rfl, rfl⟩
  · exact ⟨_, e, rfl, rfl⟩
theorem itK_obj {k : Bool} {h : Heap} {it l : Addr} {i : Nat} (e : ItK k h it l i) : ∃ o, h.get? it = some o ∧ ∀ v, o.data ≠ .cell v := by
  cases k
  · obtain ⟨o, ho, _, d⟩ := e
    exact ⟨o, ho, fun v q => by rw [d] at q; cases q⟩
  · obtain ⟨o, ho, _, d⟩ := e
    exact ⟨o, ho, fun v q => by rw [d] at q; cases q⟩
theorem itK_at {k : Bool} {h h' : Heap} {it l : Addr} {i : Nat} (e : ItK k h it l i) (q : ∀ o, h.get? it = some o → h'.get? it = some o) : ItK k h' it l i := by
  cases k
  · exact Heap.IsTupleIter.at e q
  · exact Heap.IsListIter.at e q
section
variable {X : Cx} {pins : List (Addr × Obj)} {σ : L2.St} {H : Hp} {s : Shared}
theorem sqK_of (I : Inv X pins σ H s) {k : Bool} {a : Addr} {xs : List V} (h : SqK k X.K H a xs) : ∃ its : List Value, Vals xs its ∧ SeqK k s.heap a its.toArray ∧ xs.length ≤ sizeLine ∧ a < s.heap.objs.size := by
  cases k
  · obtain ⟨its, rv, p, hl⟩ := I.tuple h
    obtain ⟨o, ho, _⟩ := id p
    exact ⟨its, rv, show s.heap.IsTuple a its.toArray from p, hl, Heap.lt_size ho⟩
  · obtain ⟨its, rv, p, hl⟩ := I.list h
    exact ⟨its, rv, p.isList, hl, p.lt⟩
theorem sqK_inj (I : Inv X pins σ H s) {k : Bool} {a : Addr} {xs ys : List V} (h : SqK k X.K H a xs) (h' : SqK k X.K H a ys) : xs = ys := by
  cases k
  · exact I.tuple_inj h h'
  · exact I.list_inj h h'
end
/-- .. two of them as they stand at each turn, the items in new pairs -/
def ItzK (K : PySem.W.Frag) (k1 k2 : Bool) (a b : Addr) : It :=
  ⟨fun i H => ∃ (xs ys : List V) (x y : V), SqK k1 K H a xs ∧ SqK k2 K H b ys ∧ xs[i]? = some x ∧ ys[i]? = some y,
    fun i H v H' => ∃ T x y, v = .ref T ∧ H T = none ∧ H' = upd H T (.tup [x, y]) ∧ (∀ xs, SqK k1 K H a xs → xs[i]? = some x) ∧ ∀ ys, SqK k2 K H b ys → ys[i]? = some y,
    fun i H => ∃ xs ys : List V, SqK k1 K H a xs ∧ SqK k2 K H b ys ∧ (xs.length ≤ i ∨ ys.length ≤ i)⟩
def ItzK3 (K : PySem.W.Frag) (k1 k2 k3 : Bool) (a b c : Addr) : It :=
  ⟨fun i H => ∃ (xs ys zs : List V) (x y z : V), SqK k1 K H a xs ∧ SqK k2 K H b ys ∧ SqK k3 K H c zs ∧ xs[i]? = some x ∧ ys[i]? = some y ∧ zs[i]? = some z,
    fun i H v H' => ∃ T x y z, v = .ref T ∧ H T = none ∧ H' = upd H T (.tup [x, y, z]) ∧ (∀ xs, SqK k1 K H a xs → xs[i]? = some x) ∧ (∀ ys, SqK k2 K H b ys → ys[i]? = some y) ∧ ∀ zs, SqK k3 K H c zs → zs[i]? = some z,
    fun i H => ∃ xs ys zs : List V, SqK k1 K H a xs ∧ SqK k2 K H b ys ∧ SqK k3 K H c zs ∧ (xs.length ≤ i ∨ ys.length ≤ i ∨ zs.length ≤ i)⟩
theorem at_of {rv : List V} {its : List Value} {i : Nat} {x : V} (r : Vals rv its) (h : rv[i]? = some x) : i < its.toArray.size ∧ ∀ u, its.toArray[i]? = some u → RelV x u := by
  obtain ⟨u, hu, ru⟩ := r.get h
  refine ⟨by have := (List.getElem?_eq_some_iff.mp hu).1; simpa using this, fun v hv => ?_⟩
  have : its[i]? = some v := by simpa using hv
  rw [hu] at this
  cases this
  exact ru
theorem turn_zipK {P : Program} {w : World} {K : PySem.W.Frag} {elts : List Expr} {kk : Nat} {tpos : Pos} {k1 k2 : Bool} {a b z TI TO i1 i2 : Addr} (Z : ZipSep2 z TI TO i1 i2 [i1, a] [i2, b]) (n1 : a ≠ i1) (n2 : b ≠ i2) (TIi2 : TI ≠ i2) :
    Turn P w K (.Tuple elts kk tpos) (ItzK K k1 k2 a b) [z, TI, TO, i1, i2] z (fun i h => IsZip h z TI TO .none ∧ IsTupOf2 h TI (.ref i1) (.ref i2) ∧ (∃ x y, IsTupOf2 h TO x y) ∧ ItK k1 h i1 a i ∧ ItK k2 h i2 b i) where
  mem := by simp
  obj := fun i h st c hc => by
    obtain ⟨hz, hTI, ⟨x, y, hTO⟩, e1, e2⟩ := st
    have e' : c = z ∨ c = TI ∨ c = TO ∨ c = i1 ∨ c = i2 := by simpa using hc
    rcases e' with q | q | q | q | q
    · rw [q]; exact ⟨_, hz, fun v q => nomatch q⟩
    · rw [q]; exact ⟨_, hTI, fun v q => nomatch q⟩
    · rw [q]; exact ⟨_, hTO, fun v q => nomatch q⟩
    · rw [q]; exact itK_obj e1
    · rw [q]; exact itK_obj e2
  keep := fun i h h' st k => by
    obtain ⟨hz, hTI, ⟨x, y, hTO⟩, h1, h2⟩ := st
    exact ⟨k z (by simp) _ hz, k TI (by simp) _ hTI, ⟨x, y, k TO (by simp) _ hTO⟩, itK_at h1 fun o q => k i1 (by simp) o q, itK_at h2 fun o q => k i2 (by simp) o q⟩
  item := by
    intro X hP hw hK hc i pins s σ H E I hf st hg
    subst hP hw hK
    obtain ⟨hz, hTI, ⟨x0, y0, hTO⟩, h1, h2⟩ := st
    obtain ⟨xs, ys, x, y, hqx, hqy, hx, hy⟩ := hg
    obtain ⟨its, rv, p, _⟩ := sqK_of I hqx
    obtain ⟨its2, rv2, p2, _⟩ := sqK_of I hqy
    obtain ⟨lt1, g1⟩ := at_of rv hx
    obtain ⟨lt2, g2⟩ := at_of rv2 hy
    have hzl : z < s.heap.objs.size := Heap.lt_size hz
    have hh : X.A.in1.handled = none := I.ok.hd hc
    refine wpAny_pyNext_zipD2_item Z (drawsK k1 hh i1 a n1 its.toArray) (drawsK k2 hh i2 b n2 its2.toArray) hz hTI hTO ⟨h1, p⟩ ⟨h2, p2⟩ lt1 lt2 fun u u2 h' tk q1 q2 z' TO' h1' h2' hT hsz hk => ?_
    refine ⟨_, rfl, wpAny_letOwnedTupleGo_zip (s := { s with heap := h', toks := tk }) z' fun h'' z'' sb => ?_⟩
    have hT2 : h''.get? s.heap.objs.size = some { cls := .type "tuple", data := .seq #[u, u2] } := (sb.2 _ (Nat.ne_of_gt hzl)).trans hT
    have new : ObjOk X.prog X.w (upd H s.heap.objs.size (.tup [x, y])) h'' s.heap.objs.size (.tup [x, y]) :=
      ⟨by show 2 ≤ sizeLine; decide, [u, u2], .cons (g1 u q1) (.cons (g2 u2 q2) .nil), ⟨_, hT2, rfl, _, rfl⟩⟩
    have I1 : Inv X pins σ (upd H s.heap.objs.size (.tup [x, y])) { s with heap := h'', toks := tk } :=
      I.turnedNew (t' := tk) (ch := [z, TI, TO, i1, i2]) (fun c o hb q => (sb.2 c (fun q' => hb (by simp [q']))).trans (hk c o (fun q' => hb (by simp [q'])) (fun q' => hb (by simp [q'])) (fun q' => hb (by simp [q'])) (fun q' => hb (by simp [q'])) q)) hf (Nat.le_refl _) new
    refine ⟨.ref s.heap.objs.size, _, I1, rfl, ⟨_, x, y, rfl, I.hok.fresh (Nat.le_refl _), rfl, fun l hl => by rw [sqK_inj I hl hqx]; exact hx, fun l hl => by rw [sqK_inj I hl hqy]; exact hy⟩, ⟨z'', ?_, ⟨u, u2, ?_⟩, ?_, ?_⟩, fun c hcm => ?_⟩
    · exact (sb.2 _ Z.TIz).trans (hk _ _ Z.TIz Z.TITO Z.TIi1 TIi2 hTI)
    · exact (sb.2 _ Z.TOz).trans TO'
    · exact itK_at h1'.1 fun o q => (sb.2 _ Z.zi1.symm).trans q
    · exact itK_at h2'.1 fun o q => (sb.2 _ Z.zi2.symm).trans q
    · have hlt : c < s.heap.objs.size := by
        have e' : c = z ∨ c = TI ∨ c = TO ∨ c = i1 ∨ c = i2 := by simpa using hcm
        rcases e' with q | q | q | q | q
        · rw [q]; exact hzl
        · rw [q]; exact Heap.lt_size hTI
        · rw [q]; exact Heap.lt_size hTO
        · rw [q]; obtain ⟨_, e1, _⟩ := itK_obj h1; exact Heap.lt_size e1
        · rw [q]; obtain ⟨_, e1, _⟩ := itK_obj h2; exact Heap.lt_size e1
      rw [upd_ne (Nat.ne_of_lt hlt)]
      exact (hf c hcm).1
  done := by
    intro X hP hw hK hc i pins s σ H E I hf st hg
    subst hP hw hK
    obtain ⟨hz, hTI, ⟨x0, y0, hTO⟩, h1, h2⟩ := st
    obtain ⟨xs, ys, hqx, hqy, hend⟩ := hg
    obtain ⟨its, rv, p, _⟩ := sqK_of I hqx
    obtain ⟨its2, rv2, p2, _⟩ := sqK_of I hqy
    have l1 := rv.length
    have l2 := rv2.length
    have hh : X.A.in1.handled = none := I.ok.hd hc
    have fin : ∀ (h' : Heap) (tk : Nat), (∀ c o, c ≠ z → c ≠ TO → c ≠ i1 → c ≠ i2 → s.heap.get? c = some o → h'.get? c = some o) → (none : Option Value) = none ∧ Inv X pins σ H { s with heap := h', toks := tk } := fun h' tk hk =>
      ⟨rfl, I.turnedL (t' := tk) (ch := [z, TI, TO, i1, i2]) (fun c o hb q => hk c o (fun q' => hb (by simp [q'])) (fun q' => hb (by simp [q'])) (fun q' => hb (by simp [q'])) (fun q' => hb (by simp [q'])) q) hf⟩
    obtain ⟨m1, P1, St1, D1, s1, c1, e1⟩ := drawsU (prog := X.prog) (w := X.w) k1 hh i1 a n1 its.toArray i h1 p
    obtain ⟨m2, P2, St2, D2, s2, c2, e2⟩ := drawsU (prog := X.prog) (w := X.w) k2 hh i2 b n2 its2.toArray i h2 p2
    exact wpAny_pyNext_zipD2_end Z D1 D2 hz hTI hTO s1 s2 c1 c2 (hend.elim (fun q => .inl (e1 (by simp; omega)).symm) fun q => .inr (e2 (by simp; omega)).symm) fun h' tk hk => fin h' tk hk
  self := fun A i s Q E st h => wpAny_pyIter_zip st.1 h
theorem turn_zipK3 {P : Program} {w : World} {K : PySem.W.Frag} {elts : List Expr} {kk : Nat} {tpos : Pos} {k1 k2 k3 : Bool} {a b c z TI TO i1 i2 i3 : Addr} (Z : ZipSep3 z TI TO i1 i2 i3 [i1, a] [i2, b] [i3, c]) (n1 : a ≠ i1) (n2 : b ≠ i2) (n3 : c ≠ i3) (TIi2 : TI ≠ i2) (TIi3 : TI ≠ i3) :
    Turn P w K (.Tuple elts kk tpos) (ItzK3 K k1 k2 k3 a b c) [z, TI, TO, i1, i2, i3] z (fun i h => IsZip h z TI TO .none ∧ IsTupOf3 h TI (.ref i1) (.ref i2) (.ref i3) ∧ (∃ x y u, IsTupOf3 h TO x y u) ∧ ItK k1 h i1 a i ∧ ItK k2 h i2 b i ∧ ItK k3 h i3 c i) where
  mem := by simp
  obj := fun i h st c hc => by
    obtain ⟨hz, hTI, ⟨x, y, u, hTO⟩, e1, e2, e3⟩ := st
    have e' : c = z ∨ c = TI ∨ c = TO ∨ c = i1 ∨ c = i2 ∨ c = i3 := by simpa using hc
    rcases e' with q | q | q | q | q | q
    · rw [q]; exact ⟨_, hz, fun v q => nomatch q⟩
    · rw [q]; exact ⟨_, hTI, fun v q => nomatch q⟩
    · rw [q]; exact ⟨_, hTO, fun v q => nomatch q⟩
    · rw [q]; exact itK_obj e1
    · rw [q]; exact itK_obj e2
    · rw [q]; exact itK_obj e3
  keep := fun i h h' st k => by
    obtain ⟨hz, hTI, ⟨x, y, u, hTO⟩, h1, h2, h3⟩ := st
    exact ⟨k z (by simp) _ hz, k TI (by simp) _ hTI, ⟨x, y, u, k TO (by simp) _ hTO⟩, itK_at h1 fun o q => k i1 (by simp) o q, itK_at h2 fun o q => k i2 (by simp) o q, itK_at h3 fun o q => k i3 (by simp) o q⟩
  item := by
    intro X hP hw hK hc i pins s σ H E I hf st hg
    subst hP hw hK
    obtain ⟨hz, hTI, ⟨x0, y0, u0, hTO⟩, h1, h2, h3⟩ := st
    obtain ⟨xs, ys, zs, x, y, v, hqx, hqy, hqz, hx, hy, hv⟩ := hg
    obtain ⟨its, rv, p, _⟩ := sqK_of I hqx
    obtain ⟨its2, rv2, p2, _⟩ := sqK_of I hqy
    obtain ⟨its3, rv3, p3, _⟩ := sqK_of I hqz
    obtain ⟨lt1, g1⟩ := at_of rv hx
    obtain ⟨lt2, g2⟩ := at_of rv2 hy
    obtain ⟨lt3, g3⟩ := at_of rv3 hv
    have hzl : z < s.heap.objs.size := Heap.lt_size hz
    have hh : X.A.in1.handled = none := I.ok.hd hc
    refine wpAny_pyNext_zipD3_item Z (drawsK k1 hh i1 a n1 its.toArray) (drawsK k2 hh i2 b n2 its2.toArray) (drawsK k3 hh i3 c n3 its3.toArray) hz hTI hTO ⟨h1, p⟩ ⟨h2, p2⟩ ⟨h3, p3⟩ lt1 lt2 lt3 fun u u2 u3 h' tk q1 q2 q3 z' TO' h1' h2' h3' hT hsz hk => ?_
    refine ⟨_, rfl, wpAny_letOwnedTupleGo_zip (s := { s with heap := h', toks := tk }) z' fun h'' z'' sb => ?_⟩
    have hT2 : h''.get? s.heap.objs.size = some { cls := .type "tuple", data := .seq #[u, u2, u3] } := (sb.2 _ (Nat.ne_of_gt hzl)).trans hT
    have new : ObjOk X.prog X.w (upd H s.heap.objs.size (.tup [x, y, v])) h'' s.heap.objs.size (.tup [x, y, v]) :=
      ⟨by show 3 ≤ sizeLine; decide, [u, u2, u3], .cons (g1 u q1) (.cons (g2 u2 q2) (.cons (g3 u3 q3) .nil)), ⟨_, hT2, rfl, _, rfl⟩⟩
    have I1 : Inv X pins σ (upd H s.heap.objs.size (.tup [x, y, v])) { s with heap := h'', toks := tk } :=
      I.turnedNew (t' := tk) (ch := [z, TI, TO, i1, i2, i3]) (fun c o hb q => (sb.2 c (fun q' => hb (by simp [q']))).trans (hk c o (fun q' => hb (by simp [q'])) (fun q' => hb (by simp [q'])) (fun q' => hb (by simp [q'])) (fun q' => hb (by simp [q'])) (fun q' => hb (by simp [q'])) q)) hf (Nat.le_refl _) new
    refine ⟨.ref s.heap.objs.size, _, I1, rfl, ⟨_, x, y, v, rfl, I.hok.fresh (Nat.le_refl _), rfl, fun l hl => by rw [sqK_inj I hl hqx]; exact hx, fun l hl => by rw [sqK_inj I hl hqy]; exact hy, fun l hl => by rw [sqK_inj I hl hqz]; exact hv⟩, ⟨z'', ?_, ⟨u, u2, u3, ?_⟩, ?_, ?_, ?_⟩, fun c hcm => ?_⟩
    · exact (sb.2 _ Z.TIz).trans (hk _ _ Z.TIz Z.TITO Z.TIi1 TIi2 TIi3 hTI)
    · exact (sb.2 _ Z.TOz).trans TO'
    · exact itK_at h1'.1 fun o q => (sb.2 _ Z.zi1.symm).trans q
    · exact itK_at h2'.1 fun o q => (sb.2 _ Z.zi2.symm).trans q
    · exact itK_at h3'.1 fun o q => (sb.2 _ Z.zi3.symm).trans q
    · have hlt : c < s.heap.objs.size := by
        have e' : c = z ∨ c = TI ∨ c = TO ∨ c = i1 ∨ c = i2 ∨ c = i3 := by simpa using hcm
        rcases e' with q | q | q | q | q | q
        · rw [q]; exact hzl
        · rw [q]; exact Heap.lt_size hTI
        · rw [q]; exact Heap.lt_size hTO
        · rw [q]; obtain ⟨_, e1, _⟩ := itK_obj h1; exact Heap.lt_size e1
        · rw [q]; obtain ⟨_, e1, _⟩ := itK_obj h2; exact Heap.lt_size e1
        · rw [q]; obtain ⟨_, e1, _⟩ := itK_obj h3; exact Heap.lt_size e1
      rw [upd_ne (Nat.ne_of_lt hlt)]
      exact (hf c hcm).1
  done := by
    intro X hP hw hK hc i pins s σ H E I hf st hg
    subst hP hw hK
    obtain ⟨hz, hTI, ⟨x0, y0, u0, hTO⟩, h1, h2, h3⟩ := st
    obtain ⟨xs, ys, zs, hqx, hqy, hqz, hend⟩ := hg
    obtain ⟨its, rv, p, _⟩ := sqK_of I hqx
    obtain ⟨its2, rv2, p2, _⟩ := sqK_of I hqy
    obtain ⟨its3, rv3, p3, _⟩ := sqK_of I hqz
    have l1 := rv.length
    have l2 := rv2.length
    have l3 := rv3.length
    have hh : X.A.in1.handled = none := I.ok.hd hc
    obtain ⟨m1, P1, St1, D1, s1, c1, e1⟩ := drawsU (prog := X.prog) (w := X.w) k1 hh i1 a n1 its.toArray i h1 p
    obtain ⟨m2, P2, St2, D2, s2, c2, e2⟩ := drawsU (prog := X.prog) (w := X.w) k2 hh i2 b n2 its2.toArray i h2 p2
    obtain ⟨m3, P3, St3, D3, s3, c3, e3⟩ := drawsU (prog := X.prog) (w := X.w) k3 hh i3 c n3 its3.toArray i h3 p3
    exact wpAny_pyNext_zipD3_end Z D1 D2 D3 hz hTI hTO s1 s2 s3 c1 c2 c3 (hend.elim (fun q => .inl (e1 (by simp; omega)).symm) fun q => q.elim (fun q => .inr (.inl (e2 (by simp; omega)).symm)) fun q => .inr (.inr (e3 (by simp; omega)).symm)) fun h' tk hk =>
      ⟨rfl, I.turnedL (t' := tk) (ch := [z, TI, TO, i1, i2, i3]) (fun c o hb q => hk c o (fun q' => hb (by simp [q'])) (fun q' => hb (by simp [q'])) (fun q' => hb (by simp [q'])) (fun q' => hb (by simp [q'])) (fun q' => hb (by simp [q'])) q) hf⟩
  self := fun A i s Q E st h => wpAny_pyIter_zip st.1 h
theorem fresh_le {X : Cx} {pins : List (Addr × Obj)} {σ : L2.St} {H : Hp} {s : Shared} (I : Inv X pins σ H s) {c : Addr} (h : s.heap.objs.size ≤ c) : FpOk X pins H c := I.fpOk h (I.hok.fresh h)
def iZipK (K : PySem.W.Frag) (ta : TA) : TI := fun σ H R => ta σ H fun vs H1 => ∃ a b k1 k2 xs ys, vs = [.ref a, .ref b] ∧ SqK k1 K H1 a xs ∧ SqK k2 K H1 b ys ∧ R (ItzK K k1 k2 a b) H1
theorem pi_zipK {X : Cx} {e e2 : Expr} {ta : TA} {p pos tpos : Pos} {elts : List Expr} {kk : Nat} (hg : Gl X "zip") (hm : X.mg "zip" = none) (ha : PA X [e, e2] ta)
    (hs : starEach [e, e2] X.env = (false, eval e X.env) :: starEach [e2] X.env) (hpl : (backTo pos (starEach [e2] X.env)).any (·.1) = false) :
    PI X (.Tuple elts kk tpos) (.Call (.Name "zip" p) [e, e2] [] pos) (iZipK X.K ta) := by
  refine ⟨fun pins s σ H R I h => ?_⟩
  refine Call_ (ld_blt I hg hm PyProof.Rows.boot_zip (PyProof.Rows.callWith_type1 (thn (ha.run pos pins s σ H _ I h) fun us s1 ⟨vs, H1, I1, r1, q1⟩ => ?_) hs hpl))
  obtain ⟨a, b, k1, k2, xs, ys, ex, hqx, hqy, q⟩ := q1
  subst ex
  cases r1 with
  | cons r rr =>
    cases rr with
    | cons r' rr =>
      cases rr
      cases r
      cases r'
      obtain ⟨its, rv, p1, _, la⟩ := sqK_of I1 hqx
      obtain ⟨its2, rv2, p2, _, lb⟩ := sqK_of I1 hqy
      refine zip_begins2 (beginsK k1 a its.toArray) (beginsK k2 b its2.toArray) p1 p2 fun h' hz hTI hTO g1 g2 hsz hk => wpAny_pyIter_zip hz ?_
      have I2 : Inv X pins σ H1 { s1 with heap := h' } := I1.kept (t' := s1.toks) hk
      have Z := zip_sep2 (N := s1.heap.objs.size) (fp1 := [a]) (fp2 := [b]) (fun c hc => by rw [List.mem_singleton.mp hc]; exact la) (fun c hc => by rw [List.mem_singleton.mp hc]; exact lb)
      refine ⟨s1.heap.objs.size + 4, [s1.heap.objs.size + 4, s1.heap.objs.size + 2, s1.heap.objs.size + 3, s1.heap.objs.size, s1.heap.objs.size + 1], _, _, H1, rfl, I2, turn_zipK (k1 := k1) (k2 := k2) Z (Nat.ne_of_lt la) (Nat.ne_of_lt (Nat.lt_succ_of_lt lb)) (fun q => absurd (Nat.add_left_cancel q) (by decide)), ⟨hz, hTI, ⟨_, _, hTO⟩, itK_new g1, itK_new g2⟩, fun c hc => ?_, q⟩
      refine fresh_le I1 ?_
      simp only [List.mem_cons, List.not_mem_nil, or_false] at hc
      rcases hc with q | q | q | q | q <;> rw [q] <;> first | exact Nat.le_refl _ | exact Nat.le_add_right _ _
def iZipK3 (K : PySem.W.Frag) (ta : TA) : TI := fun σ H R => ta σ H fun vs H1 => ∃ a b c k1 k2 k3 xs ys zs, vs = [.ref a, .ref b, .ref c] ∧ SqK k1 K H1 a xs ∧ SqK k2 K H1 b ys ∧ SqK k3 K H1 c zs ∧ R (ItzK3 K k1 k2 k3 a b c) H1
theorem pi_zipK3 {X : Cx} {e e2 e3 : Expr} {ta : TA} {p pos tpos : Pos} {elts : List Expr} {kk : Nat} (hg : Gl X "zip") (hm : X.mg "zip" = none) (ha : PA X [e, e2, e3] ta)
    (hs : starEach [e, e2, e3] X.env = (false, eval e X.env) :: starEach [e2, e3] X.env) (hpl : (backTo pos (starEach [e2, e3] X.env)).any (·.1) = false) :
    PI X (.Tuple elts kk tpos) (.Call (.Name "zip" p) [e, e2, e3] [] pos) (iZipK3 X.K ta) := by
  refine ⟨fun pins s σ H R I h => ?_⟩
  refine Call_ (ld_blt I hg hm PyProof.Rows.boot_zip (PyProof.Rows.callWith_type1 (thn (ha.run pos pins s σ H _ I h) fun us s1 ⟨vs, H1, I1, r1, q1⟩ => ?_) hs hpl))
  obtain ⟨a, b, c, k1, k2, k3, xs, ys, zs, ex, hqx, hqy, hqz, q⟩ := q1
  subst ex
  cases r1 with
  | cons r rr =>
    cases rr with
    | cons r' rr =>
      cases rr with
      | cons r'' rr =>
      cases rr
      cases r
      cases r'
      cases r''
      obtain ⟨its, rv, p1, _, la⟩ := sqK_of I1 hqx
      obtain ⟨its2, rv2, p2, _, lb⟩ := sqK_of I1 hqy
      obtain ⟨its3, rv3, p3, _, lc⟩ := sqK_of I1 hqz
      refine zip_begins3 (beginsK k1 a its.toArray) (beginsK k2 b its2.toArray) (beginsK k3 c its3.toArray) p1 p2 p3 fun h' hz hTI hTO g1 g2 g3 hsz hk => wpAny_pyIter_zip hz ?_
      have I2 : Inv X pins σ H1 { s1 with heap := h' } := I1.kept (t' := s1.toks) hk
      have Z := zip_sep3 (N := s1.heap.objs.size) (fp1 := [a]) (fp2 := [b]) (fp3 := [c]) (fun d hd => by rw [List.mem_singleton.mp hd]; exact la) (fun d hd => by rw [List.mem_singleton.mp hd]; exact lb) (fun d hd => by rw [List.mem_singleton.mp hd]; exact lc)
      refine ⟨s1.heap.objs.size + 5, [s1.heap.objs.size + 5, s1.heap.objs.size + 3, s1.heap.objs.size + 4, s1.heap.objs.size, s1.heap.objs.size + 1, s1.heap.objs.size + 2], _, _, H1, rfl, I2, turn_zipK3 (k1 := k1) (k2 := k2) (k3 := k3) Z (Nat.ne_of_lt la) (Nat.ne_of_lt (Nat.lt_succ_of_lt lb)) (Nat.ne_of_lt (Nat.lt_succ_of_lt (Nat.lt_succ_of_lt lc))) (fun q => absurd (Nat.add_left_cancel q) (by decide)) (fun q => absurd (Nat.add_left_cancel q) (by decide)), ⟨hz, hTI, ⟨_, _, _, hTO⟩, itK_new g1, itK_new g2, itK_new g3⟩, fun d hd => ?_, q⟩
      refine fresh_le I1 ?_
      simp only [List.mem_cons, List.not_mem_nil, or_false] at hd
      rcases hd with q | q | q | q | q | q <;> rw [q] <;> first | exact Nat.le_refl _ | exact Nat.le_add_right _ _
theorem sqK_seq {K : PySem.W.Frag} {pv : List Addr} {S : Sto} {Hd H : Hp} {M : Nat} {d : D} {v : V} {xs : List D} (sr : SR K pv S Hd H M) (r : Rep K Hd d v) (h : seqS S d = some xs) : ∃ a us, v = .ref a ∧ RepL K Hd xs us ∧ SqK (!isTupD d) K H a us := by
  obtain ⟨a, us, rfl, rl, q⟩ := seq_of sr r h
  refine ⟨a, us, rfl, rl, ?_⟩
  by_cases c : isTupD d = true
  · rw [c]
    exact (q.resolve_right fun z => z.1 (isTupD_iff.mp c)).2
  · have c' : isTupD d = false := by simpa using c
    rw [c']
    exact .inl (q.resolve_left fun z => c (isTupD_iff.mpr z.1)).2
theorem iter_zipK {K : PySem.W.Frag} {Hd0 : Hp} {d e : D} {xs ys : List D} {a b : Addr} (hx : xs.length ≤ MX) (r : Rep K Hd0 d (.ref a)) (r2 : Rep K Hd0 e (.ref b)) :
    Iter K (zipD xs ys) (fun S => stayS d xs S ∧ stayS e ys S) Hd0 (ItzK K (!isTupD d) (!isTupD e) a b) := by
  refine ⟨by rw [zipD_len]; omega, fun pv S Hd H M le sr st i => ?_⟩
  obtain ⟨a', us, e, rl, h⟩ := sqK_seq sr (r.mono le) st.1
  cases e
  obtain ⟨b', us2, e, rl2, h2⟩ := sqK_seq sr (r2.mono le) st.2
  cases e
  rw [zipD_len]
  refine ⟨fun hi => ?_, fun hi => ⟨us, us2, h, h2, by rw [rl.length, rl2.length]; omega⟩⟩
  have l1 : i < xs.length := by omega
  have l2 : i < ys.length := by omega
  obtain ⟨u, hu, ru⟩ := rl.get (List.getElem?_eq_getElem l1)
  obtain ⟨u2, hu2, ru2⟩ := rl2.get (List.getElem?_eq_getElem l2)
  refine ⟨⟨us, us2, u, u2, h, h2, hu, hu2⟩, fun x H' y => ?_⟩
  obtain ⟨T, x', y', rfl, hT, rfl, f1, f2⟩ := y
  have e1 := f1 us h
  have e2 := f2 us2 h2
  rw [hu] at e1; cases e1
  rw [hu2] at e2; cases e2
  obtain ⟨m, s', rr⟩ := mk_pair sr hT ru ru2
  exact ⟨_, _, zipD_at l1 l2, m, s', rr⟩
def iZipM : INode where
  shape := fnSh2 "zip"
  sem := fun ds S k => ∃ d e xs ys, ds = [d, e] ∧ seqS S d = some xs ∧ seqS S e = some ys ∧ xs.length ≤ sizeLine ∧ k (zipD xs ys) (fun S => stayS d xs S ∧ stayS e ys S)
  tgt := isTupE
  fold := fun sc e es h env x => by
    unfold fnSh2 at h
    split at h <;> first | exact foldC | cases h
  ok := fun X tg e es ts A ht hs p => by
    unfold fnSh2 at hs
    split at hs
    · split at hs
      · rename_i c
        simp only [Bool.and_eq_true, decide_eq_true_eq] at c
        obtain ⟨rfl, g, na, nb⟩ := c
        cases hs
        unfold isTupE at ht
        split at ht
        · cases p with
          | cons n m p1 p =>
            have pl := p.plain
            cases p with
            | cons n2 m2 p2 p =>
              cases p
              refine (pi_zipK (glB_ok g) (A.fr _ (by decide +kernel)) (PEs.cons n m p1 (.cons n2 m2 p2 .nil)).pa (star_cons na) (pl _)).of fun σ H R q => m _ _ _ _ (fun x H1 q => m2 _ _ _ _ (fun y H2 q => ?_) q) q
              obtain ⟨pv, ds, S, Hd, M, k, rl, sr, w, fin⟩ := q
              obtain ⟨d, d2, xs, ys, rfl, h1, h2, hl, w⟩ := w
              obtain ⟨v, u, e, r, r2⟩ := rl.two
              simp only [List.cons.injEq, and_true] at e
              obtain ⟨rfl, rfl⟩ := e
              obtain ⟨a, us, rfl, rl', h⟩ := sqK_seq sr r h1
              obtain ⟨b, us2, rfl, rl2', h'⟩ := sqK_seq sr r2 h2
              exact ⟨a, b, _, _, us, us2, rfl, h, h', fin _ _ _ Hd H2 w (.refl ..) sr (iter_zipK (sizeMX hl) r r2)⟩
        · cases ht
      · cases hs
    · cases hs
def fnSh3 (x : Str) : Scope → Expr → Option (List Expr) := fun sc e => match e with
  | .Call (.Name y _) [a, b, c] [] _ => if (decide (y = x) && (glB sc y && (notStar a && (notStar b && notStar c)))) = true then some [a, b, c] else none
  | _ => none
def zip3D (xs ys zs : List D) : List D := List.zipWith (fun x (q : D × D) => D.tup [x, q.1, q.2]) xs (ys.zip zs)
theorem zip3D_len {xs ys zs : List D} : (zip3D xs ys zs).length = min xs.length (min ys.length zs.length) := by simp [zip3D]
theorem zip3D_at {xs ys zs : List D} {i : Nat} (h1 : i < xs.length) (h2 : i < ys.length) (h3 : i < zs.length) : (zip3D xs ys zs)[i]? = some (.tup [xs[i], ys[i], zs[i]]) := by
  unfold zip3D
  have h4 : i < (ys.zip zs).length := by rw [List.length_zip]; omega
  rw [List.getElem?_zipWith, List.getElem?_eq_getElem h1, List.getElem?_eq_getElem h4, List.getElem_zip]
theorem mk_trip {K : PySem.W.Frag} {pv : List Addr} {S : Sto} {Hd H : Hp} {M : Nat} {T : Addr} {x y z : V} {d e f : D} (sr : SR K pv S Hd H M) (hT : H T = none) (r1 : Rep K Hd d x) (r2 : Rep K Hd e y) (r3 : Rep K Hd f z) :
    Mv pv Hd H (upd Hd T (.tup [x, y, z])) (upd H T (.tup [x, y, z])) ∧ SR K pv S (upd Hd T (.tup [x, y, z])) (upd H T (.tup [x, y, z])) M ∧ Rep K (upd Hd T (.tup [x, y, z])) (.tup [d, e, f]) (.ref T) :=
  ⟨.new sr hT, sr.frz hT, .tupI upd_same (.cons (r1.mono (.new (sr.freshD hT))) (.cons (r2.mono (.new (sr.freshD hT))) (.cons (r3.mono (.new (sr.freshD hT))) .nil)))⟩
theorem iter_zipK3 {K : PySem.W.Frag} {Hd0 : Hp} {d e f : D} {xs ys zs : List D} {a b c : Addr} (hx : xs.length ≤ MX) (r : Rep K Hd0 d (.ref a)) (r2 : Rep K Hd0 e (.ref b)) (r3 : Rep K Hd0 f (.ref c)) :
    Iter K (zip3D xs ys zs) (fun S => stayS d xs S ∧ stayS e ys S ∧ stayS f zs S) Hd0 (ItzK3 K (!isTupD d) (!isTupD e) (!isTupD f) a b c) := by
  refine ⟨by rw [zip3D_len]; omega, fun pv S Hd H M le sr st i => ?_⟩
  obtain ⟨a', us, e, rl, h⟩ := sqK_seq sr (r.mono le) st.1
  cases e
  obtain ⟨b', us2, e, rl2, h2⟩ := sqK_seq sr (r2.mono le) st.2.1
  cases e
  obtain ⟨c', us3, e, rl3, h3⟩ := sqK_seq sr (r3.mono le) st.2.2
  cases e
  rw [zip3D_len]
  refine ⟨fun hi => ?_, fun hi => ⟨us, us2, us3, h, h2, h3, by rw [rl.length, rl2.length, rl3.length]; omega⟩⟩
  have l1 : i < xs.length := by omega
  have l2 : i < ys.length := by omega
  have l3 : i < zs.length := by omega
  obtain ⟨u, hu, ru⟩ := rl.get (List.getElem?_eq_getElem l1)
  obtain ⟨u2, hu2, ru2⟩ := rl2.get (List.getElem?_eq_getElem l2)
  obtain ⟨u3, hu3, ru3⟩ := rl3.get (List.getElem?_eq_getElem l3)
  refine ⟨⟨us, us2, us3, u, u2, u3, h, h2, h3, hu, hu2, hu3⟩, fun x H' y => ?_⟩
  obtain ⟨T, x', y', z', rfl, hT, rfl, f1, f2, f3⟩ := y
  have e1 := f1 us h
  have e2 := f2 us2 h2
  have e3 := f3 us3 h3
  rw [hu] at e1; cases e1
  rw [hu2] at e2; cases e2
  rw [hu3] at e3; cases e3
  obtain ⟨m, s', rr⟩ := mk_trip sr hT ru ru2 ru3
  exact ⟨_, _, zip3D_at l1 l2 l3, m, s', rr⟩
def iZip3 : INode where
  shape := fnSh3 "zip"
  sem := fun ds S k => ∃ d e f xs ys zs, ds = [d, e, f] ∧ seqS S d = some xs ∧ seqS S e = some ys ∧ seqS S f = some zs ∧ xs.length ≤ sizeLine ∧ k (zip3D xs ys zs) (fun S => stayS d xs S ∧ stayS e ys S ∧ stayS f zs S)
  tgt := isTupE
  fold := fun sc e es h env x => by
    unfold fnSh3 at h
    split at h <;> first | exact foldC | cases h
  ok := fun X tg e es ts A ht hs p => by
    unfold fnSh3 at hs
    split at hs
    · split at hs
      · rename_i c
        simp only [Bool.and_eq_true, decide_eq_true_eq] at c
        obtain ⟨rfl, g, na, nb, nc⟩ := c
        cases hs
        unfold isTupE at ht
        split at ht
        · cases p with
          | cons n m p1 p =>
            have pl := p.plain
            cases p with
            | cons n2 m2 p2 p =>
              cases p with
              | cons n3 m3 p3 p =>
              cases p
              refine (pi_zipK3 (glB_ok g) (A.fr _ (by decide +kernel)) (PEs.cons n m p1 (.cons n2 m2 p2 (.cons n3 m3 p3 .nil))).pa (star_cons na) (pl _)).of fun σ H R q => m _ _ _ _ (fun x H1 q => m2 _ _ _ _ (fun y H2 q => m3 _ _ _ _ (fun z H3 q => ?_) q) q) q
              obtain ⟨pv, ds, S, Hd, M, k, rl, sr, w, fin⟩ := q
              obtain ⟨d, d2, d3, xs, ys, zs, rfl, h1, h2, h3, hl, w⟩ := w
              obtain ⟨v, u, t, e, r, r2, r3⟩ := rl.three
              simp only [List.cons.injEq, and_true] at e
              obtain ⟨rfl, rfl, rfl⟩ := e
              obtain ⟨a, us, rfl, rl', h⟩ := sqK_seq sr r h1
              obtain ⟨b, us2, rfl, rl2', h'⟩ := sqK_seq sr r2 h2
              obtain ⟨c, us3, rfl, rl3', h''⟩ := sqK_seq sr r3 h3
              exact ⟨a, b, c, _, _, _, us, us2, us3, rfl, h, h', h'', fin _ _ _ Hd H3 w (.refl ..) sr (iter_zipK3 (sizeMX hl) r r2 r3)⟩
        · cases ht
      · cases hs
    · cases hs
end
section
open PySem PySem.Spec L2 PySem.W
open PyProof.Rows (sortedAll_at sortedAll_old)
def encD (d : D) : PyData := (xD d).getD .none
theorem xL_enc : ∀ {xs : List D} {ps : List PyData}, xL xs = some ps → ps = xs.map encD ∧ ∀ x ∈ xs, xD x = some (encD x)
  | [], _, h => by simp only [xL] at h; cases h; exact ⟨rfl, by simp⟩
  | x :: xs, _, h => by
    simp only [xL] at h
    split at h
    · rename_i a b q1 q2
      cases h
      obtain ⟨e, k⟩ := xL_enc q2
      have e1 : encD x = a := by simp [encD, q1]
      refine ⟨by rw [List.map_cons, e1, ← e], fun y hy => ?_⟩
      rcases List.mem_cons.mp hy with rfl | hy
      · rw [e1]; exact q1
      · exact k y hy
    · cases h
theorem each_of {Rr : Value → D → Prop} {K : PySem.W.Frag} {Hd : Hp} : ∀ {ds : List D} {vs : List V} {us : List Value}, RepL K Hd ds vs → Vals vs us → (∀ d ∈ ds, ∀ v u, Rep K Hd d v → RelV v u → Rr u d) → EachIs Rr us ds
  | [], _, _, r, v, _ => by simp only [RepL] at r; subst r; cases v; exact .nil
  | d :: ds, _, _, r, v, h => by
    simp only [RepL] at r
    obtain ⟨x, t, rfl, rx, rt⟩ := r
    cases v with
    | cons a b => exact .cons (h d (by simp) _ _ rx a) (each_of rt b fun e he => h e (by simp [he]))
theorem each_back {K : PySem.W.Frag} {Hd : Hp} : ∀ {us : List Value} {ds : List D}, EachIs (fun u d => ∃ v, RelV v u ∧ Rep K Hd d v) us ds → ∃ vs, RepL K Hd ds vs ∧ Vals vs us
  | _, _, .nil => ⟨[], .nil, .nil⟩
  | _, _, .cons ⟨v, a, b⟩ t => by
    obtain ⟨vs, r, w⟩ := each_back t
    exact ⟨v :: vs, .cons b r, .cons a w⟩
/-- before or like, as Python sorts -/
def leD (a b : D) : Bool := dataLe false encD a b
theorem leD_total : TotalLe leD := by
  have h : TotalLe (dataLe false encD) := by unfold dataLe; exact sortLe_total _ _ _
  exact ⟨fun a b c => h.trans a b c, fun a b => h.total a b⟩
def sSortX (o : Bool) (ds : List D) (S : Sto) (Q : PostE) : Prop := ∃ (d : D) (xs : List D) (ps : List PyData), ds = [d] ∧ lstS S d = some xs ∧ xL xs = some ps ∧ AllAlike ps ∧ Sortable ps ∧ xs.length ≤ sizeLine ∧ (∀ p ∈ ps, p.depth ≤ 50) ∧
  ∀ ys : List D, ys.Perm xs → ys.Pairwise (fun a b => leD a b = true) → newL o ys S Q
theorem call_sortX {X : Cx} (o : Bool) (A : Amb X) : CallR X (.builtin "sorted") (fun xs H Q => vSem X.K (sSortX o) 0 xs H Q) := by
  intro pins s σ H vs us Q I rv h
  obtain ⟨pv, ds, S, Hd, M, Qd, rl, sr, hc, w, fin⟩ := h
  obtain ⟨d, xs, ps, rfl, hl, hx, al, so, few, dp, w⟩ := w
  obtain ⟨v, rfl, r⟩ := rl.one
  obtain ⟨a, ws, rfl, rl', st⟩ := lst_of sr r hl
  obtain ⟨u, rfl, ru⟩ := rv.one
  obtain rfl : u = Value.ref a := ru
  obtain ⟨its, rvs, pl, hz⟩ := I.list (.inl st)
  have le : Le Hd H := fun b ob e => sr.sub b ob e
  obtain ⟨rfl, enc⟩ := xL_enc hx
  have e1 : EachIs (fun u d => ∃ v, RelV v u ∧ Rep X.K Hd d v) its xs := each_of rl' rvs fun d _ v u a b => ⟨v, b, a⟩
  have e2 : EachIs (fun u d => ∃ as, Reads s.heap u (encD d) as) its xs := each_of rl' rvs fun d hd v u a b => by
    obtain ⟨as, q, _⟩ := x_reads I A.sm le a b (enc d hd)
    exact ⟨as, q⟩
  refine PySem.W.sorted_data (R := fun u d => ∃ v, RelV v u ∧ Rep X.K Hd d v) (enc := encD) (bs := xs) pl.isList e1 e2 al so few (fun b hb => ?_) fun out ho eo => ?_
  · have := dp (encD b) (List.mem_map.mpr ⟨b, hb, rfl⟩)
    have := A.un
    omega
  · obtain ⟨vs', r', v'⟩ := each_back eo
    obtain ⟨c, hc⟩ := sortedAll_at s.heap its out.toArray
    have hn : H (s.heap.objs.size + 1) = none := I.hok.fresh (Nat.le_succ _)
    have pm : (xs.mergeSort (dataLe false encD)).Perm xs := List.mergeSort_perm _ _
    refine ⟨.ref (s.heap.objs.size + 1), upd H (s.heap.objs.size + 1) (.lst vs'), I.laid (t' := s.toks) (fun b ob q => sortedAll_old q) (Nat.le_succ _) ⟨?_, out, c, v', hc⟩, rfl, ?_⟩
    · rw [r'.length, pm.length_eq]; exact few
    · exact fin_lst fin sr r' (w _ pm (sort_pairwise leD_total xs)) hn
def nSortX (o : Bool) : Node := nB "sorted" "sorted" 1 (by decide +kernel) (by decide +kernel) (by decide +kernel) (sSortX o) fun X A => call_sortX o A
end
section
open PySem PySem.Spec L2
theorem wC_eq {T : Nat → Option FDef} {k f : Nat} {d : FDef} {ds : List D} {S : Sto} {Q : PostE} (hT : T f = some d) (hp : d.prim = none) : wC T (k + 1) f ds S Q = (ds.length = d.ps.length ∧ wSs (wC T k) d.body { nx := fun _ S' => Q .non S', rt := Q } (startE d.N ds) S) := by
  simp only [wC, hT, hp]
/-- two clauses, the inner one pure -/
def lc2T {α : Type} (step : α → List D → Sto → (List D → Sto → Prop) → Prop) (stay : Sto → Prop) : List α → List D → Sto → (List D → Sto → Prop) → Prop
  | [], acc, S, Q => stay S ∧ Q acc S
  | x :: xs, acc, S, Q => stay S ∧ step x acc S fun acc' S1 => lc2T step stay xs acc' S1 Q
theorem lcRun2_map {α : Type} {emb : α → D} {step : D → List D → Sto → (List D → Sto → Prop) → Prop} {stay : Sto → Prop} : ∀ {xs : List α} {acc : List D} {S : Sto} {Q : List D → Sto → Prop}, lcRun2 step stay (xs.map emb) acc S Q = lc2T (fun a => step (emb a)) stay xs acc S Q
  | [], _, _, _ => rfl
  | x :: xs, acc, S, Q => by
    simp only [List.map_cons, lcRun2, lc2T, lcRun2_map (xs := xs)]
theorem lc2T_eq {α : Type} {step : α → List D → Sto → (List D → Sto → Prop) → Prop} {f : α → List D} {m : Nat} {stay : Sto → Prop} : ∀ {xs : List α} {acc : List D} {S : Sto} {Q : List D → Sto → Prop}, (∀ a ∈ xs, (f a).length ≤ m ∧ ∀ acc S k, acc.length + m ≤ 100000 → step a acc S k = k (acc ++ f a) S) → acc.length + xs.length * m ≤ 100000 →
    lc2T step stay xs acc S Q = (stay S ∧ Q (acc ++ xs.flatMap f) S)
  | [], acc, S, Q, _, _ => by simp [lc2T]
  | x :: xs, acc, S, Q, h, hl => by
    obtain ⟨h1, h2⟩ := h x (List.mem_cons_self ..)
    rw [List.length_cons, Nat.succ_mul] at hl
    simp only [lc2T]
    rw [h2 _ _ _ (by omega)]
    rw [lc2T_eq (fun a ha => h a (List.mem_cons_of_mem _ ha)) (by rw [List.length_append]; omega)]
    simp only [List.flatMap_cons, List.append_assoc, and_self_left]
def lcT {α : Type} (step : α → Sto → (Option D → Sto → Prop) → Prop) (stay : Sto → Prop) : List α → List D → Sto → (List D → Sto → Prop) → Prop
  | [], acc, S, Q => stay S ∧ Q acc S
  | x :: xs, acc, S, Q => stay S ∧ step x S fun r S1 => lcT step stay xs (match r with | some d => acc ++ [d] | none => acc) S1 Q
theorem lcRun_map {α : Type} {emb : α → D} {step : D → Sto → (Option D → Sto → Prop) → Prop} {stay : Sto → Prop} : ∀ {xs : List α} {acc : List D} {S : Sto} {Q : List D → Sto → Prop}, lcRun step stay (xs.map emb) acc S Q = lcT (fun a => step (emb a)) stay xs acc S Q
  | [], _, _, _ => rfl
  | x :: xs, acc, S, Q => by
    simp only [List.map_cons, lcRun, lcT, lcRun_map (xs := xs)]
    try rfl
theorem lcT_congr {α : Type} {s1 s2 : α → Sto → (Option D → Sto → Prop) → Prop} {stay : Sto → Prop} : ∀ {xs : List α} {acc : List D} {S : Sto} {Q : List D → Sto → Prop}, (∀ a ∈ xs, ∀ S k, s1 a S k = s2 a S k) → lcT s1 stay xs acc S Q = lcT s2 stay xs acc S Q
  | [], _, _, _, _ => rfl
  | x :: xs, acc, S, Q, h => by
    simp only [lcT, h x (List.mem_cons_self ..)]
    simp only [lcT_congr (xs := xs) fun a ha => h a (List.mem_cons_of_mem _ ha)]
theorem lcT_pure {α : Type} {f : α → D} {stay : Sto → Prop} : ∀ {xs : List α} {acc : List D} {S : Sto} {Q : List D → Sto → Prop}, lcT (fun a S k => k (some (f a)) S) stay xs acc S Q = (stay S ∧ Q (acc ++ xs.map f) S)
  | [], acc, S, Q => by simp [lcT]
  | x :: xs, acc, S, Q => by
    simp only [lcT, lcT_pure (xs := xs), List.map_cons, List.append_assoc, List.singleton_append, and_self_left]
theorem lcT_filter {α : Type} {f : α → D} {p : α → Bool} {stay : Sto → Prop} : ∀ {xs : List α} {acc : List D} {S : Sto} {Q : List D → Sto → Prop}, lcT (fun a S k => if p a = true then k (some (f a)) S else k none S) stay xs acc S Q = (stay S ∧ Q (acc ++ (xs.filter p).map f) S)
  | [], acc, S, Q => by simp [lcT]
  | x :: xs, acc, S, Q => by
    cases h : p x with
    | true => simp only [lcT, h, if_true, lcT_filter (xs := xs), List.filter_cons, List.map_cons, List.append_assoc, List.singleton_append, and_self_left]
    | false => simp only [lcT, h, Bool.false_eq_true, if_false, lcT_filter (xs := xs), List.filter_cons, and_self_left]
theorem lcT_filterP {α : Type} {f : α → D} {p : α → Prop} [DecidablePred p] {stay : Sto → Prop} {xs : List α} {acc : List D} {S : Sto} {Q : List D → Sto → Prop} : lcT (fun a S k => if p a then k (some (f a)) S else k none S) stay xs acc S Q = (stay S ∧ Q (acc ++ (xs.filter fun a => decide (p a)).map f) S) := by
  rw [← lcT_filter (p := fun a => decide (p a))]
  refine lcT_congr fun a _ S k => ?_
  simp only [decide_eq_true_eq]
/-- a typed comprehension whose step is one thing when its item is one of the list -/
theorem lcT_eq {α : Type} {step : α → Sto → (Option D → Sto → Prop) → Prop} {f : α → D} {stay : Sto → Prop} {xs : List α} {acc : List D} {S : Sto} {Q : List D → Sto → Prop} (h : ∀ a ∈ xs, ∀ S k, step a S k = k (some (f a)) S) : lcT step stay xs acc S Q = (stay S ∧ Q (acc ++ xs.map f) S) := by
  rw [lcT_congr (s2 := fun a S k => k (some (f a)) S) h, lcT_pure]
def getI {α : Type} [Inhabited α] (xs : List α) (i : Int) : α := xs.getD i.toNat default
instance : Inhabited D := ⟨.non⟩
section
variable {S : Sto} {Q : PostE} {o : Bool} {d e : D} {i j : Int} {x y : Str} {xs ys zs ds : List D} {b c : Bool} {n : String} {k : List D → (Sto → Prop) → Prop}
theorem atI_map {α : Type} [Inhabited α] {f : α → D} {xs : List α} {i : Int} (h0 : 0 ≤ i) (h1 : i < xs.length) : atI (xs.map f) i = some (f (getI xs i)) := by
  have h2 : i.toNat < xs.length := by omega
  refine atI_int h0 ?_
  rw [List.getElem?_map, List.getElem?_eq_getElem h2]
  simp [getI, List.getD_eq_getElem?_getD, List.getElem?_eq_getElem h2]
theorem at0 : atI (d :: xs) 0 = some d := by unfold atI ixN; simp
theorem at1 : atI (d :: e :: xs) 1 = some e := by
  have := atI_nat (xs := d :: e :: xs) (k := 1) (d := e) rfl
  exact this
theorem at2 {d1 d2 d3 : D} : atI (d1 :: d2 :: d3 :: xs) 2 = some d3 := by
  have := atI_nat (xs := d1 :: d2 :: d3 :: xs) (k := 2) (d := d3) rfl
  exact this
theorem seqS_tup : seqS S (.tup xs) = some xs := rfl
theorem seqS_lst : seqS S (.lst xs) = some xs := rfl
theorem lstS_lst : lstS S (.lst xs) = some xs := rfl
theorem lenS_tup : lenS S (.tup xs) = some xs.length := rfl
theorem lenS_lst : lenS S (.lst xs) = some xs.length := rfl
theorem stay_tup : stayS (.tup xs) xs S = True := eq_true rfl
theorem stay_lst : stayS (.lst xs) xs S = True := eq_true rfl
theorem sle {n : Nat} (h : n ≤ 100000) : (n ≤ sizeLine) = True := eq_true (lim20 h)
theorem mul_ok1 {i j : Int} (h : -1000000000 ≤ i) (h' : i ≤ 1000000000) : (CMul i j ∨ CMulW i j) = True := eq_true (.inl (.inl ⟨by omega, by omega⟩))
theorem mul_ok2 {i j : Int} (h : -1000000000 ≤ j) (h' : j ≤ 1000000000) : (CMul i j ∨ CMulW i j) = True := eq_true (.inl (.inr ⟨by omega, by omega⟩))
theorem div_ok {i j : Int} (h : 0 < j) (h' : j ≤ 1000000000) : CDivW i j = True := eq_true ⟨h, Nat.lt_of_le_of_lt (log2_le_of_lt (k := 63) (by omega)) (by omega)⟩
theorem newL_f : newL false ds S Q = Q (.lst ds) S := rfl
theorem newL_t : newL true ds S Q = ∀ l, S.m l = none → Q (.loc l) (S.put l (.lst ds)) := rfl
theorem bind_nm {i : Nat} {ρ : En} {kk : En → Prop} : bindT (.nm i) d ρ kk = kk (ρ.set i (some d)) := rfl
theorem bind_tup {ts : List RT} {ρ : En} {kk : En → Prop} : bindT (.tup ts) (.tup xs) ρ kk = (xs.length = ts.length ∧ bindTs ts xs ρ kk) := by
  refine propext ⟨fun h => ?_, fun h => ⟨xs, rfl, h⟩⟩
  simp only [bindT] at h
  obtain ⟨ys, e, h⟩ := h
  cases e
  exact h
theorem bind_unl {ts : List RT} {ρ : En} {kk : En → Prop} : bindT (.unl ts) (.lst xs) ρ kk = (xs.length = ts.length ∧ bindTs ts xs ρ kk) := by
  refine propext ⟨fun h => ?_, fun h => ⟨xs, rfl, h⟩⟩
  simp only [bindT] at h
  obtain ⟨ys, e, h⟩ := h
  cases e
  exact h
theorem binds_nil {ρ : En} {kk : En → Prop} : bindTs [] xs ρ kk = kk ρ := rfl
theorem binds_cons {t : RT} {ts : List RT} {ρ : En} {kk : En → Prop} : bindTs (t :: ts) (d :: xs) ρ kk = bindT t d ρ (fun ρ' => bindTs ts xs ρ' kk) := by
  refine propext ⟨fun h => ?_, fun h => ⟨d, xs, rfl, h⟩⟩
  simp only [bindTs] at h
  obtain ⟨ys, r, e, h⟩ := h
  cases e
  exact h
theorem sem_allM {α : Type} {f : α → Bool} {xs : List α} : nAll.sem [.lst (xs.map fun a => .bl (f a))] S Q = Q (.bl (xs.all f)) S := by
  have e : xs.map (fun a => D.bl (f a)) = (xs.map f).map D.bl := by rw [List.map_map]; rfl
  have e2 : (xs.map f).all id = xs.all f := by rw [List.all_map]; rfl
  rw [e]
  refine propext ⟨fun ⟨d, bs, e1, h1, h2⟩ => ?_, fun h => ⟨_, xs.map f, rfl, rfl, by rw [e2]; exact h⟩⟩
  cases e1
  simp only [lstS, seqS, Option.some.injEq] at h1
  have : xs.map f = bs := (List.map_inj_right fun a b h => by cases h; rfl).mp h1
  rw [← this, e2] at h2
  exact h2
theorem sem_anyM {α : Type} {f : α → Bool} {xs : List α} : nAny.sem [.lst (xs.map fun a => .bl (f a))] S Q = Q (.bl (xs.any f)) S := by
  have e : xs.map (fun a => D.bl (f a)) = (xs.map f).map D.bl := by rw [List.map_map]; rfl
  have e2 : (xs.map f).any id = xs.any f := by rw [List.any_map]; rfl
  rw [e]
  refine propext ⟨fun ⟨d, bs, e1, h1, h2⟩ => ?_, fun h => ⟨_, xs.map f, rfl, rfl, by rw [e2]; exact h⟩⟩
  cases e1
  simp only [lstS, seqS, Option.some.injEq] at h1
  have : xs.map f = bs := (List.map_inj_right fun a b h => by cases h; rfl).mp h1
  rw [← this, e2] at h2
  exact h2
theorem sem_sumM {α : Type} {f : α → Int} {xs : List α} : nSum.sem [.lst (xs.map fun a => .int (f a))] S Q = Q (.int (xs.map f).sum) S := by
  have e : xs.map (fun a => D.int (f a)) = (xs.map f).map D.int := by rw [List.map_map]; rfl
  rw [e]
  refine propext ⟨fun ⟨d, bs, e1, h1, h2⟩ => ?_, fun h => ⟨_, xs.map f, rfl, rfl, h⟩⟩
  cases e1
  simp only [lstS, seqS, Option.some.injEq] at h1
  have : xs.map f = bs := (List.map_inj_right fun a b h => by cases h; rfl).mp h1
  rw [← this] at h2
  exact h2
theorem sem_listL : (nList false).sem [d] S Q = ∃ xs, seqS S d = some xs ∧ Q (.lst xs) S := by
  refine propext ⟨fun ⟨d', n', e, h⟩ => ?_, fun ⟨n, h⟩ => ⟨d, n, rfl, h⟩⟩
  cases e
  exact ⟨n', h⟩
theorem sem_listO : (nList true).sem [d] S Q = ∃ xs, seqS S d = some xs ∧ ∀ l, S.m l = none → Q (.loc l) (S.put l (.lst xs)) := by
  refine propext ⟨fun ⟨d', n', e, h⟩ => ?_, fun ⟨n, h⟩ => ⟨d, n, rfl, h⟩⟩
  cases e
  exact ⟨n', h⟩
theorem sem_lzip : (nLZip o).sem [d, e] S Q = ∃ xs, seqS S d = some xs ∧ ∃ ys, seqS S e = some ys ∧ newL o (zipD xs ys) S Q := by
  refine propext ⟨fun ⟨a, b, xs, ys, z, h1, h2, h⟩ => ?_, fun ⟨xs, h1, ys, h⟩ => ⟨d, e, xs, ys, rfl, h1, h⟩⟩
  cases z
  exact ⟨xs, h1, ys, h2, h⟩
theorem it_seqE : iSeq.sem [d] S k = ∃ xs, seqS S d = some xs ∧ xs.length ≤ sizeLine ∧ k xs (stayS d xs) := by
  refine propext ⟨fun ⟨d', n', e, h⟩ => ?_, fun ⟨n, h⟩ => ⟨d, n, rfl, h⟩⟩
  cases e
  exact ⟨n', h⟩
theorem it_enumE : iEnumr.sem [d] S k = ∃ xs, lstS S d = some xs ∧ xs.length ≤ sizeLine ∧ k (enumD xs) (stayS d xs) := by
  refine propext ⟨fun ⟨d', n', e, h⟩ => ?_, fun ⟨n, h⟩ => ⟨d, n, rfl, h⟩⟩
  cases e
  exact ⟨n', h⟩
theorem it_zipE : iZipM.sem [d, e] S k = ∃ xs, seqS S d = some xs ∧ ∃ ys, seqS S e = some ys ∧ xs.length ≤ sizeLine ∧ k (zipD xs ys) (fun S => stayS d xs S ∧ stayS e ys S) := by
  refine propext ⟨fun ⟨a, b, xs, ys, z, h1, h2, h⟩ => ?_, fun ⟨xs, h1, ys, h2, h⟩ => ⟨d, e, xs, ys, rfl, h1, h2, h⟩⟩
  cases z
  exact ⟨xs, h1, ys, h2, h⟩
theorem it_zip0E (hb : isTupD d = isTupD e) : iZip.sem [d, e] S k = ∃ xs, seqS S d = some xs ∧ ∃ ys, seqS S e = some ys ∧ xs.length ≤ sizeLine ∧ k (zipD xs ys) (fun S => stayS d xs S ∧ stayS e ys S) := by
  refine propext ⟨fun ⟨a, b, xs, ys, z, h1, h2, _, h⟩ => ?_, fun ⟨xs, h1, ys, h2, h⟩ => ⟨d, e, xs, ys, rfl, h1, h2, hb, h⟩⟩
  cases z
  exact ⟨xs, h1, ys, h2, h⟩
theorem it_zip0T : iZip.sem [.tup xs, .tup ys] S k = (xs.length ≤ sizeLine ∧ k (zipD xs ys) (fun S => stayS (.tup xs) xs S ∧ stayS (.tup ys) ys S)) := by
  rw [it_zip0E (d := .tup xs) (e := .tup ys) rfl]; simp only [seqS, Option.some.injEq, exists_eq_left']
theorem it_zip0L : iZip.sem [.lst xs, .lst ys] S k = (xs.length ≤ sizeLine ∧ k (zipD xs ys) (fun S => stayS (.lst xs) xs S ∧ stayS (.lst ys) ys S)) := by
  rw [it_zip0E (d := .lst xs) (e := .lst ys) rfl]; simp only [seqS, Option.some.injEq, exists_eq_left']
theorem isTup_tup : isTupD (.tup xs) = true := rfl
theorem isTup_lst : isTupD (.lst xs) = false := rfl
theorem it_zip3E {f : D} : iZip3.sem [d, e, f] S k = ∃ xs, seqS S d = some xs ∧ ∃ ys, seqS S e = some ys ∧ ∃ zs, seqS S f = some zs ∧ xs.length ≤ sizeLine ∧ k (zip3D xs ys zs) (fun S => stayS d xs S ∧ stayS e ys S ∧ stayS f zs S) := by
  refine propext ⟨fun ⟨a, b, c, xs, ys, zs, z, h1, h2, h3, h⟩ => ?_, fun ⟨xs, h1, ys, h2, zs, h3, h⟩ => ⟨d, e, f, xs, ys, zs, rfl, h1, h2, h3, h⟩⟩
  cases z
  exact ⟨xs, h1, ys, h2, zs, h3, h⟩
theorem it_rg1E (h0 : -1000000 ≤ i) (h1 : i ≤ 1000000) : iRg1.sem [.int i] S k = k (rgD 0 i) (fun _ => True) := by
  refine propext ⟨fun ⟨n', e, _, h⟩ => ?_, fun h => ⟨i, rfl, rg62 h0 h1, h⟩⟩
  cases e
  exact h
theorem it_rg2E (h0 : -1000000 ≤ i) (h1 : i ≤ 1000000) (h2 : -1000000 ≤ j) (h3 : j ≤ 1000000) : iRg2.sem [.int i, .int j] S k = k (rgD i j) (fun _ => True) := by
  refine propext ⟨fun ⟨n', m', e, _, _, h⟩ => ?_, fun h => ⟨i, j, rfl, rg62 h0 h1, rg62 h2 h3, h⟩⟩
  cases e
  exact h
theorem zipD_map {α β : Type} {f : α → D} {g : β → D} : ∀ {xs : List α} {ys : List β}, zipD (xs.map f) (ys.map g) = (xs.zip ys).map fun q => D.tup [f q.1, g q.2]
  | [], _ => rfl
  | _ :: _, [] => rfl
  | x :: xs, y :: ys => by
    show D.tup [f x, g y] :: zipD (xs.map f) (ys.map g) = _
    rw [zipD_map]
    rfl
theorem zip3D_map {α β γ : Type} {f : α → D} {g : β → D} {h : γ → D} : ∀ {xs : List α} {ys : List β} {zs : List γ}, zip3D (xs.map f) (ys.map g) (zs.map h) = (xs.zip (ys.zip zs)).map fun q => D.tup [f q.1, g q.2.1, h q.2.2]
  | [], _, _ => rfl
  | _ :: _, [], _ => rfl
  | _ :: _, _ :: _, [] => rfl
  | x :: xs, y :: ys, z :: zs => by
    show D.tup [f x, g y, h z] :: zip3D (xs.map f) (ys.map g) (zs.map h) = _
    rw [zip3D_map]
    rfl
theorem enumD_map {α : Type} {f : α → D} {xs : List α} : enumD (xs.map f) = xs.zipIdx.map fun q => D.tup [.int (q.2 : Nat), f q.1] := by
  apply List.ext_getElem?
  intro i
  simp [enumD, List.getElem?_mapIdx, List.getElem?_map, List.getElem?_zipIdx]
  cases xs[i]? <;> rfl
theorem rgD_nat {n : Nat} : rgD 0 (n : Int) = (List.range n).map fun i => D.int (i : Nat) := by simp [rgD]
theorem rgD_two {a n : Nat} : rgD (a : Int) (n : Int) = (List.range' a (n - a)).map fun i => D.int (i : Nat) := by
  simp only [rgD]
  have e : ((n : Int) - (a : Int)).toNat = n - a := by omega
  rw [e]
  apply List.ext_getElem?
  intro i
  simp only [List.getElem?_map, List.getElem?_range']
  by_cases c : i < n - a
  · simp [c]
  · simp [c]
theorem cs_isN {b : Bool} : cIs.cs (.bl b) .non S = some false := rfl
theorem cs_isNN : cIs.cs .non .non S = some true := rfl
theorem cs_isIN : cIs.cs (.int i) .non S = some false := rfl
theorem cs_isTN : cIs.cs (.tup xs) .non S = some false := rfl
theorem cs_isLN : cIs.cs (.lst xs) .non S = some false := rfl
theorem cs_notNN : cIsNot.cs .non .non S = some false := rfl
theorem cs_notIN : cIsNot.cs (.int i) .non S = some true := rfl
theorem cs_notTN : cIsNot.cs (.tup xs) .non S = some true := rfl
theorem cs_notLN : cIsNot.cs (.lst xs) .non S = some true := rfl
theorem rgD_def {a b : Int} : rgD a b = (List.range (b - a).toNat).map fun i => D.int (a + (i : Nat)) := rfl
theorem mem_int : ("int" ∈ clsNames) = True := eq_true (by decide)
theorem mem_bool : ("bool" ∈ clsNames) = True := eq_true (by decide)
theorem mem_str : ("str" ∈ clsNames) = True := eq_true (by decide)
theorem mem_tuple : ("tuple" ∈ clsNames) = True := eq_true (by decide)
theorem mem_list : ("list" ∈ clsNames) = True := eq_true (by decide)
theorem ty_int : tyN S (.int i) = some "int" := rfl
theorem ty_tup : tyN S (.tup xs) = some "tuple" := rfl
theorem ty_lst : tyN S (.lst xs) = some "list" := rfl
theorem ty_bl : tyN S (.bl b) = some "bool" := rfl
theorem ty_str : tyN S (.str x) = some "str" := rfl
theorem ty_non : tyN S .non = some "NoneType" := rfl
theorem isT_ii : isT "int" "int" = true := by decide
theorem isT_ib : isT "int" "bool" = false := by decide
theorem isT_tt : isT "tuple" "tuple" = true := by decide
theorem isT_ss : isT "str" "str" = true := by decide
theorem isT_bb : isT "bool" "bool" = true := by decide
theorem isT_ll : isT "list" "list" = true := by decide
theorem put_del {l : Addr} {u : O} (h : S.m l = none) : (S.put l u).del l = S := by
  cases S with
  | mk m dk =>
    simp only [Sto.put, Sto.del, Sto.mk.injEq, and_true]
    funext b
    by_cases c : b = l
    · subst c; simpa using h.symm
    · simp [c]
theorem set_mapE {α : Type} {e : α → D} {xs : List α} {i : Nat} {v : α} : (xs.map e).set i (e v) = (xs.set i v).map e := (List.map_set ..).symm
theorem ixN_ok {n : Nat} {i : Int} (h0 : 0 ≤ i) (h1 : i < n) : ixN n i = some i.toNat := by
  unfold ixN
  rw [if_pos h0, if_pos h1]
theorem put_put {l : Addr} {u v : O} : (S.put l u).put l v = S.put l v := by
  simp only [Sto.put, Sto.mk.injEq, and_true]
  funext b
  by_cases c : b = l <;> simp [c]
theorem startE_eq {N : List Str} : startE N ds = ds.map some ++ List.replicate (N.length - ds.length) none := rfl
end
def tupI (ns : List Int) : D := .tup (ns.map D.int)
def lstI (ns : List Int) : D := .lst (ns.map D.int)
def rwsL (rs : List Rw) : D := .lst (rs.map rowD)
def rwsT (rs : List Rw) : D := .tup (rs.map rowD)
/-- a list of things of a kind -/
def lstE {α : Type} (e : α → D) (xs : List α) : D := .lst (xs.map e)
def tupE {α : Type} (e : α → D) (xs : List α) : D := .tup (xs.map e)
section
variable {S : Sto} {Q : PostE} {r : Rw} {rs : List Rw} {ns : List Int} {q : Int × Int} {α : Type} {e : α → D} {xs : List α} {k : List D → (Sto → Prop) → Prop}
theorem seq_rowD : seqS S (rowD r) = some (r.map prD) := rfl
theorem seq_tupI : seqS S (tupI ns) = some (ns.map D.int) := rfl
theorem seq_lstI : seqS S (lstI ns) = some (ns.map D.int) := rfl
theorem seq_rwsL : seqS S (rwsL rs) = some (rs.map rowD) := rfl
theorem seq_rwsT : seqS S (rwsT rs) = some (rs.map rowD) := rfl
theorem seq_lstE : seqS S (lstE e xs) = some (xs.map e) := rfl
theorem seq_tupE : seqS S (tupE e xs) = some (xs.map e) := rfl
theorem seq_prD : seqS S (prD q) = some [.int q.1, .int q.2] := rfl
theorem lst_lstI : lstS S (lstI ns) = some (ns.map D.int) := rfl
theorem lst_rwsL : lstS S (rwsL rs) = some (rs.map rowD) := rfl
theorem lst_lstE : lstS S (lstE e xs) = some (xs.map e) := rfl
theorem len_rowD : lenS S (rowD r) = some r.length := by show some (r.map prD).length = _; rw [List.length_map]
theorem len_tupI : lenS S (tupI ns) = some ns.length := by show some (ns.map D.int).length = _; rw [List.length_map]
theorem len_lstI : lenS S (lstI ns) = some ns.length := by show some (ns.map D.int).length = _; rw [List.length_map]
theorem len_rwsL : lenS S (rwsL rs) = some rs.length := by show some (rs.map rowD).length = _; rw [List.length_map]
theorem len_rwsT : lenS S (rwsT rs) = some rs.length := by show some (rs.map rowD).length = _; rw [List.length_map]
theorem len_lstE : lenS S (lstE e xs) = some xs.length := by show some (xs.map e).length = _; rw [List.length_map]
theorem len_tupE : lenS S (tupE e xs) = some xs.length := by show some (xs.map e).length = _; rw [List.length_map]
theorem stay_rowD : stayS (rowD r) (r.map prD) S = True := eq_true rfl
theorem stay_tupI : stayS (tupI ns) (ns.map D.int) S = True := eq_true rfl
theorem stay_lstI : stayS (lstI ns) (ns.map D.int) S = True := eq_true rfl
theorem stay_rwsL : stayS (rwsL rs) (rs.map rowD) S = True := eq_true rfl
theorem stay_rwsT : stayS (rwsT rs) (rs.map rowD) S = True := eq_true rfl
theorem stay_lstE : stayS (lstE e xs) (xs.map e) S = True := eq_true rfl
theorem stay_tupE : stayS (tupE e xs) (xs.map e) S = True := eq_true rfl
theorem stay_prD : stayS (prD q) [.int q.1, .int q.2] S = True := eq_true rfl
theorem ty_rowD : tyN S (rowD r) = some "tuple" := rfl
theorem ty_tupI : tyN S (tupI ns) = some "tuple" := rfl
theorem ty_rwsT : tyN S (rwsT rs) = some "tuple" := rfl
theorem ty_tupE : tyN S (tupE e xs) = some "tuple" := rfl
theorem ty_lstI : tyN S (lstI ns) = some "list" := rfl
theorem ty_rwsL : tyN S (rwsL rs) = some "list" := rfl
theorem ty_lstE : tyN S (lstE e xs) = some "list" := rfl
theorem ty_prD : tyN S (prD q) = some "tuple" := rfl
theorem bind_prD {a b : RT} {ρ : En} {kk : En → Prop} : bindT (.tup [a, b]) (prD q) ρ kk = bindT a (.int q.1) ρ fun ρ' => bindT b (.int q.2) ρ' kk := by
  show bindT (.tup [a, b]) (.tup [.int q.1, .int q.2]) ρ kk = _
  rw [bind_tup]
  simp only [List.length_cons, List.length_nil, true_and, binds_cons, binds_nil]
theorem row_fold {f g : α → Int} : D.tup (xs.map fun a => D.tup [D.int (f a), D.int (g a)]) = rowD (xs.map fun a => (f a, g a)) := by
  simp only [rowD, List.map_map, Function.comp_def, prD]
theorem row_fold1 {f : α → Int × Int} : D.tup (xs.map fun a => prD (f a)) = rowD (xs.map f) := by
  simp only [rowD, List.map_map, Function.comp_def]
theorem row_fold2 {r : Rw} : D.tup (r.map prD) = rowD r := rfl
theorem pr_fold {a b : Int} : D.tup [D.int a, D.int b] = prD (a, b) := rfl
theorem tupI_fold {f : α → Int} : D.tup (xs.map fun a => D.int (f a)) = tupI (xs.map f) := by simp only [tupI, List.map_map, Function.comp_def]
theorem tupI_fold2 : D.tup (ns.map D.int) = tupI ns := rfl
theorem lstI_fold {f : α → Int} : D.lst (xs.map fun a => D.int (f a)) = lstI (xs.map f) := by simp only [lstI, List.map_map, Function.comp_def]
theorem lstI_fold2 : D.lst (ns.map D.int) = lstI ns := rfl
theorem rwsL_fold {f : α → Rw} : D.lst (xs.map fun a => rowD (f a)) = rwsL (xs.map f) := by simp only [rwsL, List.map_map, Function.comp_def]
theorem rwsL_fold2 : D.lst (rs.map rowD) = rwsL rs := rfl
theorem rwsT_fold {f : α → Rw} : D.tup (xs.map fun a => rowD (f a)) = rwsT (xs.map f) := by simp only [rwsT, List.map_map, Function.comp_def]
theorem rwsT_fold2 : D.tup (rs.map rowD) = rwsT rs := rfl
theorem sem_sumI : nSum.sem [lstI ns] S Q = Q (.int ns.sum) S := by
  have := sem_sumM (S := S) (Q := Q) (f := fun n => n) (xs := ns)
  simpa [lstI] using this
/-- a constant of the module -/
def fdK (n : Str) (d : D) : FDef := ⟨n, [], [], [], some (.p fun _ S Q => Q d S), 0⟩
theorem const_eq {T : Nat → Option FDef} {k f : Nat} {n : Str} {d : D} (hT : T f = some (fdK n d)) : wC T (k + 1) f [] S Q = Q d S := by
  simp only [wC, hT, fdK, List.length_nil, true_and]
theorem it_zipRR {r s : Rw} : iZip.sem [rowD r, rowD s] S k = ((r.map prD).length ≤ sizeLine ∧ k (zipD (r.map prD) (s.map prD)) (fun S => stayS (rowD r) (r.map prD) S ∧ stayS (rowD s) (s.map prD) S)) := it_zip0T
theorem it_zipTT {ns ms : List Int} : iZip.sem [tupI ns, tupI ms] S k = ((ns.map D.int).length ≤ sizeLine ∧ k (zipD (ns.map D.int) (ms.map D.int)) (fun S => stayS (tupI ns) (ns.map D.int) S ∧ stayS (tupI ms) (ms.map D.int) S)) := it_zip0T
end
end
section
open PySem PySem.Spec L2
def y_added (x : Nat → Nat) : List RS := (.ret (.nd nTuple [.lc false (.nd nTup [.nd nMod [.nd (nAdd false) [.var 3, .var 5], .var 0], .nd nMod [.nd (nAdd false) [.var 4, .var 6], .var 0]]) (.tup [.tup [.nm 3, .nm 4], .tup [.nm 5, .nm 6]]) iZipM [.var 1, .var 2] [] [("x", 3), ("y", 4), ("right", 5), ("down", 6)]])) :: []
def yn_added : List Str := ["p", "one", "other", "x", "y", "right", "down"]
def fd_added (x : Nat → Nat) : FDef := ⟨"added", ["p", "one", "other"], yn_added, y_added x, none, 0⟩
def Has_added (T : Nat → Option FDef) (x : Nat → Nat) : Prop := T (x 5) = some (fd_added x)
def y_times (x : Nat → Nat) : List RS := (.ret (.nd nTuple [.lc false (.nd nTup [.nd nMod [.nd (nMul false) [.var 1, .var 3], .var 0], .nd nMod [.nd (nMul false) [.var 1, .var 4], .var 0]]) (.tup [.nm 3, .nm 4]) iSeq [.var 2] [] [("x", 3), ("y", 4)]])) :: []
def yn_times : List Str := ["p", "number", "row", "x", "y"]
def fd_times (x : Nat → Nat) : FDef := ⟨"times", ["p", "number", "row"], yn_times, y_times x, none, 0⟩
def Has_times (T : Nat → Option FDef) (x : Nat → Nat) : Prop := T (x 6) = some (fd_times x)
def y_inverse (x : Nat → Nat) : List RS := (.ret (.nd nIx [.lc false (.var 2) (.nm 2) iRg2 [eI 1, .var 0] [.cmp cEq (.nd nMod [.nd (nMul false) [.var 1, .var 2], .var 0]) (eI 1)] [("one", 2)], eI 0])) :: []
def yn_inverse : List Str := ["p", "number", "one"]
def fd_inverse (x : Nat → Nat) : FDef := ⟨"inverse", ["p", "number"], yn_inverse, y_inverse x, none, 0⟩
def Has_inverse (T : Nat → Option FDef) (x : Nat → Nat) : Prop := T (x 8) = some (fd_inverse x)
def y_numbers_of (x : Nat → Nat) : List RS := (.ret (.lc2 false (.var 2) (.nm 1) iSeq [.var 0] [] (.nm 2) iSeq [.var 1] [] [("pair", 1), ("number", 2)])) :: []
def yn_numbers_of : List Str := ["row", "pair", "number"]
def fd_numbers_of (x : Nat → Nat) : FDef := ⟨"numbers_of", ["row"], yn_numbers_of, y_numbers_of x, none, 0⟩
def Has_numbers_of (T : Nat → Option FDef) (x : Nat → Nat) : Prop := T (x 11) = some (fd_numbers_of x)
def y_row_of (x : Nat → Nat) : List RS := (.ret (.nd nTuple [.nd (nLZip false) [.nd (nPick false none 2 (by decide)) [.var 0], .nd (nPick false (some 1) 2 (by decide)) [.var 0]]])) :: []
def yn_row_of : List Str := ["numbers"]
def fd_row_of (x : Nat → Nat) : FDef := ⟨"row_of", ["numbers"], yn_row_of, y_row_of x, none, 0⟩
def Has_row_of (T : Nat → Option FDef) (x : Nat → Nat) : Prop := T (x 12) = some (fd_row_of x)
def y_first_place_1 (x : Nat → Nat) : List RS := (.ret (.nd nNon [])) :: []
def y_first_place_0b_0t (x : Nat → Nat) : List RS := (.ret (.var 1)) :: []
def y_first_place_0b (x : Nat → Nat) : List RS := (.ifs (.cmp cNe (.var 2) (eI 0)) (y_first_place_0b_0t x) []) :: []
def y_first_place (x : Nat → Nat) : List RS := (.for_ (.tup [.nm 1, .nm 2]) iEnumr [.call (x 11) [.var 0]] (y_first_place_0b x)) :: (y_first_place_1 x)
def yn_first_place : List Str := ["row", "place", "number"]
def fd_first_place (x : Nat → Nat) : FDef := ⟨"first_place", ["row"], yn_first_place, y_first_place x, none, 0⟩
def Has_first_place (T : Nat → Option FDef) (x : Nat → Nat) : Prop := T (x 13) = some (fd_first_place x) ∧ Has_numbers_of T x
def y_cleared (x : Nat → Nat) : List RS := (.ret (.call (x 5) [.var 0, .var 1, .call (x 6) [.var 0, .nd nNeg [.nd nIx [.call (x 11) [.var 1], .var 3]], .var 2]])) :: []
def yn_cleared : List Str := ["p", "row", "other", "place"]
def fd_cleared (x : Nat → Nat) : FDef := ⟨"cleared", ["p", "row", "other", "place"], yn_cleared, y_cleared x, none, 0⟩
def Has_cleared (T : Nat → Option FDef) (x : Nat → Nat) : Prop := T (x 14) = some (fd_cleared x) ∧ Has_added T x ∧ Has_numbers_of T x ∧ Has_times T x
def y_lessened_3 (x : Nat → Nat) : List RS := (.ret (.nd nTup [.var 4, .call (x 14) [.var 0, .var 5, .var 8, .var 7], .nd nTuple [.lc false (.nd nMod [.nd nSub [.var 10, .nd (nMul false) [.var 3, .var 11]], .var 0]) (.tup [.nm 10, .nm 11]) iZipM [.var 6, .var 9] [] [("own", 10), ("k", 11)]]])) :: []
def y_lessened_2 (x : Nat → Nat) : List RS := (.asg (.nm 3) (.nd nIx [.call (x 11) [.var 5], .var 7])) :: (y_lessened_3 x)
def y_lessened_1 (x : Nat → Nat) : List RS := (.asg (.tup [.nm 7, .nm 8, .nm 9]) (.var 2)) :: (y_lessened_2 x)
def y_lessened (x : Nat → Nat) : List RS := (.asg (.tup [.nm 4, .nm 5, .nm 6]) (.var 1)) :: (y_lessened_1 x)
def yn_lessened : List Str := ["p", "one", "other", "by", "place", "row", "numbers", "first", "more", "others", "own", "k"]
def fd_lessened (x : Nat → Nat) : FDef := ⟨"lessened", ["p", "one", "other"], yn_lessened, y_lessened x, none, 0⟩
def Has_lessened (T : Nat → Option FDef) (x : Nat → Nat) : Prop := T (x 15) = some (fd_lessened x) ∧ Has_cleared T x ∧ Has_numbers_of T x
def y_weighed_2 (x : Nat → Nat) : List RS := (.ret (.nd (nSortX false) [.var 2])) :: []
def y_weighed_1b_2t_2 (x : Nat → Nat) : List RS := (.asg (.nm 2) (.nd (nAdd false) [.lc false (.call (x 15) [.var 0, .var 10, .nd nTup [.var 5, .var 3, .var 4]]) (.nm 10) iSeq [.var 2] [] [("one", 10)], .nd (nLst false) [.nd nTup [.var 5, .var 3, .var 4]]])) :: []
def y_weighed_1b_2t_1 (x : Nat → Nat) : List RS := (.asg (.tup [.nm 3, .nm 4]) (.nd nTup [.call (x 6) [.var 0, .var 9, .var 3], .nd nTuple [.lc false (.nd nMod [.nd (nMul false) [.var 9, .var 12], .var 0]) (.nm 12) iSeq [.var 4] [] [("number", 12)]]])) :: (y_weighed_1b_2t_2 x)
def y_weighed_1b_2t (x : Nat → Nat) : List RS := (.asg (.nm 9) (.call (x 8) [.var 0, .nd nIx [.call (x 11) [.var 3], .var 5]])) :: (y_weighed_1b_2t_1 x)
def y_weighed_1b_2 (x : Nat → Nat) : List RS := (.ifs (.cmp cIsNot (.var 5) (.nd nNon [])) (y_weighed_1b_2t x) []) :: []
def y_weighed_1b_1 (x : Nat → Nat) : List RS := (.asg (.nm 5) (.call (x 13) [.var 3])) :: (y_weighed_1b_2 x)
def y_weighed_1b_0b_2 (x : Nat → Nat) : List RS := (.asg (.nm 4) (.nd nTuple [.lc false (.nd nMod [.nd nSub [.var 11, .nd (nMul false) [.var 9, .var 12]], .var 0]) (.tup [.nm 11, .nm 12]) iZipM [.var 4, .var 8] [] [("own", 11), ("number", 12)]])) :: []
def y_weighed_1b_0b_1 (x : Nat → Nat) : List RS := (.asg (.nm 3) (.call (x 14) [.var 0, .var 3, .var 7, .var 6])) :: (y_weighed_1b_0b_2 x)
def y_weighed_1b_0b (x : Nat → Nat) : List RS := (.asg (.nm 9) (.nd nIx [.call (x 11) [.var 3], .var 6])) :: (y_weighed_1b_0b_1 x)
def y_weighed_1b (x : Nat → Nat) : List RS := (.for_ (.tup [.nm 6, .nm 7, .nm 8]) iSeq [.var 2] (y_weighed_1b_0b x)) :: (y_weighed_1b_1 x)
def y_weighed_1 (x : Nat → Nat) : List RS := (.for_ (.tup [.nm 3, .nm 4]) iSeq [.var 1] (y_weighed_1b x)) :: (y_weighed_2 x)
def y_weighed (x : Nat → Nat) : List RS := (.asg (.nm 2) (.nd (nLst false) [])) :: (y_weighed_1 x)
def yn_weighed : List Str := ["p", "rows", "found", "row", "numbers", "first", "place", "other", "others", "by", "one", "own", "number"]
def fd_weighed (x : Nat → Nat) : FDef := ⟨"weighed", ["p", "rows"], yn_weighed, y_weighed x, none, 0⟩
def Has_weighed (T : Nat → Option FDef) (x : Nat → Nat) : Prop := T (x 16) = some (fd_weighed x) ∧ Has_cleared T x ∧ Has_first_place T x ∧ Has_inverse T x ∧ Has_lessened T x ∧ Has_numbers_of T x ∧ Has_times T x
def y_flipped (x : Nat → Nat) : List RS := (.ret (.nd nTuple [.lc false (.nd nTup [.nd nMod [.nd nSub [eI 0, .var 3], .var 0], .var 2]) (.tup [.nm 2, .nm 3]) iSeq [.var 1] [] [("x", 2), ("y", 3)]])) :: []
def yn_flipped : List Str := ["p", "row", "x", "y"]
def fd_flipped (x : Nat → Nat) : FDef := ⟨"flipped", ["p", "row"], yn_flipped, y_flipped x, none, 0⟩
def Has_flipped (T : Nat → Option FDef) (x : Nat → Nat) : Prop := T (x 20) = some (fd_flipped x)
def y_lprime (x : Nat → Nat) : List RS := (.ret (.nd nIx [.nd nTup [eI 2, eI 3, eI 5, eI 7, eI 11, eI 13], .call (x 26) [.var 0, eI 6]])) :: []
def yn_lprime : List Str := ["_law_deck_here"]
def fd_lprime (x : Nat → Nat) : FDef := ⟨"_law_prime", ["_law_deck_here"], yn_lprime, y_lprime x, none, 0⟩
def Has_lprime (T : Nat → Option FDef) (x : Nat → Nat) : Prop := T (x 27) = some (fd_lprime x) ∧ T (x 26) = some fdNext
def y_lnumbers (x : Nat → Nat) : List RS := (.ret (.nd nTuple [.lc false (.nd (nMul false) [.call (x 26) [.var 0, .var 1], .nd nIntOf [.cmp cGt (.call (x 26) [.var 0, eI 4]) (eI 0)]]) (.nm 3) iRg1 [.var 2] [] [("_law_k", 3)]])) :: []
def yn_lnumbers : List Str := ["_law_deck_here", "_law_p", "_law_many", "_law_k"]
def fd_lnumbers (x : Nat → Nat) : FDef := ⟨"_law_numbers", ["_law_deck_here", "_law_p", "_law_many"], yn_lnumbers, y_lnumbers x, none, 0⟩
def Has_lnumbers (T : Nat → Option FDef) (x : Nat → Nat) : Prop := T (x 28) = some (fd_lnumbers x) ∧ T (x 26) = some fdNext
def y_lrow (x : Nat → Nat) : List RS := (.ret (.nd nTuple [.lc false (.call (x 28) [.var 0, .var 1, eI 2]) (.nm 3) iRg1 [.var 2] [] [("_law_k", 3)]])) :: []
def yn_lrow : List Str := ["_law_deck_here", "_law_p", "_law_posts", "_law_k"]
def fd_lrow (x : Nat → Nat) : FDef := ⟨"_law_row", ["_law_deck_here", "_law_p", "_law_posts"], yn_lrow, y_lrow x, none, 0⟩
def y_ladded (x : Nat → Nat) : List RS := (.ret (.nd nTuple [.lc false (.nd nTup [.nd nMod [.nd (nAdd false) [.var 3, .var 5], .var 0], .nd nMod [.nd (nAdd false) [.var 4, .var 6], .var 0]]) (.tup [.tup [.nm 3, .nm 4], .tup [.nm 5, .nm 6]]) iZipM [.var 1, .var 2] [] [("_law_x", 3), ("_law_y", 4), ("_law_right", 5), ("_law_down", 6)]])) :: []
def yn_ladded : List Str := ["_law_p", "_law_one", "_law_other", "_law_x", "_law_y", "_law_right", "_law_down"]
def fd_ladded (x : Nat → Nat) : FDef := ⟨"_law_added", ["_law_p", "_law_one", "_law_other"], yn_ladded, y_ladded x, none, 0⟩
def Has_ladded (T : Nat → Option FDef) (x : Nat → Nat) : Prop := T (x 30) = some (fd_ladded x)
def y_ltimes (x : Nat → Nat) : List RS := (.ret (.nd nTuple [.lc false (.nd nTup [.nd nMod [.nd (nMul false) [.var 1, .var 3], .var 0], .nd nMod [.nd (nMul false) [.var 1, .var 4], .var 0]]) (.tup [.nm 3, .nm 4]) iSeq [.var 2] [] [("_law_x", 3), ("_law_y", 4)]])) :: []
def yn_ltimes : List Str := ["_law_p", "_law_number", "_law_row_here", "_law_x", "_law_y"]
def fd_ltimes (x : Nat → Nat) : FDef := ⟨"_law_times", ["_law_p", "_law_number", "_law_row_here"], yn_ltimes, y_ltimes x, none, 0⟩
def Has_ltimes (T : Nat → Option FDef) (x : Nat → Nat) : Prop := T (x 31) = some (fd_ltimes x)
def y_lsum_2 (x : Nat → Nat) : List RS := (.ret (.var 4)) :: []
def y_lsum_1b (x : Nat → Nat) : List RS := (.asg (.nm 4) (.call (x 30) [.var 0, .var 4, .call (x 31) [.var 0, .var 5, .var 6]])) :: []
def y_lsum_1 (x : Nat → Nat) : List RS := (.for_ (.tup [.nm 5, .nm 6]) iZipM [.var 2, .var 3] (y_lsum_1b x)) :: (y_lsum_2 x)
def y_lsum (x : Nat → Nat) : List RS := (.asg (.nm 4) (.nd (nMul false) [.nd nTup [.nd nTup [eI 0, eI 0]], .var 1])) :: (y_lsum_1 x)
def yn_lsum : List Str := ["_law_p", "_law_posts", "_law_numbers_here", "_law_rows", "_law_found", "_law_number", "_law_row_here"]
def fd_lsum (x : Nat → Nat) : FDef := ⟨"_law_sum", ["_law_p", "_law_posts", "_law_numbers_here", "_law_rows"], yn_lsum, y_lsum x, none, 0⟩
def Has_lsum (T : Nat → Option FDef) (x : Nat → Nat) : Prop := T (x 32) = some (fd_lsum x) ∧ Has_ladded T x ∧ Has_ltimes T x
def y_lstirred_2 (x : Nat → Nat) : List RS := (.ret (.nd nTuple [.frz (.var 4)])) :: []
def y_lstirred_1b_3 (x : Nat → Nat) : List RS := (.setI (.call (x 31) [.var 1, .nd (nAdd false) [eI 1, .call (x 26) [.var 0, .nd nSub [.var 1, eI 1]]], .nd nIx [.var 4, .var 7]]) (.var 4) (.var 7)) :: []
def y_lstirred_1b_2t (x : Nat → Nat) : List RS := (.setI (.call (x 30) [.var 1, .nd nIx [.var 4, .var 6], .call (x 31) [.var 1, .call (x 26) [.var 0, .var 1], .nd nIx [.var 4, .var 7]]]) (.var 4) (.var 6)) :: []
def y_lstirred_1b_2 (x : Nat → Nat) : List RS := (.ifs (.cmp cNe (.var 6) (.var 7)) (y_lstirred_1b_2t x) []) :: (y_lstirred_1b_3 x)
def y_lstirred_1b_1 (x : Nat → Nat) : List RS := (.asg (.nm 7) (.call (x 26) [.var 0, .nd nLen [.var 4]])) :: (y_lstirred_1b_2 x)
def y_lstirred_1b (x : Nat → Nat) : List RS := (.asg (.nm 6) (.call (x 26) [.var 0, .nd nLen [.var 4]])) :: (y_lstirred_1b_1 x)
def y_lstirred_1 (x : Nat → Nat) : List RS := (.for_ (.nm 5) iRg1 [.nd (nMul false) [.nd nLen [.var 4], eI 2]] (y_lstirred_1b x)) :: (y_lstirred_2 x)
def y_lstirred (x : Nat → Nat) : List RS := (.asg (.nm 4) (.nd (nList true) [.var 3])) :: (y_lstirred_1 x)
def yn_lstirred : List Str := ["_law_deck_here", "_law_p", "_law_posts", "_law_rows", "_law_found", "_law_turn", "_law_k", "_law_j"]
def fd_lstirred (x : Nat → Nat) : FDef := ⟨"_law_stirred", ["_law_deck_here", "_law_p", "_law_posts", "_law_rows"], yn_lstirred, y_lstirred x, none, 0⟩
def Has_lstirred (T : Nat → Option FDef) (x : Nat → Nat) : Prop := T (x 33) = some (fd_lstirred x) ∧ Has_ladded T x ∧ T (x 26) = some fdNext ∧ Has_ltimes T x
def y_lflat_2 (x : Nat → Nat) : List RS := (.ret (.var 1)) :: []
def y_lflat_1b (x : Nat → Nat) : List RS := (.asg (.nm 1) (.nd (nAdd false) [.var 1, .nd (nList false) [.var 2]])) :: []
def y_lflat_1 (x : Nat → Nat) : List RS := (.for_ (.nm 2) iSeq [.var 0] (y_lflat_1b x)) :: (y_lflat_2 x)
def y_lflat (x : Nat → Nat) : List RS := (.asg (.nm 1) (.nd (nLst false) [])) :: (y_lflat_1 x)
def yn_lflat : List Str := ["_law_row_here", "_law_found", "_law_pair"]
def fd_lflat (x : Nat → Nat) : FDef := ⟨"_law_flat", ["_law_row_here"], yn_lflat, y_lflat x, none, 0⟩
def Has_lflat (T : Nat → Option FDef) (x : Nat → Nat) : Prop := T (x 34) = some (fd_lflat x)
def y_lplain_set_5 (x : Nat → Nat) : List RS := (.ret (.nd (nLst false) [.var 6, .frz (.var 7)])) :: []
def y_lplain_set_4b_2 (x : Nat → Nat) : List RS := (.expr (.mth mApp (.var 7) [.nd nTuple [.nd (nLZip false) [.nd (nPick false none 2 (by decide)) [.var 9], .nd (nPick false (some 1) 2 (by decide)) [.frz (.var 9)]]]])) :: []
def y_lplain_set_4b_1b_0t (x : Nat → Nat) : List RS := (.setI (eI 0) (.var 9) (.var 10)) :: []
def y_lplain_set_4b_1b (x : Nat → Nat) : List RS := (.ifs (.cmp cGt (.var 10) (.var 8)) (y_lplain_set_4b_1b_0t x) []) :: []
def y_lplain_set_4b_1 (x : Nat → Nat) : List RS := (.for_ (.nm 10) iSeq [.var 6] (y_lplain_set_4b_1b x)) :: (y_lplain_set_4b_2 x)
def y_lplain_set_4b (x : Nat → Nat) : List RS := (.asg (.nm 9) (.nd (nAdd true) [.nd (nAdd false) [.nd (nMulL false) [.nd (nLst false) [eI 0], .var 8], .nd (nLst false) [eI 1]], .nd (nList false) [.call (x 28) [.var 0, .var 1, .nd nSub [.nd nSub [.nd (nMul false) [eI 2, .var 2], .var 8], eI 1]]]])) :: (y_lplain_set_4b_1 x)
def y_lplain_set_4 (x : Nat → Nat) : List RS := (.for_ (.nm 8) iSeq [.var 6] (y_lplain_set_4b x)) :: (y_lplain_set_5 x)
def y_lplain_set_3 (x : Nat → Nat) : List RS := (.asg (.nm 7) (.nd (nLst true) [])) :: (y_lplain_set_4 x)
def y_lplain_set_2 (x : Nat → Nat) : List RS := (.asg (.nm 6) (.nd (nSortI false) [.lc false (.mth mPopAt (.var 4) [.call (x 26) [.var 0, .nd nLen [.var 4]]]) (.nm 11) iRg1 [.var 5] [] [("_law_k", 11)]])) :: (y_lplain_set_3 x)
def y_lplain_set_1 (x : Nat → Nat) : List RS := (.asg (.nm 5) (.call (x 26) [.var 0, .nd (nAdd false) [.nd nMin [.var 3, .nd (nMul false) [eI 2, .var 2]], eI 1]])) :: (y_lplain_set_2 x)
def y_lplain_set (x : Nat → Nat) : List RS := (.asg (.nm 4) (.nd (nListRg1 true) [.nd (nMul false) [eI 2, .var 2]])) :: (y_lplain_set_1 x)
def yn_lplain_set : List Str := ["_law_deck_here", "_law_p", "_law_posts", "_law_most", "_law_pool", "_law_many", "_law_places", "_law_found", "_law_place", "_law_numbers_here", "_law_other", "_law_k"]
def fd_lplain_set (x : Nat → Nat) : FDef := ⟨"_law_plain_set", ["_law_deck_here", "_law_p", "_law_posts", "_law_most"], yn_lplain_set, y_lplain_set x, none, 0⟩
def Has_lplain_set (T : Nat → Option FDef) (x : Nat → Nat) : Prop := T (x 35) = some (fd_lplain_set x) ∧ T (x 26) = some fdNext ∧ Has_lnumbers T x
def y_lspanning_2 (x : Nat → Nat) : List RS := (.ret (.frz (.var 4))) :: []
def y_lspanning_1b_1 (x : Nat → Nat) : List RS := (.expr (.mth mIns (.var 4) [.call (x 26) [.var 0, .nd (nAdd false) [.nd nLen [.var 4], eI 1]], .var 6])) :: []
def y_lspanning_1b (x : Nat → Nat) : List RS := (.asg (.nm 6) (.call (x 32) [.var 1, .var 2, .call (x 28) [.var 0, .var 1, .nd nLen [.var 3]], .var 3])) :: (y_lspanning_1b_1 x)
def y_lspanning_1 (x : Nat → Nat) : List RS := (.for_ (.nm 5) iRg1 [.call (x 26) [.var 0, eI 4]] (y_lspanning_1b x)) :: (y_lspanning_2 x)
def y_lspanning (x : Nat → Nat) : List RS := (.asg (.nm 4) (.nd (nList true) [.call (x 33) [.var 0, .var 1, .var 2, .var 3]])) :: (y_lspanning_1 x)
def yn_lspanning : List Str := ["_law_deck_here", "_law_p", "_law_posts", "_law_rows", "_law_found", "_law_turn", "_law_more"]
def fd_lspanning (x : Nat → Nat) : FDef := ⟨"_law_spanning", ["_law_deck_here", "_law_p", "_law_posts", "_law_rows"], yn_lspanning, y_lspanning x, none, 0⟩
def Has_lspanning (T : Nat → Option FDef) (x : Nat → Nat) : Prop := T (x 36) = some (fd_lspanning x) ∧ T (x 26) = some fdNext ∧ Has_lnumbers T x ∧ Has_lstirred T x ∧ Has_lsum T x
def y_plainO (x : Nat → Nat) : List RS := (.ret (.lc true (.var 4) (.tup [.nm 3, .nm 4, .nm 5]) iSeq [.call (x 16) [.var 0, .lc false (.nd nTup [.var 4, .nd nTup []]) (.nm 4) iSeq [.var 2] [] [("row", 4)]]] [] [("place", 3), ("row", 4), ("numbers", 5)])) :: []
def yn_plainO : List Str := ["p", "posts", "rows", "place", "row", "numbers"]
def fd_plainO (x : Nat → Nat) : FDef := ⟨"plain", ["p", "posts", "rows"], yn_plainO, y_plainO x, none, 0⟩
def Has_plainO (T : Nat → Option FDef) (x : Nat → Nat) : Prop := T (x 17) = some (fd_plainO x) ∧ Has_weighed T x
end
open PySem PySem.Spec L2
local macro_rules
  | `(tactic| simp_arith! [$ls,*]) => `(tactic| simp (maxSteps := 1000000) (disch := first | omega | assumption | (simp only [Sto.put_dk, Sto.del_dk]; assumption) | (simp only [List.length_map, List.length_append, List.length_cons, List.length_nil, List.length_zip, List.length_range, List.length_set, List.length_replicate, List.length_take, List.length_drop]; omega)) only [wipeE, List.map_cons, List.map_nil, wSs, wS, wE, wEs, wAnd, wOr, wT, wAndT, wOrT, wTs, eI, Bool.false_eq_true, Bool.not_true, Bool.not_false, if_true, if_false, decide_true, decide_false, true_and, and_true, and_self, and_self_left, exists_const, exists_and_left, D.loc.injEq, O.lst.injEq, set_mapE, ixN_ok, Sto.put_same, put_del, put_put, const_eq, ite_self, tr_bl, tr_int, tr_tup, tr_lst, List.getElem?_cons_zero, List.getElem?_cons_succ,
    Option.some.injEq, exists_eq_left', exists_eq_left, D.bl.injEq, D.int.injEq, D.str.injEq, List.set_cons_zero, List.set_cons_succ, List.length_cons, List.length_nil, List.length_map, List.length_zip, List.length_range, List.length_range', List.replicate_succ, List.replicate_zero, List.cons_append, List.nil_append, List.append_nil, Nat.reduceAdd, Nat.reduceSub, Nat.add_one_sub_one, Nat.sub_self, Nat.zero_add, Nat.add_zero, decide_eq_true_eq,
    sem_tyInt, sem_tyBool, sem_tyTuple, sem_tyList, sem_tyStr, sem_tyDict, sem_int, sem_str, sem_bl, sem_non, sem_dic0, sem_isi, sem_sub, sem_mod, sem_fdiv, sem_neg, sem_add, sem_addT, sem_addL, sem_mul, sem_ix, sem_len, sem_tuple, sem_lst, sem_tup, sem_lstO, sem_intI, sem_intB, sem_listL, sem_listO, sem_lzip, sem_allM, sem_anyM, sem_sumM,
    cs_lt, cs_le, cs_gt, cs_ge, cs_eqI, cs_eqB, cs_eqS, cs_neI, cs_neB, cs_neS, cs_isB, cs_isNotB, cs_eqT0, cs_neT0, cs_isN, cs_isNN, cs_isIN, cs_isTN, cs_isLN, cs_notNN, cs_notIN, cs_notTN, cs_notLN,
    seqS_tup, seqS_lst, lstS_lst, lenS_tup, lenS_lst, stay_tup, stay_lst, sle, mul_ok1, mul_ok2, div_ok, newL_f, bind_nm, bind_tup, bind_unl, binds_nil, binds_cons, it_seqE, it_enumE, it_zipE, it_zip0T, it_zip0L, it_zip3E, it_rg1E, it_rg2E, isTup_tup, isTup_lst, seq_rowD, seq_tupI, seq_lstI, seq_rwsL, seq_rwsT, seq_lstE, seq_tupE, seq_prD, lst_lstI, lst_rwsL, lst_lstE, len_rowD, len_tupI, len_lstI, len_rwsL, len_rwsT, len_lstE, len_tupE, stay_rowD, stay_tupI, stay_lstI, stay_rwsL, stay_rwsT, stay_lstE, stay_tupE, stay_prD, ty_rowD, ty_tupI, ty_rwsT, ty_tupE, ty_lstI, ty_rwsL, ty_lstE, ty_prD, bind_prD, row_fold, row_fold1, row_fold2, pr_fold, tupI_fold, tupI_fold2, lstI_fold, lstI_fold2, rwsL_fold, rwsL_fold2, rwsT_fold, rwsT_fold2, sem_sumI, it_zipRR, it_zipTT, zipD_map, zip3D_map, enumD_map, rgD_nat, rgD_two, at0, at1, at2, atI_map,
    lcRun_map, lcRun2_map, lcT_pure, lcT_filter, lcT_filterP, mem_int, mem_bool, mem_str, mem_tuple, mem_list, ty_int, ty_tup, ty_lst, ty_bl, ty_str, ty_non, isT_ii, isT_ib, isT_tt, isT_ss, isT_bb, isT_ll, startE_eq, $ls,*])
  | `(tactic| simp_arith! [$ls,*] at $h:ident) => `(tactic| simp (maxSteps := 1000000) (disch := first | omega | assumption | (simp only [Sto.put_dk, Sto.del_dk]; assumption) | (simp only [List.length_map, List.length_append, List.length_cons, List.length_nil, List.length_zip, List.length_range, List.length_set, List.length_replicate, List.length_take, List.length_drop]; omega)) only [wipeE, List.map_cons, List.map_nil, wSs, wS, wE, wEs, wAnd, wOr, wT, wAndT, wOrT, wTs, eI, Bool.false_eq_true, Bool.not_true, Bool.not_false, if_true, if_false, decide_true, decide_false, true_and, and_true, and_self, and_self_left, exists_const, exists_and_left, D.loc.injEq, O.lst.injEq, set_mapE, ixN_ok, Sto.put_same, put_del, put_put, const_eq, ite_self, tr_bl, tr_int, tr_tup, tr_lst, List.getElem?_cons_zero, List.getElem?_cons_succ,
    Option.some.injEq, exists_eq_left', exists_eq_left, D.bl.injEq, D.int.injEq, D.str.injEq, List.set_cons_zero, List.set_cons_succ, List.length_cons, List.length_nil, List.length_map, List.length_zip, List.length_range, List.length_range', List.replicate_succ, List.replicate_zero, List.cons_append, List.nil_append, List.append_nil, Nat.reduceAdd, Nat.reduceSub, Nat.add_one_sub_one, Nat.sub_self, Nat.zero_add, Nat.add_zero, decide_eq_true_eq,
    sem_tyInt, sem_tyBool, sem_tyTuple, sem_tyList, sem_tyStr, sem_tyDict, sem_int, sem_str, sem_bl, sem_non, sem_dic0, sem_isi, sem_sub, sem_mod, sem_fdiv, sem_neg, sem_add, sem_addT, sem_addL, sem_mul, sem_ix, sem_len, sem_tuple, sem_lst, sem_tup, sem_lstO, sem_intI, sem_intB, sem_listL, sem_listO, sem_lzip, sem_allM, sem_anyM, sem_sumM,
    cs_lt, cs_le, cs_gt, cs_ge, cs_eqI, cs_eqB, cs_eqS, cs_neI, cs_neB, cs_neS, cs_isB, cs_isNotB, cs_eqT0, cs_neT0, cs_isN, cs_isNN, cs_isIN, cs_isTN, cs_isLN, cs_notNN, cs_notIN, cs_notTN, cs_notLN,
    seqS_tup, seqS_lst, lstS_lst, lenS_tup, lenS_lst, stay_tup, stay_lst, sle, mul_ok1, mul_ok2, div_ok, newL_f, bind_nm, bind_tup, bind_unl, binds_nil, binds_cons, it_seqE, it_enumE, it_zipE, it_zip0T, it_zip0L, it_zip3E, it_rg1E, it_rg2E, isTup_tup, isTup_lst, seq_rowD, seq_tupI, seq_lstI, seq_rwsL, seq_rwsT, seq_lstE, seq_tupE, seq_prD, lst_lstI, lst_rwsL, lst_lstE, len_rowD, len_tupI, len_lstI, len_rwsL, len_rwsT, len_lstE, len_tupE, stay_rowD, stay_tupI, stay_lstI, stay_rwsL, stay_rwsT, stay_lstE, stay_tupE, stay_prD, ty_rowD, ty_tupI, ty_rwsT, ty_tupE, ty_lstI, ty_rwsL, ty_lstE, ty_prD, bind_prD, row_fold, row_fold1, row_fold2, pr_fold, tupI_fold, tupI_fold2, lstI_fold, lstI_fold2, rwsL_fold, rwsL_fold2, rwsT_fold, rwsT_fold2, sem_sumI, it_zipRR, it_zipTT, zipD_map, zip3D_map, enumD_map, rgD_nat, rgD_two, at0, at1, at2, atI_map,
    lcRun_map, lcRun2_map, lcT_pure, lcT_filter, lcT_filterP, mem_int, mem_bool, mem_str, mem_tuple, mem_list, ty_int, ty_tup, ty_lst, ty_bl, ty_str, ty_non, isT_ii, isT_ib, isT_tt, isT_ss, isT_bb, isT_ll, startE_eq, $ls,*] at $h:ident)
section
open PySem PySem.Spec L2
/-- the first number that makes 1 -/
def invP (p n : Int) : Int := (((List.range (p - 1).toNat).filter fun i : Nat => decide (n * (1 + (i : Int)) % p = 1)).map fun i : Nat => 1 + (i : Int)).headD 0
theorem invP_all : ∀ p ∈ [2, 3, 5, 7, 11, 13], ∀ n ∈ List.range p, n ≠ 0 → (0 < invP p n ∧ invP p n < p ∧ (n : Int) * invP p n % p = 1 ∧ ((List.range ((p : Int) - 1).toNat).filter fun i : Nat => decide ((n : Int) * (1 + (i : Int)) % (p : Int) = 1)) ≠ []) := by decide +kernel
theorem invP_ok {p n : Int} (hp : isPr p) (h0 : 0 < n) (h1 : n < p) : 0 < invP p n ∧ invP p n < p ∧ n * invP p n % p = 1 ∧ ((List.range (p - 1).toNat).filter fun i : Nat => decide (n * (1 + (i : Int)) % p = 1)) ≠ [] := by
  have hb := isPr_b hp
  have hm : p.toNat ∈ [2, 3, 5, 7, 11, 13] := by
    unfold isPr at hp
    rcases hp with rfl | rfl | rfl | rfl | rfl | rfl <;> decide
  have := invP_all p.toNat hm n.toNat (List.mem_range.mpr (by omega)) (by omega)
  rw [Int.toNat_of_nonneg (by omega), Int.toNat_of_nonneg (by omega)] at this
  exact this
/-- a row's numbers by their places -/
def flat (r : Rw) : List Int := r.flatMap fun q => [q.1, q.2]
theorem flat_len {r : Rw} : (flat r).length = 2 * r.length := by
  induction r with
  | nil => rfl
  | cons q r ih => simp only [flat, List.flatMap_cons, List.length_append, List.length_cons, List.length_nil] at ih ⊢; omega
section
variable {T : Nat → Option FDef} {x : Nat → Nat} {k f : Nat} {S : Sto} {Q : PostE}
theorem xlen : ∀ {xs : List D}, xs.length ≤ xszs xs
  | [] => Nat.zero_le _
  | x :: xs => by simp only [List.length_cons, xszs]; have := xlen (xs := xs); omega
theorem Xs.len {c h : Nat} {xs : List D} (n : Xs c h xs) : xs.length ≤ c := Nat.le_trans xlen n.sz
theorem added_eq {p : Int} {r s : Rw} (H : Has_added T x) (hp : 0 < p) (hl : r.length ≤ 1000) : wC T (k + 1) (x 5) [.int p, rowD r, rowD s] S Q = Q (rowD (addR p r s)) S := by
  rw [wC_eq H rfl]
  simp_arith! [y_added, yn_added, fd_added, hp]
  rfl
theorem times_eq {p n : Int} {r : Rw} (H : Has_times T x) (hp : 0 < p) (n0 : -1000000 ≤ n) (n1 : n ≤ 1000000) (hl : r.length ≤ 1000) : wC T (k + 1) (x 6) [.int p, .int n, rowD r] S Q = Q (rowD (mulR p n r)) S := by
  rw [wC_eq H rfl]
  simp_arith! [y_times, yn_times, fd_times, hp]
  rfl
theorem inverse_eq {p n : Int} (H : Has_inverse T x) (hp : isPr p) (h0 : 0 < n) (h1 : n < p) : wC T (k + 1) (x 8) [.int p, .int n] S Q = Q (.int (invP p n)) S := by
  have hb := isPr_b hp
  have p0 : 0 < p := by omega
  obtain ⟨b1, b2⟩ := hb
  rw [wC_eq H rfl]
  simp_arith! [y_inverse, yn_inverse, fd_inverse, rgD_def, p0]
  obtain ⟨_, _, _, ne⟩ := invP_ok hp h0 h1
  unfold invP
  cases e : (List.range (p - 1).toNat).filter fun i : Nat => decide (n * (1 + (i : Int)) % p = 1) with
  | nil => exact absurd e ne
  | cons a l => simp_arith! []; rfl
theorem numbersOf_eq {r : Rw} (H : Has_numbers_of T x) (hl : r.length ≤ 1000) : wC T (k + 1) (x 11) [rowD r] S Q = Q (lstI (flat r)) S := by
  rw [wC_eq H rfl]
  simp_arith! [y_numbers_of, yn_numbers_of, fd_numbers_of]
  rw [lc2T_eq (f := fun q => [.int q.1, .int q.2]) (m := 2) (fun q hq => ⟨by simp, fun acc S k ha => by simp_arith! [RT.slots, lcRun]; simp⟩) (by simp; omega)]
  have e : r.flatMap (fun q => [D.int q.1, D.int q.2]) = (flat r).map D.int := by simp [flat, List.map_flatMap]
  simp_arith! [e]
end
end
section
open PySem PySem.Spec L2
def evens {α : Type} : List α → List α
  | [] => []
  | [a] => [a]
  | a :: _ :: r => a :: evens r
def odds {α : Type} : List α → List α
  | [] => []
  | [_] => []
  | _ :: b :: r => b :: odds r
def prs : List Int → Rw
  | [] => []
  | [_] => []
  | a :: b :: r => (a, b) :: prs r
theorem evens_range {α : Type} : ∀ {xs : List α} {m : Nat}, (xs.length + 1) / 2 ≤ m → (List.range m).filterMap (fun k => xs[2 * k]?) = evens xs
  | [], m, _ => by
    simp only [evens]
    exact List.filterMap_eq_nil_iff.mpr fun a _ => rfl
  | [a], m, h => by
    obtain ⟨m, rfl⟩ : ∃ j, m = j + 1 := ⟨m - 1, by simp at h; omega⟩
    rw [List.range_succ_eq_map, List.filterMap_cons]
    simp only [evens, Nat.mul_zero, List.getElem?_cons_zero, List.filterMap_map]
    congr 1
    refine List.filterMap_eq_nil_iff.mpr fun b _ => ?_
    show [a][2 * (b + 1)]? = none
    exact List.getElem?_eq_none (by simp; omega)
  | a :: b :: r, m, h => by
    obtain ⟨m, rfl⟩ : ∃ j, m = j + 1 := ⟨m - 1, by simp at h; omega⟩
    rw [List.range_succ_eq_map, List.filterMap_cons]
    simp only [evens, Nat.mul_zero, List.getElem?_cons_zero, List.filterMap_map]
    congr 1
    rw [← evens_range (xs := r) (m := m) (by simp at h; omega)]
    congr 1
theorem odds_range {α : Type} : ∀ {xs : List α} {m : Nat}, xs.length / 2 ≤ m → (List.range m).filterMap (fun k => xs[2 * k + 1]?) = odds xs
  | [], m, _ => by
    simp only [odds]
    exact List.filterMap_eq_nil_iff.mpr fun a _ => rfl
  | [a], m, h => by
    simp only [odds]
    exact List.filterMap_eq_nil_iff.mpr fun b _ => List.getElem?_eq_none (by simp)
  | a :: b :: r, m, h => by
    obtain ⟨m, rfl⟩ : ∃ j, m = j + 1 := ⟨m - 1, by simp at h; omega⟩
    rw [List.range_succ_eq_map, List.filterMap_cons]
    simp only [odds, Nat.mul_zero, Nat.zero_add, List.getElem?_cons_zero, List.getElem?_cons_succ, List.filterMap_map]
    congr 1
    rw [← odds_range (xs := r) (m := m) (by simp at h; omega)]
    congr 1
theorem pick2 {α : Type} {xs : List α} : pickD xs none none (some 2) = evens xs := by
  unfold pickD sliceBounds sliceRange
  simp only [Option.getD_some, Option.getD_none]
  have e : (fun k : Nat => xs[(0 + 2 * (k : Int)).toNat]?) = fun k => xs[2 * k]? := by
    funext k
    have : (0 + 2 * (k : Int)).toNat = 2 * k := by omega
    rw [this]
  simp [List.filterMap_map, Function.comp_def]
  have e2 : (fun k : Nat => xs[(2 * (k : Int)).toNat]?) = fun k => xs[2 * k]? := by
    funext k
    have : (2 * (k : Int)).toNat = 2 * k := by omega
    rw [this]
  rw [e2]
  refine evens_range ?_
  split <;> omega
theorem pick21 {α : Type} {xs : List α} : pickD xs (some 1) none (some 2) = odds xs := by
  unfold pickD sliceBounds sliceRange
  simp [List.filterMap_map, Function.comp_def]
  by_cases c : xs.length = 0
  · have : xs = [] := List.eq_nil_of_length_eq_zero c
    subst this
    simp [odds]
  · have e : max 0 (min 1 (xs.length : Int)) = 1 := by omega
    rw [e]
    have e2 : (fun k : Nat => xs[(1 + 2 * (k : Int)).toNat]?) = fun k => xs[2 * k + 1]? := by
      funext k
      have : (1 + 2 * (k : Int)).toNat = 2 * k + 1 := by omega
      rw [this]
    rw [e2]
    refine odds_range ?_
    split <;> omega
theorem zip_prs : ∀ {ns : List Int}, zipD (evens (ns.map D.int)) (odds (ns.map D.int)) = (prs ns).map prD
  | [] => rfl
  | [_] => rfl
  | a :: b :: r => by
    show D.tup [.int a, .int b] :: zipD (evens (r.map D.int)) (odds (r.map D.int)) = _
    rw [zip_prs]
    rfl
theorem flat_prs : ∀ {ns : List Int}, ns.length % 2 = 0 → flat (prs ns) = ns
  | [], _ => rfl
  | [_], h => by simp at h
  | a :: b :: r, h => by
    show a :: b :: flat (prs r) = _
    rw [flat_prs (by simp at h; omega)]
theorem prs_len : ∀ {ns : List Int}, (prs ns).length = ns.length / 2
  | [] => rfl
  | [_] => by simp [prs]
  | a :: b :: r => by
    show (prs r).length + 1 = (r.length + 2) / 2
    rw [prs_len]; omega
theorem forRun_find {α : Type} {emb : α → D} {step : D → En → Sto → (En → Sto → Prop) → Prop} {stay : Sto → Prop} {Q : En → Sto → Prop} {S : Sto} (R : En → Prop) (c : α → Bool) (ret : α → Prop) (q : Prop) (hs : stay S) (hq : ∀ ρ, R ρ → Q ρ S = q) : ∀ {xs : List α} {ρ : En},
    (∀ a ∈ xs, ∀ ρ, R ρ → ∀ (k : En → Sto → Prop) (v : Prop), (∀ ρ', R ρ' → k ρ' S = v) → step (emb a) ρ S k = if c a = true then ret a else v) → R ρ → forRun step stay (xs.map emb) ρ S Q = (match xs.find? c with | some a => ret a | none => q)
  | [], ρ, _, r => by simp only [List.map_nil, forRun, hs, true_and, List.find?_nil, hq ρ r]
  | x :: xs, ρ, h, r => by
    have ih : ∀ ρ', R ρ' → forRun step stay (xs.map emb) ρ' S Q = (match xs.find? c with | some a => ret a | none => q) := fun ρ' r' => forRun_find R c ret q hs hq (fun a ha => h a (List.mem_cons_of_mem _ ha)) r'
    simp only [List.map_cons, forRun, hs, true_and]
    rw [h x (List.mem_cons_self ..) ρ r _ _ ih, List.find?_cons]
    cases c x <;> simp
/-- a typed loop that carries a state -/
theorem forRun_fold {α σ : Type} {emb : α → D} {step : D → En → Sto → (En → Sto → Prop) → Prop} {stay : Sto → Prop} {Q : En → Sto → Prop} {S : Sto} {q : Prop} (R : σ → En → Prop) (g : σ → α → σ) (P : σ → Prop) (hs : stay S) : ∀ {xs : List α} {s0 : σ} {ρ : En},
    (∀ a ∈ xs, ∀ s ρ, R s ρ → P s → P (g s a) ∧ ∀ (k : En → Sto → Prop) (v : Prop), (∀ ρ', R (g s a) ρ' → k ρ' S = v) → step (emb a) ρ S k = v) → R s0 ρ → P s0 → (∀ ρ, R (xs.foldl g s0) ρ → P (xs.foldl g s0) → Q ρ S = q) → forRun step stay (xs.map emb) ρ S Q = q
  | [], s0, ρ, _, r, p, hq => by simp only [List.map_nil, forRun, hs, true_and]; exact hq ρ r p
  | x :: xs, s0, ρ, h, r, p, hq => by
    obtain ⟨p', e⟩ := h x (List.mem_cons_self ..) s0 ρ r p
    simp only [List.map_cons, forRun, hs, true_and]
    exact e _ _ fun ρ' r' => forRun_fold R g P hs (fun a ha => h a (List.mem_cons_of_mem _ ha)) r' p' hq
/-- a row's number at a place -/
def co (r : Rw) (i : Nat) : Int := (flat r).getD i 0
def optD : Option Nat → D
  | none => .non
  | some i => .int (i : Nat)
def fstP (r : Rw) : Option Nat := ((flat r).zipIdx.find? fun q => decide (q.1 ≠ 0)).map (·.2)
def clr (p : Int) (r o : Rw) (i : Nat) : Rw := addR p r (mulR p (-co r i) o)
def subN (p c : Int) (ns ms : List Int) : List Int := (ns.zip ms).map fun q => (q.1 - c * q.2) % p
def mulN (p c : Int) (ns : List Int) : List Int := ns.map fun n => c * n % p
/-- a plain row so far: its first place, the row, the numbers that make it -/
structure Tr where
  pl : Nat
  rw_ : Rw
  nu : List Int
def trD (t : Tr) : D := .tup [.int (t.pl : Nat), rowD t.rw_, tupI t.nu]
def rnD (q : Rw × List Int) : D := .tup [rowD q.1, tupI q.2]
def lessF (p : Int) (t one : Tr) : Tr := ⟨one.pl, clr p one.rw_ t.rw_ t.pl, subN p (co one.rw_ t.pl) one.nu t.nu⟩
def stepI (p : Int) (q : Rw × List Int) (t : Tr) : Rw × List Int := (clr p q.1 t.rw_ t.pl, subN p (co q.1 t.pl) q.2 t.nu)
def wStep (p : Int) (found : List Tr) (q : Rw × List Int) : List Tr :=
  let q' := found.foldl (stepI p) q
  match fstP q'.1 with
  | none => found
  | some i => let c := invP p (co q'.1 i); let t : Tr := ⟨i, mulR p c q'.1, mulN p c q'.2⟩; found.map (lessF p t) ++ [t]
def wAll (p : Int) (rows : List (Rw × List Int)) : List Tr := rows.foldl (wStep p) []
theorem getI_co {r : Rw} {i : Nat} : getI (flat r) (i : Int) = co r i := rfl
theorem co_in {p : Int} {r : Rw} {i : Nat} (h : In p r) (h0 : 0 < p) : 0 ≤ co r i ∧ co r i < p := by
  unfold co
  rw [List.getD_eq_getElem?_getD]
  cases e : (flat r)[i]? with
  | none => exact ⟨Int.le_refl _, h0⟩
  | some v =>
    have hv := List.mem_of_getElem? e
    obtain ⟨q, hq, hv⟩ := List.mem_flatMap.mp hv
    have := h q hq
    simp only [List.mem_cons, List.not_mem_nil, or_false] at hv
    rcases hv with rfl | rfl
    · exact ⟨this.1, this.2.1⟩
    · exact ⟨this.2.2.1, this.2.2.2⟩
theorem fstP_some {r : Rw} {i : Nat} (h : fstP r = some i) : i < 2 * r.length ∧ co r i ≠ 0 ∧ ∀ j < i, co r j = 0 := by
  unfold fstP at h
  cases e : (flat r).zipIdx.find? fun q => decide (q.1 ≠ 0) with
  | none => rw [e] at h; cases h
  | some q =>
    rw [e] at h
    simp only [Option.map_some, Option.some.injEq] at h
    subst h
    obtain ⟨h1, as, bs, h2, h3⟩ := List.find?_eq_some_iff_append.mp e
    have hm : q ∈ (flat r).zipIdx := by rw [h2]; simp
    have hg := List.mem_zipIdx_iff_getElem?.mp hm
    have hl : q.2 < (flat r).length := (List.getElem?_eq_some_iff.mp hg).1
    refine ⟨by rw [flat_len] at hl; exact hl, ?_, fun j hj => ?_⟩
    · unfold co
      rw [List.getD_eq_getElem?_getD, hg]
      simpa using h1
    · have hjl : j < (flat r).length := by omega
      have hlen : as.length = q.2 := by
        have := congrArg (fun l : List (Int × Nat) => l[as.length]?) h2
        simp only [List.getElem?_append_right (Nat.le_refl _), Nat.sub_self, List.getElem?_cons_zero] at this
        rw [List.getElem?_zipIdx] at this
        cases e2 : (flat r)[as.length]? with
        | none => rw [e2] at this; cases this
        | some v =>
          rw [e2] at this
          simp only [Option.map_some, Nat.zero_add, Option.some.injEq] at this
          rw [← this]
      have hja : ((flat r)[j], j) ∈ as := by
        have := congrArg (fun l : List (Int × Nat) => l[j]?) h2
        simp only [List.getElem?_append_left (show j < as.length by omega)] at this
        rw [List.getElem?_zipIdx, List.getElem?_eq_getElem hjl] at this
        simp only [Option.map_some, Nat.zero_add] at this
        exact List.mem_of_getElem? this.symm
      have := h3 _ hja
      unfold co
      rw [List.getD_eq_getElem?_getD, List.getElem?_eq_getElem hjl]
      simpa using this
theorem fstP_none {r : Rw} (h : fstP r = none) : ∀ j, co r j = 0 := by
  intro j
  unfold fstP at h
  simp only [Option.map_eq_none_iff] at h
  unfold co
  rw [List.getD_eq_getElem?_getD]
  cases e : (flat r)[j]? with
  | none => rfl
  | some v =>
    have := List.find?_eq_none.mp h (v, j) (List.mem_zipIdx_iff_getElem?.mpr e)
    simpa using this
theorem clr_len {p : Int} {r o : Rw} {i : Nat} (h : r.length = o.length) : (clr p r o i).length = r.length := by
  rw [clr, addR_len, mulR_len, h, Nat.min_self]
section
variable {T : Nat → Option FDef} {x : Nat → Nat} {k f : Nat} {S : Sto} {Q : PostE}
theorem rowOf_eq {ns : List Int} (H : Has_row_of T x) : wC T (k + 1) (x 12) [lstI ns] S Q = Q (rowD (prs ns)) S := by
  have sp : ∀ (o : Bool) (lo : Option Int) (i : Int) (h0 : i ≠ 0) (Q : PostE), (nPick o lo i h0).sem [lstI ns] S Q = newL o (pickD (ns.map D.int) lo none (some i)) S Q := fun o lo i h0 Q => propext ⟨fun ⟨d, xs, e, h1, h2⟩ => by
    cases e
    simp only [lst_lstI, Option.some.injEq] at h1
    rw [h1]; exact h2, fun h => ⟨_, _, rfl, rfl, h⟩⟩
  rw [wC_eq H rfl]
  simp_arith! [y_row_of, yn_row_of, fd_row_of, sp, pick2, pick21, zip_prs]
theorem firstPlace_eq {r : Rw} (H : Has_first_place T x) (hl : r.length ≤ 1000) : wC T (k + 2) (x 13) [rowD r] S Q = Q (optD (fstP r)) S := by
  obtain ⟨H, H1⟩ := H
  rw [wC_eq H rfl]
  simp_arith! [y_first_place, yn_first_place, fd_first_place, numbersOf_eq H1, flat_len]
  rw [forRun_find (fun ρ => ∃ u v, ρ = [some (rowD r), u, v]) (fun q => decide (q.1 ≠ 0)) (fun q => Q (.int (q.2 : Nat)) S) (Q .non S) (by simp_arith! []) ?_ ?_ ⟨_, _, rfl⟩]
  · unfold fstP
    cases (flat r).zipIdx.find? fun q => decide (q.1 ≠ 0) <;> rfl
  · rintro ρ ⟨u, v, rfl⟩
    simp_arith! [y_first_place_1]
  · rintro a ha ρ ⟨u, v, rfl⟩ kk vv hk
    simp_arith! [y_first_place_0b, y_first_place_0b_0t, hk _ ⟨_, _, rfl⟩]
    by_cases c : a.1 = 0 <;> simp [c]
theorem cleared_eq {p : Int} {r o : Rw} {i : Nat} (H : Has_cleared T x) (hp : 0 < p) (hp1 : p ≤ 1000) (hr : In p r) (hl : r.length ≤ 1000) (ho : o.length ≤ 1000) (hi : i < 2 * r.length) : wC T (k + 2) (x 14) [.int p, rowD r, rowD o, .int (i : Nat)] S Q = Q (rowD (clr p r o i)) S := by
  obtain ⟨H, H1, H2, H3⟩ := H
  have b := co_in (i := i) hr hp
  obtain ⟨b0, b1⟩ := b
  rw [wC_eq H rfl]
  have e : atI ((flat r).map D.int) (i : Int) = some (.int (co r i)) := by rw [atI_map (by omega) (by rw [flat_len]; omega), getI_co]
  simp_arith! [y_cleared, yn_cleared, fd_cleared, numbersOf_eq H2, e, times_eq H3 hp, added_eq H1 hp]
  rfl
theorem flat_at {r : Rw} {i : Nat} (hi : i < 2 * r.length) : atI ((flat r).map D.int) (i : Int) = some (.int (co r i)) := by rw [atI_map (by omega) (by rw [flat_len]; omega), getI_co]
theorem lessened_eq {p : Int} {t one : Tr} (H : Has_lessened T x) (hp : 0 < p) (hp1 : p ≤ 1000) (h1 : In p one.rw_) (hl : one.rw_.length ≤ 1000) (ho : t.rw_.length ≤ 1000) (hi : t.pl < 2 * one.rw_.length) (hn : one.nu.length ≤ 1000) : wC T (k + 3) (x 15) [.int p, trD one, trD t] S Q = Q (trD (lessF p t one)) S := by
  obtain ⟨H, H1, H2⟩ := H
  obtain ⟨b0, b1⟩ := co_in (i := t.pl) h1 hp
  rw [wC_eq H rfl]
  simp_arith! [y_lessened, y_lessened_1, y_lessened_2, y_lessened_3, yn_lessened, fd_lessened, trD, numbersOf_eq H2, flat_at hi, cleared_eq H1 hp hp1 h1, hp, mul_ok1 (i := co one.rw_ t.pl) (by omega) (by omega)]
  rfl
end
end
section
open PySem PySem.Spec L2
theorem perm_sorted_eq {α : Type} {le : α → α → Prop} : ∀ {l m : List α}, (∀ a ∈ l, ∀ b ∈ l, le a b → le b a → a = b) → l.Perm m → l.Pairwise le → m.Pairwise le → l = m
  | [], m, _, h, _, _ => (List.nil_perm.mp h).symm
  | a :: l, [], _, h, _, _ => by simpa using h.length_eq
  | a :: l, b :: m, anti, h, h1, h2 => by
    have h1' := List.pairwise_cons.mp h1
    have h2' := List.pairwise_cons.mp h2
    have e : a = b := by
      rcases List.mem_cons.mp (h.mem_iff.mp (List.mem_cons_self (a := a) (l := l))) with e | ha
      · exact e
      · rcases List.mem_cons.mp (h.mem_iff.mpr (List.mem_cons_self (a := b) (l := m))) with e | hb
        · exact e.symm
        · exact anti a (by simp) b (by simp [hb]) (h1'.1 b hb) (h2'.1 a ha)
    subst e
    rw [perm_sorted_eq (fun x hx y hy => anti x (by simp [hx]) y (by simp [hy])) h.cons_inv h1'.2 h2'.2]
def rowP (r : Rw) : PyData := .tuple (r.map fun q => .tuple [.int q.1, .int q.2])
def trP (t : Tr) : PyData := .tuple [.int (t.pl : Nat), rowP t.rw_, .tuple (t.nu.map .int)]
theorem xL_map {α : Type} {f : α → D} {g : α → PyData} (h : ∀ a, xD (f a) = some (g a)) : ∀ {xs : List α}, xL (xs.map f) = some (xs.map g)
  | [] => rfl
  | x :: xs => by simp only [List.map_cons, xL, h, xL_map h]
theorem xD_row {r : Rw} : xD (rowD r) = some (rowP r) := by
  have h : ∀ q : Int × Int, xD (prD q) = some (.tuple [.int q.1, .int q.2]) := fun q => rfl
  simp only [rowD, xD, xL_map h, Option.map_some, rowP]
theorem xD_tupI {ns : List Int} : xD (tupI ns) = some (.tuple (ns.map .int)) := by
  have h : ∀ n : Int, xD (.int n) = some (.int n) := fun n => rfl
  simp only [tupI, xD, xL_map h, Option.map_some]
theorem xD_tr {t : Tr} : xD (trD t) = some (trP t) := by
  simp only [trD, xD, xL, xD_row, xD_tupI, Option.map_some, trP]
theorem alike_map {α : Type} {f : α → PyData} (h : ∀ a b, PySem.W.alike (f a) (f b) = true) : ∀ {xs ys : List α}, PySem.W.alikeAll (xs.map f) (ys.map f) = true
  | [], _ => by simp [PySem.W.alikeAll]
  | _ :: _, [] => by simp [PySem.W.alikeAll]
  | x :: xs, y :: ys => by simp [PySem.W.alikeAll, h, alike_map h]
theorem alike_row {r s : Rw} : PySem.W.alike (rowP r) (rowP s) = true := by
  simp only [rowP, PySem.W.alike]
  exact alike_map fun a b => by simp [PySem.W.alike, PySem.W.alikeAll]
theorem alike_tr {s t : Tr} : PySem.W.alike (trP s) (trP t) = true := by
  simp only [trP, PySem.W.alike, PySem.W.alikeAll, alike_row, Bool.true_and, Bool.and_true]
  exact PySem.W.alike_ints _ _
theorem depth_map {α : Type} {f : α → PyData} {m : Nat} (h : ∀ a, (f a).depth ≤ m) : ∀ {xs : List α}, PyData.depthAll (xs.map f) ≤ m
  | [] => by simp [PyData.depthAll]
  | x :: xs => by
    simp only [List.map_cons, PyData.depthAll]
    have := h x
    have := depth_map h (xs := xs)
    omega
theorem depth_tr {t : Tr} : (trP t).depth ≤ 50 := by
  have h1 : PyData.depthAll (t.rw_.map fun q => PyData.tuple [.int q.1, .int q.2]) ≤ 1 := depth_map fun q => by simp [PyData.depth, PyData.depthAll]
  have h2 := PySem.W.depth_ints t.nu
  simp only [trP, rowP, PyData.depth, PyData.depthAll, h2]
  omega
theorem le_tr {s t : Tr} (h : s.pl ≠ t.pl) : leD (trD s) (trD t) = decide (s.pl ≤ t.pl) := by
  have e : ∀ t : Tr, encD (trD t) = trP t := fun t => by simp [encD, xD_tr]
  show (!PySem.W.dataLt (encD (trD t)) (encD (trD s))) = _
  rw [e, e]
  unfold trP
  rw [PySem.W.dataLt_tuple, PySem.W.dataLt_cons (by simp [PySem.W.alike])]
  have h' : ¬ (t.pl : Int) = (s.pl : Int) := fun q => h (by omega)
  have h2 : PyData.eqv (.int (t.pl : Int)) (.int (s.pl : Int)) = false := by simp [PyData.eqv, h']
  rw [h2]
  simp only [Bool.false_eq_true, if_false]
  rw [PySem.W.dataLt_int]
  by_cases c : s.pl ≤ t.pl
  · have : ¬ (t.pl : Int) < (s.pl : Int) := by omega
    simp [c, this]
  · have : (t.pl : Int) < (s.pl : Int) := by omega
    simp [c, this]
def sortT (ts : List Tr) : List Tr := ts.mergeSort fun a b => decide (a.pl ≤ b.pl)
theorem sortT_perm {ts : List Tr} : (sortT ts).Perm ts := List.mergeSort_perm _ _
theorem sortT_sorted {ts : List Tr} : (sortT ts).Pairwise fun a b => a.pl ≤ b.pl := by
  have := List.pairwise_mergeSort (le := fun a b : Tr => decide (a.pl ≤ b.pl)) (fun a b c h1 h2 => by simp at *; omega) (fun a b => by simp; omega) ts
  exact this.imp fun h => by simpa using h
theorem pw_distinct {ts : List Tr} (hd : (ts.map (·.pl)).Nodup) : ts.Pairwise fun a b => a.pl ≠ b.pl := List.pairwise_map.mp hd
theorem sem_sortT {ts : List Tr} {S : Sto} {Q : PostE} (hd : (ts.map (·.pl)).Nodup) (hl : ts.length ≤ 1000) : (nSortX false).sem [lstE trD ts] S Q = Q (lstE trD (sortT ts)) S := by
  have al : PySem.W.AllAlike (ts.map trP) := PySem.W.AllAlike.of fun a b => alike_tr
  have so : PySem.W.Sortable (ts.map trP) := PySem.W.Sortable.tuples fun b => ⟨_, _, rfl⟩
  have hx : xL (ts.map trD) = some (ts.map trP) := xL_map fun t => xD_tr
  have hds : ((sortT ts).map (·.pl)).Nodup := (sortT_perm.map _).nodup_iff.mpr hd
  have srt : ((sortT ts).map trD).Pairwise (fun a b => leD a b = true) := by
    rw [List.pairwise_map]
    refine (List.Pairwise.and sortT_sorted (pw_distinct hds)).imp fun {a b} h => ?_
    rw [le_tr h.2]
    simpa using h.1
  refine propext ⟨fun h => ?_, fun h => ?_⟩
  · obtain ⟨d, xs, ps, e, h1, h2, _, _, _, _, h3⟩ := h
    cases e
    simp only [lst_lstE, Option.some.injEq] at h1
    subst h1
    exact h3 _ (sortT_perm.map _) srt
  · refine ⟨_, _, _, rfl, rfl, hx, al, so, by simpa using lim20 (by omega), fun p hp => ?_, fun ys pm pw => ?_⟩
    · obtain ⟨t, _, rfl⟩ := List.mem_map.mp hp
      exact depth_tr
    · have : ys = (sortT ts).map trD := by
        refine perm_sorted_eq (le := fun a b => leD a b = true) (fun a ha b hb h1 h2 => ?_) (pm.trans (sortT_perm.map _).symm) pw srt
        obtain ⟨s, hs, rfl⟩ := List.mem_map.mp (pm.mem_iff.mp ha)
        obtain ⟨t, ht, rfl⟩ := List.mem_map.mp (pm.mem_iff.mp hb)
        by_cases c : s.pl = t.pl
        · have : s = t := by
            obtain ⟨i, hi⟩ := List.mem_iff_getElem?.mp hs
            obtain ⟨j, hj⟩ := List.mem_iff_getElem?.mp ht
            have e1 : (ts.map (·.pl))[i]? = some s.pl := by rw [List.getElem?_map, hi]; rfl
            have e2 : (ts.map (·.pl))[j]? = some s.pl := by rw [List.getElem?_map, hj, c]; rfl
            obtain ⟨l1, q1⟩ := List.getElem?_eq_some_iff.mp e1
            obtain ⟨l2, q2⟩ := List.getElem?_eq_some_iff.mp e2
            have : i = j := (List.getElem_inj hd).mp (q1.trans q2.symm)
            subst this
            rw [hi] at hj
            exact Option.some.inj hj
          rw [this]
        · rw [le_tr c] at h1
          rw [le_tr fun q => c q.symm] at h2
          simp at h1 h2
          omega
      rw [this]
      exact h
end
section
open PySem PySem.Spec L2
theorem addm1 {a b p : Int} : (a % p + b) % p = (a + b) % p := Int.emod_add_emod ..
theorem addm2 {a b p : Int} : (a + b % p) % p = (a + b) % p := Int.add_emod_emod ..
theorem mulm2 {a b p : Int} : a * (b % p) % p = a * b % p := by
  rw [Int.mul_emod, Int.emod_emod_of_dvd _ (Int.dvd_refl p), ← Int.mul_emod]
theorem mulm1 {a b p : Int} : a % p * b % p = a * b % p := by rw [Int.mul_comm, mulm2, Int.mul_comm]
theorem modm {a p : Int} : a % p % p = a % p := Int.emod_emod_of_dvd _ (Int.dvd_refl p)
theorem subm1 {a b p : Int} : (a % p - b) % p = (a - b) % p := by rw [Int.sub_eq_add_neg, addm1, ← Int.sub_eq_add_neg]
theorem subm2 {a b p : Int} : (a - b % p) % p = (a - b) % p := by
  have : a - b = (a - b % p) + (b / p) * (-p) := by
    have := Int.emod_add_mul_ediv b p
    grind
  rw [this, Int.add_emod]
  have e : (b / p) * (-p) % p = 0 := Int.emod_eq_zero_of_dvd ⟨-(b / p), by grind⟩
  rw [e, Int.add_zero, modm]
theorem co_cons2 {q : Int × Int} {r : Rw} {i : Nat} : co (q :: r) (i + 2) = co r i := by
  simp only [co, flat, List.flatMap_cons, List.cons_append, List.nil_append, List.getD_cons_succ]
theorem co_nil {i : Nat} : co [] i = 0 := rfl
theorem co_add {p : Int} : ∀ {r s : Rw} {i : Nat}, r.length = s.length → co (addR p r s) i = (co r i + co s i) % p
  | [], [], i, _ => by simp [addR, co_nil]
  | [], _ :: _, _, h => by simp at h
  | _ :: _, [], _, h => by simp at h
  | q :: r, t :: s, 0, h => rfl
  | q :: r, t :: s, 1, h => rfl
  | q :: r, t :: s, i + 2, h => by
    have e : addR p (q :: r) (t :: s) = ((q.1 + t.1) % p, (q.2 + t.2) % p) :: addR p r s := rfl
    rw [e, co_cons2, co_cons2, co_cons2, co_add (by simpa using h)]
theorem co_mul {p c : Int} : ∀ {r : Rw} {i : Nat}, co (mulR p c r) i = c * co r i % p
  | [], i => by simp [mulR, co_nil]
  | q :: r, 0 => rfl
  | q :: r, 1 => rfl
  | q :: r, i + 2 => by
    have e : mulR p c (q :: r) = (c * q.1 % p, c * q.2 % p) :: mulR p c r := rfl
    rw [e, co_cons2, co_cons2, co_mul]
abbrev nul (n : Nat) : Rw := List.replicate n (0, 0)
theorem co_nul : ∀ {n i : Nat}, co (nul n) i = 0
  | 0, _ => rfl
  | n + 1, 0 => rfl
  | n + 1, 1 => rfl
  | n + 1, i + 2 => by
    show co ((0, 0) :: nul n) (i + 2) = 0
    rw [co_cons2, co_nul]
theorem co_out : ∀ {r : Rw} {i : Nat}, 2 * r.length ≤ i → co r i = 0 := fun {r i} h => by
  unfold co
  rw [List.getD_eq_getElem?_getD, List.getElem?_eq_none (by rw [flat_len]; exact h)]
  rfl
/-- a row of n posts round p -/
structure VR (p : Int) (n : Nat) (r : Rw) : Prop where
  inn : In p r
  len : r.length = n
theorem row_ext : ∀ {r s : Rw}, r.length = s.length → (∀ i, co r i = co s i) → r = s
  | [], [], _, _ => rfl
  | [], _ :: _, h, _ => by simp at h
  | _ :: _, [], h, _ => by simp at h
  | q :: r, t :: s, h, k => by
    have e1 : q.1 = t.1 := k 0
    have e2 : q.2 = t.2 := k 1
    have e3 : r = s := row_ext (by simpa using h) fun i => by have := k (i + 2); rwa [co_cons2, co_cons2] at this
    rw [e3, Prod.ext e1 e2]
section
variable {p : Int} {n : Nat}
theorem VR.mod {r : Rw} (h : VR p n r) (h0 : 0 < p) (i : Nat) : co r i % p = co r i := by
  obtain ⟨a, b⟩ := co_in (i := i) h.inn h0
  exact Int.emod_eq_of_lt a b
theorem VR.add {r s : Rw} (h0 : 0 < p) (h : VR p n r) (k : VR p n s) : VR p n (addR p r s) := ⟨addR_in h0, by rw [addR_len, h.len, k.len, Nat.min_self]⟩
theorem VR.mul {r : Rw} {c : Int} (h0 : 0 < p) (h : VR p n r) : VR p n (mulR p c r) := ⟨mulR_in h0, by rw [mulR_len, h.len]⟩
theorem VR.nul (h0 : 0 < p) : VR p n (FP.nul n) := ⟨nought_in h0, by simp⟩
theorem VR.co_add {r s : Rw} (h : VR p n r) (k : VR p n s) (i : Nat) : co (addR p r s) i = (co r i + co s i) % p := FP.co_add (h.len.trans k.len.symm)
inductive Spn (p : Int) (n : Nat) (A : Rw → Prop) : Rw → Prop
  | zero : Spn p n A (FP.nul n)
  | step {v a : Rw} {c : Int} : Spn p n A v → A a → Spn p n A (addR p v (mulR p c a))
variable {A B : Rw → Prop}
theorem Spn.vr (h0 : 0 < p) (hA : ∀ a, A a → VR p n a) {v : Rw} (h : Spn p n A v) : VR p n v := by
  induction h with
  | zero => exact .nul h0
  | step h ha ih => exact ih.add h0 ((hA _ ha).mul h0)
theorem Spn.add (h0 : 0 < p) (hA : ∀ a, A a → VR p n a) {u v : Rw} (hu : Spn p n A u) (hv : Spn p n A v) : Spn p n A (addR p u v) := by
  induction hv with
  | zero =>
    have e : addR p u (FP.nul n) = u := row_ext (by rw [addR_len, (hu.vr h0 hA).len]; simp) fun i => by
      rw [(hu.vr h0 hA).co_add (.nul h0), co_nul, Int.add_zero, (hu.vr h0 hA).mod h0]
    rw [e]; exact hu
  | @step w a c hw ha ih =>
    have vu := hu.vr h0 hA
    have vw := hw.vr h0 hA
    have va := hA a ha
    have e : addR p u (addR p w (mulR p c a)) = addR p (addR p u w) (mulR p c a) := row_ext (by simp only [addR_len, mulR_len, vu.len, vw.len, va.len]; simp) fun i => by
      rw [vu.co_add (vw.add h0 (va.mul h0)), vw.co_add (va.mul h0), (vu.add h0 vw).co_add (va.mul h0), vu.co_add vw, addm1, addm2, Int.add_assoc]
    rw [e]
    exact .step ih ha
theorem Spn.mul (h0 : 0 < p) (hA : ∀ a, A a → VR p n a) {u : Rw} {d : Int} (hu : Spn p n A u) : Spn p n A (mulR p d u) := by
  induction hu with
  | zero =>
    have e : mulR p d (FP.nul n) = FP.nul n := row_ext (by rw [mulR_len]) fun i => by rw [co_mul, co_nul, Int.mul_zero]; simp
    rw [e]; exact .zero
  | @step w a c hw ha ih =>
    have vw := hw.vr h0 hA
    have va := hA a ha
    have e : mulR p d (addR p w (mulR p c a)) = addR p (mulR p d w) (mulR p (d * c) a) := row_ext (by simp only [addR_len, mulR_len]) fun i => by
      rw [co_mul, vw.co_add (va.mul h0), co_mul, mulm2, Int.mul_add, (vw.mul h0).co_add (va.mul h0), co_mul, co_mul, addm1, addm2, ← Int.add_emod_emod, mulm2, Int.add_emod_emod, Int.mul_assoc]
    rw [e]
    exact .step ih ha
theorem Spn.of (h0 : 0 < p) (hA : ∀ a, A a → VR p n a) {a : Rw} (ha : A a) : Spn p n A a := by
  have va := hA a ha
  have e : addR p (FP.nul n) (mulR p 1 a) = a := row_ext (by rw [addR_len, mulR_len, va.len]; simp) fun i => by
    rw [(VR.nul h0).co_add (va.mul h0), co_nul, Int.zero_add, co_mul, modm, Int.one_mul, va.mod h0]
  have := Spn.step (c := 1) (Spn.zero (p := p) (n := n) (A := A)) ha
  rwa [e] at this
theorem Spn.mono (h0 : 0 < p) (hB : ∀ a, B a → VR p n a) (h : ∀ a, A a → Spn p n B a) {v : Rw} (hv : Spn p n A v) : Spn p n B v := by
  induction hv with
  | zero => exact .zero
  | step _ ha ih => exact ih.add h0 hB ((h _ ha).mul h0 hB)
theorem Spn.incl {v : Rw} (h : ∀ a, A a → B a) (hv : Spn p n A v) : Spn p n B v := by
  induction hv with
  | zero => exact .zero
  | step _ ha ih => exact .step ih (h _ ha)
/-- r less c times o -/
theorem Spn.sub (h0 : 0 < p) (hA : ∀ a, A a → VR p n a) {u v : Rw} {c : Int} (hu : Spn p n A u) (hv : Spn p n A v) : Spn p n A (addR p u (mulR p c v)) := hu.add h0 hA (hv.mul h0 hA)
/-- rows of a plain set with their first places -/
structure Pl (p : Int) (n : Nat) (A : List (Nat × Rw)) : Prop where
  vr : ∀ t ∈ A, VR p n t.2
  pl : ∀ t ∈ A, t.1 < 2 * n
  nod : (A.map (·.1)).Nodup
  one : ∀ t ∈ A, co t.2 t.1 = 1
  zer : ∀ t ∈ A, ∀ s ∈ A, s.1 ≠ t.1 → co s.2 t.1 = 0
  lead : ∀ t ∈ A, ∀ j < t.1, co t.2 j = 0
def rwsOf (A : List (Nat × Rw)) : Rw → Prop := fun r => ∃ t ∈ A, t.2 = r
theorem Pl.hA {A : List (Nat × Rw)} (P : Pl p n A) : ∀ a, rwsOf A a → VR p n a := fun a ⟨t, ht, e⟩ => e ▸ P.vr t ht
/-- a row of the lot by its numbers at the first places -/
def lin (A : List (Nat × Rw)) (v : Rw) (j : Nat) : Int := (A.map fun t => co v t.1 * co t.2 j).sum
theorem sum_mod {l : List Int} : ∀ {m : List Int}, l.length = m.length → (∀ i (h1 : i < l.length) (h2 : i < m.length), l[i] % p = m[i] % p) → l.sum % p = m.sum % p := by
  induction l with
  | nil => intro m h _; cases m with
    | nil => rfl
    | cons a m => simp at h
  | cons a l ih =>
    intro m h k
    cases m with
    | nil => simp at h
    | cons b m =>
      have e1 : a % p = b % p := k 0 (by simp) (by simp)
      have e2 := ih (m := m) (by simpa using h) fun i h1 h2 => k (i + 1) (by simpa using h1) (by simpa using h2)
      rw [List.sum_cons, List.sum_cons, Int.add_emod, e1, e2, ← Int.add_emod]
theorem sum_map_add {α : Type} {f g : α → Int} : ∀ {l : List α}, (l.map fun a => f a + g a).sum = (l.map f).sum + (l.map g).sum
  | [] => rfl
  | a :: l => by simp only [List.map_cons, List.sum_cons, sum_map_add (l := l)]; omega
theorem sum_map_mul {α : Type} {f : α → Int} {c : Int} : ∀ {l : List α}, (l.map fun a => c * f a).sum = c * (l.map f).sum
  | [] => by simp
  | a :: l => by simp only [List.map_cons, List.sum_cons, sum_map_mul (l := l), Int.mul_add]
theorem sum_map_mod {α : Type} {f g : α → Int} {l : List α} (h : ∀ a ∈ l, f a % p = g a % p) : (l.map f).sum % p = (l.map g).sum % p := by
  refine sum_mod (by simp) fun i h1 h2 => ?_
  simp only [List.length_map] at h1
  simp only [List.getElem_map]
  exact h _ (List.getElem_mem h1)
theorem sum_zero {α : Type} {f : α → Int} : ∀ {l : List α}, (∀ a ∈ l, f a = 0) → (l.map f).sum = 0
  | [], _ => rfl
  | a :: l, h => by simp only [List.map_cons, List.sum_cons, h a (List.mem_cons_self ..), sum_zero fun b hb => h b (List.mem_cons_of_mem _ hb), Int.add_zero]
/-- just one of them counts -/
theorem sum_one {A : List (Nat × Rw)} {f : Nat × Rw → Int} (nod : (A.map (·.1)).Nodup) : ∀ {t : Nat × Rw}, t ∈ A → (∀ s ∈ A, s.1 ≠ t.1 → f s = 0) → (A.map f).sum = f t := by
  induction A with
  | nil => intro t ht; simp at ht
  | cons a A ih =>
    intro t ht h
    rw [List.map_cons, List.nodup_cons] at nod
    rw [List.map_cons, List.sum_cons]
    rcases List.mem_cons.mp ht with rfl | ht
    · rw [sum_zero fun s hs => h s (List.mem_cons_of_mem _ hs) fun q => nod.1 (q ▸ List.mem_map.mpr ⟨s, hs, rfl⟩), Int.add_zero]
    · rw [h a (List.mem_cons_self ..) fun q => nod.1 (q ▸ List.mem_map.mpr ⟨t, ht, rfl⟩), Int.zero_add]
      exact ih nod.2 ht fun s hs => h s (List.mem_cons_of_mem _ hs)
variable {A B : List (Nat × Rw)}
theorem lin_add {u v : Rw} {j : Nat} (hu : VR p n u) (hv : VR p n v) : lin A (addR p u v) j % p = (lin A u j + lin A v j) % p := by
  unfold lin
  rw [← sum_map_add]
  refine sum_map_mod fun t _ => ?_
  rw [hu.co_add hv, mulm1, Int.add_mul]
theorem lin_mul {u : Rw} {c : Int} {j : Nat} : lin A (mulR p c u) j % p = c * lin A u j % p := by
  unfold lin
  rw [← sum_map_mul]
  refine sum_map_mod fun t _ => ?_
  rw [co_mul, mulm1, Int.mul_assoc]
theorem Pl.lin_own (P : Pl p n A) {t : Nat × Rw} (ht : t ∈ A) (j : Nat) : lin A t.2 j = co t.2 j := by
  unfold lin
  rw [sum_one P.nod ht]
  · rw [P.one t ht, Int.one_mul]
  · intro s hs hne
    rw [P.zer s hs t ht fun q => hne q.symm, Int.zero_mul]
theorem Pl.lin (P : Pl p n A) (h0 : 0 < p) {v : Rw} (hv : Spn p n (rwsOf A) v) (j : Nat) : co v j = FP.lin A v j % p := by
  have vv := hv.vr h0 P.hA
  rw [← vv.mod h0]
  clear vv
  induction hv with
  | zero =>
    rw [co_nul]
    unfold FP.lin
    rw [sum_zero fun t _ => by rw [co_nul, Int.zero_mul]]
  | @step w a c hw ha ih =>
    obtain ⟨t, ht, rfl⟩ := ha
    have vw := hw.vr h0 P.hA
    have va := P.vr t ht
    rw [vw.co_add (va.mul h0), modm, lin_add vw (va.mul h0), co_mul, ← addm1, ih, addm1, addm2, ← addm2 (a := FP.lin A w j) (b := FP.lin A (mulR p c t.2) j), lin_mul, addm2, P.lin_own ht]
/-- the first place of a row of the lot is one of the first places -/
theorem Pl.first (P : Pl p n A) (h0 : 0 < p) {v : Rw} (hv : Spn p n (rwsOf A) v) {i : Nat} (hi : co v i ≠ 0) (hz : ∀ j < i, co v j = 0) : ∃ t ∈ A, t.1 = i := by
  have e := P.lin h0 hv i
  by_cases c : ∀ t ∈ A, co v t.1 * co t.2 i = 0
  · exfalso
    apply hi
    rw [e]
    unfold FP.lin
    rw [sum_zero c]
    simp
  · simp only [Classical.not_forall] at c
    obtain ⟨t, ht, c⟩ := c
    have c1 : co v t.1 ≠ 0 := fun q => c (by rw [q, Int.zero_mul])
    have c2 : co t.2 i ≠ 0 := fun q => c (by rw [q, Int.mul_zero])
    refine ⟨t, ht, ?_⟩
    have a1 : ¬ t.1 < i := fun q => c1 (hz _ q)
    have a2 : ¬ i < t.1 := fun q => c2 (P.lead t ht i q)
    omega
theorem one_lt (h2 : 2 ≤ p) : (1 : Int) % p = 1 := Int.emod_eq_of_lt (by omega) (by omega)
theorem Pl.places (PA : Pl p n A) (PB : Pl p n B) (h0 : 0 < p) (hAB : ∀ t ∈ A, Spn p n (rwsOf B) t.2) : ∀ t ∈ A, ∃ s ∈ B, s.1 = t.1 := fun t ht =>
  PB.first h0 (hAB t ht) (by rw [PA.one t ht]; decide) (PA.lead t ht)
/-- two plain sets that span the same have the same rows at the same places -/
theorem Pl.same (PA : Pl p n A) (PB : Pl p n B) (h0 : 0 < p) (hAB : ∀ t ∈ A, Spn p n (rwsOf B) t.2) (hBA : ∀ t ∈ B, Spn p n (rwsOf A) t.2) {t s : Nat × Rw} (ht : t ∈ A) (hs : s ∈ B) (e : s.1 = t.1) : s.2 = t.2 := by
  refine row_ext ((PB.vr s hs).len.trans (PA.vr t ht).len.symm) fun j => ?_
  have e1 := PB.lin h0 (hAB t ht) j
  have e2 : FP.lin B t.2 j = co s.2 j := by
    unfold FP.lin
    rw [sum_one PB.nod hs]
    · rw [e, PA.one t ht, Int.one_mul]
    · intro b hb hne
      obtain ⟨a, ha, ea⟩ := PB.places PA h0 hBA b hb
      have : co t.2 b.1 = 0 := by rw [← ea]; exact PA.zer a ha t ht (by rw [ea, ← e]; exact fun q => hne q.symm)
      rw [this, Int.zero_mul]
  rw [e1, e2, (PB.vr s hs).mod h0]
theorem Pl.uniq (PA : Pl p n A) (PB : Pl p n B) (h0 : 0 < p) (hAB : ∀ t ∈ A, Spn p n (rwsOf B) t.2) (hBA : ∀ t ∈ B, Spn p n (rwsOf A) t.2) (sA : A.Pairwise fun a b => a.1 ≤ b.1) (sB : B.Pairwise fun a b => a.1 ≤ b.1) : A = B := by
  have mem : ∀ {A B : List (Nat × Rw)}, Pl p n A → Pl p n B → (∀ t ∈ A, Spn p n (rwsOf B) t.2) → (∀ t ∈ B, Spn p n (rwsOf A) t.2) → ∀ t ∈ A, t ∈ B := fun {A B} PA PB hAB hBA t ht => by
    obtain ⟨s, hs, e⟩ := PA.places PB h0 hAB t ht
    have := PA.same PB h0 hAB hBA ht hs e
    rwa [show t = s from Prod.ext e.symm this.symm]
  have ndA : A.Nodup := (List.pairwise_map.mp PA.nod).imp fun h q => h (by rw [q])
  have ndB : B.Nodup := (List.pairwise_map.mp PB.nod).imp fun h q => h (by rw [q])
  have pm : A.Perm B := (List.perm_ext_iff_of_nodup ndA ndB).mpr fun a => ⟨fun h => mem PA PB hAB hBA a h, fun h => mem PB PA hBA hAB a h⟩
  refine perm_sorted_eq (fun a ha b hb h1 h2 => ?_) pm sA sB
  have : a.1 = b.1 := Nat.le_antisymm h1 h2
  by_cases c : a = b
  · exact c
  · exfalso
    obtain ⟨i, hi⟩ := List.mem_iff_getElem?.mp ha
    obtain ⟨j, hj⟩ := List.mem_iff_getElem?.mp hb
    have e1 : (A.map (·.1))[i]? = some a.1 := by rw [List.getElem?_map, hi]; rfl
    have e2 : (A.map (·.1))[j]? = some a.1 := by rw [List.getElem?_map, hj, this]; rfl
    obtain ⟨l1, q1⟩ := List.getElem?_eq_some_iff.mp e1
    obtain ⟨l2, q2⟩ := List.getElem?_eq_some_iff.mp e2
    have : i = j := (List.getElem_inj PA.nod).mp (q1.trans q2.symm)
    subst this
    rw [hi] at hj
    exact c (Option.some.inj hj)
end
end
section
open PySem PySem.Spec L2
def prT (t : Tr) : Nat × Rw := (t.pl, t.rw_)
section
variable {p : Int} {n : Nat}
theorem VR.clr {r o : Rw} {i : Nat} (h0 : 0 < p) (h : VR p n r) (k : VR p n o) : VR p n (clr p r o i) := h.add h0 (k.mul h0)
theorem co_clr {r o : Rw} {i j : Nat} (h : VR p n r) (k : VR p n o) (h0 : 0 < p) : co (clr p r o i) j = (co r j - co r i * co o j) % p := by
  rw [clr, h.co_add (k.mul h0), co_mul, addm2]
  congr 1
  grind
theorem clr_iff {B : Rw → Prop} (h0 : 0 < p) (hB : ∀ a, B a → VR p n a) {u t : Rw} {i : Nat} (hu : VR p n u) (ht : Spn p n B t) : Spn p n B u ↔ Spn p n B (clr p u t i) := by
  have vt := ht.vr h0 hB
  refine ⟨fun h => h.sub h0 hB ht, fun h => ?_⟩
  have e : addR p (clr p u t i) (mulR p (co u i) t) = u := row_ext (by rw [addR_len, mulR_len, (hu.clr h0 vt).len, vt.len, hu.len, Nat.min_self]) fun j => by
    rw [(hu.clr h0 vt).co_add (vt.mul h0), co_clr hu vt h0, co_mul, addm1, addm2]
    have e : co u j - co u i * co t j + co u i * co t j = co u j := by grind
    rw [e, hu.mod h0]
  rw [← e]
  exact h.sub h0 hB ht
theorem Pl.nil : Pl p n [] := ⟨by simp, by simp, by simp, by simp, by simp, by simp⟩
/-- a further row of a plain set -/
theorem Pl.more {found : List Tr} {t : Tr} (P : Pl p n (found.map prT)) (h2 : 2 ≤ p) (ht : VR p n t.rw_) (hp : t.pl < 2 * n) (h1 : co t.rw_ t.pl = 1) (hz : ∀ s ∈ found, co t.rw_ s.pl = 0) (hl : ∀ j < t.pl, co t.rw_ j = 0) :
    Pl p n ((found.map (lessF p t) ++ [t]).map prT) := by
  have h0 : 0 < p := by omega
  have mem : ∀ {u}, u ∈ (found.map (lessF p t) ++ [t]).map prT → (∃ s ∈ found, u = (s.pl, FP.clr p s.rw_ t.rw_ t.pl)) ∨ u = (t.pl, t.rw_) := fun {u} hu => by
    obtain ⟨v, hv, rfl⟩ := List.mem_map.mp hu
    rcases List.mem_append.mp hv with hv | hv
    · obtain ⟨s, hs, rfl⟩ := List.mem_map.mp hv
      exact .inl ⟨s, hs, rfl⟩
    · rw [List.mem_singleton.mp hv]; exact .inr rfl
  have inF : ∀ {s : Tr}, s ∈ found → prT s ∈ found.map prT := fun hs => List.mem_map.mpr ⟨_, hs, rfl⟩
  have ne : ∀ {s : Tr}, s ∈ found → s.pl ≠ t.pl := fun {s} hs q => by
    have := hz s hs
    rw [q, h1] at this
    cases this
  have cc : ∀ {s : Tr} {j : Nat}, s ∈ found → co (FP.clr p s.rw_ t.rw_ t.pl) j = (co s.rw_ j - co s.rw_ t.pl * co t.rw_ j) % p := fun {s j} hs => co_clr (P.vr _ (inF hs)) ht h0
  refine ⟨fun u hu => ?_, fun u hu => ?_, ?_, fun u hu => ?_, fun u hu v hv huv => ?_, fun u hu j hj => ?_⟩
  · rcases mem hu with ⟨s, hs, rfl⟩ | rfl
    · exact (P.vr _ (inF hs)).clr h0 ht
    · exact ht
  · rcases mem hu with ⟨s, hs, rfl⟩ | rfl
    · exact (show s.pl < 2 * n from P.pl (prT s) (inF hs))
    · exact hp
  · have e : ((found.map (lessF p t) ++ [t]).map prT).map (·.1) = (found.map prT).map (·.1) ++ [t.pl] := by simp [prT, lessF, Function.comp_def]
    rw [e]
    refine List.nodup_append.mpr ⟨P.nod, by simp, fun a ha b hb q => ?_⟩
    rw [List.mem_singleton.mp hb] at q
    obtain ⟨u, hu, rfl⟩ := List.mem_map.mp ha
    obtain ⟨s, hs, rfl⟩ := List.mem_map.mp hu
    exact ne hs q
  · rcases mem hu with ⟨s, hs, rfl⟩ | rfl
    · show co (FP.clr p s.rw_ t.rw_ t.pl) s.pl = 1
      have := P.one _ (inF hs)
      rw [cc hs, hz s hs, Int.mul_zero, Int.sub_zero]
      show co s.rw_ s.pl % p = 1
      rw [show co s.rw_ s.pl = 1 from this]
      exact one_lt h2
    · exact h1
  · rcases mem hu with ⟨s, hs, rfl⟩ | rfl
    · rcases mem hv with ⟨s', hs', rfl⟩ | rfl
      · show co (FP.clr p s'.rw_ t.rw_ t.pl) s.pl = 0
        rw [cc hs', hz s hs, Int.mul_zero, Int.sub_zero, show co s'.rw_ s.pl = 0 from P.zer _ (inF hs) _ (inF hs') huv]
        simp
      · exact hz s hs
    · rcases mem hv with ⟨s', hs', rfl⟩ | rfl
      · show co (FP.clr p s'.rw_ t.rw_ t.pl) t.pl = 0
        rw [cc hs', h1, Int.mul_one, Int.sub_self]
        simp
      · exact absurd rfl huv
  · rcases mem hu with ⟨s, hs, rfl⟩ | rfl
    · show co (FP.clr p s.rw_ t.rw_ t.pl) j = 0
      have hj' : j < s.pl := hj
      have e1 : co s.rw_ j = 0 := P.lead _ (inF hs) j hj'
      rw [cc hs, e1]
      by_cases c : j < t.pl
      · rw [hl j c]; simp
      · have : co s.rw_ t.pl = 0 := P.lead _ (inF hs) t.pl (by show t.pl < s.pl; omega)
        rw [this]; simp
    · exact hl j hj
/-- a row cleared by a plain set -/
def cleanI (p : Int) (found : List Tr) (q : Rw × List Int) : Rw × List Int := found.foldl (stepI p) q
theorem clean_vr (h0 : 0 < p) : ∀ {found : List Tr} {q : Rw × List Int}, (∀ t ∈ found, VR p n t.rw_) → VR p n q.1 → VR p n (cleanI p found q).1
  | [], _, _, h => h
  | t :: found, q, hf, h => clean_vr h0 (found := found) (fun s hs => hf s (List.mem_cons_of_mem _ hs)) (h.clr h0 (hf t (List.mem_cons_self ..)))
theorem clean_iff {B : Rw → Prop} (h0 : 0 < p) (hB : ∀ a, B a → VR p n a) : ∀ {found : List Tr} {q : Rw × List Int}, (∀ t ∈ found, Spn p n B t.rw_) → VR p n q.1 → (Spn p n B q.1 ↔ Spn p n B (cleanI p found q).1)
  | [], _, _, _ => Iff.rfl
  | t :: found, q, hf, h => by
    have ht := hf t (List.mem_cons_self ..)
    refine (clr_iff (i := t.pl) h0 hB h ht).trans ?_
    exact clean_iff h0 hB (found := found) (q := stepI p q t) (fun s hs => hf s (List.mem_cons_of_mem _ hs)) (h.clr h0 (ht.vr h0 hB))
theorem clean_zero' (h0 : 0 < p) {done : List Tr} : ∀ {found : List Tr} {q : Rw × List Int}, Pl p n ((done ++ found).map prT) → VR p n q.1 → (∀ t ∈ done, co q.1 t.pl = 0) → ∀ t ∈ done ++ found, co (cleanI p found q).1 t.pl = 0
  | [], q, P, h, hd => by
    intro t ht
    rw [List.append_nil] at ht
    exact hd t ht
  | t :: found, q, P, h, hd => by
    have e : done ++ t :: found = (done ++ [t]) ++ found := by simp
    have mt : prT t ∈ (done ++ t :: found).map prT := List.mem_map.mpr ⟨t, by simp, rfl⟩
    have vt : VR p n t.rw_ := P.vr _ mt
    rw [e] at P ⊢
    refine clean_zero' h0 (done := done ++ [t]) (found := found) (q := stepI p q t) P (h.clr h0 vt) fun s hs => ?_
    show co (clr p q.1 t.rw_ t.pl) s.pl = 0
    rw [co_clr h vt h0]
    rcases List.mem_append.mp hs with hs | hs
    · have ms : prT s ∈ ((done ++ [t]) ++ found).map prT := List.mem_map.mpr ⟨s, by simp [hs], rfl⟩
      rw [← e] at ms P
      rw [hd s hs]
      by_cases c : t.pl = s.pl
      · have : co q.1 t.pl = 0 := by rw [c]; exact hd s hs
        rw [this]; simp
      · rw [show co t.rw_ s.pl = 0 from P.zer _ ms _ mt c]; simp
    · rw [List.mem_singleton.mp hs]
      rw [← e] at P
      rw [show co t.rw_ t.pl = 1 from P.one _ mt, Int.mul_one, Int.sub_self]
      simp
theorem clean_zero (h0 : 0 < p) {found : List Tr} {q : Rw × List Int} (P : Pl p n (found.map prT)) (h : VR p n q.1) : ∀ t ∈ found, co (cleanI p found q).1 t.pl = 0 := by
  have := clean_zero' h0 (done := []) (found := found) (q := q) (by simpa using P) h (by simp)
  simpa using this
/-- a word about a row and its numbers that goes through the steps -/
structure Good (p : Int) (n : Nat) (G : Rw → List Int → Prop) : Prop where
  clr : ∀ r o ns ms i, VR p n r → VR p n o → G r ns → G o ms → G (clr p r o i) (subN p (co r i) ns ms)
  mul : ∀ r ns c, VR p n r → G r ns → G (mulR p c r) (mulN p c ns)
theorem clean_good {G : Rw → List Int → Prop} (g : Good p n G) (h0 : 0 < p) : ∀ {found : List Tr} {q : Rw × List Int}, (∀ t ∈ found, VR p n t.rw_ ∧ G t.rw_ t.nu) → VR p n q.1 → G q.1 q.2 → G (cleanI p found q).1 (cleanI p found q).2
  | [], _, _, _, h => h
  | t :: found, q, hf, v, h => by
    obtain ⟨vt, gt⟩ := hf t (List.mem_cons_self ..)
    exact clean_good g h0 (found := found) (q := stepI p q t) (fun s hs => hf s (List.mem_cons_of_mem _ hs)) (v.clr h0 vt) (g.clr _ _ _ _ _ v vt h gt)
def rwsIn (rows : List (Rw × List Int)) : Rw → Prop := fun r => ∃ q ∈ rows, q.1 = r
structure WInv (p : Int) (n : Nat) (G : Rw → List Int → Prop) (rows : List (Rw × List Int)) (found : List Tr) : Prop where
  pl : Pl p n (found.map prT)
  to : ∀ t ∈ found, Spn p n (rwsIn rows) t.rw_
  back : ∀ q ∈ rows, Spn p n (rwsOf (found.map prT)) q.1
  good : ∀ t ∈ found, G t.rw_ t.nu
theorem rwsIn_vr {rows : List (Rw × List Int)} (h : ∀ q ∈ rows, VR p n q.1) : ∀ a, rwsIn rows a → VR p n a := fun a ⟨q, hq, e⟩ => e ▸ h q hq
theorem WInv.step {G : Rw → List Int → Prop} (g : Good p n G) (hp : isPr p) {rows : List (Rw × List Int)} {found : List Tr} {q : Rw × List Int} (hr : ∀ q ∈ rows, VR p n q.1) (hq : VR p n q.1) (gq : G q.1 q.2) (W : WInv p n G rows found) : WInv p n G (rows ++ [q]) (wStep p found q) := by
  have hb := isPr_b hp
  have h0 : 0 < p := by omega
  have hr' : ∀ q' ∈ rows ++ [q], VR p n q'.1 := fun q' h => by
    rcases List.mem_append.mp h with h | h
    · exact hr _ h
    · rw [List.mem_singleton.mp h]; exact hq
  have vR := rwsIn_vr hr'
  have old : ∀ {v}, Spn p n (rwsIn rows) v → Spn p n (rwsIn (rows ++ [q])) v := fun h => h.incl fun a ⟨q', h, e⟩ => ⟨q', by simp [h], e⟩
  have vF : ∀ t ∈ found, VR p n t.rw_ := fun t ht => W.pl.vr _ (List.mem_map.mpr ⟨t, ht, rfl⟩)
  have gq' := clean_good g h0 (fun t ht => ⟨vF t ht, W.good t ht⟩) hq gq
  have vq' := clean_vr (q := q) h0 vF hq
  have zq' := clean_zero (q := q) h0 W.pl hq
  have sq : Spn p n (rwsIn (rows ++ [q])) (cleanI p found q).1 := (clean_iff h0 vR (fun t ht => old (W.to t ht)) hq).mp (.of h0 vR ⟨q, by simp, rfl⟩)
  have bk : ∀ {B : Rw → Prop}, (∀ a, B a → VR p n a) → (∀ t ∈ found, Spn p n B t.rw_) → Spn p n B (cleanI p found q).1 → ∀ q' ∈ rows ++ [q], Spn p n B q'.1 := fun {B} hB hf hc q' h => by
    rcases List.mem_append.mp h with h | h
    · exact (W.back q' h).mono h0 hB fun a ⟨t, ht, e⟩ => by
        obtain ⟨s, hs, rfl⟩ := List.mem_map.mp ht
        exact e ▸ hf s hs
    · rw [List.mem_singleton.mp h]; exact (clean_iff h0 hB hf hq).mpr hc
  have ofF : ∀ t ∈ found, Spn p n (rwsOf (found.map prT)) t.rw_ := fun t ht => .of h0 W.pl.hA ⟨prT t, List.mem_map.mpr ⟨t, ht, rfl⟩, rfl⟩
  unfold wStep
  show WInv p n G (rows ++ [q]) (match fstP (cleanI p found q).1 with
    | none => found
    | some i => found.map (lessF p ⟨i, mulR p (invP p (co (cleanI p found q).1 i)) (cleanI p found q).1, mulN p (invP p (co (cleanI p found q).1 i)) (cleanI p found q).2⟩) ++ [⟨i, mulR p (invP p (co (cleanI p found q).1 i)) (cleanI p found q).1, mulN p (invP p (co (cleanI p found q).1 i)) (cleanI p found q).2⟩])
  generalize cleanI p found q = q' at *
  cases e : fstP q'.1 with
  | none =>
    have hz := fstP_none e
    have e0 : q'.1 = nul n := row_ext (by rw [vq'.len]; simp) fun i => by rw [hz, co_nul]
    refine ⟨W.pl, fun t ht => old (W.to t ht), bk W.pl.hA ofF (by rw [e0]; exact .zero), W.good⟩
  | some i =>
    obtain ⟨hi, hne, hz⟩ := fstP_some e
    obtain ⟨c0, c1⟩ := co_in (i := i) vq'.inn h0
    obtain ⟨i1, i2, i3, _⟩ := invP_ok hp (show 0 < co q'.1 i by omega) c1
    dsimp only
    generalize hc : invP p (co q'.1 i) = c at *
    have one : co (mulR p c q'.1) i = 1 := by rw [co_mul, Int.mul_comm, i3]
    generalize ht : (⟨i, mulR p c q'.1, mulN p c q'.2⟩ : Tr) = t
    have t1 : t.pl = i := by rw [← ht]
    have t2 : t.rw_ = mulR p c q'.1 := by rw [← ht]
    have t3 : t.nu = mulN p c q'.2 := by rw [← ht]
    have vt : VR p n t.rw_ := by rw [t2]; exact vq'.mul h0
    have P' := W.pl.more (t := t) hb.1 vt (by rw [t1, ← vq'.len]; exact hi) (by rw [t1, t2]; exact one) (fun s hs => by rw [t2, co_mul, zq' s hs]; simp) (fun j hj => by rw [t1] at hj; rw [t2, co_mul, hz j hj]; simp)
    have st : Spn p n (rwsIn (rows ++ [q])) t.rw_ := by rw [t2]; exact sq.mul h0 vR
    have hmem : ∀ u ∈ found.map (lessF p t) ++ [t], (∃ s ∈ found, u = lessF p t s) ∨ u = t := fun u hu => by
      rcases List.mem_append.mp hu with hu | hu
      · obtain ⟨s, hs, rfl⟩ := List.mem_map.mp hu
        exact .inl ⟨s, hs, rfl⟩
      · exact .inr (List.mem_singleton.mp hu)
    have tB : Spn p n (rwsOf ((found.map (lessF p t) ++ [t]).map prT)) t.rw_ := .of h0 P'.hA ⟨prT t, List.mem_map.mpr ⟨t, by simp, rfl⟩, rfl⟩
    refine ⟨P', fun u hu => ?_, bk P'.hA (fun s hs => ?_) ?_, fun u hu => ?_⟩
    · rcases hmem u hu with ⟨s, hs, rfl⟩ | rfl
      · exact (old (W.to s hs)).sub h0 vR st
      · exact st
    · refine (clr_iff (i := t.pl) h0 P'.hA (vF s hs) tB).mpr (.of h0 P'.hA ⟨prT (lessF p t s), List.mem_map.mpr ⟨_, List.mem_append_left _ (List.mem_map.mpr ⟨s, hs, rfl⟩), rfl⟩, rfl⟩)
    · have e2 : mulR p (co q'.1 i) t.rw_ = q'.1 := row_ext (by rw [t2, mulR_len, mulR_len]) fun j => by
        rw [t2, co_mul, co_mul, mulm2, ← Int.mul_assoc, ← mulm1, i3, Int.one_mul, vq'.mod h0]
      rw [← e2]
      exact tB.mul h0 P'.hA
    · rcases hmem u hu with ⟨s, hs, rfl⟩ | rfl
      · exact g.clr _ _ _ _ _ (vF s hs) vt (W.good s hs) (by rw [t2, t3]; exact g.mul _ _ _ vq' gq')
      · rw [t2, t3]; exact g.mul _ _ _ vq' gq'
theorem wAll_ok {G : Rw → List Int → Prop} (g : Good p n G) (hp : isPr p) {rows : List (Rw × List Int)} (hr : ∀ q ∈ rows, VR p n q.1 ∧ G q.1 q.2) : WInv p n G rows (wAll p rows) := by
  have key : ∀ (rest done : List (Rw × List Int)) (found : List Tr), (∀ q ∈ done ++ rest, VR p n q.1 ∧ G q.1 q.2) → WInv p n G done found → WInv p n G (done ++ rest) (rest.foldl (wStep p) found) := by
    intro rest
    induction rest with
    | nil => intro done found _ W; simpa using W
    | cons q rest ih =>
      intro done found h W
      have e : done ++ q :: rest = (done ++ [q]) ++ rest := by simp
      rw [e] at h ⊢
      have hq := h q (by simp)
      exact ih (done ++ [q]) (wStep p found q) h (W.step g hp (fun q' h' => (h q' (by simp [h'])).1) hq.1 hq.2)
  have := key rows [] [] (by simpa using hr) ⟨.nil, by simp, by simp, by simp⟩
  simpa [wAll] using this
theorem Pl.perm {A B : List (Nat × Rw)} (h : A.Perm B) (P : Pl p n A) : Pl p n B :=
  ⟨fun t ht => P.vr t (h.mem_iff.mpr ht), fun t ht => P.pl t (h.mem_iff.mpr ht), (h.map _).nodup_iff.mp P.nod, fun t ht => P.one t (h.mem_iff.mpr ht), fun t ht s hs => P.zer t (h.mem_iff.mpr ht) s (h.mem_iff.mpr hs), fun t ht => P.lead t (h.mem_iff.mpr ht)⟩
theorem rwsOf_perm {A B : List (Nat × Rw)} (h : A.Perm B) {r : Rw} (hr : rwsOf A r) : rwsOf B r := by
  obtain ⟨t, ht, e⟩ := hr
  exact ⟨t, h.mem_iff.mp ht, e⟩
def wSort (p : Int) (rows : List (Rw × List Int)) : List Tr := sortT (wAll p rows)
theorem wSort_ok {G : Rw → List Int → Prop} (g : Good p n G) (hp : isPr p) {rows : List (Rw × List Int)} (hr : ∀ q ∈ rows, VR p n q.1 ∧ G q.1 q.2) : WInv p n G rows (wSort p rows) ∧ ((wSort p rows).map prT).Pairwise fun a b => a.1 ≤ b.1 := by
  have W := wAll_ok g hp hr
  have pm : (wSort p rows).Perm (wAll p rows) := sortT_perm
  refine ⟨⟨W.pl.perm (pm.map _).symm, fun t ht => W.to t (pm.mem_iff.mp ht), fun q hq => (W.back q hq).incl fun a ha => rwsOf_perm (pm.map _).symm ha, fun t ht => W.good t (pm.mem_iff.mp ht)⟩, ?_⟩
  rw [List.pairwise_map]
  exact sortT_sorted
theorem good_triv : Good p n fun _ _ => True := ⟨fun _ _ _ _ _ _ _ _ _ => trivial, fun _ _ _ _ _ => trivial⟩
/-- the plain rows -/
def plainR (p : Int) (rows : List Rw) : List Rw := (wSort p (rows.map fun r => (r, []))).map (·.rw_)
theorem plainR_unique (hp : isPr p) {rows : List Rw} {A : List (Nat × Rw)} (hr : ∀ r ∈ rows, VR p n r) (P : Pl p n A) (sA : A.Pairwise fun a b => a.1 ≤ b.1) (h1 : ∀ r ∈ rows, Spn p n (rwsOf A) r) (h2 : ∀ t ∈ A, Spn p n (fun r => r ∈ rows) t.2) : plainR p rows = A.map (·.2) := by
  have h0 : 0 < p := by have := isPr_b hp; omega
  have hr' : ∀ q ∈ rows.map fun r => (r, ([] : List Int)), VR p n q.1 ∧ True := fun q hq => by
    obtain ⟨r, h, rfl⟩ := List.mem_map.mp hq
    exact ⟨hr r h, trivial⟩
  obtain ⟨W, srt⟩ := wSort_ok (G := fun _ _ => True) good_triv hp hr'
  have inc : ∀ a, a ∈ rows → rwsIn (rows.map fun r => (r, ([] : List Int))) a := fun a ha => ⟨(a, []), List.mem_map.mpr ⟨a, ha, rfl⟩, rfl⟩
  have e := W.pl.uniq P h0 (fun t ht => by
    obtain ⟨s, hs, rfl⟩ := List.mem_map.mp ht
    refine (W.to s hs).mono h0 P.hA fun a ⟨q, hq, ea⟩ => ?_
    obtain ⟨r, h, rfl⟩ := List.mem_map.mp hq
    exact ea ▸ h1 r h) (fun t ht => by
    refine (h2 t ht).mono h0 W.pl.hA fun a ha => W.back (a, []) (List.mem_map.mpr ⟨a, ha, rfl⟩)) srt sA
  have : (wSort p (rows.map fun r => (r, []))).map (·.rw_) = ((wSort p (rows.map fun r => (r, []))).map prT).map (·.2) := by rw [List.map_map]; rfl
  rw [plainR, this, e]
end
end
section
open PySem PySem.Spec L2
theorem nodup_le : ∀ {m : Nat} {l : List Nat}, l.Nodup → (∀ x ∈ l, x < m) → l.length ≤ m
  | 0, l, _, h => by
    cases l with
    | nil => simp
    | cons a l => exact absurd (h a (by simp)) (by omega)
  | m + 1, l, nd, h => by
    have h1 : (l.erase m).length ≤ m := nodup_le (nd.erase m) fun x hx => by
      have := (nd.mem_erase_iff.mp hx)
      have := h x this.2
      omega
    have h2 := List.length_erase (l := l) (a := m)
    split at h2 <;> omega
theorem Pl.length {p : Int} {n : Nat} {A : List (Nat × Rw)} (P : Pl p n A) : A.length ≤ 2 * n := by
  have := nodup_le P.nod fun x hx => by
    obtain ⟨t, ht, rfl⟩ := List.mem_map.mp hx
    exact P.pl t ht
  simpa using this
theorem good_len {p : Int} {n : Nat} : Good p n fun _ ns => ns.length ≤ 1000 := ⟨fun _ _ _ _ _ _ _ h _ => by simp [subN]; omega, fun _ _ _ _ h => by simpa [mulN] using h⟩
section
variable {T : Nat → Option FDef} {x : Nat → Nat} {k f : Nat} {S : Sto} {Q : PostE} {p : Int} {n : Nat}
theorem wStep_none {found : List Tr} {q : Rw × List Int} (h : fstP (found.foldl (stepI p) q).1 = none) : wStep p found q = found := by
  unfold wStep; dsimp only; rw [h]
theorem wStep_some {found : List Tr} {q : Rw × List Int} {i : Nat} (h : fstP (found.foldl (stepI p) q).1 = some i) : wStep p found q =
    found.map (lessF p ⟨i, mulR p (invP p (co (found.foldl (stepI p) q).1 i)) (found.foldl (stepI p) q).1, mulN p (invP p (co (found.foldl (stepI p) q).1 i)) (found.foldl (stepI p) q).2⟩) ++ [⟨i, mulR p (invP p (co (found.foldl (stepI p) q).1 i)) (found.foldl (stepI p) q).1, mulN p (invP p (co (found.foldl (stepI p) q).1 i)) (found.foldl (stepI p) q).2⟩] := by
  unfold wStep; dsimp only; rw [h]
theorem weighed_eq {rows : List (Rw × List Int)} (H : Has_weighed T x) (hp : isPr p) (hn : n ≤ 100) (hl : rows.length ≤ 1000) (hr : ∀ q ∈ rows, VR p n q.1 ∧ q.2.length ≤ 1000) : wC T (k + 4) (x 16) [.int p, lstE rnD rows] S Q = Q (lstE trD (wSort p rows)) S := by
  have hb := isPr_b hp
  have h0 : 0 < p := by omega
  obtain ⟨H, Hc, Hf, Hi, Hl, Hn, Ht⟩ := H
  rw [wC_eq H rfl]
  simp_arith! [y_weighed, y_weighed_1, yn_weighed, fd_weighed]
  have start : D.lst [] = lstE trD [] := rfl
  rw [start]
  refine forRun_fold (R := fun found ρ => ∃ a b c d e f g, ρ = [some (.int p), some (lstE rnD rows), some (lstE trD found), a, b, c, d, e, f, g, none, none, none]) (g := wStep p)
    (P := fun found => ∃ done, (∀ q ∈ done, VR p n q.1) ∧ WInv p n (fun _ ns => ns.length ≤ 1000) done found) (by simp_arith! []) ?_ ⟨_, _, _, _, _, _, _, rfl⟩ ⟨[], by simp, .nil, by simp, by simp, by simp⟩ ?_
  · rintro q hq found ρ ⟨a, b, c, d, e, f, g, rfl⟩ ⟨done, hd, W⟩
    obtain ⟨vq, lq⟩ := hr q hq
    refine ⟨⟨done ++ [q], fun q' h' => ?_, W.step good_len hp hd vq lq⟩, fun kk v hk => ?_⟩
    · rcases List.mem_append.mp h' with h' | h'
      · exact hd _ h'
      · rw [List.mem_singleton.mp h']; exact vq
    have vF : ∀ t ∈ found, VR p n t.rw_ := fun t ht => W.pl.vr _ (List.mem_map.mpr ⟨t, ht, rfl⟩)
    have pF : ∀ t ∈ found, t.pl < 2 * n := fun t ht => W.pl.pl _ (List.mem_map.mpr ⟨t, ht, rfl⟩)
    have lF : found.length ≤ 200 := by have := W.pl.length; simp at this; omega
    simp_arith! [rnD, y_weighed_1b]
    refine forRun_fold (R := fun q ρ => ∃ a b c d e, ρ = [some (.int p), some (lstE rnD rows), some (lstE trD found), some (rowD q.1), some (tupI q.2), a, b, c, d, e, none, none, none]) (g := stepI p)
      (P := fun q => VR p n q.1 ∧ q.2.length ≤ 1000) (by simp_arith! []) ?_ ⟨_, _, _, _, _, rfl⟩ ⟨vq, lq⟩ ?_
    · rintro t ht q' ρ ⟨a, b, c, d, e, rfl⟩ ⟨vq', lq'⟩
      refine ⟨⟨vq'.clr h0 (vF t ht), by simp [stepI, subN]; omega⟩, fun k2 v2 hk2 => ?_⟩
      have vt := vF t ht
      have hpl := pF t ht
      have l1 := vq'.len
      have l2 := vt.len
      obtain ⟨b0, b1⟩ := co_in (i := t.pl) vq'.inn h0
      have lnu := W.good t ht
      simp_arith! [trD, y_weighed_1b_0b, y_weighed_1b_0b_1, y_weighed_1b_0b_2, numbersOf_eq Hn, flat_at (r := q'.1) (i := t.pl) (by omega), cleared_eq Hc h0 (by omega) vq'.inn, mul_ok1 (i := co q'.1 t.pl) (by omega) (by omega), h0]
      exact hk2 _ ⟨_, _, _, _, _, rfl⟩
    · rintro ρ ⟨a, b, c, d, e, rfl⟩ ⟨vq', lq'⟩
      have wn := wStep_none (p := p) (found := found) (q := q)
      have ws := fun i => wStep_some (p := p) (found := found) (q := q) (i := i)
      generalize found.foldl (stepI p) q = q' at *
      have l1 := vq'.len
      simp_arith! [y_weighed_1b_1, y_weighed_1b_2, firstPlace_eq Hf]
      cases ef : fstP q'.1 with
      | none =>
        rw [wn ef] at hk
        simp_arith! [optD]
        exact hk _ ⟨_, _, _, _, _, _, _, rfl⟩
      | some i =>
        rw [ws i ef] at hk
        obtain ⟨hi, hne, hz⟩ := fstP_some ef
        obtain ⟨c0, c1⟩ := co_in (i := i) vq'.inn h0
        have c0' : 0 < co q'.1 i := by omega
        obtain ⟨i1, i2, i3, _⟩ := invP_ok hp c0' c1
        simp_arith! [optD, y_weighed_1b_2t, y_weighed_1b_2t_1, y_weighed_1b_2t_2, numbersOf_eq Hn, flat_at (r := q'.1) (i := i) (by omega), inverse_eq Hi hp c0' c1, times_eq Ht h0, h0, mul_ok1 (i := invP p (co q'.1 i)) (by omega) (by omega)]
        have et : D.tup [.int (i : Nat), rowD (mulR p (invP p (co q'.1 i)) q'.1), tupI (q'.2.map fun a => invP p (co q'.1 i) * a % p)] = trD ⟨i, mulR p (invP p (co q'.1 i)) q'.1, mulN p (invP p (co q'.1 i)) q'.2⟩ := rfl
        rw [et]
        generalize ht : (⟨i, mulR p (invP p (co q'.1 i)) q'.1, mulN p (invP p (co q'.1 i)) q'.2⟩ : Tr) = t at *
        have t1 : t.pl = i := by rw [← ht]
        have t2 : t.rw_.length = n := by rw [← ht]; simp [mulR_len, l1]
        rw [lcT_eq (f := fun s => trD (lessF p t s)) fun s hs S k => by
          have vs := vF s hs
          have ls := vs.len
          have := W.good s hs
          simp_arith! [lessened_eq Hl h0 (by omega) vs.inn]]
        simp_arith! []
        have el : D.lst (found.map (fun s => trD (lessF p t s)) ++ [trD t]) = lstE trD (found.map (lessF p t) ++ [t]) := by simp [lstE, List.map_map, Function.comp_def]
        rw [el]
        exact hk _ ⟨_, _, _, _, _, _, _, rfl⟩
  · rintro ρ ⟨a, b, c, d, e, f, g, rfl⟩ ⟨done, hd, W⟩
    have W' := wAll_ok good_len hp hr
    have ln := W'.pl.length
    simp at ln
    have e : rows.foldl (wStep p) [] = wAll p rows := rfl
    have nd : ((wAll p rows).map (·.pl)).Nodup := by
      have := W'.pl.nod
      rw [List.map_map] at this
      exact this
    simp_arith! [y_weighed_2, e, sem_sortT nd (by omega)]
    rfl
end
end
section
open PySem PySem.Spec L2
/-- draws in a comprehension -/
theorem lcT_rel {α β : Type} {P : β → Prop} {e : β → D} {step : α → Sto → (Option D → Sto → Prop) → Prop} {stay : Sto → Prop} {S : Sto} {Q : List D → Sto → Prop} (st : stay S) : ∀ {xs : List α} {acc : List D},
    (∀ a ∈ xs, ∀ k : Option D → Sto → Prop, (∀ b, P b → k (some (e b)) S) → step a S k) → (∀ bs : List β, bs.length = xs.length → (∀ b ∈ bs, P b) → Q (acc ++ bs.map e) S) → lcT step stay xs acc S Q
  | [], acc, _, q => ⟨st, by simpa using q [] rfl (by simp)⟩
  | x :: xs, acc, h, q => by
    refine ⟨st, h x (List.mem_cons_self ..) _ fun b hb => ?_⟩
    refine lcT_rel st (fun a ha => h a (List.mem_cons_of_mem _ ha)) fun bs hl hbs => ?_
    have := q (b :: bs) (by simp [hl]) (by simpa using ⟨hb, hbs⟩)
    simpa using this
section
variable {T : Nat → Option FDef} {x : Nat → Nat} {k f : Nat} {S : Sto} {Q : PostE} {p : Int} {n : Nat}
theorem next_eq {a : Addr} {m : Int} (hT : T f = some fdNext) (hd : S.dk = some a) (h0 : 0 < m) (h1 : m < 10000000000000000000) : wC T (k + 1) f [.loc a, .int m] S Q = ∀ i, 0 ≤ i → i < m → Q (.int i) S := by
  refine propext ⟨fun h => ?_, fun h => next_sm hT hd h0 (by omega) h⟩
  simp only [wC, hT, fdNext, pNext] at h
  obtain ⟨_, b, m', e, _, _, _, h⟩ := h
  cases e
  exact h
theorem lprime_at {a : Addr} (H : Has_lprime T x) (hd : S.dk = some a) (q : ∀ p, isPr p → Q (.int p) S) : wC T (k + 2) (x 27) [.loc a] S Q := by
  obtain ⟨H, H1⟩ := H
  rw [wC_eq H rfl]
  simp_arith! [y_lprime, yn_lprime, fd_lprime, next_eq H1 hd]
  intro i i0 i1
  have : i = 0 ∨ i = 1 ∨ i = 2 ∨ i = 3 ∨ i = 4 ∨ i = 5 := by omega
  rcases this with rfl | rfl | rfl | rfl | rfl | rfl
  · exact ⟨_, rfl, q 2 (by unfold isPr; omega)⟩
  · exact ⟨_, rfl, q 3 (by unfold isPr; omega)⟩
  · exact ⟨_, rfl, q 5 (by unfold isPr; omega)⟩
  · exact ⟨_, rfl, q 7 (by unfold isPr; omega)⟩
  · exact ⟨_, rfl, q 11 (by unfold isPr; omega)⟩
  · exact ⟨_, rfl, q 13 (by unfold isPr; omega)⟩
theorem lnumbers_at {a : Addr} {m : Nat} (H : Has_lnumbers T x) (hd : S.dk = some a) (p0 : 0 < p) (p1 : p ≤ 1000000) (h1 : m ≤ 1000) (q : ∀ ns : List Int, ns.length = m → (∀ c ∈ ns, 0 ≤ c ∧ c < p) → Q (tupI ns) S) : wC T (k + 2) (x 28) [.loc a, .int p, .int (m : Nat)] S Q := by
  obtain ⟨H, H1⟩ := H
  rw [wC_eq H rfl]
  simp_arith! [y_lnumbers, yn_lnumbers, fd_lnumbers, next_eq H1 hd]
  refine lcT_rel (P := fun c : Int => 0 ≤ c ∧ c < p) (e := D.int) (by simp_arith! []) (fun c hc kk hk => ?_) fun ns hl hb => ?_
  · simp_arith! [next_eq H1 hd]
    intro i i0 i1 j j0 j1
    refine hk _ ?_
    by_cases cc : 0 < j <;> simp [cc] <;> omega
  · simp_arith! []
    exact q ns (by simpa using hl) hb
theorem ladded_eq {r s : Rw} (H : Has_ladded T x) (hp : 0 < p) (hl : r.length ≤ 1000) : wC T (k + 1) (x 30) [.int p, rowD r, rowD s] S Q = Q (rowD (addR p r s)) S := by
  rw [wC_eq H rfl]
  simp_arith! [y_ladded, yn_ladded, fd_ladded, hp]
  rfl
theorem ltimes_eq {c : Int} {r : Rw} (H : Has_ltimes T x) (hp : 0 < p) (n0 : -1000000 ≤ c) (n1 : c ≤ 1000000) (hl : r.length ≤ 1000) : wC T (k + 1) (x 31) [.int p, .int c, rowD r] S Q = Q (rowD (mulR p c r)) S := by
  rw [wC_eq H rfl]
  simp_arith! [y_ltimes, yn_ltimes, fd_ltimes, hp]
  rfl
/-- rows by their numbers together -/
def comb (p : Int) (n : Nat) (ns : List Int) (rs : List Rw) : Rw := (ns.zip rs).foldl (fun v q => addR p v (mulR p q.1 q.2)) (nul n)
theorem comb_step {h0 : 0 < p} : ∀ {qs : List (Int × Rw)} {v : Rw}, VR p n v → (∀ q ∈ qs, VR p n q.2) → VR p n (qs.foldl (fun v q => addR p v (mulR p q.1 q.2)) v)
  | [], _, h, _ => h
  | q :: qs, v, h, k => comb_step (h0 := h0) (qs := qs) (v := addR p v (mulR p q.1 q.2)) (h.add h0 ((k q (List.mem_cons_self ..)).mul h0)) fun q' hq => k q' (List.mem_cons_of_mem _ hq)
theorem comb_vr {ns : List Int} {rs : List Rw} (h0 : 0 < p) (h : ∀ r ∈ rs, VR p n r) : VR p n (comb p n ns rs) := comb_step (h0 := h0) (.nul h0) fun q hq => h _ (List.of_mem_zip hq).2
theorem comb_spn {ns : List Int} {rs : List Rw} (h0 : 0 < p) (h : ∀ r ∈ rs, VR p n r) : Spn p n (fun r => r ∈ rs) (comb p n ns rs) := by
  have key : ∀ (qs : List (Int × Rw)) (v : Rw), Spn p n (fun r => r ∈ rs) v → (∀ q ∈ qs, q.2 ∈ rs) → Spn p n (fun r => r ∈ rs) (qs.foldl (fun v q => addR p v (mulR p q.1 q.2)) v) := by
    intro qs
    induction qs with
    | nil => intro v h _; exact h
    | cons q qs ih => intro v h k; exact ih _ (.step h (k q (List.mem_cons_self ..))) fun q' hq => k q' (List.mem_cons_of_mem _ hq)
  exact key _ _ .zero fun q hq => (List.of_mem_zip hq).2
theorem lsum_eq {ns : List Int} {rs : List Rw} {dr : D} (H : Has_lsum T x) (hp : 0 < p) (hn : n ≤ 100) (hl : ns.length ≤ 1000) (hb : ∀ c ∈ ns, -1000000 ≤ c ∧ c ≤ 1000000) (hr : ∀ r ∈ rs, VR p n r) (hd : dr = rwsL rs ∨ dr = rwsT rs) : wC T (k + 2) (x 32) [.int p, .int (n : Nat), tupI ns, dr] S Q = Q (rowD (comb p n ns rs)) S := by
  obtain ⟨H, H1, H2⟩ := H
  have c1 : (-1000 ≤ (n : Int)) = True := eq_true (by omega)
  have c2 : ((n : Int) ≤ 1000) = True := eq_true (by omega)
  have e : D.tup (List.replicate n [prD ((0 : Int), (0 : Int))]).flatten = rowD (nul n) := by
    rw [rowD, List.map_replicate]
    congr 1
    clear c1 c2 hr hn hd
    induction n with
    | zero => rfl
    | succ m ih => simp only [List.replicate_succ, List.flatten_cons, ih]; rfl
  rw [wC_eq H rfl]
  rcases hd with rfl | rfl
  all_goals
    simp_arith! [y_lsum, y_lsum_1, yn_lsum, fd_lsum, sem_mulT, c1, c2, Int.toNat_natCast, e, show (1 ≤ 1000) = True from eq_true (by omega)]
    refine forRun_fold (R := fun v ρ => ∃ a b, ρ = [some (.int p), some (.int (n : Nat)), some (tupI ns), some _, some (rowD v), a, b]) (g := fun v q => addR p v (mulR p q.1 q.2)) (P := fun v => VR p n v) (by simp_arith! []) ?_ ⟨_, _, rfl⟩ (.nul hp) ?_
    · rintro q hq v ρ ⟨a, b, rfl⟩ hv
      obtain ⟨h1, h2⟩ := List.of_mem_zip (a := q.1) (b := q.2) hq
      have vr := hr _ h2
      have lr := vr.len
      have lv := hv.len
      obtain ⟨b0, b1⟩ := hb _ h1
      refine ⟨hv.add hp (vr.mul hp), fun kk v hk => ?_⟩
      simp_arith! [y_lsum_1b, ltimes_eq H2 hp b0 b1, ladded_eq H1 hp]
      exact hk _ ⟨_, _, rfl⟩
    · rintro ρ ⟨a, b, rfl⟩ hv
      simp_arith! [y_lsum_2]
      rfl
end
end
section
open PySem PySem.Spec L2
section
variable {S : Sto} {Q : PostE} {l : Addr} {xs ys : List D} {d : D} {i : Int}
theorem seq_put : seqS (S.put l (.lst xs)) (.loc l) = some xs := seq_loc Sto.put_same
theorem lst_put : lstS (S.put l (.lst xs)) (.loc l) = some xs := seq_loc Sto.put_same
theorem len_put : lenS (S.put l (.lst xs)) (.loc l) = some xs.length := by
  show (seqS (S.put l (.lst xs)) (.loc l)).map List.length = _
  rw [seq_put]; rfl
theorem app_chk : mApp.chk (.loc l) (S.put l (.lst xs)) = True := eq_true ⟨l, xs, rfl, Sto.put_same⟩
theorem app_put : mApp.sem [.loc l, d] (S.put l (.lst xs)) Q = (xs.length < sizeLine ∧ Q .non (S.put l (.lst (xs ++ [d])))) := by
  refine propext ⟨fun ⟨a, e, zs, q, h1, h2, h3⟩ => ?_, fun h => ⟨l, d, xs, rfl, Sto.put_same, h.1, by rw [put_put]; exact h.2⟩⟩
  cases q
  rw [Sto.put_same] at h1
  cases h1
  rw [put_put] at h3
  exact ⟨h2, h3⟩
theorem ins_chk : mIns.chk (.loc l) (S.put l (.lst xs)) = True := eq_true ⟨l, xs, rfl, Sto.put_same⟩
theorem ins_put (h0 : 0 ≤ i) (h1 : i < 1000000) (hl : xs.length < 100000) : mIns.sem [.loc l, .int i, d] (S.put l (.lst xs)) Q = Q .non (S.put l (.lst (xs.take i.toNat ++ [d] ++ xs.drop i.toNat))) := by
  refine propext ⟨fun ⟨a, e, zs, j, q, h1, h2, h3, h4, h5⟩ => ?_, fun h => ⟨l, d, xs, i, rfl, Sto.put_same, Nat.lt_of_lt_of_le hl (lim20 (Nat.le_refl _)), h0, by omega, by rw [put_put]; exact h⟩⟩
  cases q
  rw [Sto.put_same] at h1
  cases h1
  rw [put_put] at h5
  exact h5
theorem pop_chk : mPopAt.chk (.loc l) (S.put l (.lst xs)) = True := eq_true ⟨l, xs, rfl, Sto.put_same⟩
theorem pop_put (h0 : 0 ≤ i) (h1 : i < xs.length) (hl : xs.length < 100000) : mPopAt.sem [.loc l, .int i] (S.put l (.lst xs)) Q = ∃ d, xs[i.toNat]? = some d ∧ Q d (S.put l (.lst (xs.eraseIdx i.toNat))) := by
  have hk : seqIndex? i xs.length = some i.toNat := by
    unfold seqIndex?
    simp [show ¬ i < 0 by omega, h0, h1]
  refine propext ⟨fun ⟨a, e, zs, j, kk, q, h1, h2, h3, h4, h5⟩ => ?_, fun ⟨d, h, h'⟩ => ⟨l, d, xs, i, i.toNat, rfl, Sto.put_same, ⟨by omega, by omega⟩, hk, h, by rw [put_put]; exact h'⟩⟩
  cases q
  rw [Sto.put_same] at h1
  cases h1
  rw [hk] at h3
  cases h3
  rw [put_put] at h5
  exact ⟨_, h4, h5⟩
theorem lt_sz {n : Nat} (h : n < 100000) : (n < sizeLine) = True := eq_true (Nat.lt_of_lt_of_le h (lim20 (Nat.le_refl _)))
theorem addLO {xs ys : List D} (h : xs.length + ys.length ≤ 100000) : (nAdd true).sem [.lst xs, .lst ys] S Q = ∀ l, S.m l = none → Q (.loc l) (S.put l (.lst (xs ++ ys))) := by
  refine propext ⟨fun ⟨a, b, h1, h2, h3, h4⟩ => ?_, fun h' => ⟨xs, ys, rfl, rfl, lim20 h, h'⟩⟩
  cases h1; cases h2
  exact h4
end
/-- a typed loop with an invariant over what is left -/
theorem for_list {α : Type} {emb : α → D} {step : D → En → Sto → (En → Sto → Prop) → Prop} {stay : Sto → Prop} {Q : En → Sto → Prop} (I : List α → En → Sto → Prop) (hs : ∀ xs ρ S, I xs ρ S → stay S)
    (h1 : ∀ x xs ρ S (k : En → Sto → Prop), I (x :: xs) ρ S → (∀ ρ' S', I xs ρ' S' → k ρ' S') → step (emb x) ρ S k) (hq : ∀ ρ S, I [] ρ S → Q ρ S) : ∀ {xs : List α} {ρ : En} {S : Sto}, I xs ρ S → forRun step stay (xs.map emb) ρ S Q
  | [], ρ, S, i => ⟨hs _ _ _ i, hq _ _ i⟩
  | x :: xs, ρ, S, i => ⟨hs _ _ _ i, h1 x xs ρ S _ i fun ρ' S' i' => for_list I hs h1 hq i'⟩
/-- .. that doesn't look at what is left -/
theorem for_any {α : Type} {emb : α → D} {step : D → En → Sto → (En → Sto → Prop) → Prop} {stay : Sto → Prop} {Q : En → Sto → Prop} (I : En → Sto → Prop) (hs : ∀ ρ S, I ρ S → stay S) {xs : List α} {ρ : En} {S : Sto}
    (h1 : ∀ x ∈ xs, ∀ ρ S (k : En → Sto → Prop), I ρ S → (∀ ρ' S', I ρ' S' → k ρ' S') → step (emb x) ρ S k) (hq : ∀ ρ S, I ρ S → Q ρ S) (i : I ρ S) : forRun step stay (xs.map emb) ρ S Q :=
  for_list (fun ys ρ S => (∀ y ∈ ys, y ∈ xs) ∧ I ρ S) (fun _ _ _ h => hs _ _ h.2) (fun y ys ρ S k h kk => h1 y (h.1 y (by simp)) ρ S k h.2 fun ρ' S' h' => kk ρ' S' ⟨fun z hz => h.1 z (by simp [hz]), h'⟩) (fun ρ S h => hq ρ S h.2) ⟨fun y hy => hy, i⟩
/-- a comprehension that changes the store -/
theorem lcT_inv {α β : Type} {e : β → D} {step : α → Sto → (Option D → Sto → Prop) → Prop} {stay : Sto → Prop} {Q : List D → Sto → Prop} {N : Nat} (I : List β → Sto → Prop) (hs : ∀ bs S, I bs S → stay S)
    (h : ∀ a bs S (k : Option D → Sto → Prop), bs.length < N → I bs S → (∀ b S', I (bs ++ [b]) S' → k (some (e b)) S') → step a S k) (q : ∀ bs S, bs.length = N → I bs S → Q (bs.map e) S) : ∀ {xs : List α} {bs : List β} {S : Sto}, bs.length + xs.length = N → I bs S → lcT step stay xs (bs.map e) S Q
  | [], bs, S, hn, i => ⟨hs _ _ i, q bs S (by simpa using hn) i⟩
  | x :: xs, bs, S, hn, i => by
    refine ⟨hs _ _ i, h x bs S _ (by simp at hn; omega) i fun b S' i' => ?_⟩
    have := lcT_inv I hs h q (xs := xs) (bs := bs ++ [b]) (S := S') (by simp at hn ⊢; omega) i'
    simpa using this
section
variable {T : Nat → Option FDef} {x : Nat → Nat} {k f : Nat} {S : Sto} {Q : PostE} {p : Int} {n : Nat}
/-- rows that span the same -/
structure SpEq (p : Int) (n : Nat) (A B : List Rw) : Prop where
  va : ∀ a ∈ A, VR p n a
  vb : ∀ b ∈ B, VR p n b
  to : ∀ b ∈ B, Spn p n (fun r => r ∈ A) b
  back : ∀ a ∈ A, Spn p n (fun r => r ∈ B) a
theorem SpEq.refl {A : List Rw} (h0 : 0 < p) (h : ∀ a ∈ A, VR p n a) : SpEq p n A A := ⟨h, h, fun b hb => .of h0 h hb, fun b hb => .of h0 h hb⟩
theorem SpEq.trans {A B C : List Rw} (h0 : 0 < p) (h : SpEq p n A B) (k : SpEq p n B C) : SpEq p n A C := ⟨h.va, k.vb, fun c hc => (k.to c hc).mono h0 h.va h.to, fun a ha => (h.back a ha).mono h0 k.vb k.back⟩
theorem SpEq.symm {A B : List Rw} (h : SpEq p n A B) : SpEq p n B A := ⟨h.vb, h.va, h.back, h.to⟩
theorem getI_mem {α : Type} [Inhabited α] {xs : List α} {i : Int} (h0 : 0 ≤ i) (h1 : i < xs.length) : getI xs i ∈ xs := by
  unfold getI
  rw [List.getD_eq_getElem?_getD, List.getElem?_eq_getElem (by omega), Option.getD_some]
  exact List.getElem_mem _
instance : Inhabited Rw := ⟨[]⟩
theorem mem_set {α : Type} {xs : List α} {i : Nat} {v b : α} (h : b ∈ xs.set i v) : b = v ∨ b ∈ xs := by
  rcases List.mem_or_eq_of_mem_set h with h | h
  · exact .inr h
  · exact .inl h
theorem mem_set_other {α : Type} {xs : List α} {i : Nat} {v b : α} (h : b ∈ xs) (hi : i < xs.length) : b ∈ xs.set i v ∨ b = xs[i] := by
  obtain ⟨j, hj⟩ := List.mem_iff_getElem?.mp h
  by_cases c : i = j
  · subst c
    rw [List.getElem?_eq_getElem hi] at hj
    exact .inr (Option.some.inj hj).symm
  · exact .inl (List.mem_iff_getElem?.mpr ⟨j, by rw [List.getElem?_set_ne c]; exact hj⟩)
/-- one row is put otherwise: it is of the span, and the old one of the new span -/
theorem SpEq.set {B : List Rw} {i : Nat} {v : Rw} (h0 : 0 < p) (hB : ∀ b ∈ B, VR p n b) (hi : i < B.length) (h1 : Spn p n (fun r => r ∈ B) v) (h2 : Spn p n (fun r => r ∈ B.set i v) B[i]) : SpEq p n B (B.set i v) := by
  have vv := h1.vr h0 hB
  have hB' : ∀ b ∈ B.set i v, VR p n b := fun b hb => by
    rcases mem_set hb with rfl | hb
    · exact vv
    · exact hB b hb
  refine ⟨hB, hB', fun b hb => ?_, fun b hb => ?_⟩
  · rcases mem_set hb with rfl | hb
    · exact h1
    · exact .of h0 hB hb
  · rcases mem_set_other (v := v) hb hi with hb | rfl
    · exact .of h0 hB' hb
    · exact h2
theorem SpEq.addrow {B : List Rw} {i j : Nat} {c : Int} (h0 : 0 < p) (hB : ∀ b ∈ B, VR p n b) (hi : i < B.length) (hj : j < B.length) (hne : i ≠ j) : SpEq p n B (B.set i (addR p B[i] (mulR p c B[j]))) := by
  have vi := hB _ (List.getElem_mem hi)
  have vj := hB _ (List.getElem_mem hj)
  have s1 : Spn p n (fun r => r ∈ B) (addR p B[i] (mulR p c B[j])) := (Spn.of h0 hB (List.getElem_mem hi)).sub h0 hB (.of h0 hB (List.getElem_mem hj))
  refine .set h0 hB hi s1 ?_
  have hB' : ∀ b ∈ B.set i (addR p B[i] (mulR p c B[j])), VR p n b := fun b hb => by
    rcases mem_set hb with rfl | hb
    · exact s1.vr h0 hB
    · exact hB b hb
  have m1 : addR p B[i] (mulR p c B[j]) ∈ B.set i (addR p B[i] (mulR p c B[j])) := List.mem_iff_getElem?.mpr ⟨i, by rw [List.getElem?_set_self hi]⟩
  have m2 : B[j] ∈ B.set i (addR p B[i] (mulR p c B[j])) := List.mem_iff_getElem?.mpr ⟨j, by rw [List.getElem?_set_ne hne, List.getElem?_eq_getElem hj]⟩
  have e : addR p (addR p B[i] (mulR p c B[j])) (mulR p (-c) B[j]) = B[i] := row_ext (by simp only [addR_len, mulR_len, vi.len, vj.len, Nat.min_self]) fun t => by
    rw [(vi.add h0 (vj.mul h0)).co_add (vj.mul h0), vi.co_add (vj.mul h0), co_mul, co_mul, addm1, addm2, Int.add_assoc]
    rw [← addm2, addm1, addm2, show co B[i] t + (c * co B[j] t + -c * co B[j] t) = co B[i] t by grind, vi.mod h0]
  have h3 := (Spn.of h0 hB' m1).sub (c := -c) h0 hB' (.of h0 hB' m2)
  rw [e] at h3
  exact h3
theorem SpEq.mulrow {B : List Rw} {i : Nat} {c : Int} (hp : isPr p) (hB : ∀ b ∈ B, VR p n b) (hi : i < B.length) (c0 : 0 < c) (c1 : c < p) : SpEq p n B (B.set i (mulR p c B[i])) := by
  have h0 : 0 < p := by have := isPr_b hp; omega
  have vi := hB _ (List.getElem_mem hi)
  have s1 : Spn p n (fun r => r ∈ B) (mulR p c B[i]) := (Spn.of h0 hB (List.getElem_mem hi)).mul h0 hB
  refine .set h0 hB hi s1 ?_
  have hB' : ∀ b ∈ B.set i (mulR p c B[i]), VR p n b := fun b hb => by
    rcases mem_set hb with rfl | hb
    · exact s1.vr h0 hB
    · exact hB b hb
  obtain ⟨i1, i2, i3, _⟩ := invP_ok hp c0 c1
  have m1 : mulR p c B[i] ∈ B.set i (mulR p c B[i]) := List.mem_iff_getElem?.mpr ⟨i, by rw [List.getElem?_set_self hi]⟩
  have e : mulR p (invP p c) (mulR p c B[i]) = B[i] := row_ext (by simp only [mulR_len]) fun t => by
    rw [co_mul, co_mul, mulm2, ← Int.mul_assoc, Int.mul_comm (invP p c) c, ← mulm1, i3, Int.one_mul, vi.mod h0]
  have h3 := (Spn.of h0 hB' m1).mul (d := invP p c) h0 hB'
  rw [e] at h3
  exact h3
theorem lstirred_at {a : Addr} {rs : List Rw} {dr : D} (H : Has_lstirred T x) (hd : S.dk = some a) (hp : isPr p) (hn : n ≤ 100) (hl : rs.length ≤ 1000) (hr : ∀ r ∈ rs, VR p n r) (hdr : dr = rwsL rs ∨ dr = rwsT rs) {m : D}
    (q : ∀ rs', rs'.length = rs.length → SpEq p n rs rs' → Q (rwsT rs') S) : wC T (k + 2) (x 33) [.loc a, .int p, m, dr] S Q := by
  have hb := isPr_b hp
  have h0 : 0 < p := by omega
  obtain ⟨H, H1, H2, H3⟩ := H
  have go : wSs (wC T (k + 1)) (y_lstirred x) { nx := fun _ S' => Q .non S', rt := Q } [some (.loc a), some (.int p), some m, some dr, none, none, none, none] S := by
    have sq : seqS S dr = some (rs.map rowD) := by rcases hdr with rfl | rfl <;> rfl
    simp_arith! [y_lstirred, y_lstirred_1, sq]
    intro l hn0
    simp_arith! [len_put]
    have e2 : rgD 0 ((rs.length : Int) * 2) = (List.range (rs.length * 2)).map fun i => D.int (i : Nat) := rgD_nat (n := rs.length * 2)
    rw [e2]
    refine for_any (fun ρ S' => ∃ rs' u v w, rs'.length = rs.length ∧ SpEq p n rs rs' ∧ S' = S.put l (.lst (rs'.map rowD)) ∧ ρ = [some (.loc a), some (.int p), some m, some dr, some (.loc l), u, v, w]) (fun _ _ _ => trivial) ?_ ?_ ⟨rs, none, none, none, rfl, .refl h0 hr, rfl, rfl⟩
    · rintro t ht ρ S' kk ⟨rs', u, v, w, hl', E, rfl, rfl⟩ hk
      have pos : 0 < rs.length := by
        have := List.mem_range.mp ht
        omega
      simp_arith! [y_lstirred_1b, y_lstirred_1b_1, len_put, next_eq H2]
      intro i i0 i1 j j0 j1
      have hi : i.toNat < rs'.length := by omega
      have hj : j.toNat < rs'.length := by omega
      have gi : getI rs' i = rs'[i.toNat] := by simp [getI, List.getD_eq_getElem?_getD, List.getElem?_eq_getElem hi]
      have gj : getI rs' j = rs'[j.toNat] := by simp [getI, List.getD_eq_getElem?_getD, List.getElem?_eq_getElem hj]
      have vi := E.vb _ (List.getElem_mem hi)
      have vj := E.vb _ (List.getElem_mem hj)
      have li := vi.len
      have lj := vj.len
      simp_arith! [y_lstirred_1b_2, y_lstirred_1b_2t, y_lstirred_1b_3, seq_put, next_eq H2]
      have fin : ∀ rs2 : List Rw, rs2.length = rs.length → SpEq p n rs rs2 → ∀ d, 0 ≤ d → d < p - 1 → ∃ l2, (rs2.set j.toNat (mulR p (1 + d) (getI rs2 j))).length = l2 ∧ SpEq p n rs (rs2.set j.toNat (mulR p (1 + d) (getI rs2 j))) := fun rs2 h2 E2 d d0 d1 => by
        have hj2 : j.toNat < rs2.length := by omega
        have g2 : getI rs2 j = rs2[j.toNat] := by simp [getI, List.getD_eq_getElem?_getD, List.getElem?_eq_getElem hj2]
        rw [g2]
        exact ⟨_, rfl, E2.trans h0 (.mulrow hp E2.vb hj2 (by omega) (by omega))⟩
      by_cases cij : i = j
      · simp_arith! [cij]
        intro d d0 d1
        simp_arith! [ltimes_eq H3 h0, gj]
        obtain ⟨_, _, E3⟩ := fin rs' hl' E d d0 d1
        rw [gj] at E3
        exact hk _ _ ⟨rs'.set j.toNat (mulR p (1 + d) rs'[j.toNat]), _, _, _, by simp [hl'], E3, rfl, rfl⟩
      · simp_arith! [cij]
        intro c c0 c1
        have ne : i.toNat ≠ j.toNat := fun q => cij (by omega)
        simp_arith! [ltimes_eq H3 h0, ladded_eq H1 h0, gi, gj, next_eq H2, mulR_len, List.length_set]
        intro d d0 d1
        generalize hr2 : rs'.set i.toNat (addR p rs'[i.toNat] (mulR p c rs'[j.toNat])) = rs2
        have l2 : rs2.length = rs.length := by rw [← hr2]; simp [hl']
        have E2 : SpEq p n rs rs2 := by rw [← hr2]; exact E.trans h0 (.addrow h0 E.vb hi hj ne)
        have lj2 : List.length (getI rs2 j) = n := (E2.vb _ (getI_mem j0 (by omega))).len
        obtain ⟨_, _, E3⟩ := fin rs2 l2 E2 d d0 d1
        simp_arith! [seq_put, ltimes_eq H3 h0]
        exact hk _ _ ⟨rs2.set j.toNat (mulR p (1 + d) (getI rs2 j)), _, _, _, by simp [l2], E3, rfl, rfl⟩
    · rintro ρ S' ⟨rs', u, v, w, hl', E, rfl, rfl⟩
      simp_arith! [y_lstirred_2]
      exact q rs' hl' E
  rw [wC_eq H rfl]
  simp_arith! [yn_lstirred, fd_lstirred]
  exact go
end
end
section
open PySem PySem.Spec L2
section
variable {T : Nat → Option FDef} {x : Nat → Nat} {k f : Nat} {S : Sto} {Q : PostE} {p : Int} {n : Nat}
theorem map_eraseIdx {α β : Type} {e : α → β} : ∀ {xs : List α} {i : Nat}, (xs.map e).eraseIdx i = (xs.eraseIdx i).map e
  | [], _ => rfl
  | x :: xs, 0 => rfl
  | x :: xs, i + 1 => by simp only [List.map_cons, List.eraseIdx_cons_succ, map_eraseIdx (xs := xs)]
theorem perm_eraseIdx {α : Type} : ∀ {xs : List α} {i : Nat} (h : i < xs.length), ([xs[i]'h] ++ xs.eraseIdx i).Perm xs
  | x :: xs, 0, _ => by simp
  | x :: xs, i + 1, h => by
    have h' : i < xs.length := by simpa using h
    simp only [List.getElem_cons_succ, List.eraseIdx_cons_succ, List.singleton_append]
    exact (List.Perm.swap x (xs[i]'h') _).trans (List.Perm.cons x (by have := perm_eraseIdx (xs := xs) (i := i) h'; simpa using this))
theorem mem_insert {α : Type} {xs : List α} {i : Nat} {v b : α} (h : b ∈ xs.take i ++ [v] ++ xs.drop i) : b = v ∨ b ∈ xs := by
  simp only [List.mem_append, List.mem_singleton] at h
  rcases h with (h | h) | h
  · exact .inr (List.mem_of_mem_take h)
  · exact .inl h
  · exact .inr (List.mem_of_mem_drop h)
theorem mem_insert' {α : Type} {xs : List α} {i : Nat} {v b : α} (h : b ∈ xs) : b ∈ xs.take i ++ [v] ++ xs.drop i := by
  have : b ∈ xs.take i ++ xs.drop i := by rw [List.take_append_drop]; exact h
  simp only [List.mem_append, List.mem_singleton] at this ⊢
  rcases this with h | h
  · exact .inl (.inl h)
  · exact .inr h
theorem SpEq.insert {A B : List Rw} {i : Nat} {v : Rw} (h0 : 0 < p) (E : SpEq p n A B) (h : Spn p n (fun r => r ∈ A) v) : SpEq p n A (B.take i ++ [v] ++ B.drop i) := by
  have hv : ∀ b ∈ B.take i ++ [v] ++ B.drop i, VR p n b := fun b hb => by
    rcases mem_insert hb with rfl | hb
    · exact h.vr h0 E.va
    · exact E.vb b hb
  refine ⟨E.va, hv, fun b hb => ?_, fun a ha => (E.back a ha).incl fun b hb => mem_insert' hb⟩
  rcases mem_insert hb with rfl | hb
  · exact h
  · exact E.to b hb
theorem lspanning_at {a : Addr} {rs : List Rw} {dr : D} (H : Has_lspanning T x) (hd : S.dk = some a) (hp : isPr p) (hn : n ≤ 100) (hl : rs.length ≤ 100) (hr : ∀ r ∈ rs, VR p n r) (hdr : dr = rwsL rs ∨ dr = rwsT rs)
    (q : ∀ rs', rs'.length ≤ 110 → SpEq p n rs rs' → Q (rwsL rs') S) : wC T (k + 3) (x 36) [.loc a, .int p, .int (n : Nat), dr] S Q := by
  have hb := isPr_b hp
  have h0 : 0 < p := by omega
  obtain ⟨H, H1, H2, H3, H4⟩ := H
  have ln : lenS S dr = some rs.length := by rcases hdr with rfl | rfl; exact len_rwsL; exact len_rwsT
  have go : wSs (wC T (k + 2)) (y_lspanning x) { nx := fun _ S' => Q .non S', rt := Q } [some (.loc a), some (.int p), some (.int (n : Nat)), some dr, none, none, none] S := by
    simp_arith! [y_lspanning, y_lspanning_1]
    refine lstirred_at H3 hd hp hn (by omega) hr hdr fun rs1 l1 E1 => ?_
    simp_arith! [next_eq H1]
    intro l hn0
    intro i i0 i1
    have ei : i = ((i.toNat : Nat) : Int) := by omega
    have i4 : i.toNat < 4 := by omega
    rw [ei]
    generalize i.toNat = m at i4 ⊢
    simp_arith! []
    refine for_list (fun ys ρ S' => ∃ rs' u v, rs'.length + ys.length ≤ 104 ∧ SpEq p n rs rs' ∧ S' = S.put l (.lst (rs'.map rowD)) ∧ ρ = [some (.loc a), some (.int p), some (.int (n : Nat)), some dr, some (.loc l), u, v]) (fun _ _ _ _ => trivial) ?_ ?_ ⟨rs1, none, none, by simp; omega, E1, rfl, rfl⟩
    · rintro t ys ρ S' kk ⟨rs', u, v, hl', E, rfl, rfl⟩ hk
      have ln' : lenS (S.put l (.lst (rs'.map rowD))) dr = some rs.length := by rcases hdr with rfl | rfl; exact len_rwsL; exact len_rwsT
      simp_arith! [y_lspanning_1b, y_lspanning_1b_1, ln']
      refine lnumbers_at H2 (by rw [Sto.put_dk]; exact hd) h0 (by omega) (by omega) fun ns hns hbs => ?_
      simp_arith! [lsum_eq (ns := ns) H4 h0 hn (by omega) (fun c hc => by have := hbs c hc; omega) hr hdr, ins_chk, len_put, next_eq H1]
      intro j j0 j1
      rw [List.length_cons] at hl'
      simp_arith! [ins_put]
      refine hk _ _ ⟨rs'.take j.toNat ++ [comb p n ns rs] ++ rs'.drop j.toNat, _, _, ?_, E.insert h0 (comb_spn h0 hr), by simp [List.map_take, List.map_drop], rfl⟩
      simp only [List.length_append, List.length_take, List.length_drop, List.length_cons, List.length_nil]
      omega
    · rintro ρ S' ⟨rs', u, v, hl', E, rfl, rfl⟩
      simp_arith! [y_lspanning_2]
      exact q rs' (by simp at hl'; omega) E
  rw [wC_eq H rfl]
  simp_arith! [yn_lspanning, fd_lspanning]
  exact go
theorem co_prs {ns : List Int} (h : ns.length % 2 = 0) {i : Nat} : co (prs ns) i = ns.getD i 0 := by unfold co; rw [flat_prs h]
theorem in_prs : ∀ {ns : List Int}, (∀ c ∈ ns, 0 ≤ c ∧ c < p) → In p (prs ns)
  | [], _ => fun q hq => by simp [prs] at hq
  | [_], _ => fun q hq => by simp [prs] at hq
  | a :: b :: r, h => fun q hq => by
    rcases List.mem_cons.mp hq with rfl | hq
    · have h1 := h a (by simp)
      have h2 := h b (by simp)
      exact ⟨h1.1, h1.2, h2.1, h2.2⟩
    · exact in_prs (ns := r) (fun c hc => h c (by simp [hc])) q hq
theorem sem_sortN {bs : List Nat} (h : ∀ ms : List Nat, ms.Perm bs → ms.Pairwise (· ≤ ·) → Q (.lst (ms.map fun v => .int (v : Nat))) S) : (nSortI false).sem [.lst (bs.map fun v => D.int (v : Nat))] S Q := by
  refine ⟨_, bs.map fun v : Nat => (v : Int), rfl, by simp [lstS, seqS, List.map_map, Function.comp_def], fun ms pm pw => ?_⟩
  have nn : ∀ z ∈ ms, 0 ≤ z := fun z hz => by
    obtain ⟨v, _, rfl⟩ := List.mem_map.mp (pm.mem_iff.mp hz)
    omega
  have e : ms = (ms.map Int.toNat).map fun v : Nat => (v : Int) := by
    rw [List.map_map]
    conv => lhs; rw [← List.map_id ms]
    refine List.map_congr_left fun z hz => ?_
    have := nn z hz
    simp only [id, Function.comp_def]
    omega
  have e2 : (bs.map fun v : Nat => (v : Int)).map Int.toNat = bs := by simp [List.map_map, Function.comp_def]
  have := h (ms.map Int.toNat) (by rw [← e2]; exact pm.map _) (by
    rw [List.pairwise_map]
    exact pw.imp fun h => by omega)
  rw [e]
  simpa [newL, List.map_map, Function.comp_def] using this
theorem getD_set {α : Type} {xs : List α} {i j : Nat} {v d : α} : (xs.set i v).getD j d = if i = j ∧ j < xs.length then v else xs.getD j d := by
  rw [List.getD_eq_getElem?_getD, List.getD_eq_getElem?_getD, List.getElem?_set]
  by_cases c : i = j
  · subst c
    by_cases c2 : i < xs.length
    · simp [c2]
    · simp [c2]
  · simp [c]
theorem addI1 {xs : List Int} {c : Int} (h : xs.length < 1000) : (nAdd false).sem [lstI xs, .lst [.int c]] S Q = Q (lstI (xs ++ [c])) S := by
  have e : D.lst (xs.map D.int ++ [D.int c]) = lstI (xs ++ [c]) := by simp [lstI]
  have := sem_addL (S := S) (Q := Q) (xs := xs.map D.int) (ys := [D.int c])
  rw [e] at this
  refine Eq.trans this ?_
  have l : ((xs.map D.int).length + [D.int c].length ≤ sizeLine) = True := sle (by simp; omega)
  rw [l, true_and]
theorem addIO {xs ys : List Int} (h : xs.length + ys.length < 1000) : (nAdd true).sem [lstI xs, lstI ys] S Q = ∀ l, S.m l = none → Q (.loc l) (S.put l (.lst ((xs ++ ys).map D.int))) := by
  rw [List.map_append]
  exact addLO (xs := xs.map D.int) (ys := ys.map D.int) (by simp; omega)
theorem lplain_set_at {a : Addr} {most : Int} (H : Has_lplain_set T x) (hd : S.dk = some a) (hp : isPr p) (hn : n ≤ 100) (m0 : 0 ≤ most) (m1 : most ≤ 1000)
    (q : ∀ (A : List (Nat × Rw)) S', Ext S S' → Pl p n A → A.Pairwise (fun a b => a.1 ≤ b.1) → A.length ≤ 2 * n → (A.length : Int) ≤ most → Q (.lst [lstI (A.map fun t => (t.1 : Int)), rwsL (A.map (·.2))]) S') : wC T (k + 3) (x 35) [.loc a, .int p, .int (n : Nat), .int most] S Q := by
  have hb := isPr_b hp
  have h0 : 0 < p := by omega
  obtain ⟨H, H1, H2⟩ := H
  have mn : ∀ (i j : Int) (S : Sto) (Q : PostE), nMin.sem [.int i, .int j] S Q = Q (.int (if j < i then j else i)) S := fun i j S Q => propext ⟨fun ⟨i', j', e, h⟩ => by cases e; exact h, fun h => ⟨i, j, rfl, h⟩⟩
  have go : wSs (wC T (k + 2)) (y_lplain_set x) { nx := fun _ S' => Q .non S', rt := Q } [some (.loc a), some (.int p), some (.int (n : Nat)), some (.int most), none, none, none, none, none, none, none, none] S := by
    have rg : ∀ (j : Int) (S : Sto) (Q : PostE), 0 ≤ j → j ≤ 1000 → (nListRg1 true).sem [.int j] S Q = ∀ l, S.m l = none → Q (.loc l) (S.put l (.lst (rgD 0 j))) := fun j S Q j0 j1 => propext ⟨fun ⟨j', e, _, h⟩ => by cases e; exact h, fun h => ⟨j, rfl, ⟨by omega, by omega, by omega, by omega, by omega⟩, h⟩⟩
    simp_arith! [y_lplain_set, y_lplain_set_1, rg, mn]
    intro l hn0
    have mm : ∀ i : Int, 0 < (if 2 * (n : Int) < most then 2 * (n : Int) else most) + 1 := fun _ => by split <;> omega
    have mm2 : (if 2 * (n : Int) < most then 2 * (n : Int) else most) + 1 < 10000000000000000000 := by split <;> omega
    rw [next_eq H1 (by rw [Sto.put_dk]; exact hd) (mm 0) mm2]
    intro i i0 i1
    have i2 : i ≤ 2 * n ∧ i ≤ most := by split at i1 <;> omega
    have ei : i = ((i.toNat : Nat) : Int) := by omega
    have i3 : i.toNat ≤ 2 * n ∧ (i.toNat : Int) ≤ most := by omega
    rw [ei]
    generalize i.toNat = m at i3 ⊢
    have er : rgD 0 (2 * (n : Int)) = (List.range (2 * n)).map fun i => D.int (i : Nat) := rgD_nat (n := 2 * n)
    rw [er]
    simp_arith! [y_lplain_set_2]
    refine lcT_inv (e := fun v : Nat => D.int (v : Nat)) (bs := []) (N := m) (fun bs S' => ∃ pool : List Nat, S' = S.put l (.lst (pool.map fun i => D.int (i : Nat))) ∧ (bs ++ pool).Perm (List.range (2 * n))) (fun _ _ _ => trivial) ?_ ?_ (by simp) ⟨List.range (2 * n), rfl, by simp⟩
    · rintro t bs S' kk hlt ⟨pool, rfl, pm⟩ hk
      have hl := pm.length_eq
      simp at hl
      simp_arith! [pop_chk, len_put, next_eq H1]
      intro j j0 j1
      have hj : j.toNat < pool.length := by omega
      simp_arith! [pop_put, List.getElem?_map, List.getElem?_eq_getElem hj, Option.map_some]
      refine hk _ _ ⟨pool.eraseIdx j.toNat, by rw [map_eraseIdx], ?_⟩
      refine List.Perm.trans ?_ pm
      rw [List.append_assoc]
      refine List.Perm.append_left bs ?_
      exact perm_eraseIdx hj
    · rintro bs S' hbs ⟨pool, rfl, pm⟩
      refine sem_sortN fun ms pm2 srt => ?_
      have nd : ms.Nodup := by
        have := pm.nodup_iff.mpr List.nodup_range
        exact pm2.nodup_iff.mpr (List.nodup_append.mp this).1
      have lt : ∀ o ∈ ms, o < 2 * n := fun o ho => List.mem_range.mp (pm.mem_iff.mp (List.mem_append_left _ (pm2.mem_iff.mp ho)))
      have lm : ms.length = m := by rw [pm2.length_eq, hbs]
      have x1 : Ext S (S.put l (.lst (pool.map fun i => D.int (i : Nat)))) := (Ext.refl S).put hn0
      have hd1 : (S.put l (.lst (pool.map fun i => D.int (i : Nat)))).dk = some a := hd
      generalize S.put l (.lst (pool.map fun i => D.int (i : Nat))) = S1 at x1 hd1 ⊢
      simp_arith! [y_lplain_set_3, y_lplain_set_4, newL_t]
      intro lf hf
      have eP : ((ms.map Nat.cast : List Int).map D.int) = ms.map fun v : Nat => D.int (v : Nat) := by simp [List.map_map, Function.comp_def]
      rw [eP]
      refine for_list (fun ys ρ S' => ∃ (A : List (Nat × Rw)) (u v w : Option D), A.map (·.1) ++ ys = ms ∧ (∀ t ∈ A, VR p n t.2 ∧ co t.2 t.1 = 1 ∧ (∀ j < t.1, co t.2 j = 0) ∧ ∀ o ∈ ms, t.1 < o → co t.2 o = 0) ∧ S' = S1.put lf (.lst ((A.map (·.2)).map rowD)) ∧
        ρ = [some (.loc a), some (.int p), some (.int (n : Nat)), some (.int most), some (.loc l), some (.int (m : Nat)), some (lstI (ms.map Nat.cast)), some (.loc lf), u, v, w, none]) (fun _ _ _ _ => eP ▸ rfl) ?_ ?_ ⟨[], none, none, none, by simp, by simp, rfl, rfl⟩
      · rintro o ys ρ S' kk ⟨A, u, v, w, eA, hA, rfl, rfl⟩ hk
        have ho : o ∈ ms := by rw [← eA]; simp
        have ho2 := lt o ho
        simp_arith! [y_lplain_set_4b]
        have c1 : (2 * (n : Int) - (o : Int) - 1) = ((2 * n - o - 1 : Nat) : Int) := by omega
        have ml : ∀ (j : Nat) (S : Sto) (Q : PostE), j ≤ 1000 → (nMulL false).sem [.lst [.int 0], .int (j : Nat)] S Q = Q (.lst ((List.replicate j (0 : Int)).map D.int)) S := fun j S Q hj => by
          have e : (List.replicate j [D.int 0]).flatten = (List.replicate j (0 : Int)).map D.int := by
            rw [List.map_replicate]
            clear hj
            induction j with
            | zero => rfl
            | succ j ih => simp only [List.replicate_succ, List.flatten_cons, ih]; rfl
          refine propext ⟨fun ⟨d, kk, xs, e1, h1, _, _, _, h2⟩ => ?_, fun h => ⟨_, (j : Nat), _, rfl, rfl, by omega, by omega, by simpa using lim20 (by omega), ?_⟩⟩
          · cases e1
            simp only [lstS, seqS, Option.some.injEq] at h1
            subst h1
            rw [← e]; exact h2
          · rw [← e] at h; exact h
        simp_arith! [ml, c1, addI1, List.length_replicate]
        refine lnumbers_at (p := p) (m := 2 * n - o - 1) H2 (show (S1.put lf (.lst ((A.map (·.2)).map rowD))).dk = some a from hd1) h0 (by omega) (by omega) fun vs hvs hvb => ?_
        simp_arith! [addIO, List.length_replicate]
        generalize hX : S1.put lf (.lst ((A.map (·.2)).map rowD)) = X
        intro ln hln
        have lenv : (List.replicate o (0 : Int) ++ [1] ++ vs).length = 2 * n := by simp [hvs]; omega
        have z1 : ∀ j < o, (List.replicate o (0 : Int) ++ [1] ++ vs).getD j 0 = 0 := fun j hj => by
          rw [List.getD_eq_getElem?_getD, List.append_assoc, List.getElem?_append_left (by simpa using hj), List.getElem?_replicate]
          simp [hj]
        have z2 : (List.replicate o (0 : Int) ++ [1] ++ vs).getD o 0 = 1 := by
          rw [List.getD_eq_getElem?_getD, List.append_assoc, List.getElem?_append_right (by simp)]
          simp
        have z3 : ∀ c ∈ List.replicate o (0 : Int) ++ [1] ++ vs, 0 ≤ c ∧ c < p := fun c hc => by
          simp only [List.mem_append, List.mem_replicate, List.mem_singleton] at hc
          rcases hc with (⟨_, rfl⟩ | rfl) | hc
          · omega
          · omega
          · exact hvb c hc
        generalize List.replicate o (0 : Int) ++ [1] ++ vs = ns0 at lenv z1 z2 z3 ⊢
        simp_arith! [y_lplain_set_4b_1]
        rw [eP]
        refine for_list (fun zs ρ S' => ∃ (ns : List Int) (y : Option D), (∀ c ∈ zs, c ∈ ms) ∧ ns.length = 2 * n ∧ (∀ c ∈ ns, 0 ≤ c ∧ c < p) ∧ (∀ j < o, ns.getD j 0 = 0) ∧ ns.getD o 0 = 1 ∧ (∀ c ∈ ms, c ∉ zs → o < c → ns.getD c 0 = 0) ∧ S' = X.put ln (.lst (ns.map D.int)) ∧
          ρ = [some (.loc a), some (.int p), some (.int (n : Nat)), some (.int most), some (.loc l), some (.int (m : Nat)), some (lstI (ms.map Nat.cast)), some (.loc lf), some (.int (o : Nat)), some (.loc ln), y, none]) (fun _ _ _ _ => eP ▸ rfl) ?_ ?_ ⟨ns0, _, fun c hc => hc, lenv, z3, z1, z2, fun c hc hn => absurd hc hn, rfl, rfl⟩
        · rintro z zs ρ S' k2 ⟨ns, y, h0', h1, h2, h3, h4, h5, rfl, rfl⟩ hk2
          have hz := lt z (h0' z (by simp))
          simp_arith! [y_lplain_set_4b_1b, y_lplain_set_4b_1b_0t]
          have h0'' : ∀ c ∈ zs, c ∈ ms := fun c hc => h0' c (by simp [hc])
          by_cases c : o < z
          · rw [if_pos (by omega)]
            simp_arith! [Int.toNat_natCast]
            refine hk2 _ _ ⟨ns.set z 0, _, h0'', by simp [h1], fun e he => ?_, fun j hj => ?_, ?_, fun e he hn hl => ?_, rfl, rfl⟩
            · rcases mem_set he with rfl | he
              · omega
              · exact h2 e he
            · rw [getD_set, if_neg (by omega)]; exact h3 j hj
            · rw [getD_set, if_neg (by omega)]; exact h4
            · rw [getD_set]
              split
              · rfl
              · rename_i hne
                refine h5 e he (fun hm => ?_) hl
                rcases List.mem_cons.mp hm with rfl | hm
                · exact hne ⟨rfl, by omega⟩
                · exact hn hm
          · rw [if_neg (by omega)]
            refine hk2 _ _ ⟨ns, _, h0'', h1, h2, h3, h4, fun e he hn hl => h5 e he (fun hm => ?_) hl, rfl, rfl⟩
            rcases List.mem_cons.mp hm with rfl | hm
            · omega
            · exact hn hm
        · rintro ρ S' ⟨ns, y, _, h1, h2, h3, h4, h5, rfl, rfl⟩
          have hlf : X.m lf = some (.lst ((A.map (·.2)).map rowD)) := by rw [← hX]; exact Sto.put_same
          have hne : lf ≠ ln := fun q => by rw [q, hln] at hlf; cases hlf
          have chk : mApp.chk (.loc lf) (X.put ln (.lst (ns.map D.int))) := ⟨lf, _, rfl, by rw [Sto.put_ne hne]; exact hlf⟩
          have p1 : ∀ (S : Sto) (Q : PostE) (xs : List D) (h : (2 : Int) ≠ 0), (nPick false none 2 h).sem [.loc ln] (S.put ln (.lst xs)) Q = Q (.lst (evens xs)) (S.put ln (.lst xs)) := fun S Q xs h => propext ⟨fun ⟨d, zs, e, e1, e2⟩ => by
            cases e
            rw [lst_put] at e1
            cases e1
            rw [pick2] at e2
            exact e2, fun h => ⟨_, _, rfl, lst_put, by rw [pick2]; exact h⟩⟩
          have p2 : ∀ (S : Sto) (Q : PostE) (xs : List D) (h : (2 : Int) ≠ 0), (nPick false (some 1) 2 h).sem [.lst xs] S Q = Q (.lst (odds xs)) S := fun S Q xs h => propext ⟨fun ⟨d, zs, e, e1, e2⟩ => by
            cases e
            simp only [lstS, seqS, Option.some.injEq] at e1
            rw [← e1, pick21] at e2
            exact e2, fun h => ⟨_, _, rfl, rfl, by rw [pick21]; exact h⟩⟩
          simp_arith! [y_lplain_set_4b_2, chk, p1, p2, zip_prs]
          rw [← hX]
          have lA : A.length < 1000 := by have := congrArg List.length eA; simp at this; omega
          simp_arith! [app_put, lt_sz]
          refine hk _ _ ⟨A ++ [(o, prs ns)], _, _, _, by rw [← eA]; simp, fun t ht => ?_, by simp, rfl⟩
          rcases List.mem_append.mp ht with ht | ht
          · exact hA t ht
          · rw [List.mem_singleton.mp ht]
            refine ⟨⟨in_prs h2, by rw [prs_len]; omega⟩, ?_, fun j hj => ?_, fun e he hl => ?_⟩
            · rw [co_prs (by omega)]; exact h4
            · rw [co_prs (by omega)]; exact h3 j hj
            · rw [co_prs (by omega)]; exact h5 e he (by simp) hl
      · rintro ρ S' ⟨A, u, v, w, eA, hA, rfl, rfl⟩
        rw [List.append_nil] at eA
        have mA : ∀ t ∈ A, t.1 ∈ ms := fun t ht => by rw [← eA]; exact List.mem_map.mpr ⟨t, ht, rfl⟩
        simp_arith! [y_lplain_set_5]
        have e1 : lstI (ms.map Nat.cast) = lstI (A.map fun t => (t.1 : Int)) := by rw [← eA]; simp [lstI, List.map_map, Function.comp_def]
        have := q A S1 x1 ⟨fun t ht => (hA t ht).1, fun t ht => lt _ (mA t ht), by rw [eA]; exact nd, fun t ht => (hA t ht).2.1, fun t ht s hs hne => ?_, fun t ht => (hA t ht).2.2.1⟩ (by rw [← List.pairwise_map (f := fun t : Nat × Rw => t.1) (R := fun a b => a ≤ b), eA]; exact srt) (by have := congrArg List.length eA; simp at this; omega) (by have := congrArg List.length eA; simp at this; omega)
        · rw [e1]
          exact this
        · rcases Nat.lt_or_gt_of_ne hne with c | c
          · exact (hA s hs).2.2.2 _ (mA t ht) c
          · exact (hA s hs).2.2.1 _ c
  rw [wC_eq H rfl]
  simp_arith! [yn_lplain_set, fd_lplain_set]
  exact go
end
end
section
open PySem PySem.Spec L2
def shw (d : D) : Str := (toX d).shown
theorem Xs.mapC {α : Type} {e : α → D} {c h : Nat} : ∀ {xs : List α}, (∀ a ∈ xs, Xc c h (e a)) → Xs ((c + 1) * xs.length) h (xs.map e)
  | [], _ => Xs.mono Xs.nil (by omega) (by omega)
  | x :: xs, k => by
    have := Xs.cons (k x (List.mem_cons_self ..)) (Xs.mapC fun a ha => k a (List.mem_cons_of_mem _ ha))
    refine this.mono ?_ (Nat.le_refl _)
    rw [List.length_cons, Nat.mul_succ]
    omega
section
variable {S : Sto} {Q : PostE} {p : Int} {n : Nat}
theorem xc_pr {q : Int × Int} (h : 0 ≤ q.1 ∧ q.1 < p ∧ 0 ≤ q.2 ∧ q.2 < p) (hp : p ≤ 1000000) : Xc 2 1 (prD q) :=
  Xc.tup (xs := [.int q.1, .int q.2]) (Xs.mono (Xs.cons (Xc.small (i := q.1) (by omega) (by omega)) (Xs.cons (Xc.small (i := q.2) (by omega) (by omega)) Xs.nil)) (by omega) (Nat.le_refl 0))
theorem xc_row {r : Rw} (h : VR p n r) (hp : p ≤ 1000000) : Xc (3 * n) 2 (rowD r) := by
  have := Xc.tup (Xs.mapC (e := prD) (xs := r) fun q hq => xc_pr (h.inn q hq) hp)
  rw [h.len] at this
  exact this
theorem xc_rwsL {rs : List Rw} (h : ∀ r ∈ rs, VR p n r) (hp : p ≤ 1000000) : Xc ((3 * n + 1) * rs.length) 3 (rwsL rs) := Xc.lst (Xs.mapC (e := rowD) (xs := rs) fun r hr => xc_row (h r hr) hp)
theorem xS_eq {c h : Nat} {d : D} (n : Xc c h d) : xS S d = some (toX d) := by
  obtain ⟨a, _⟩ := xok_all n.ok
  have ok := n.ok
  cases d <;> first | exact a | (simp [xok] at ok)
theorem reprX_eq {c h : Nat} {d : D} (n : Xc c h d) (hc : c ≤ 200000) (hh : h ≤ 50) : nReprX.sem [d] S Q = Q (.str (shw d)) S := by
  refine propext ⟨fun ⟨d', q, e, h1, _, h2⟩ => ?_, fun q => do_reprX n hc hh q⟩
  cases e
  rw [xS_eq n] at h1
  cases h1
  exact h2
theorem plainR_nil (hp : isPr p) : plainR p [] = [] := plainR_unique (n := 0) (A := []) hp (by simp) .nil .nil (by simp) (by simp)
variable {T : Nat → Option FDef} {x : Nat → Nat} {k f : Nat}
theorem plainO_eq {rows : List Rw} {dr : D} (H : Has_plainO T x) (hp : isPr p) (hn : n ≤ 100) (hl : rows.length ≤ 1000) (hr : ∀ r ∈ rows, VR p n r) (hd : seqS S dr = some (rows.map rowD)) (hs : stayS dr (rows.map rowD) S) {m : Int} : wC T (k + 5) (x 17) [.int p, .int m, dr] S Q = ∀ l, S.m l = none → Q (.loc l) (S.put l (.lst ((plainR p rows).map rowD))) := by
  obtain ⟨H, H1⟩ := H
  rw [wC_eq H rfl]
  have e : D.lst (rows.map fun a => D.tup [rowD a, .tup []]) = lstE rnD (rows.map fun r => (r, [])) := by simp only [lstE, rnD, List.map_map, Function.comp_def, tupI, List.map_nil]
  have hr' : ∀ q ∈ rows.map fun r => (r, ([] : List Int)), VR p n q.1 ∧ q.2.length ≤ 1000 := fun q hq => by
    obtain ⟨r, h, rfl⟩ := List.mem_map.mp hq
    exact ⟨hr r h, by simp⟩
  have W := (wSort_ok good_len hp hr').1
  have ln := W.pl.length
  simp only [List.length_map] at ln
  have e2 : ∀ ts : List Tr, (ts.map fun t => rowD t.rw_) = (ts.map (·.rw_)).map rowD := fun ts => by simp only [List.map_map, Function.comp_def]
  simp_arith! [y_plainO, yn_plainO, fd_plainO, hd, hs, e, weighed_eq (n := n) H1 hp hn (by simpa using hl) hr', trD, e2, newL_t]
  rfl
end
def csL0 (neg : Bool) (d e : D) (S : Sto) : Option Bool := match e with
  | .lst [] => (lstS S d).map fun xs => xor neg xs.isEmpty
  | _ => none
theorem l0_of {X : Cx} {pins : List (Addr × Obj)} {pv : List Addr} {M : Nat} {σ : St} {S : Sto} {H Hd : Hp} {s : Shared} {d : D} {xs : List D} {x : V} {v : Value} (I : Inv X pins σ H s) (sr : SR X.K pv S Hd H M) (r : Rep X.K Hd d x) (rv : RelV x v) (e : lstS S d = some xs) : ∃ a its, v = .ref a ∧ s.heap.IsList a its ∧ its.size = xs.length := by
  obtain ⟨a, vs, rfl, rl, st⟩ := lst_of sr r e
  cases rv
  obtain ⟨its, rel, pl, _⟩ := I.list (.inl st)
  exact ⟨a, its.toArray, rfl, pl.isList, by rw [List.size_toArray, ← rel.length, rl.length]⟩
theorem csL0_inv {neg b : Bool} {d e : D} {S : Sto} (h : csL0 neg d e S = some b) : ∃ xs, lstS S d = some xs ∧ e = .lst [] ∧ b = xor neg xs.isEmpty := by
  unfold csL0 at h
  split at h
  · cases q : lstS S d with
    | none => rw [q] at h; cases h
    | some xs => rw [q] at h; cases h; exact ⟨xs, rfl, rfl, rfl⟩
  · cases h
def cEqL0 : CNode := ⟨.Eq, csL0 false, fun X A pins s σ H x y v u Q I rx ry q => by
  obtain ⟨pv, d, e, S, Hd, M, b, r1, r2, sr, hb, q⟩ := q
  obtain ⟨xs, hx, rfl, rfl⟩ := csL0_inv hb
  obtain ⟨a1, i1, rfl, t1, l1⟩ := l0_of I sr r1 rx hx
  obtain ⟨a2, i2, rfl, t2, l2⟩ := l0_of I sr r2 ry (S := S) (xs := []) rfl
  have z : i2.size = 0 := by simpa using l2
  cases xs with
  | nil =>
    have z1 : i1.size = 0 := by simpa using l1
    refine PySem.SeqAt.eq_listAt (e := fun _ => true) t1 t2 (by omega) (by have := A.un; omega) (fun j h1 _ => by omega) ⟨.bl _, H, I, rfl, ?_⟩
    rw [z1]
    simpa using q
  | cons y ys =>
    refine PySem.SeqAt.eq_list_lengthsAt t1 t2 (by rw [l1, z]; simp) (by have := A.un; omega) ⟨.bl _, H, I, rfl, ?_⟩
    simpa using q⟩
def cNeL0 : CNode := ⟨.NotEq, csL0 true, fun X A pins s σ H x y v u Q I rx ry q => by
  obtain ⟨pv, d, e, S, Hd, M, b, r1, r2, sr, hb, q⟩ := q
  obtain ⟨xs, hx, rfl, rfl⟩ := csL0_inv hb
  obtain ⟨a1, i1, rfl, t1, l1⟩ := l0_of I sr r1 rx hx
  obtain ⟨a2, i2, rfl, t2, l2⟩ := l0_of I sr r2 ry (S := S) (xs := []) rfl
  have z : i2.size = 0 := by simpa using l2
  cases xs with
  | nil =>
    have z1 : i1.size = 0 := by simpa using l1
    refine PySem.SeqAt.RcNeAt.lists (e := fun _ => true) t1 t2 (by omega) (by have := A.un; omega) (fun j h1 _ => by omega) _ _ _ _ ⟨.bl _, H, I, rfl, ?_⟩
    rw [z1]
    simpa using q
  | cons y ys =>
    refine PySem.SeqAt.RcNeAt.lists_lengths t1 t2 (by rw [l1, z]; simp) (by have := A.un; omega) _ _ _ _ ⟨.bl _, H, I, rfl, ?_⟩
    simpa using q⟩
theorem cs_eqL0 {S : Sto} {xs : List D} : cEqL0.cs (.lst xs) (.lst []) S = some xs.isEmpty := by show some (xor false _) = _; simp
theorem cs_neL0 {S : Sto} {xs : List D} : cNeL0.cs (.lst xs) (.lst []) S = some (!xs.isEmpty) := by show some (xor true _) = _; simp
theorem cs_eqL0M {α : Type} {e : α → D} {S : Sto} {xs : List α} : cEqL0.cs (.lst (xs.map e)) (.lst []) S = some xs.isEmpty := by rw [cs_eqL0]; simp
end
section
open PySem PySem.Spec L2
def y_lmeet (x : Nat → Nat) : List RS := (.ret (.nd nMod [.nd nSum [.lc false (.nd nSub [.nd (nMul false) [.var 3, .var 6], .nd (nMul false) [.var 5, .var 4]]) (.tup [.tup [.nm 3, .nm 4], .tup [.nm 5, .nm 6]]) iZipM [.var 1, .var 2] [] [("_law_x", 3), ("_law_y", 4), ("_law_right", 5), ("_law_down", 6)]], .var 0])) :: []
def yn_lmeet : List Str := ["_law_p", "_law_one", "_law_other", "_law_x", "_law_y", "_law_right", "_law_down"]
def fd_lmeet (x : Nat → Nat) : FDef := ⟨"_law_meet", ["_law_p", "_law_one", "_law_other"], yn_lmeet, y_lmeet x, none, 0⟩
def Has_lmeet (T : Nat → Option FDef) (x : Nat → Nat) : Prop := T (x 40) = some (fd_lmeet x)
def y_lis_row_2 (x : Nat → Nat) : List RS := (.ret (.nd (nBl true) [])) :: []
def y_lis_row_1b_1t (x : Nat → Nat) : List RS := (.ret (.nd (nBl false) [])) :: []
def y_lis_row_1b_1 (x : Nat → Nat) : List RS := (.ifs (.cmp cNeL0 (.lc false (.var 4) (.nm 4) iSeq [.var 3] [.or [.nd nIsi [.var 4, .nd tyBool []], .not (.nd nIsi [.var 4, .nd tyInt []]), .not (.ch cLe cLt (eI 0) (.var 4) (.var 0))]] [("_law_one", 4)]) (.nd (nLst false) [])) (y_lis_row_1b_1t x) []) :: []
def y_lis_row_1b_0t (x : Nat → Nat) : List RS := (.ret (.nd (nBl false) [])) :: []
def y_lis_row_1b (x : Nat → Nat) : List RS := (.ifs (.or [.not (.nd nIsi [.var 3, .nd tyTuple []]), .cmp cNe (.nd nLen [.var 3]) (eI 2)]) (y_lis_row_1b_0t x) []) :: (y_lis_row_1b_1 x)
def y_lis_row_1 (x : Nat → Nat) : List RS := (.for_ (.nm 3) iSeq [.var 2] (y_lis_row_1b x)) :: (y_lis_row_2 x)
def y_lis_row_0t (x : Nat → Nat) : List RS := (.ret (.nd (nBl false) [])) :: []
def y_lis_row (x : Nat → Nat) : List RS := (.ifs (.or [.not (.nd nIsi [.var 2, .nd tyTuple []]), .cmp cNe (.nd nLen [.var 2]) (.var 1)]) (y_lis_row_0t x) []) :: (y_lis_row_1 x)
def yn_lis_row : List Str := ["_law_p", "_law_posts", "_law_thing", "_law_pair", "_law_one"]
def fd_lis_row (x : Nat → Nat) : FDef := ⟨"_law_is_row", ["_law_p", "_law_posts", "_law_thing"], yn_lis_row, y_lis_row x, none, 0⟩
def Has_lis_row (T : Nat → Option FDef) (x : Nat → Nat) : Prop := T (x 43) = some (fd_lis_row x)
def y_mirrorO_4 (x : Nat → Nat) : List RS := (.ret (.call (x 17) [.var 0, .var 1, .frz (.var 5)])) :: []
def y_mirrorO_3b_0t_2 (x : Nat → Nat) : List RS := (.expr (.mth mApp (.var 5) [.call (x 12) [.frz (.var 8)]])) :: []
def y_mirrorO_3b_0t_1b (x : Nat → Nat) : List RS := (.setI (.nd nMod [.nd nSub [eI 0, .nd nIx [.call (x 11) [.var 7], .var 6]], .var 0]) (.var 8) (.var 9)) :: []
def y_mirrorO_3b_0t_1 (x : Nat → Nat) : List RS := (.for_ (.tup [.nm 9, .nm 7]) iSeq [.var 3] (y_mirrorO_3b_0t_1b x)) :: (y_mirrorO_3b_0t_2 x)
def y_mirrorO_3b_0t (x : Nat → Nat) : List RS := (.asgL 8 (.lc true (.nd nIntOf [.cmp cEq (.var 9) (.var 6)]) (.nm 9) iRg1 [.nd (nMul false) [eI 2, .var 1]] [] [("place", 9)])) :: (y_mirrorO_3b_0t_1 x)
def y_mirrorO_3b (x : Nat → Nat) : List RS := (.ifs (.cmp cNotIn (.var 6) (.var 4)) (y_mirrorO_3b_0t x) []) :: []
def y_mirrorO_3 (x : Nat → Nat) : List RS := (.for_ (.nm 6) iRg1 [.nd (nMul false) [eI 2, .var 1]] (y_mirrorO_3b x)) :: (y_mirrorO_4 x)
def y_mirrorO_2 (x : Nat → Nat) : List RS := (.asg (.nm 5) (.nd (nLst true) [])) :: (y_mirrorO_3 x)
def y_mirrorO_1 (x : Nat → Nat) : List RS := (.asgL 4 (.lc false (.var 9) (.tup [.nm 9, .nm 7]) iSeq [.var 3] [] [("place", 9), ("row", 7)])) :: (y_mirrorO_2 x)
def y_mirrorO (x : Nat → Nat) : List RS := (.asgL 3 (.lc false (.nd nTup [.call (x 13) [.var 7], .var 7]) (.nm 7) iSeq [.frz (.call (x 17) [.var 0, .var 1, .lc false (.call (x 20) [.var 0, .var 7]) (.nm 7) iSeq [.var 2] [] [("row", 7)]])] [] [("row", 7)])) :: (y_mirrorO_1 x)
def yn_mirrorO : List Str := ["p", "posts", "rows", "bound", "firsts", "found", "free", "row", "numbers", "place"]
def fd_mirrorO (x : Nat → Nat) : FDef := ⟨"mirror", ["p", "posts", "rows"], yn_mirrorO, y_mirrorO x, none, 0⟩
def Has_mirrorO (T : Nat → Option FDef) (x : Nat → Nat) : Prop := T (x 21) = some (fd_mirrorO x) ∧ Has_first_place T x ∧ Has_flipped T x ∧ Has_numbers_of T x ∧ Has_plainO T x ∧ Has_row_of T x
end
section
open PySem PySem.Spec L2
section
variable {p : Int} {n : Nat}
/-- the number at a place of the rows by their numbers together -/
def cs (ns : List Int) (rs : List Rw) (j : Nat) : Int := ((ns.zip rs).map fun q => q.1 * co q.2 j).sum
theorem comb_fold (h0 : 0 < p) {j : Nat} : ∀ {qs : List (Int × Rw)} {v : Rw}, VR p n v → (∀ q ∈ qs, VR p n q.2) → co (qs.foldl (fun v q => addR p v (mulR p q.1 q.2)) v) j = (co v j + (qs.map fun q => q.1 * co q.2 j).sum) % p
  | [], v, h, _ => by simp only [List.foldl_nil, List.map_nil, List.sum_nil, Int.add_zero, h.mod h0]
  | q :: qs, v, h, k => by
    have vq := k q (List.mem_cons_self ..)
    rw [List.foldl_cons, comb_fold h0 (h.add h0 (vq.mul h0)) fun q' hq => k q' (List.mem_cons_of_mem _ hq), h.co_add (vq.mul h0), co_mul, addm1, List.map_cons, List.sum_cons, ← Int.add_assoc]
    rw [← addm1 (a := co v j + q.1 * co q.2 j % p), addm2, addm1]
theorem co_comb (h0 : 0 < p) {ns : List Int} {rs : List Rw} (h : ∀ r ∈ rs, VR p n r) {j : Nat} : co (comb p n ns rs) j = cs ns rs j % p := by
  unfold comb cs
  rw [comb_fold h0 (.nul h0) fun q hq => h _ (List.of_mem_zip hq).2, co_nul, Int.zero_add]
/-- a unit -/
def unitN (m k : Nat) : List Int := (List.range m).map fun j => if j = k then 1 else 0
theorem unitN_len {m k : Nat} : (unitN m k).length = m := by simp [unitN]
end
end
section
open PySem PySem.Spec L2
/-- a typed loop that carries a state and knows what is left -/
theorem forRun_foldL {α σ : Type} {emb : α → D} {step : D → En → Sto → (En → Sto → Prop) → Prop} {stay : Sto → Prop} {Q : En → Sto → Prop} {S : Sto} {q : Prop} (R : σ → En → Prop) (g : σ → α → σ) (P : List α → σ → Prop) (hs : stay S)
    (h : ∀ a ys s ρ, R s ρ → P (a :: ys) s → P ys (g s a) ∧ ∀ (k : En → Sto → Prop) (v : Prop), (∀ ρ', R (g s a) ρ' → k ρ' S = v) → step (emb a) ρ S k = v) : ∀ {xs : List α} {s0 : σ} {ρ : En}, R s0 ρ → P xs s0 → (∀ ρ, R (xs.foldl g s0) ρ → P [] (xs.foldl g s0) → Q ρ S = q) → forRun step stay (xs.map emb) ρ S Q = q
  | [], s0, ρ, r, p, hq => by simp only [List.map_nil, forRun, hs, true_and]; exact hq ρ r p
  | x :: xs, s0, ρ, r, p, hq => by
    obtain ⟨p', e⟩ := h x xs s0 ρ r p
    simp only [List.map_cons, forRun, hs, true_and]
    exact e _ _ fun ρ' r' => forRun_foldL R g P hs h r' p' hq
section
variable {T : Nat → Option FDef} {x : Nat → Nat} {k f : Nat} {S : Sto} {Q : PostE} {p : Int} {n : Nat}
theorem zero_mul (h : n ≤ 1000) : (nMul false).sem [.tup [.int 0], .int (n : Nat)] S Q = Q (tupI (List.replicate n 0)) S := by
  have c1 : (-1000 ≤ (n : Int)) = True := eq_true (by omega)
  have c2 : ((n : Int) ≤ 1000) = True := eq_true (by omega)
  have e : D.tup (List.replicate n [D.int 0]).flatten = tupI (List.replicate n 0) := by
    rw [tupI, List.map_replicate]
    congr 1
    clear c1 c2 h
    induction n with
    | zero => rfl
    | succ m ih => simp only [List.replicate_succ, List.flatten_cons, ih]; rfl
  rw [sem_mulT, c1, c2, Int.toNat_natCast, e]
  simp
theorem flat_snoc {r : Rw} {q : Int × Int} : flat (r ++ [q]) = flat r ++ [q.1, q.2] := by simp [flat]
theorem lflat_eq {r : Rw} (H : Has_lflat T x) (hl : r.length ≤ 1000) : wC T (k + 1) (x 34) [rowD r] S Q = Q (lstI (flat r)) S := by
  rw [wC_eq H rfl]
  simp_arith! [y_lflat, y_lflat_1, yn_lflat, fd_lflat]
  have start : D.lst [] = lstI (flat []) := rfl
  rw [start]
  refine forRun_foldL (R := fun s ρ => ∃ u, ρ = [some (rowD r), some (lstI (flat s)), u]) (g := fun s q => s ++ [q]) (P := fun ys s => s.length + ys.length ≤ 1000) (by simp_arith! []) ?_ ⟨_, rfl⟩ (by simpa using hl) ?_
  · rintro q ys s ρ ⟨u, rfl⟩ hl'
    rw [List.length_cons] at hl'
    have lf := flat_len (r := s)
    refine ⟨by simp; omega, fun kk v hk => ?_⟩
    simp_arith! [y_lflat_1b]
    have e : ∀ Q : PostE, (nAdd false).sem [lstI (flat s), .lst [.int q.1, .int q.2]] S Q = Q (lstI (flat (s ++ [q]))) S := fun Q => by
      rw [flat_snoc]
      unfold lstI
      rw [sem_addL]
      have : ((flat s).map D.int).length + [D.int q.1, D.int q.2].length ≤ sizeLine := lim20 (by simp; omega)
      rw [eq_true this, true_and, List.map_append]
      rfl
    simp_arith! [e]
    exact hk _ ⟨_, rfl⟩
  · rintro ρ ⟨u, rfl⟩ _
    simp_arith! [y_lflat_2]
    have : ∀ (r s : Rw), r.foldl (fun s q => s ++ [q]) s = s ++ r := by
      intro r
      induction r with
      | nil => intro s; simp
      | cons a r ih => intro s; rw [List.foldl_cons, ih]; simp
    rw [this]
    rfl
theorem pyL_map {α : Type} {f : α → D} {g : α → PyData} (h : ∀ a, pyD (f a) = some (g a)) : ∀ {xs : List α}, pyL (xs.map f) = some (xs.map g)
  | [] => rfl
  | x :: xs => by simp only [List.map_cons, pyL, h, pyL_map h]
theorem lay_map {α : Type} {f : α → PyData} (h : ∀ a, (f a).canLay0 = true) : ∀ {xs : List α}, PyData.canLayAll0 (xs.map f) = true
  | [] => rfl
  | x :: xs => by simp only [List.map_cons, PyData.canLayAll0, h, lay_map h, Bool.and_self]
theorem eqv_map {α : Type} [DecidableEq α] {f : α → PyData} (h : ∀ a b, PyData.eqv (f a) (f b) = decide (a = b)) : ∀ {xs ys : List α}, PyData.eqvAll (xs.map f) (ys.map f) = decide (xs = ys)
  | [], [] => by simp [PyData.eqvAll]
  | [], _ :: _ => by simp [PyData.eqvAll]
  | _ :: _, [] => by simp [PyData.eqvAll]
  | x :: xs, y :: ys => by
    rw [List.map_cons, List.map_cons, PyData.eqvAll, h, eqv_map h, ← Bool.decide_and]
    simp
end
end
section
open PySem PySem.Spec L2
/-- rows with places of their own -/
structure Ky (p : Int) (n : Nat) (A : List (Nat × Rw)) : Prop where
  vr : ∀ t ∈ A, VR p n t.2
  pl : ∀ t ∈ A, t.1 < 2 * n
  nod : (A.map (·.1)).Nodup
  one : ∀ t ∈ A, co t.2 t.1 = 1
  zer : ∀ t ∈ A, ∀ s ∈ A, s.1 ≠ t.1 → co s.2 t.1 = 0
section
variable {p : Int} {n : Nat} {A B : List (Nat × Rw)}
theorem Pl.ky (P : Pl p n A) : Ky p n A := ⟨P.vr, P.pl, P.nod, P.one, P.zer⟩
theorem Ky.hA (P : Ky p n A) : ∀ a, rwsOf A a → VR p n a := fun a ⟨t, ht, e⟩ => e ▸ P.vr t ht
theorem Ky.vA (P : Ky p n A) : ∀ r ∈ A.map (·.2), VR p n r := fun r hr => by
  obtain ⟨t, ht, rfl⟩ := List.mem_map.mp hr
  exact P.vr t ht
theorem rwsOf_iff {a : Rw} : rwsOf A a ↔ a ∈ A.map (·.2) := by
  rw [List.mem_map]; rfl
theorem spn_of {v : Rw} : Spn p n (rwsOf A) v ↔ Spn p n (fun a => a ∈ A.map (·.2)) v := ⟨fun h => h.incl fun a => rwsOf_iff.mp, fun h => h.incl fun a => rwsOf_iff.mpr⟩
theorem Ky.lin_own (P : Ky p n A) {t : Nat × Rw} (ht : t ∈ A) (j : Nat) : lin A t.2 j = co t.2 j := by
  unfold lin
  rw [sum_one P.nod ht]
  · rw [P.one t ht, Int.one_mul]
  · intro s hs hne
    rw [P.zer s hs t ht fun q => hne q.symm, Int.zero_mul]
/-- at its places a row is what its numbers say -/
theorem Ky.lin_pl (P : Ky p n A) {v : Rw} {t : Nat × Rw} (ht : t ∈ A) : lin A v t.1 = co v t.1 := by
  unfold lin
  rw [sum_one P.nod ht]
  · rw [P.one t ht, Int.mul_one]
  · intro s hs hne
    rw [P.zer t ht s hs hne, Int.mul_zero]
theorem Ky.lin (P : Ky p n A) (h0 : 0 < p) {v : Rw} (hv : Spn p n (rwsOf A) v) (j : Nat) : co v j = FP.lin A v j % p := by
  have vv := hv.vr h0 P.hA
  rw [← vv.mod h0]
  clear vv
  induction hv with
  | zero =>
    rw [co_nul]
    unfold FP.lin
    rw [sum_zero fun t _ => by rw [co_nul, Int.zero_mul]]
  | @step w a c hw ha ih =>
    obtain ⟨t, ht, rfl⟩ := ha
    have vw := hw.vr h0 P.hA
    have va := P.vr t ht
    rw [vw.co_add (va.mul h0), modm, lin_add vw (va.mul h0), co_mul, ← addm1, ih, addm1, addm2, ← addm2 (a := FP.lin A w j) (b := FP.lin A (mulR p c t.2) j), lin_mul, addm2, P.lin_own ht]
theorem cs_lin {v : Rw} {j : Nat} : cs (A.map fun t => co v t.1) (A.map (·.2)) j = FP.lin A v j := by
  unfold cs FP.lin
  rw [List.zip_map', List.map_map]
  rfl
theorem Ky.spn_iff (P : Ky p n A) (h0 : 0 < p) {v : Rw} (vv : VR p n v) : Spn p n (rwsOf A) v ↔ ∀ j < 2 * n, co v j % p = FP.lin A v j % p := by
  refine ⟨fun h j _ => by rw [vv.mod h0, P.lin h0 h], fun h => ?_⟩
  have e : comb p n (A.map fun t => co v t.1) (A.map (·.2)) = v := row_ext (by rw [(comb_vr h0 P.vA).len, vv.len]) fun j => by
    rw [co_comb h0 P.vA, cs_lin]
    by_cases c : j < 2 * n
    · rw [← h j c, vv.mod h0]
    · rw [co_out (r := v) (by rw [vv.len]; omega)]
      unfold FP.lin
      rw [sum_zero fun t ht => by rw [co_out (r := t.2) (by rw [(P.vr t ht).len]; omega), Int.mul_zero]]
      simp
  rw [← e]
  exact spn_of.mpr (comb_spn h0 P.vA)
def allF (p : Int) (n : Nat) (rs : List Rw) : List Rw := rs.foldl (fun found r => found.flatMap fun v => (List.range p.toNat).map fun k : Nat => addR p v (mulR p k r)) [nul n]
theorem allF_snoc {rs : List Rw} {r : Rw} : allF p n (rs ++ [r]) = (allF p n rs).flatMap fun v => (List.range p.toNat).map fun k : Nat => addR p v (mulR p k r) := by
  unfold allF
  rw [List.foldl_append]
  rfl
theorem mem_allF_snoc {rs : List Rw} {r v : Rw} : v ∈ allF p n (rs ++ [r]) ↔ ∃ w ∈ allF p n rs, ∃ k : Nat, k < p.toNat ∧ addR p w (mulR p k r) = v := by
  rw [allF_snoc, List.mem_flatMap]
  simp only [List.mem_map, List.mem_range]
theorem snoc_ind {α : Type} {P : List α → Prop} (h0 : P []) (h1 : ∀ xs x, P xs → P (xs ++ [x])) : ∀ xs, P xs := by
  intro xs
  have : ∀ ys zs : List α, P zs → P (zs ++ ys) := by
    intro ys
    induction ys with
    | nil => intro zs h; simpa using h
    | cons y ys ih =>
      intro zs h
      have := ih (zs ++ [y]) (h1 zs y h)
      simpa using this
  simpa using this xs [] h0
theorem allF_vr (h0 : 0 < p) : ∀ {rs : List Rw}, (∀ r ∈ rs, VR p n r) → ∀ v ∈ allF p n rs, VR p n v := by
  intro rs
  refine snoc_ind (P := fun rs => (∀ r ∈ rs, VR p n r) → ∀ v ∈ allF p n rs, VR p n v) ?_ ?_ rs
  · intro _ v hv
    rw [List.mem_singleton.mp (show v ∈ [nul n] from hv)]
    exact .nul h0
  · intro rs r ih h v hv
    obtain ⟨w, hw, k, _, rfl⟩ := mem_allF_snoc.mp hv
    exact (ih (fun a ha => h a (by simp [ha])) w hw).add h0 ((h r (by simp)).mul h0)
theorem addR_assoc {u v w : Rw} (hu : VR p n u) (hv : VR p n v) (hw : VR p n w) (h0 : 0 < p) : addR p (addR p u v) w = addR p u (addR p v w) :=
  row_ext (by simp only [addR_len, hu.len, hv.len, hw.len, Nat.min_self]) fun i => by
    rw [(hu.add h0 hv).co_add hw, hu.co_add hv, hu.co_add (hv.add h0 hw), hv.co_add hw, addm1, addm2, Int.add_assoc]
theorem addR_comm {u v : Rw} (hu : VR p n u) (hv : VR p n v) : addR p u v = addR p v u :=
  row_ext (by simp only [addR_len, hu.len, hv.len]) fun i => by rw [hu.co_add hv, hv.co_add hu, Int.add_comm]
theorem mulR_mod {c : Int} {r : Rw} : mulR p (c % p) r = mulR p c r := row_ext (by simp only [mulR_len]) fun i => by rw [co_mul, co_mul, mulm1]
theorem mulR_add {c d : Int} {r : Rw} (h0 : 0 < p) (hr : VR p n r) : addR p (mulR p c r) (mulR p d r) = mulR p (c + d) r := row_ext (by simp only [addR_len, mulR_len, Nat.min_self]) fun i => by
  rw [(hr.mul h0).co_add (hr.mul h0), co_mul, co_mul, co_mul, addm1, addm2, Int.add_mul]
theorem mulR_zero {r : Rw} (hr : VR p n r) : mulR p 0 r = nul n := row_ext (by rw [mulR_len, hr.len]; simp) fun i => by rw [co_mul, co_nul]; simp
theorem addR_nul {r : Rw} (h0 : 0 < p) (hr : VR p n r) : addR p r (nul n) = r := row_ext (by rw [addR_len, hr.len]; simp) fun i => by
  rw [hr.co_add (.nul h0), co_nul, Int.add_zero, hr.mod h0]
theorem allF_step (h0 : 0 < p) : ∀ {rs : List Rw}, (∀ r ∈ rs, VR p n r) → ∀ v ∈ allF p n rs, ∀ a ∈ rs, ∀ c : Int, addR p v (mulR p c a) ∈ allF p n rs := by
  intro rs
  refine snoc_ind (P := fun rs => (∀ r ∈ rs, VR p n r) → ∀ v ∈ allF p n rs, ∀ a ∈ rs, ∀ c : Int, addR p v (mulR p c a) ∈ allF p n rs) ?_ ?_ rs
  · intro _ v hv a ha
    simp at ha
  · intro rs r ih h v hv a ha c
    have h' : ∀ r ∈ rs, VR p n r := fun a ha => h a (by simp [ha])
    have vr := h r (by simp)
    obtain ⟨w, hw, k, hk, rfl⟩ := mem_allF_snoc.mp hv
    have vw := allF_vr h0 h' w hw
    rcases List.mem_append.mp ha with ha | ha
    · have va := h' a ha
      refine mem_allF_snoc.mpr ⟨_, ih h' w hw a ha c, k, hk, ?_⟩
      rw [addR_assoc vw (va.mul h0) (vr.mul h0) h0, addR_assoc vw (vr.mul h0) (va.mul h0) h0, addR_comm (va.mul h0) (vr.mul h0)]
    · rw [List.mem_singleton.mp ha]
      have e0 := Int.emod_nonneg (k + c) (show p ≠ 0 by omega)
      have e1 := Int.emod_lt_of_pos (k + c) h0
      refine mem_allF_snoc.mpr ⟨w, hw, ((k + c) % p).toNat, by omega, ?_⟩
      rw [addR_assoc vw (vr.mul h0) (vr.mul h0) h0, mulR_add h0 vr, show (((k + c) % p).toNat : Int) = (k + c) % p by omega, mulR_mod]
theorem allF_zero (h0 : 0 < p) : ∀ {rs : List Rw}, (∀ r ∈ rs, VR p n r) → nul n ∈ allF p n rs := by
  intro rs
  refine snoc_ind (P := fun rs => (∀ r ∈ rs, VR p n r) → nul n ∈ allF p n rs) ?_ ?_ rs
  · intro _; exact List.mem_singleton.mpr rfl
  · intro rs r ih h
    refine mem_allF_snoc.mpr ⟨_, ih fun a ha => h a (by simp [ha]), 0, by omega, ?_⟩
    rw [show ((0 : Nat) : Int) = 0 from rfl, mulR_zero (h r (by simp)), addR_nul h0 (.nul h0)]
theorem mem_allF (h0 : 0 < p) {rs : List Rw} (h : ∀ r ∈ rs, VR p n r) {v : Rw} : v ∈ allF p n rs ↔ Spn p n (fun a => a ∈ rs) v := by
  refine ⟨?_, fun hv => ?_⟩
  · revert h v
    refine snoc_ind (P := fun rs => (∀ r ∈ rs, VR p n r) → ∀ {v : Rw}, v ∈ allF p n rs → Spn p n (fun a => a ∈ rs) v) ?_ ?_ rs
    · intro _ v hv
      rw [List.mem_singleton.mp (show v ∈ [nul n] from hv)]
      exact .zero
    · intro rs r ih h v hv
      obtain ⟨w, hw, k, _, rfl⟩ := mem_allF_snoc.mp hv
      exact .step ((ih (fun a ha => h a (by simp [ha])) hw).incl fun a ha => by simp [ha]) (by simp)
  · induction hv with
    | zero => exact allF_zero h0 h
    | step _ ha ih => exact allF_step h0 h _ ih _ ha _
theorem allF_len : ∀ {rs : List Rw}, (allF p n rs).length = p.toNat ^ rs.length := by
  intro rs
  refine snoc_ind (P := fun rs => (allF p n rs).length = p.toNat ^ rs.length) rfl ?_ rs
  intro rs r ih
  rw [allF_snoc, List.length_flatMap]
  simp only [List.length_map, List.length_range, List.map_const', List.sum_replicate_nat, ih, List.length_append, List.length_cons, List.length_nil, Nat.zero_add, Nat.pow_succ]
theorem Ky.init {t : Nat × Rw} (P : Ky p n (A ++ [t])) : Ky p n A := by
  refine ⟨fun s hs => P.vr s (by simp [hs]), fun s hs => P.pl s (by simp [hs]), ?_, fun s hs => P.one s (by simp [hs]), fun s hs u hu => P.zer s (by simp [hs]) u (by simp [hu])⟩
  have := P.nod
  rw [List.map_append] at this
  exact (List.nodup_append.mp this).1
theorem Ky.allF_nodup (h0 : 0 < p) : ∀ {A : List (Nat × Rw)}, Ky p n A → (allF p n (A.map (·.2))).Nodup := by
  intro A
  refine snoc_ind (P := fun A : List (Nat × Rw) => Ky p n A → (allF p n (A.map (·.2))).Nodup) ?_ ?_ A
  · intro _
    show [nul n].Nodup
    simp
  · intro A t ih P
    have P' := P.init
    have nd := ih P'
    have vt := P.vr t (by simp)
    have hz : ∀ w ∈ allF p n (A.map (·.2)), co w t.1 = 0 := fun w hw => by
      rw [P'.lin h0 (spn_of.mpr ((mem_allF h0 P'.vA).mp hw))]
      unfold FP.lin
      rw [sum_zero fun s hs => ?_]
      · simp
      · rw [P.zer t (by simp) s (by simp [hs]) fun q => ?_, Int.mul_zero]
        have := P.nod
        rw [List.map_append] at this
        exact (List.nodup_append.mp this).2.2 s.1 (List.mem_map.mpr ⟨s, hs, rfl⟩) t.1 (by simp) q
    have key : ∀ w ∈ allF p n (A.map (·.2)), ∀ w' ∈ allF p n (A.map (·.2)), ∀ k < p.toNat, ∀ k' < p.toNat, addR p w (mulR p (k : Nat) t.2) = addR p w' (mulR p (k' : Nat) t.2) → w = w' ∧ k = k' := fun w hw w' hw' k hk k' hk' e => by
      have vw := allF_vr h0 P'.vA w hw
      have vw' := allF_vr h0 P'.vA w' hw'
      have e1 := congrArg (fun v => co v t.1) e
      simp only [vw.co_add (vt.mul h0), vw'.co_add (vt.mul h0), co_mul, hz w hw, hz w' hw', Int.zero_add, modm, P.one t (by simp), Int.mul_one] at e1
      rw [Int.emod_eq_of_lt (by omega) (by omega), Int.emod_eq_of_lt (by omega) (by omega)] at e1
      have ek : k = k' := by omega
      subst ek
      refine ⟨row_ext (vw.len.trans vw'.len.symm) fun i => ?_, rfl⟩
      have e2 := congrArg (fun v => co v i) e
      simp only [vw.co_add (vt.mul h0), vw'.co_add (vt.mul h0)] at e2
      rw [← vw.mod h0, ← vw'.mod h0]
      have e3 : ∀ x y z : Int, (x + z) % p = (y + z) % p → x % p = y % p := fun x y z h => Int.emod_add_cancel_right z |>.mp h
      exact e3 _ _ _ e2
    rw [List.map_append, List.map_cons, List.map_nil, allF_snoc]
    refine List.pairwise_flatMap.mpr ⟨fun w hw => ?_, ?_⟩
    · rw [List.pairwise_map]
      refine List.Pairwise.imp_of_mem (fun {k k'} hk hk' hne e => ?_) List.nodup_range
      exact hne (key w hw w hw k (List.mem_range.mp hk) k' (List.mem_range.mp hk') e).2
    · refine List.Pairwise.imp_of_mem (fun {w w'} hw hw' hne => ?_) nd
      intro v h1 v' h2 e
      obtain ⟨k, hk, rfl⟩ := List.mem_map.mp h1
      obtain ⟨k', hk', rfl⟩ := List.mem_map.mp h2
      exact hne (key w hw w' hw' k (List.mem_range.mp hk) k' (List.mem_range.mp hk') e).1
/-- as many rows, whatever rows span the lot -/
theorem Ky.len_eq (h2 : 2 ≤ p) (PA : Ky p n A) (PB : Ky p n B) (h : ∀ v, Spn p n (rwsOf A) v ↔ Spn p n (rwsOf B) v) : A.length = B.length := by
  have h0 : 0 < p := by omega
  have pm : (allF p n (A.map (·.2))).Perm (allF p n (B.map (·.2))) := (List.perm_ext_iff_of_nodup (PA.allF_nodup h0) (PB.allF_nodup h0)).mpr fun v => by
    rw [mem_allF h0 PA.vA, mem_allF h0 PB.vA, ← spn_of, ← spn_of, h]
  have e := pm.length_eq
  rw [allF_len, allF_len, List.length_map, List.length_map] at e
  exact (Nat.pow_right_inj (show 1 < p.toNat by omega)).mp e
end
end
section
open PySem PySem.Spec L2
/-- a plain set of rows, with its places -/
def plB (p : Int) (rows : List Rw) : List (Nat × Rw) := (wSort p (rows.map fun r => (r, []))).map prT
def flipR (p : Int) (r : Rw) : Rw := r.map fun q => ((0 - q.2) % p, q.1)
def dotN (m : Nat) (r s : Rw) : Int := ((List.range m).map fun i => co r i * co s i).sum
def free (m : Nat) (B : List (Nat × Rw)) : List Nat := (List.range m).filter fun f => decide (f ∉ B.map (·.1))
def kerN (p : Int) (m : Nat) (B : List (Nat × Rw)) (f : Nat) : List Int := B.foldl (fun ns t => ns.set t.1 ((0 - co t.2 f) % p)) (unitN m f)
def kr (p : Int) (n : Nat) (B : List (Nat × Rw)) (f : Nat) : Rw := prs (kerN p (2 * n) B f)
def kers (p : Int) (n : Nat) (B : List (Nat × Rw)) : List (Nat × Rw) := (free (2 * n) B).map fun f => (f, kr p n B f)
def mirR (p : Int) (n : Nat) (rs : List Rw) : List Rw := plainR p ((kers p n (plB p (rs.map (flipR p)))).map (·.2))
section
variable {p : Int} {n : Nat} {A B : List (Nat × Rw)}
theorem plainR_plB {rows : List Rw} : plainR p rows = (plB p rows).map (·.2) := by
  unfold plainR plB
  rw [List.map_map]
  rfl
theorem plB_ok (hp : isPr p) {rows : List Rw} (hr : ∀ r ∈ rows, VR p n r) : Pl p n (plB p rows) ∧ (plB p rows).Pairwise (fun a b => a.1 ≤ b.1) ∧ ∀ v, Spn p n (rwsOf (plB p rows)) v ↔ Spn p n (fun a => a ∈ rows) v := by
  have h0 : 0 < p := by have := isPr_b hp; omega
  have hr' : ∀ q ∈ rows.map fun r => (r, ([] : List Int)), VR p n q.1 ∧ True := fun q hq => by
    obtain ⟨r, h, rfl⟩ := List.mem_map.mp hq
    exact ⟨hr r h, trivial⟩
  obtain ⟨W, srt⟩ := wSort_ok (G := fun _ _ => True) good_triv hp hr'
  refine ⟨W.pl, srt, fun v => ⟨fun h => h.mono h0 hr fun a ⟨t, ht, e⟩ => ?_, fun h => h.mono h0 W.pl.hA fun a ha => W.back (a, []) (List.mem_map.mpr ⟨a, ha, rfl⟩)⟩⟩
  obtain ⟨s, hs, rfl⟩ := List.mem_map.mp ht
  refine e ▸ (W.to s hs).incl fun b ⟨q, hq, eb⟩ => ?_
  obtain ⟨r, h, rfl⟩ := List.mem_map.mp hq
  exact eb ▸ h
theorem flipR_len {r : Rw} : (flipR p r).length = r.length := by simp [flipR]
theorem VR.flip {r : Rw} (h0 : 0 < p) (h : VR p n r) : VR p n (flipR p r) := by
  refine ⟨fun q hq => ?_, by rw [flipR_len, h.len]⟩
  obtain ⟨t, ht, rfl⟩ := List.mem_map.mp hq
  have := h.inn t ht
  exact ⟨Int.emod_nonneg _ (by omega), Int.emod_lt_of_pos _ h0, this.1, this.2.1⟩
theorem co_flip0 : ∀ {r : Rw} {k : Nat}, co (flipR p r) (2 * k) = (0 - co r (2 * k + 1)) % p
  | [], k => by simp [flipR, co_nil]
  | q :: r, 0 => rfl
  | q :: r, k + 1 => by
    show co (_ :: flipR p r) (2 * k + 2) = (0 - co (q :: r) (2 * k + 1 + 2)) % p
    rw [co_cons2, co_cons2, co_flip0]
theorem co_flip1 : ∀ {r : Rw} {k : Nat}, co (flipR p r) (2 * k + 1) = co r (2 * k)
  | [], k => by simp [flipR, co_nil]
  | q :: r, 0 => rfl
  | q :: r, k + 1 => by
    show co (_ :: flipR p r) (2 * k + 1 + 2) = co (q :: r) (2 * k + 2)
    rw [co_cons2, co_cons2, co_flip1]
theorem par_ext {r s : Rw} (hl : r.length = s.length) (h0 : ∀ k, co r (2 * k) = co s (2 * k)) (h1 : ∀ k, co r (2 * k + 1) = co s (2 * k + 1)) : r = s := row_ext hl fun i => by
  rcases Nat.mod_two_eq_zero_or_one i with c | c
  · have : i = 2 * (i / 2) := by omega
    rw [this]; exact h0 _
  · have : i = 2 * (i / 2) + 1 := by omega
    rw [this]; exact h1 _
theorem flip_lin {u a : Rw} {c : Int} (h0 : 0 < p) (hu : VR p n u) (ha : VR p n a) : flipR p (addR p u (mulR p c a)) = addR p (flipR p u) (mulR p c (flipR p a)) := by
  refine par_ext (by simp only [flipR_len, addR_len, mulR_len]) (fun k => ?_) fun k => ?_
  · rw [co_flip0, hu.co_add (ha.mul h0), (hu.flip h0).co_add ((ha.flip h0).mul h0), co_mul, co_mul, co_flip0, co_flip0, addm1, subm2, mulm2, addm2]
    have e : 0 - (co u (2 * k + 1) + c * co a (2 * k + 1) % p) = (0 - co u (2 * k + 1)) - c * co a (2 * k + 1) % p := by omega
    rw [e, subm2]
    congr 1
    grind
  · rw [co_flip1, hu.co_add (ha.mul h0), (hu.flip h0).co_add ((ha.flip h0).mul h0), co_mul, co_mul, co_flip1, co_flip1]
theorem flip_nul : flipR p (nul n) = nul n := par_ext (by simp [flipR_len]) (fun k => by rw [co_flip0, co_nul, co_nul]; simp) fun k => by rw [co_flip1, co_nul, co_nul]
theorem flip_flip {r : Rw} (h0 : 0 < p) (hr : VR p n r) : flipR p (flipR p r) = mulR p (-1) r := by
  refine par_ext (by simp only [flipR_len, mulR_len]) (fun k => ?_) fun k => ?_
  · rw [co_flip0, co_flip1, co_mul]; congr 1; omega
  · rw [co_flip1, co_flip0, co_mul]; congr 1; omega
theorem mul_neg {r : Rw} (h0 : 0 < p) (hr : VR p n r) : mulR p (-1) (mulR p (-1) r) = r := row_ext (by simp only [mulR_len]) fun i => by
  rw [co_mul, co_mul, mulm2, ← Int.mul_assoc]
  simp [hr.mod h0]
theorem spn_flip {A' : Rw → Prop} {v : Rw} (h0 : 0 < p) (hA : ∀ a, A' a → VR p n a) (h : Spn p n A' v) : Spn p n (fun b => ∃ a, A' a ∧ flipR p a = b) (flipR p v) := by
  induction h with
  | zero => rw [flip_nul]; exact .zero
  | step hw ha ih =>
    rw [flip_lin h0 (hw.vr h0 hA) (hA _ ha)]
    exact .step ih ⟨_, ha, rfl⟩
theorem spn_flip_iff {rs : List Rw} {v : Rw} (h0 : 0 < p) (hr : ∀ r ∈ rs, VR p n r) (hv : VR p n v) : Spn p n (fun a => a ∈ rs.map (flipR p)) (flipR p v) ↔ Spn p n (fun a => a ∈ rs) v := by
  refine ⟨fun h => ?_, fun h => (spn_flip h0 hr h).incl fun b ⟨a, ha, e⟩ => e ▸ List.mem_map.mpr ⟨a, ha, rfl⟩⟩
  have hf : ∀ a, a ∈ rs.map (flipR p) → VR p n a := fun a ha => by
    obtain ⟨r, h, rfl⟩ := List.mem_map.mp ha
    exact (hr r h).flip h0
  have h1 := spn_flip h0 hf h
  rw [flip_flip h0 hv] at h1
  have h2 : Spn p n (fun a => a ∈ rs) (mulR p (-1) v) := h1.mono h0 hr fun b ⟨a, ha, e⟩ => by
    obtain ⟨r, h, rfl⟩ := List.mem_map.mp ha
    rw [← e, flip_flip h0 (hr r h)]
    exact (Spn.of h0 hr h).mul h0 hr
  have h3 := h2.mul (d := -1) h0 hr
  rwa [mul_neg h0 hv] at h3
theorem flip_inj {u v : Rw} (h0 : 0 < p) (hu : VR p n u) (hv : VR p n v) (e : flipR p u = flipR p v) : u = v := by
  have := congrArg (fun w => mulR p (-1) (flipR p w)) e
  simp only [flip_flip h0 hu, flip_flip h0 hv, mul_neg h0 hu, mul_neg h0 hv] at this
  exact this
theorem dotN_cons {m : Nat} {q t : Int × Int} {r s : Rw} : dotN (m + 2) (q :: r) (t :: s) = q.1 * t.1 + (q.2 * t.2 + dotN m r s) := by
  unfold dotN
  rw [List.range_succ_eq_map, List.map_cons, List.map_map, List.sum_cons, List.range_succ_eq_map, List.map_cons, List.map_map, List.sum_cons]
  rfl
theorem dot_mod_add {m : Nat} {u v w : Rw} (hu : VR p n u) (hv : VR p n v) : dotN m (addR p u v) w % p = (dotN m u w + dotN m v w) % p := by
  unfold dotN
  rw [← sum_map_add]
  refine sum_map_mod fun i _ => ?_
  rw [hu.co_add hv, mulm1, Int.add_mul]
theorem dot_mod_mul {m : Nat} {u w : Rw} {c : Int} : dotN m (mulR p c u) w % p = c * dotN m u w % p := by
  unfold dotN
  rw [← sum_map_mul]
  refine sum_map_mod fun i _ => ?_
  rw [co_mul, mulm1, Int.mul_assoc]
theorem dot_spn {m : Nat} {A' : Rw → Prop} {v w : Rw} (h0 : 0 < p) (hA : ∀ a, A' a → VR p n a) (h : Spn p n A' v) (hz : ∀ a, A' a → dotN m a w % p = 0) : dotN m v w % p = 0 := by
  induction h with
  | zero =>
    unfold dotN
    rw [sum_zero fun i _ => by rw [co_nul, Int.zero_mul]]
    simp
  | step hw ha ih => rw [dot_mod_add (hw.vr h0 hA) ((hA _ ha).mul h0), ← addm1, ih, ← addm2, dot_mod_mul, ← mulm2, hz _ ha]; simp
theorem dot_comm {m : Nat} {u v : Rw} : dotN m u v = dotN m v u := by
  unfold dotN
  congr 1
  exact List.map_congr_left fun i _ => Int.mul_comm ..
theorem meet_dot : ∀ {r s : Rw}, r.length = s.length → meetI r s % p = (0 - dotN (2 * r.length) r (flipR p s)) % p
  | [], [], _ => by simp [meetI, dotN]
  | [], _ :: _, h => by simp at h
  | _ :: _, [], h => by simp at h
  | q :: r, t :: s, h => by
    have ih := meet_dot (r := r) (s := s) (by simpa using h)
    have e1 : meetI (q :: r) (t :: s) = (q.1 * t.2 - t.1 * q.2) + meetI r s := rfl
    have e2 : flipR p (t :: s) = ((0 - t.2) % p, t.1) :: flipR p s := rfl
    rw [e1, e2, show 2 * (q :: r).length = 2 * r.length + 2 by simp; omega, dotN_cons, ← addm2, ih, addm2]
    have e3 : 0 - (q.1 * ((0 - t.2) % p) + (q.2 * t.1 + dotN (2 * r.length) r (flipR p s))) = (0 - (q.2 * t.1 + dotN (2 * r.length) r (flipR p s))) - q.1 * ((0 - t.2) % p) := by omega
    dsimp only
    rw [e3, ← subm2, mulm2, subm2]
    congr 1
    grind
theorem meet_zero {r s : Rw} (hr : VR p n r) (hs : VR p n s) : meetI r s % p = 0 ↔ dotN (2 * n) r (flipR p s) % p = 0 := by
  rw [meet_dot (hr.len.trans hs.len.symm), hr.len]
  constructor
  · intro h
    have := Int.dvd_of_emod_eq_zero h
    exact Int.emod_eq_zero_of_dvd (by have := Int.dvd_neg.mpr this; rwa [show -(0 - dotN (2 * n) r (flipR p s)) = dotN (2 * n) r (flipR p s) by omega] at this)
  · intro h
    have := Int.dvd_of_emod_eq_zero h
    exact Int.emod_eq_zero_of_dvd (by rw [show 0 - dotN (2 * n) r (flipR p s) = -dotN (2 * n) r (flipR p s) by omega]; exact Int.dvd_neg.mpr this)
theorem meetI_swap : ∀ {r s : Rw}, meetI r s = -meetI s r
  | [], _ => by simp [meetI]
  | _ :: _, [] => by simp [meetI]
  | q :: r, t :: s => by
    have e1 : meetI (q :: r) (t :: s) = (q.1 * t.2 - t.1 * q.2) + meetI r s := rfl
    have e2 : meetI (t :: s) (q :: r) = (t.1 * q.2 - q.1 * t.2) + meetI s r := rfl
    rw [e1, e2, meetI_swap (r := r) (s := s)]
    omega
theorem meet_swap0 {r s : Rw} : meetI r s % p = 0 ↔ meetI s r % p = 0 := by
  have key : ∀ {r s : Rw}, meetI r s % p = 0 → meetI s r % p = 0 := fun {r s} h => by
    rw [meetI_swap]
    exact Int.emod_eq_zero_of_dvd (Int.dvd_neg.mpr (Int.dvd_of_emod_eq_zero h))
  exact ⟨key, key⟩
theorem mem_free {m f : Nat} : f ∈ free m B ↔ f < m ∧ f ∉ B.map (·.1) := by
  unfold free
  rw [List.mem_filter, List.mem_range, decide_eq_true_eq]
theorem free_nodup {m : Nat} : (free m B).Nodup := List.nodup_range.filter _
theorem perm_free {m : Nat} (nd : (B.map (·.1)).Nodup) (h : ∀ t ∈ B, t.1 < m) : (List.range m).Perm (free m B ++ B.map (·.1)) := by
  refine (List.perm_ext_iff_of_nodup List.nodup_range (List.nodup_append.mpr ⟨free_nodup, nd, fun a ha b hb e => ?_⟩)).mpr fun i => ?_
  · exact (mem_free.mp ha).2 (e ▸ hb)
  · rw [List.mem_append, mem_free, List.mem_range]
    refine ⟨fun hi => ?_, fun h' => ?_⟩
    · by_cases c : i ∈ B.map (·.1)
      · exact .inr c
      · exact .inl ⟨hi, c⟩
    · rcases h' with h' | h'
      · exact h'.1
      · obtain ⟨t, ht, rfl⟩ := List.mem_map.mp h'
        exact h t ht
theorem perm_sum {l m : List Int} (h : l.Perm m) : l.sum = m.sum := by
  induction h with
  | nil => rfl
  | cons a _ ih => rw [List.sum_cons, List.sum_cons, ih]
  | swap a b l => simp only [List.sum_cons]; omega
  | trans _ _ h1 h2 => exact h1.trans h2
theorem sum_split {m : Nat} {g : Nat → Int} (nd : (B.map (·.1)).Nodup) (h : ∀ t ∈ B, t.1 < m) : ((List.range m).map g).sum = ((free m B).map g).sum + (B.map fun t => g t.1).sum := by
  rw [perm_sum ((perm_free nd h).map g), List.map_append, List.sum_append_int, List.map_map]
  rfl
theorem fold_set_len : ∀ {B : List (Nat × Rw)} {v : Nat × Rw → Int} {ns : List Int}, (B.foldl (fun ns t => ns.set t.1 (v t)) ns).length = ns.length
  | [], _, _ => rfl
  | t :: B, v, ns => by rw [List.foldl_cons, fold_set_len, List.length_set]
theorem fold_set_other : ∀ {B : List (Nat × Rw)} {v : Nat × Rw → Int} {ns : List Int} {i : Nat}, i ∉ B.map (·.1) → (B.foldl (fun ns t => ns.set t.1 (v t)) ns).getD i 0 = ns.getD i 0
  | [], _, _, _, _ => rfl
  | t :: B, v, ns, i, h => by
    rw [List.map_cons, List.mem_cons] at h
    rw [List.foldl_cons, fold_set_other fun q => h (.inr q), getD_set, if_neg fun q => h (.inl (by omega))]
theorem fold_set_own : ∀ {B : List (Nat × Rw)} {v : Nat × Rw → Int} {ns : List Int} {t : Nat × Rw}, (B.map (·.1)).Nodup → t ∈ B → t.1 < ns.length → (B.foldl (fun ns t => ns.set t.1 (v t)) ns).getD t.1 0 = v t
  | [], _, _, _, _, h, _ => by simp at h
  | s :: B, v, ns, t, nd, h, hl => by
    rw [List.map_cons, List.nodup_cons] at nd
    rw [List.foldl_cons]
    rcases List.mem_cons.mp h with rfl | h
    · rw [fold_set_other nd.1, getD_set, if_pos ⟨rfl, hl⟩]
    · exact fold_set_own nd.2 h (by rw [List.length_set]; exact hl)
theorem unitN_get {m f i : Nat} (h : i < m) : (unitN m f).getD i 0 = if i = f then 1 else 0 := by
  rw [List.getD_eq_getElem?_getD, List.getElem?_eq_getElem (by rw [unitN_len]; exact h)]
  simp [unitN]
theorem kerN_len {m f : Nat} : (kerN p m B f).length = m := by rw [kerN, fold_set_len, unitN_len]
theorem kerN_in {m f : Nat} (h1 : 2 ≤ p) : ∀ c ∈ kerN p m B f, 0 ≤ c ∧ c < p := by
  have key : ∀ (B : List (Nat × Rw)) (ns : List Int), (∀ c ∈ ns, 0 ≤ c ∧ c < p) → ∀ c ∈ B.foldl (fun ns t => ns.set t.1 ((0 - co t.2 f) % p)) ns, 0 ≤ c ∧ c < p := by
    intro B
    induction B with
    | nil => intro ns h; exact h
    | cons t B ih =>
      intro ns h
      rw [List.foldl_cons]
      refine ih _ fun c hc => ?_
      rcases List.mem_or_eq_of_mem_set hc with hc | rfl
      · exact h c hc
      · exact ⟨Int.emod_nonneg _ (by omega), Int.emod_lt_of_pos _ (by omega)⟩
  refine key B _ fun c hc => ?_
  obtain ⟨i, _, rfl⟩ := List.mem_map.mp hc
  split <;> omega
theorem co_kr {f i : Nat} : co (kr p n B f) i = (kerN p (2 * n) B f).getD i 0 := co_prs (by rw [kerN_len]; omega)
theorem co_kr_own (P : Ky p n B) {f : Nat} {t : Nat × Rw} (ht : t ∈ B) : co (kr p n B f) t.1 = (0 - co t.2 f) % p := by
  rw [co_kr, kerN, fold_set_own P.nod ht (by rw [unitN_len]; exact P.pl t ht)]
theorem co_kr_free {f i : Nat} (h : i ∈ free (2 * n) B) : co (kr p n B f) i = if i = f then 1 else 0 := by
  rw [co_kr, kerN, fold_set_other (mem_free.mp h).2, unitN_get (mem_free.mp h).1]
theorem kr_vr (h1 : 2 ≤ p) {f : Nat} : VR p n (kr p n B f) := ⟨in_prs (kerN_in h1), by rw [kr, prs_len, kerN_len]; omega⟩
theorem kers_ky (h1 : 2 ≤ p) : Ky p n (kers p n B) := by
  have mem : ∀ {t}, t ∈ kers p n B → t.1 ∈ free (2 * n) B ∧ t.2 = kr p n B t.1 := fun {t} ht => by
    obtain ⟨f, hf, rfl⟩ := List.mem_map.mp ht
    exact ⟨hf, rfl⟩
  refine ⟨fun t ht => ?_, fun t ht => (mem_free.mp (mem ht).1).1, ?_, fun t ht => ?_, fun t ht s hs hne => ?_⟩
  · rw [(mem ht).2]; exact kr_vr h1
  · have : (kers p n B).map (·.1) = free (2 * n) B := by unfold kers; rw [List.map_map]; exact List.map_id _
    rw [this]; exact free_nodup
  · rw [(mem ht).2, co_kr_free (mem ht).1, if_pos rfl]
  · rw [(mem hs).2, co_kr_free (mem ht).1, if_neg fun q => hne q.symm]
theorem dot_kr (P : Ky p n B) {f : Nat} {w : Rw} (hf : f ∈ free (2 * n) B) : dotN (2 * n) (kr p n B f) w % p = (co w f - lin B w f) % p := by
  unfold dotN
  rw [sum_split P.nod P.pl]
  have e1 : ((free (2 * n) B).map fun i => co (kr p n B f) i * co w i).sum = co w f := by
    have e : ((free (2 * n) B).map fun i => co (kr p n B f) i * co w i) = ((free (2 * n) B).map fun i => (i, ([] : Rw))).map fun t => (if t.1 = f then 1 else 0) * co w t.1 := by
      rw [List.map_map]
      exact List.map_congr_left fun i hi => by rw [co_kr_free hi]; rfl
    rw [e, sum_one (t := (f, [])) (by rw [List.map_map]; exact (List.map_id _).symm ▸ free_nodup) (List.mem_map.mpr ⟨f, hf, rfl⟩) fun s hs hne => by rw [if_neg hne, Int.zero_mul]]
    simp
  have e2 : (B.map fun t => co (kr p n B f) t.1 * co w t.1).sum % p = (0 - lin B w f) % p := by
    have : (B.map fun t => co (kr p n B f) t.1 * co w t.1).sum % p = (B.map fun t => (-1) * (co w t.1 * co t.2 f)).sum % p := sum_map_mod fun t ht => by
      rw [co_kr_own P ht, mulm1]
      congr 1
      grind
    rw [this, sum_map_mul]
    unfold lin
    congr 1
    omega
  rw [e1, ← addm2, e2, addm2]
  congr 1
  omega
end
end
section
open PySem PySem.Spec L2
section
variable {p : Int} {n : Nat} {A B : List (Nat × Rw)} {rs : List Rw}
theorem vflip (h0 : 0 < p) (hr : ∀ r ∈ rs, VR p n r) : ∀ r ∈ rs.map (flipR p), VR p n r := fun a ha => by
  obtain ⟨r, h, rfl⟩ := List.mem_map.mp ha
  exact (hr r h).flip h0
theorem sub_zero {a b : Int} : (a - b) % p = 0 ↔ a % p = b % p := by
  constructor
  · intro h
    have : a = (a - b) + b := by omega
    rw [this, ← addm1, h, Int.zero_add]
  · intro h
    rw [← subm1, h, subm1, Int.sub_self]
    simp
/-- a row meets all of the free ones just where it comes from the plain set -/
theorem kers_dot (P : Ky p n B) (h0 : 0 < p) {w : Rw} (vw : VR p n w) : (∀ t ∈ kers p n B, dotN (2 * n) t.2 w % p = 0) ↔ Spn p n (rwsOf B) w := by
  rw [P.spn_iff h0 vw]
  constructor
  · intro h j hj
    by_cases c : j ∈ B.map (·.1)
    · obtain ⟨t, ht, rfl⟩ := List.mem_map.mp c
      rw [P.lin_pl ht]
    · have hf : j ∈ free (2 * n) B := mem_free.mpr ⟨hj, c⟩
      have := h (j, kr p n B j) (List.mem_map.mpr ⟨j, hf, rfl⟩)
      rw [dot_kr P hf] at this
      exact sub_zero.mp this
  · intro h t ht
    obtain ⟨f, hf, rfl⟩ := List.mem_map.mp ht
    rw [dot_kr P hf]
    exact sub_zero.mpr (h f (mem_free.mp hf).1)
/-- what the free ones span: all that meets the plain set -/
theorem kers_spn (h1 : 2 ≤ p) (P : Ky p n B) {v : Rw} (vv : VR p n v) : Spn p n (rwsOf (kers p n B)) v ↔ ∀ t ∈ B, dotN (2 * n) v t.2 % p = 0 := by
  have h0 : 0 < p := by omega
  have K := kers_ky (n := n) (B := B) h1
  constructor
  · intro h t ht
    refine dot_spn h0 K.hA h fun a ⟨s, hs, e⟩ => e ▸ (kers_dot P h0 (P.vr t ht)).mpr (.of h0 P.hA ⟨t, ht, rfl⟩) s hs
  · intro h
    refine (K.spn_iff h0 vv).mpr fun j hj => ?_
    by_cases c : j ∈ B.map (·.1)
    · obtain ⟨t, ht, rfl⟩ := List.mem_map.mp c
      have hd := h t ht
      unfold dotN at hd
      rw [sum_split P.nod P.pl, sum_one (f := fun s : Nat × Rw => co v s.1 * co t.2 s.1) P.nod ht (fun s hs hne => by rw [P.zer s hs t ht fun q => hne q.symm, Int.mul_zero]), P.one t ht, Int.mul_one] at hd
      have e : lin (kers p n B) v t.1 % p = (0 - ((free (2 * n) B).map fun i => co v i * co t.2 i).sum) % p := by
        have e1 : lin (kers p n B) v t.1 % p = (((free (2 * n) B).map fun i => (-1) * (co v i * co t.2 i)).sum) % p := by
          unfold lin kers
          rw [List.map_map]
          refine sum_map_mod fun i hi => ?_
          show co v i * co (kr p n B i) t.1 % p = _
          rw [co_kr_own P ht, mulm2]
          congr 1
          grind
        rw [e1, sum_map_mul]
        congr 1
        omega
      rw [e]
      refine sub_zero.mp ?_
      rw [← hd]
      congr 1
      omega
    · have hf : j ∈ free (2 * n) B := mem_free.mpr ⟨hj, c⟩
      have := K.lin_pl (v := v) (t := (j, kr p n B j)) (List.mem_map.mpr ⟨j, hf, rfl⟩)
      rw [show lin (kers p n B) v j = co v j from this]
theorem mirV (hp : isPr p) (n : Nat) (rs : List Rw) : ∀ r ∈ (kers p n (plB p (rs.map (flipR p)))).map (·.2), VR p n r := (kers_ky (isPr_b hp).1).vA
theorem plainR_vr (hp : isPr p) (hr : ∀ r ∈ rs, VR p n r) : ∀ r ∈ plainR p rs, VR p n r := by
  rw [plainR_plB]
  exact (plB_ok hp hr).1.ky.vA
theorem plainR_spn (hp : isPr p) (hr : ∀ r ∈ rs, VR p n r) {v : Rw} : Spn p n (fun a => a ∈ plainR p rs) v ↔ Spn p n (fun a => a ∈ rs) v := by
  rw [plainR_plB, ← spn_of]
  exact (plB_ok hp hr).2.2 v
theorem mir_vr (hp : isPr p) : ∀ r ∈ mirR p n rs, VR p n r := plainR_vr hp (mirV hp n rs)
/-- the mirror spans all that meets each row with 0 -/
theorem mir_spn (hp : isPr p) (hr : ∀ r ∈ rs, VR p n r) {v : Rw} (vv : VR p n v) : Spn p n (fun a => a ∈ mirR p n rs) v ↔ ∀ r ∈ rs, meetI v r % p = 0 := by
  have h2 := (isPr_b hp).1
  have h0 : 0 < p := by omega
  have vf := vflip h0 hr
  obtain ⟨P, srt, sp⟩ := plB_ok hp vf
  unfold mirR
  rw [plainR_spn hp (mirV hp n rs), ← spn_of, kers_spn h2 P.ky vv]
  constructor
  · intro h r hr'
    rw [meet_zero vv (hr r hr'), dot_comm]
    refine dot_spn h0 P.hA ((sp _).mpr (.of h0 vf (List.mem_map.mpr ⟨r, hr', rfl⟩))) fun a ⟨t, ht, e⟩ => ?_
    rw [dot_comm]
    exact e ▸ h t ht
  · intro h t ht
    rw [dot_comm]
    refine dot_spn h0 vf ((sp _).mp (.of h0 P.hA ⟨t, ht, rfl⟩)) fun a ha => ?_
    obtain ⟨r, hr', rfl⟩ := List.mem_map.mp ha
    rw [dot_comm]
    exact (meet_zero vv (hr r hr')).mp (h r hr')
/-- what meets all of the mirror is in the lot -/
theorem mir_back (hp : isPr p) (hr : ∀ r ∈ rs, VR p n r) {v : Rw} (vv : VR p n v) : (∀ m ∈ mirR p n rs, meetI m v % p = 0) ↔ Spn p n (fun a => a ∈ rs) v := by
  have h2 := (isPr_b hp).1
  have h0 : 0 < p := by omega
  have vf := vflip h0 hr
  obtain ⟨P, srt, sp⟩ := plB_ok hp vf
  have vfv := vv.flip h0
  rw [← spn_flip_iff h0 hr vv, ← sp, ← kers_dot P.ky h0 vfv]
  have K := kers_ky (n := n) (B := plB p (rs.map (flipR p))) h2
  have vm := mir_vr (n := n) (rs := rs) hp
  constructor
  · intro h t ht
    refine dot_spn h0 vm ((plainR_spn hp (mirV hp n rs)).mpr (.of h0 (mirV hp n rs) (List.mem_map.mpr ⟨t, ht, rfl⟩))) fun a ha => ?_
    exact (meet_zero (vm a ha) vv).mp (h a ha)
  · intro h m hm
    rw [meet_zero (vm m hm) vv]
    refine dot_spn h0 (mirV hp n rs) ((plainR_spn hp (mirV hp n rs)).mp (.of h0 vm hm)) fun a ha => ?_
    obtain ⟨t, ht, rfl⟩ := List.mem_map.mp ha
    exact h t ht
/-- mirrored twice: the lot itself -/
theorem mir_mir (hp : isPr p) (hr : ∀ r ∈ rs, VR p n r) : mirR p n (mirR p n rs) = plainR p rs := by
  have h0 : 0 < p := by have := isPr_b hp; omega
  obtain ⟨P, srt, sp⟩ := plB_ok hp hr
  have vm := mir_vr (n := n) (rs := rs) hp
  have key : ∀ v, VR p n v → (Spn p n (fun a => a ∈ mirR p n (mirR p n rs)) v ↔ Spn p n (fun a => a ∈ rs) v) := fun v vv => by
    rw [mir_spn hp vm vv, ← mir_back hp hr vv]
    exact ⟨fun h m hm => meet_swap0.mp (h m hm), fun h m hm => meet_swap0.mp (h m hm)⟩
  have vmm := mir_vr (n := n) (rs := mirR p n rs) hp
  rw [plainR_plB (rows := rs)]
  refine plainR_unique hp (mirV hp n (mirR p n rs)) P srt (fun r hr' => ?_) fun t ht => ?_
  · rw [sp, ← key r (mirV hp n _ r hr')]
    exact (plainR_spn hp (mirV hp n _)).mpr (.of h0 (mirV hp n _) hr')
  · refine (plainR_spn hp (mirV hp n _)).mp ?_
    rw [show plainR p ((kers p n (plB p ((mirR p n rs).map (flipR p)))).map (·.2)) = mirR p n (mirR p n rs) from rfl, key _ (P.vr t ht), ← sp]
    exact .of h0 P.hA ⟨t, ht, rfl⟩
theorem map_nodup {α β : Type} {f : α → β} : ∀ {l : List α}, (∀ a ∈ l, ∀ b ∈ l, f a = f b → a = b) → l.Nodup → (l.map f).Nodup := fun {l} hi nd => by
  refine List.pairwise_map.mpr (nd.imp_of_mem fun {a b} ha hb hne e => hne (hi a ha b hb e))
theorem plB_flip (hp : isPr p) (hr : ∀ r ∈ rs, VR p n r) : (plB p (rs.map (flipR p))).length = (plB p rs).length := by
  have h2 := (isPr_b hp).1
  have h0 : 0 < p := by omega
  have vf := vflip h0 hr
  obtain ⟨P, _, sp⟩ := plB_ok hp hr
  obtain ⟨P', _, sp'⟩ := plB_ok hp vf
  have nd : ((allF p n ((plB p rs).map (·.2))).map (flipR p)).Nodup := map_nodup (fun a ha b hb e => flip_inj h0 (allF_vr h0 P.ky.vA a ha) (allF_vr h0 P.ky.vA b hb) e) (P.ky.allF_nodup h0)
  have pm : ((allF p n ((plB p rs).map (·.2))).map (flipR p)).Perm (allF p n ((plB p (rs.map (flipR p))).map (·.2))) := (List.perm_ext_iff_of_nodup nd (P'.ky.allF_nodup h0)).mpr fun v => by
    rw [mem_allF h0 P'.ky.vA, ← spn_of, sp']
    constructor
    · intro h
      obtain ⟨u, hu, rfl⟩ := List.mem_map.mp h
      have vu := allF_vr h0 P.ky.vA u hu
      rw [mem_allF h0 P.ky.vA, ← spn_of, sp] at hu
      exact (spn_flip_iff h0 hr vu).mpr hu
    · intro h
      have vv := h.vr h0 vf
      have h1 := (spn_flip_iff (rs := rs) h0 hr (v := flipR p (mulR p 1 (flipR p (mulR p (-1) v)))) ?_)
      · refine List.mem_map.mpr ⟨mulR p (-1) (flipR p v), ?_, ?_⟩
        · rw [mem_allF h0 P.ky.vA, ← spn_of, sp]
          refine Spn.mul h0 hr ((spn_flip_iff h0 hr (vv.flip h0)).mp ?_)
          rw [flip_flip h0 vv]
          exact h.mul h0 vf
        · have e := flip_lin (u := nul n) (a := flipR p v) (c := -1) h0 (.nul h0) (vv.flip h0)
          have ea : ∀ w : Rw, VR p n w → addR p (nul n) w = w := fun w vw => by rw [addR_comm (.nul h0) vw, addR_nul h0 vw]
          rw [ea _ ((vv.flip h0).mul h0), flip_nul, ea _ (((vv.flip h0).flip h0).mul h0), flip_flip h0 vv, mul_neg h0 vv] at e
          exact e
      · exact (((vv.mul h0).flip h0).mul h0).flip h0
  have e := pm.length_eq
  rw [List.length_map, allF_len, allF_len, List.length_map, List.length_map] at e
  exact ((Nat.pow_right_inj (show 1 < p.toNat by omega)).mp e).symm
theorem plainR_len : (plainR p rs).length = (plB p rs).length := by rw [plainR_plB, List.length_map]
/-- how many: with the mirror two for each post -/
theorem mir_len (hp : isPr p) (hr : ∀ r ∈ rs, VR p n r) : (mirR p n rs).length + (plainR p rs).length = 2 * n := by
  have h2 := (isPr_b hp).1
  have h0 : 0 < p := by omega
  obtain ⟨P', _, sp'⟩ := plB_ok hp (vflip h0 hr)
  have K := kers_ky (n := n) (B := plB p (rs.map (flipR p))) h2
  obtain ⟨PM, _, spM⟩ := plB_ok hp (mirV hp n rs)
  have e1 : (mirR p n rs).length = (kers p n (plB p (rs.map (flipR p)))).length := by
    unfold mirR
    rw [plainR_len]
    exact PM.ky.len_eq h2 K fun v => by rw [spM, ← spn_of]
  have e2 : (kers p n (plB p (rs.map (flipR p)))).length = (free (2 * n) (plB p (rs.map (flipR p)))).length := by unfold kers; rw [List.length_map]
  have e3 := (perm_free P'.nod P'.pl).length_eq
  rw [List.length_range, List.length_append, List.length_map, plB_flip hp hr] at e3
  rw [e1, e2, plainR_len]
  omega
end
end
section
open PySem PySem.Spec L2
section
variable {T : Nat → Option FDef} {x : Nat → Nat} {k f : Nat} {S : Sto} {Q : PostE} {p : Int} {n : Nat}
theorem flipped_eq {r : Rw} (H : Has_flipped T x) (hp : 0 < p) (hl : r.length ≤ 1000) : wC T (k + 1) (x 20) [.int p, rowD r] S Q = Q (rowD (flipR p r)) S := by
  rw [wC_eq H rfl]
  simp_arith! [y_flipped, yn_flipped, fd_flipped, hp]
  rfl
theorem fstP_pl {A : List (Nat × Rw)} {t : Nat × Rw} (P : Pl p n A) (ht : t ∈ A) : fstP t.2 = some t.1 := by
  have h1 := P.one t ht
  cases e : fstP t.2 with
  | none =>
    rw [fstP_none e] at h1
    cases h1
  | some i =>
    obtain ⟨_, h2, h3⟩ := fstP_some e
    have a : ¬ t.1 < i := fun c => by rw [h3 _ c] at h1; cases h1
    have b : ¬ i < t.1 := fun c => h2 (P.lead t ht i c)
    rw [show i = t.1 by omega]
theorem not_inI {i : Int} {xs : List Int} : cNotIn.cs (.int i) (lstI xs) S = some (decide (i ∉ xs)) := by
  have e : ∀ ys : List Int, flatL (ys.map D.int) = some (ys.map V.int) := by
    intro ys
    induction ys with
    | nil => rfl
    | cons y ys ih => simp only [List.map_cons, flatL, flatD, ih]
  have e2 : ∀ ys : List Int, inV (.int i) (ys.map V.int) = decide (i ∈ ys) := by
    intro ys
    unfold inV
    induction ys with
    | nil => rfl
    | cons y ys ih =>
      have e3 : eqV (.int y) (.int i) = decide (y = i) := by
        show (y == i) = _
        by_cases c : y = i <;> simp [c]
      rw [List.map_cons, List.any_cons, ih, e3, Bool.eq_iff_iff]
      simp only [Bool.or_eq_true, decide_eq_true_eq, List.mem_cons]
      exact ⟨fun h => h.imp Eq.symm id, fun h => h.imp Eq.symm id⟩
  show csIn true _ _ _ = _
  unfold csIn
  simp only [flatD, seq_lstI, Option.bind_some, e, e2]
  simp
def frD (t : Nat × Rw) : D := .tup [.int (t.1 : Nat), rowD t.2]
end
end
section
open PySem PySem.Spec L2
section
variable {T : Nat → Option FDef} {x : Nat → Nat} {k f : Nat} {S : Sto} {Q : PostE} {p : Int} {n : Nat}
theorem lmeet_eq {b : Int} {r s : Rw} (H : Has_lmeet T x) (hp : 0 < p) (hb : b ≤ 1000000) (hr : In b r) (hs : In b s) (hl : r.length ≤ 1000) : wC T (k + 1) (x 40) [.int p, rowD r, rowD s] S Q = Q (.int (meetI r s % p)) S := by
  rw [wC_eq H rfl]
  simp_arith! [y_lmeet, yn_lmeet, fd_lmeet, hp]
  rw [lcT_eq (f := fun z => .int (z.1.1 * z.2.2 - z.2.1 * z.1.2)) fun z hz S k => by
    obtain ⟨h1, h2⟩ := List.of_mem_zip (a := z.1) (b := z.2) hz
    have z1 := hr _ h1
    have z2 := hs _ h2
    simp_arith! []]
  simp_arith! [hp]
  rfl
theorem cs_eqL0I {ns : List Int} : cEqL0.cs (lstI ns) (.lst []) S = some ns.isEmpty := cs_eqL0M
end
end
section
open PySem PySem.Spec L2
section
variable {p : Int} {n : Nat} {rs ss us : List Rw}
theorem plainR_congr (hp : isPr p) (hr : ∀ r ∈ rs, VR p n r) (hs : ∀ r ∈ ss, VR p n r) (h : ∀ v, Spn p n (fun a => a ∈ rs) v ↔ Spn p n (fun a => a ∈ ss) v) : plainR p rs = plainR p ss := by
  have h0 : 0 < p := by have := isPr_b hp; omega
  obtain ⟨P, srt, sp⟩ := plB_ok hp hs
  rw [plainR_plB (rows := ss)]
  exact plainR_unique hp hr P srt (fun r hr' => (sp _).mpr ((h _).mp (.of h0 hr hr'))) fun t ht => (h _).mpr ((sp _).mp (.of h0 P.hA ⟨t, ht, rfl⟩))
theorem vapp (hr : ∀ r ∈ rs, VR p n r) (hs : ∀ r ∈ ss, VR p n r) : ∀ r ∈ rs ++ ss, VR p n r := fun r h => (List.mem_append.mp h).elim (hr r) (hs r)
theorem spn_app (h0 : 0 < p) (hr : ∀ r ∈ rs, VR p n r) (hs : ∀ r ∈ ss, VR p n r) {v : Rw} : Spn p n (fun a => a ∈ rs ++ ss) v ↔ ∃ u w, Spn p n (fun a => a ∈ rs) u ∧ Spn p n (fun a => a ∈ ss) w ∧ addR p u w = v := by
  constructor
  · intro h
    induction h with
    | zero => exact ⟨_, _, .zero, .zero, addR_nul h0 (.nul h0)⟩
    | @step v a c hv ha ih =>
      obtain ⟨u, w, hu, hw, rfl⟩ := ih
      have vu := hu.vr h0 hr
      have vw := hw.vr h0 hs
      rcases List.mem_append.mp ha with ha | ha
      · have va := (hr a ha).mul (c := c) h0
        exact ⟨_, w, .step hu ha, hw, by rw [addR_assoc vu va vw h0, addR_assoc vu vw va h0, addR_comm va vw]⟩
      · have va := (hs a ha).mul (c := c) h0
        exact ⟨u, _, hu, .step hw ha, by rw [addR_assoc vu vw va h0]⟩
  · rintro ⟨u, w, hu, hw, rfl⟩
    exact (hu.incl fun a ha => List.mem_append_left _ ha).add h0 (vapp hr hs) (hw.incl fun a ha => List.mem_append_right _ ha)
end
end
end FP
namespace FP
section
open PySem PySem.Spec L2 PyProof.Rows
open AutoSeq1 (wpAny_loadPart')
theorem meets_enumerate_newT (l : Addr) (items : Array Value) (n : Nat) (dct : Option Addr) (sl : Array (Option Value)) :
    Meets (Builtin.«enumerate.__new__» ⟨[.type "enumerate", .ref l], []⟩) (fun _ R s => s.heap.get? l = some { cls := .type "tuple", dict := dct, data := .seq items n, slots := sl } ∧
      R (.ok (.ret (.ref (s.heap.push { cls := .type "tuple_iterator", data := .fields #[.ref l, .int 0 0] }).objs.size)))
        { s with heap := (s.heap.push { cls := .type "tuple_iterator", data := .fields #[.ref l, .int 0 0] }).push { cls := .type "enumerate", data := .fields #[.none, .bool false, .ref s.heap.objs.size, rawInt 0, .none, .none] } }) :=
  .of_wp fun prog w A R s h => by
    obtain ⟨hp, g, d, tk, os⟩ := s; obtain ⟨hl, h⟩ := h
    have hsub := sub_enumerate
    have hL : Heap.IsTuple (Shared.heap ⟨hp, g, d, tk, os⟩) l items := ⟨_, hl, rfl, n, rfl⟩
    wp_walk using wpAny_loadPart' hl
    refine wpAny_stack_any fun st => wpAny_pure ?_
    split
    · rename_i c _ _ _ _ _
      cases (c == Value.type "enumerate")
      · wp_walk using wpAny_loadPart' hl, wpAny_pyIter_tuple hL
        exact ⟨_, rfl, h⟩
      · wp_walk using wpAny_loadPart' hl, wpAny_pyIter_tuple hL
        exact ⟨_, rfl, h⟩
    · wp_walk using wpAny_loadPart' hl, wpAny_pyIter_tuple hL
      exact ⟨_, rfl, h⟩
section
variable {prog : Program} {w : World} {A : Around} {E : Value → Shared → Prop} {s : Shared}
theorem call_enumerate_tuple {l : Addr} {items : Array Value} {Q : Value → Shared → Prop} (hL : s.heap.IsTuple l items)
    (h : ∀ h', IsEnum h' (s.heap.objs.size + 1) s.heap.objs.size 0 .none → h'.IsTupleIter s.heap.objs.size l 0 → h'.objs.size = s.heap.objs.size + 2 →
      (∀ b o, s.heap.get? b = some o → h'.get? b = some o) → Q (.ref (s.heap.objs.size + 1)) { s with heap := h' }) :
    wpAny (model prog w) A (PySem.call (.type "enumerate") [.ref l]) Q E s := by
  obtain ⟨⟨c, dct, dt, sl⟩, hl, hc, n, hd⟩ := hL
  replace hc : c = .type "tuple" := hc
  replace hd : dt = .seq items n := hd
  subst hc hd
  refine callType_new F.called_enumerate (by decide) (F.typeCall_enumerate_1 _) (F.newCall_enumerate_1 _) (fun obj => F.args_object_init_2 obj _) F.entry_enumerate_new
    (meets_enumerate_newT l items n dct sl) ⟨hl, ?_⟩
  have hz : (s.heap.push { cls := .type "tuple_iterator", data := .fields #[.ref l, .int 0 0] }).objs.size = s.heap.objs.size + 1 := Heap.size_push ..
  show _ ∧ _
  rw [hz]
  have he : IsEnum ((s.heap.push { cls := .type "tuple_iterator", data := .fields #[.ref l, .int 0 0] }).push
      { cls := .type "enumerate", data := .fields #[.none, .bool false, .ref s.heap.objs.size, rawInt 0, .none, .none] }) (s.heap.objs.size + 1) s.heap.objs.size 0 .none := by
    have := Heap.get?_push_size (s.heap.push { cls := .type "tuple_iterator", data := .fields #[.ref l, .int 0 0] })
      (o := { cls := .type "enumerate", data := .fields #[.none, .bool false, .ref s.heap.objs.size, rawInt 0, .none, .none] }) rfl
    rw [hz] at this; exact this
  refine ⟨⟨_, he, rfl⟩, h _ he ⟨_, Heap.get?_push_of_some _ (Heap.get?_push_size _ rfl), rfl, rfl⟩ (by rw [Heap.size_push, hz]) fun b o x => Heap.get?_push_of_some _ (Heap.get?_push_of_some _ x)⟩
end
/-- .. as it stands at each turn, each item in a new pair -/
def IteK (K : PySem.W.Frag) (k : Bool) (a : Addr) : It :=
  ⟨fun i H => ∃ (xs : List V) (x : V), SqK k K H a xs ∧ xs[i]? = some x, fun i H v H' => ∃ T x, v = .ref T ∧ H T = none ∧ H' = upd H T (.tup [.int (i : Nat), x]) ∧ ∀ xs, SqK k K H a xs → xs[i]? = some x, fun i H => ∃ xs : List V, SqK k K H a xs ∧ xs.length ≤ i⟩
theorem turn_enumK {P : Program} {w : World} {K : PySem.W.Frag} {elts : List Expr} {kk : Nat} {tpos : Pos} {k : Bool} (a e it : Addr) (ae : a ≠ e) (ai : a ≠ it) :
    Turn P w K (.Tuple elts kk tpos) (IteK K k a) [e, it] e (fun i h => (∃ old, IsEnum h e it ((i : Nat) : Int) old) ∧ ItK k h it a i ∧ e ≠ it) where
  mem := by simp
  obj := fun i h st b hb => by
    obtain ⟨⟨old, he⟩, hit, _⟩ := st
    have e' : b = e ∨ b = it := by simpa using hb
    rcases e' with z | z
    · rw [z]; exact ⟨_, he, fun v q => nomatch q⟩
    · rw [z]; exact itK_obj hit
  keep := fun i h h' st k => let ⟨⟨old, he⟩, hi, hne⟩ := st; ⟨⟨old, k e (by simp) _ he⟩, itK_at hi fun o q => k it (by simp) o q, hne⟩
  item := by
    intro X hP hw hK hc i pins s σ H E I hf st hg
    subst hP hw hK
    obtain ⟨⟨old, he⟩, hit, hne⟩ := st
    obtain ⟨xs, x, hq, hx⟩ := hg
    obtain ⟨its, rv, p, hz, la⟩ := sqK_of I hq
    obtain ⟨lt1, g1⟩ := at_of rv hx
    have hel : e < s.heap.objs.size := Heap.lt_size he
    have hil : it < s.heap.objs.size := by obtain ⟨_, q, _⟩ := itK_obj hit; exact Heap.lt_size q
    have hh : X.A.in1.handled = none := I.ok.hd hc
    refine wpAny_pyNext_enum_itemD (drawsK k hh it a ai its.toArray) he ⟨hit, p⟩ lt1 hne (by simp only [List.mem_cons, List.not_mem_nil, or_false, not_or]; exact ⟨hne, Ne.symm ae⟩) fun u h' tk pu ho hit' hT hsz hk => ?_
    refine ⟨_, rfl, wpAny_letOwnedTupleGo_enum (s := { s with heap := h', toks := tk + 1 }) ho fun h'' he' sb => ?_⟩
    have hT2 : h''.get? s.heap.objs.size = some { cls := .type "tuple", data := .seq #[.int i tk, u] } := (sb.2 _ (Nat.ne_of_gt hel)).trans hT
    have new : ObjOk X.prog X.w (upd H s.heap.objs.size (.tup [.int (i : Nat), x])) h'' s.heap.objs.size (.tup [.int (i : Nat), x]) :=
      ⟨by show 2 ≤ sizeLine; decide, [.int i tk, u], .cons ⟨_, rfl⟩ (.cons (g1 u pu) .nil), ⟨_, hT2, rfl, _, rfl⟩⟩
    have I1 : Inv X pins σ (upd H s.heap.objs.size (.tup [.int (i : Nat), x])) { s with heap := h'', toks := tk + 1 } :=
      I.turnedNew (ch := [e, it]) (fun b ob hb q => (sb.2 b (fun z => hb (by simp [z]))).trans (hk b ob (fun z => hb (by simp [z])) (fun z => hb (by simp [z])) q)) hf (Nat.le_refl _) new
    refine ⟨.ref s.heap.objs.size, _, I1, rfl, ⟨_, x, rfl, I.hok.fresh (Nat.le_refl _), rfl, fun ys hy => by rw [sqK_inj I hy hq]; exact hx⟩, ⟨⟨u, ?_⟩, itK_at hit'.1 fun o q => (sb.2 it (Ne.symm hne)).trans q, hne⟩, fun b hb => ?_⟩
    · have e1 : ((i + 1 : Nat) : Int) = (i : Int) + 1 := by omega
      rw [e1]; exact he'
    · have hb' : b < s.heap.objs.size := by
        have e' : b = e ∨ b = it := by simpa using hb
        rcases e' with z | z
        · rw [z]; exact hel
        · rw [z]; exact hil
      rw [upd_ne (Nat.ne_of_lt hb')]
      exact (hf b hb).1
  done := by
    intro X hP hw hK hc i pins s σ H E I hf st hg
    subst hP hw hK
    obtain ⟨⟨old, he⟩, hit, hne⟩ := st
    obtain ⟨xs, hq, hx⟩ := hg
    obtain ⟨its, rv, p, hz, la⟩ := sqK_of I hq
    obtain ⟨f0, f1, f2, f3, f4, f5⟩ := hf it (by simp)
    have hl := rv.length
    have hh : X.A.in1.handled = none := I.ok.hd hc
    exact wpAny_pyNext_enum_endD (drawsE k hh it a its.toArray i (by simp; omega)) he ⟨rfl, hit, p⟩ fun h' eb => ⟨rfl, I.turned (t' := s.toks) (fun b o hb q => eb b o hb q) f0 f1 f3 f4 f5⟩
  self := fun A i s Q E st h => let ⟨⟨_, he⟩, _⟩ := st; wpAny_pyIter_enum he h
def iEnumK (K : PySem.W.Frag) (ta : TA) : TI := fun σ H R => ta σ H fun vs H1 => ∃ a k xs, vs = [.ref a] ∧ SqK k K H1 a xs ∧ R (IteK K k a) H1
theorem call_enumerateK {prog : Program} {w : World} {A : Around} {E : Value → Shared → Prop} {s : Shared} {k : Bool} {l : Addr} {items : Array Value} {Q : Value → Shared → Prop} (hL : SeqK k s.heap l items)
    (h : ∀ h', IsEnum h' (s.heap.objs.size + 1) s.heap.objs.size 0 .none → ItK k h' s.heap.objs.size l 0 → h'.objs.size = s.heap.objs.size + 2 →
      (∀ b o, s.heap.get? b = some o → h'.get? b = some o) → Q (.ref (s.heap.objs.size + 1)) { s with heap := h' }) :
    wpAny (model prog w) A (PySem.call (.type "enumerate") [.ref l]) Q E s := by
  cases k
  · exact call_enumerate_tuple hL h
  · exact call_enumerate_list hL h
theorem pi_enumK {X : Cx} {e : Expr} {ta : TA} {p pos tpos : Pos} {elts : List Expr} {kk : Nat} (hg : Gl X "enumerate") (hm : X.mg "enumerate" = none) (ha : PA X [e] ta) (hs : starEach [e] X.env = [(false, eval e X.env)]) :
    PI X (.Tuple elts kk tpos) (.Call (.Name "enumerate" p) [e] [] pos) (iEnumK X.K ta) := by
  refine ⟨fun pins s σ H R I h => ?_⟩
  refine Call_ (ld_blt I hg hm boot_enumerate (PyProof.Rows.callWith_type1 (thn (ha.run pos pins s σ H _ I h) fun us s1 ⟨vs, H1, I1, r1, q1⟩ => ?_) hs rfl))
  obtain ⟨a, k, xs, ex, hq, q⟩ := q1
  subst ex
  cases r1 with
  | cons r rr =>
    cases rr
    cases r
    obtain ⟨its, rv, p', hz, la⟩ := sqK_of I1 hq
    refine call_enumerateK p' fun h' he hit hsz hk => wpAny_pyIter_enum he ?_
    have I2 : Inv X pins σ H1 { s1 with heap := h' } := I1.kept (t' := s1.toks) hk
    refine ⟨s1.heap.objs.size + 1, [s1.heap.objs.size + 1, s1.heap.objs.size], _, _, H1, rfl, I2, turn_enumK a (s1.heap.objs.size + 1) s1.heap.objs.size (Nat.ne_of_lt (Nat.lt_succ_of_lt la)) (Nat.ne_of_lt la), ⟨⟨.none, he⟩, hit, Nat.succ_ne_self _⟩, fun b hb => ?_, q⟩
    have e' : b = s1.heap.objs.size + 1 ∨ b = s1.heap.objs.size := by simpa using hb
    have hle : s1.heap.objs.size ≤ b := by
      rcases e' with z | z
      · rw [z]; exact Nat.le_add_right _ _
      · rw [z]; exact Nat.le_refl _
    exact I1.fpOk hle (I1.hok.fresh hle)
theorem iter_enumK {K : PySem.W.Frag} {Hd0 : Hp} {d : D} {xs : List D} {a : Addr} (hx : xs.length ≤ MX) (r : Rep K Hd0 d (.ref a)) : Iter K (enumD xs) (stayS d xs) Hd0 (IteK K (!isTupD d) a) := by
  have el : (enumD xs).length = xs.length := by simp [enumD]
  refine ⟨by rw [el]; exact hx, fun pv S Hd H M le sr st i => ?_⟩
  obtain ⟨a', us, e, rl, h⟩ := sqK_seq sr (r.mono le) st
  cases e
  rw [el]
  refine ⟨fun hi => ?_, fun hi => ⟨us, h, by rw [rl.length]; exact hi⟩⟩
  obtain ⟨u, hu, ru⟩ := rl.get (List.getElem?_eq_getElem hi)
  refine ⟨⟨us, u, h, hu⟩, fun x H' y => ?_⟩
  obtain ⟨T, x', rfl, hT, rfl, f1⟩ := y
  have e1 := f1 us h
  rw [hu] at e1; cases e1
  obtain ⟨m, s', rr⟩ := mk_pair (d := .int (i : Nat)) (x := .int (i : Nat)) sr hT (by simp only [Rep]) ru
  exact ⟨_, _, by simp [enumD, hi], m, s', rr⟩
def iEnumM : INode where
  shape := fnSh1 "enumerate"
  sem := fun ds S k => ∃ d xs, ds = [d] ∧ seqS S d = some xs ∧ xs.length ≤ sizeLine ∧ k (enumD xs) (stayS d xs)
  tgt := isTupE
  fold := fun sc e es h env x => by
    unfold fnSh1 at h
    split at h <;> first | exact foldC | cases h
  ok := fun X tg e es ts A ht hs p => by
    unfold fnSh1 at hs
    split at hs
    · split at hs
      · rename_i c
        simp only [Bool.and_eq_true, decide_eq_true_eq] at c
        obtain ⟨rfl, g, na⟩ := c
        cases hs
        unfold isTupE at ht
        split at ht
        · cases p with
          | cons n m p1 p =>
            cases p
            refine (pi_enumK (glB_ok g) (A.fr _ (by decide +kernel)) (PEs.cons n m p1 .nil).pa (star_cons na)).of fun σ H R q => m _ _ _ _ (fun x H1 q => ?_) q
            obtain ⟨pv, ds, S, Hd, M, k, rl, sr, w, fin⟩ := q
            obtain ⟨d, xs, rfl, h1, hl, w⟩ := w
            obtain ⟨v, e, r⟩ := rl.one
            cases e
            obtain ⟨a, us, rfl, rl', h⟩ := sqK_seq sr r h1
            exact ⟨a, _, us, rfl, h, fin _ _ _ Hd H1 w (.refl ..) sr (iter_enumK (sizeMX hl) r)⟩
        · cases ht
      · cases hs
    · cases hs
theorem it_enumM {S : Sto} {d : D} {k : List D → (Sto → Prop) → Prop} : iEnumM.sem [d] S k = ∃ xs, seqS S d = some xs ∧ xs.length ≤ sizeLine ∧ k (enumD xs) (stayS d xs) := by
  refine propext ⟨fun ⟨d', n', e, h⟩ => ?_, fun ⟨n, h⟩ => ⟨d, n, rfl, h⟩⟩
  cases e
  exact ⟨n', h⟩
def EqvD (d e : FDef) : Prop := d.name = e.name ∧ d.ps.length = e.ps.length ∧ d.N.length = e.N.length ∧ d.body = e.body ∧ d.prim = e.prim ∧ d.pc = e.pc
def EqvL : List FDef → List FDef → Prop
  | [], [] => True
  | d :: ds, e :: es => EqvD d e ∧ EqvL ds es
  | _, _ => False
theorem EqvL.get : ∀ {ds es : List FDef}, EqvL ds es → ∀ i : Nat, (ds[i]? = none ∧ es[i]? = none) ∨ ∃ d e, ds[i]? = some d ∧ es[i]? = some e ∧ EqvD d e
  | [], [], _, i => .inl ⟨by simp, by simp⟩
  | [], _ :: _, h, _ => (show False from h).elim
  | _ :: _, [], h, _ => (show False from h).elim
  | d :: ds, e :: es, h, i => by
    cases i with
    | zero => exact .inr ⟨d, e, by simp, by simp, h.1⟩
    | succ i => simpa using EqvL.get h.2 i
end
section
open PySem PySem.Spec L2
def sumR (n : Nat) (f : Nat → Int) : Int := ((List.range n).map f).sum
theorem sumR_zero (f : Nat → Int) : sumR 0 f = 0 := rfl
theorem sumR_succ (n : Nat) (f : Nat → Int) : sumR (n + 1) f = sumR n f + f n := by
  unfold sumR
  rw [List.range_succ, List.map_append, List.sum_append, List.map_singleton, List.sum_singleton]
theorem sumR_congr {n : Nat} {f g : Nat → Int} (h : ∀ i < n, f i = g i) : sumR n f = sumR n g := by
  unfold sumR
  rw [List.map_congr_left fun i hi => h i (List.mem_range.mp hi)]
theorem sumR_add (n : Nat) (f g : Nat → Int) : sumR n (fun i => f i + g i) = sumR n f + sumR n g := by
  induction n with
  | zero => rfl
  | succ n ih => rw [sumR_succ, sumR_succ, sumR_succ, ih]; omega
theorem sumR_sub (n : Nat) (f g : Nat → Int) : sumR n (fun i => f i - g i) = sumR n f - sumR n g := by
  induction n with
  | zero => rfl
  | succ n ih => rw [sumR_succ, sumR_succ, sumR_succ, ih]; omega
theorem sumR_mul (n : Nat) (c : Int) (f : Nat → Int) : sumR n (fun i => c * f i) = c * sumR n f := by
  induction n with
  | zero => rw [sumR_zero, sumR_zero, Int.mul_zero]
  | succ n ih => rw [sumR_succ, sumR_succ, ih, Int.mul_add]
theorem sumR_nul (n : Nat) : sumR n (fun _ => 0) = 0 := by
  induction n with
  | zero => rfl
  | succ n ih => rw [sumR_succ, ih]; rfl
theorem sumR_swap (n m : Nat) (f : Nat → Nat → Int) : sumR n (fun i => sumR m (fun j => f i j)) = sumR m (fun j => sumR n (fun i => f i j)) := by
  induction n with
  | zero => exact (sumR_nul m).symm
  | succ n ih =>
    rw [sumR_succ, ih, ← sumR_add]
    exact sumR_congr fun j _ => (sumR_succ n _).symm
theorem sumR_mod {n : Nat} {p : Int} {f g : Nat → Int} (h : ∀ i < n, f i % p = g i % p) : sumR n f % p = sumR n g % p := by
  induction n with
  | zero => rfl
  | succ n ih =>
    rw [sumR_succ, sumR_succ, Int.add_emod, ih fun i hi => h i (by omega), h n (by omega), ← Int.add_emod]
/-- only one thing in a sum -/
theorem sumR_one {n k : Nat} {f : Nat → Int} (hk : k < n) (h : ∀ i < n, i ≠ k → f i = 0) : sumR n f = f k := by
  induction n with
  | zero => omega
  | succ n ih =>
    rw [sumR_succ]
    by_cases c : k = n
    · subst c
      rw [sumR_congr (g := fun _ => 0) fun i hi => h i (by omega) (by omega), sumR_nul]
      omega
    · rw [ih (by omega) fun i hi hne => h i (by omega) hne, h n (by omega) (by omega)]
      omega
theorem co_fst : ∀ {r : Rw} {j : Nat} (h : j < r.length), co r (2 * j) = (r[j]).1
  | [], _, h => absurd h (by simp)
  | q :: r, 0, _ => rfl
  | q :: r, j + 1, h => by
    rw [show 2 * (j + 1) = 2 * j + 2 from by omega, co_cons2, co_fst (r := r) (j := j) (by simpa using h)]
    rfl
theorem co_snd : ∀ {r : Rw} {j : Nat} (h : j < r.length), co r (2 * j + 1) = (r[j]).2
  | [], _, h => absurd h (by simp)
  | q :: r, 0, _ => rfl
  | q :: r, j + 1, h => by
    rw [show 2 * (j + 1) + 1 = (2 * j + 1) + 2 from by omega, co_cons2, co_snd (r := r) (j := j) (by simpa using h)]
    rfl
theorem map_zip_range {α β γ : Type} {xs : List α} {ys : List β} {f : α × β → γ} {n : Nat} (d : Nat → γ) (h1 : xs.length = n) (h2 : ys.length = n) (h : ∀ j (a : j < xs.length) (b : j < ys.length), f (xs[j], ys[j]) = d j) : (xs.zip ys).map f = (List.range n).map d := by
  refine List.ext_getElem (by simp; omega) fun i a b => ?_
  simp only [List.getElem_map, List.getElem_zip, List.getElem_range]
  exact h i _ _
theorem meetI_co {n : Nat} {u v : Rw} (h1 : u.length = n) (h2 : v.length = n) : meetI u v = sumR n fun j => co u (2 * j) * co v (2 * j + 1) - co v (2 * j) * co u (2 * j + 1) := by
  unfold meetI sumR
  rw [map_zip_range (n := n) (fun j => co u (2 * j) * co v (2 * j + 1) - co v (2 * j) * co u (2 * j + 1)) h1 h2 fun j a b => by rw [co_fst a, co_fst b, co_snd a, co_snd b]]
structure Hd (n : Nat) (h : List Int) : Prop where
  len : h.length = n
  b : ∀ s ∈ h, s = 0 ∨ s = 1
def hN (h : List Int) (j : Nat) : Nat := (h.getD j 0).toNat
def hpl (h : List Int) (j : Nat) : Nat := 2 * j + hN h j
def rpl (h : List Int) (j : Nat) : Nat := 2 * j + (1 - hN h j)
def sg (h : List Int) (j : Nat) : Int := 1 - 2 * (hN h j : Int)
theorem Hd.at {n : Nat} {h : List Int} (H : Hd n h) (j : Nat) : h.getD j 0 = 0 ∨ h.getD j 0 = 1 := by
  by_cases c : j < h.length
  · rw [List.getD_eq_getElem?_getD, List.getElem?_eq_getElem c, Option.getD_some]
    exact H.b _ (List.getElem_mem c)
  · rw [List.getD_eq_getElem?_getD, List.getElem?_eq_none (by omega)]
    exact .inl rfl
theorem Hd.hN {n : Nat} {h : List Int} (H : Hd n h) (j : Nat) : (h.getD j 0 = 0 ∧ hN h j = 0) ∨ (h.getD j 0 = 1 ∧ hN h j = 1) := by
  rcases H.at j with e | e
  · exact .inl ⟨e, by unfold FP.hN; rw [e]; rfl⟩
  · exact .inr ⟨e, by unfold FP.hN; rw [e]; rfl⟩
theorem Hd.sg2 {n : Nat} {h : List Int} (H : Hd n h) (j : Nat) : sg h j * sg h j = 1 := by
  unfold sg
  rcases H.hN j with ⟨_, e⟩ | ⟨_, e⟩ <;> rw [e] <;> rfl
theorem Hd.cases {n : Nat} {h : List Int} (H : Hd n h) {P : Nat → Prop} (h1 : ∀ j < n, P (hpl h j)) (h2 : ∀ j < n, P (rpl h j)) {i : Nat} (hi : i < 2 * n) : P i := by
  have hj : i / 2 < n := by omega
  rcases H.hN (i / 2) with ⟨_, e⟩ | ⟨_, e⟩
  · by_cases c : i % 2 = 0
    · have := h1 _ hj
      unfold hpl at this
      rw [e, show 2 * (i / 2) + 0 = i by omega] at this
      exact this
    · have := h2 _ hj
      unfold rpl at this
      rw [e, show 2 * (i / 2) + (1 - 0) = i by omega] at this
      exact this
  · by_cases c : i % 2 = 0
    · have := h2 _ hj
      unfold rpl at this
      rw [e, show 2 * (i / 2) + (1 - 1) = i by omega] at this
      exact this
    · have := h1 _ hj
      unfold hpl at this
      rw [e, show 2 * (i / 2) + 1 = i by omega] at this
      exact this
def gI (G : List (List Int)) (k j : Nat) : Int := (G.getD k []).getD j 0
structure Tb (p : Int) (n : Nat) (G : List (List Int)) : Prop where
  len : G.length = n
  row : ∀ r ∈ G, r.length = n
  rng : ∀ k j, 0 ≤ gI G k j ∧ gI G k j < p
  sym : ∀ k j, gI G k j = gI G j k
def tN (n : Nat) (G : List (List Int)) (xs : List Int) (j : Nat) : Int := sumR n fun k => xs.getD k 0 * gI G k j
def standR (p : Int) (h : List Int) (G : List (List Int)) (xs : List Int) : Rw :=
  (List.range h.length).map fun j => if h.getD j 0 = 0 then (xs.getD j 0, tN h.length G xs j % p) else ((0 - tN h.length G xs j % p) % p, xs.getD j 0)
def heldR (n : Nat) (h : List Int) (v : Rw) : List Int := (List.range n).map fun j => co v (hpl h j)
def readR (n : Nat) (h : List Int) (v : Rw) : List Int := (List.range n).map fun j => co v (rpl h j)
def unR (p : Int) (h : List Int) (G : List (List Int)) (k : Nat) : Rw := standR p h G (unitN h.length k)
def unsR (p : Int) (h : List Int) (G : List (List Int)) : List Rw := (List.range h.length).map (unR p h G)
/-- numbers round p -/
def NV (p : Int) (n : Nat) (xs : List Int) : Prop := xs.length = n ∧ ∀ c ∈ xs, 0 ≤ c ∧ c < p
theorem NV.at {p : Int} {n : Nat} {xs : List Int} (h : NV p n xs) (h0 : 0 < p) (j : Nat) : 0 ≤ xs.getD j 0 ∧ xs.getD j 0 < p := by
  rw [List.getD_eq_getElem?_getD]
  by_cases c : j < xs.length
  · rw [List.getElem?_eq_getElem c, Option.getD_some]
    exact h.2 _ (List.getElem_mem c)
  · rw [List.getElem?_eq_none (by omega), Option.getD_none]
    omega
theorem unitN_nv {p : Int} {n k : Nat} (h2 : 2 ≤ p) : NV p n (unitN n k) := by
  refine ⟨unitN_len, fun c hc => ?_⟩
  obtain ⟨j, _, rfl⟩ := List.mem_map.mp hc
  split <;> omega
section
variable {p : Int} {n : Nat} {h : List Int} {G : List (List Int)} {xs ys : List Int}
theorem standR_len : (standR p h G xs).length = h.length := by simp [standR]
theorem standR_co (H : Hd n h) {j : Nat} (hj : j < n) : co (standR p h G xs) (hpl h j) = xs.getD j 0 ∧ co (standR p h G xs) (rpl h j) = sg h j * tN n G xs j % p := by
  have hl : j < (standR p h G xs).length := by rw [standR_len, H.len]; exact hj
  have e : (standR p h G xs)[j] = if h.getD j 0 = 0 then (xs.getD j 0, tN h.length G xs j % p) else ((0 - tN h.length G xs j % p) % p, xs.getD j 0) := by
    simp only [standR, List.getElem_map, List.getElem_range]
  unfold hpl rpl sg
  rcases H.hN j with ⟨e1, e2⟩ | ⟨e1, e2⟩
  · rw [e2, show 2 * j + 0 = 2 * j by omega, show 2 * j + (1 - 0) = 2 * j + 1 by omega, co_fst hl, co_snd hl, e, if_pos e1, H.len]
    refine ⟨rfl, ?_⟩
    show _ = (1 - 2 * (0 : Int)) * _ % p
    simp
  · rw [e2, show 2 * j + (1 - 1) = 2 * j by omega, co_fst hl, co_snd hl, e, if_neg (by rw [e1]; decide), H.len]
    refine ⟨rfl, ?_⟩
    show (0 - tN n G xs j % p) % p = (1 - 2 * (1 : Int)) * tN n G xs j % p
    rw [subm2]
    congr 1
    omega
theorem standR_vr (h0 : 0 < p) (H : Hd n h) (X : NV p n xs) : VR p n (standR p h G xs) := by
  refine ⟨fun q hq => ?_, by rw [standR_len, H.len]⟩
  obtain ⟨j, _, rfl⟩ := List.mem_map.mp hq
  have := X.at h0 j
  have m1 := Int.emod_nonneg (tN h.length G xs j) (show p ≠ 0 by omega)
  have m2 := Int.emod_lt_of_pos (tN h.length G xs j) h0
  have m3 := Int.emod_nonneg (0 - tN h.length G xs j % p) (show p ≠ 0 by omega)
  have m4 := Int.emod_lt_of_pos (0 - tN h.length G xs j % p) h0
  split
  · exact ⟨this.1, this.2, m1, m2⟩
  · exact ⟨m3, m4, this.1, this.2⟩
theorem heldR_at {v : Rw} {j : Nat} (hj : j < n) : (heldR n h v).getD j 0 = co v (hpl h j) := by
  simp [heldR, List.getD_eq_getElem?_getD, hj]
theorem heldR_stand (H : Hd n h) (X : NV p n xs) : heldR n h (standR p h G xs) = xs := by
  refine List.ext_getElem (by simp [heldR, X.1]) fun i a b => ?_
  simp only [heldR, List.getElem_map, List.getElem_range]
  rw [(standR_co H (by simpa [heldR] using a)).1, List.getD_eq_getElem?_getD, List.getElem?_eq_getElem b, Option.getD_some]
/-- what is let be by a hold and a table -/
def LT (p : Int) (n : Nat) (h : List Int) (G : List (List Int)) (v : Rw) : Prop := VR p n v ∧ ∀ j < n, co v (rpl h j) = sg h j * tN n G (heldR n h v) j % p
theorem LT.eq (H : Hd n h) {v : Rw} (l : LT p n h G v) : standR p h G (heldR n h v) = v := by
  refine row_ext (by rw [standR_len, H.len, l.1.len]) fun i => ?_
  by_cases hi : i < 2 * n
  · refine H.cases (P := fun i => co (standR p h G (heldR n h v)) i = co v i) (fun j hj => ?_) (fun j hj => ?_) hi
    · rw [(standR_co H hj).1, heldR_at hj]
    · rw [(standR_co H hj).2, l.2 j hj]
  · rw [co_out (by rw [standR_len, H.len]; omega), co_out (by rw [l.1.len]; omega)]
theorem LT.of (h0 : 0 < p) (H : Hd n h) (X : NV p n xs) : LT p n h G (standR p h G xs) := by
  refine ⟨standR_vr h0 H X, fun j hj => ?_⟩
  rw [(standR_co H hj).2, heldR_stand H X]
def kyA (p : Int) (h : List Int) (G : List (List Int)) : List (Nat × Rw) := (List.range h.length).map fun k => (hpl h k, unR p h G k)
theorem unitN_at {m k i : Nat} (hi : i < m) : (unitN m k).getD i 0 = if i = k then 1 else 0 := unitN_get hi
theorem unR_co (H : Hd n h) {j k : Nat} (hj : j < n) (hk : k < n) : co (unR p h G k) (hpl h j) = (if j = k then 1 else 0) ∧ co (unR p h G k) (rpl h j) = sg h j * gI G k j % p := by
  unfold unR
  obtain ⟨e1, e2⟩ := standR_co (p := p) (G := G) (xs := unitN h.length k) H hj
  rw [e1, e2, H.len, unitN_at hj]
  refine ⟨rfl, ?_⟩
  congr 2
  unfold tN
  rw [sumR_one hk fun i hi hne => by rw [unitN_at hi, if_neg hne, Int.zero_mul], unitN_at hk, if_pos rfl, Int.one_mul]
theorem hpl_inj (H : Hd n h) {j k : Nat} (e : hpl h j = hpl h k) : j = k := by
  unfold hpl at e
  rcases H.hN j with ⟨_, e1⟩ | ⟨_, e1⟩ <;> rcases H.hN k with ⟨_, e2⟩ | ⟨_, e2⟩ <;> rw [e1, e2] at e <;> omega
theorem hpl_lt (H : Hd n h) {j : Nat} (hj : j < n) : hpl h j < 2 * n := by
  unfold hpl
  rcases H.hN j with ⟨_, e1⟩ | ⟨_, e1⟩ <;> omega
theorem rpl_lt (H : Hd n h) {j : Nat} (hj : j < n) : rpl h j < 2 * n := by
  unfold rpl
  rcases H.hN j with ⟨_, e1⟩ | ⟨_, e1⟩ <;> omega
theorem unR_vr (h2 : 2 ≤ p) (H : Hd n h) {k : Nat} : VR p n (unR p h G k) := standR_vr (by omega) H (by rw [H.len]; exact unitN_nv h2)
theorem nodup_map_inj {α β : Type} {f : α → β} (hf : ∀ a b, f a = f b → a = b) : ∀ {l : List α}, l.Nodup → (l.map f).Nodup
  | [], _ => by simp
  | a :: l, h => by
    rw [List.nodup_cons] at h
    rw [List.map_cons, List.nodup_cons]
    refine ⟨fun q => ?_, nodup_map_inj hf h.2⟩
    obtain ⟨b, hb, e⟩ := List.mem_map.mp q
    exact h.1 (hf _ _ e ▸ hb)
theorem kyA_ky (h2 : 2 ≤ p) (H : Hd n h) : Ky p n (kyA p h G) := by
  have mem : ∀ t ∈ kyA p h G, ∃ k < n, t = (hpl h k, unR p h G k) := fun t ht => by
    obtain ⟨k, hk, rfl⟩ := List.mem_map.mp ht
    exact ⟨k, by rw [← H.len]; exact List.mem_range.mp hk, rfl⟩
  refine ⟨fun t ht => ?_, fun t ht => ?_, ?_, fun t ht => ?_, fun t ht s hs hne => ?_⟩
  · obtain ⟨k, hk, rfl⟩ := mem t ht; exact unR_vr h2 H
  · obtain ⟨k, hk, rfl⟩ := mem t ht; exact hpl_lt H hk
  · rw [kyA, List.map_map]
    exact nodup_map_inj (fun a b e => hpl_inj H e) List.nodup_range
  · obtain ⟨k, hk, rfl⟩ := mem t ht
    show co (unR p h G k) (hpl h k) = 1
    rw [(unR_co H hk hk).1, if_pos rfl]
  · obtain ⟨k, hk, rfl⟩ := mem t ht
    obtain ⟨j, hj, rfl⟩ := mem s hs
    show co (unR p h G j) (hpl h k) = 0
    rw [(unR_co H hk hj).1, if_neg]
    intro e
    exact hne (by rw [e])
theorem kyA_rows : (kyA p h G).map (·.2) = unsR p h G := by
  rw [kyA, unsR, List.map_map]
  rfl
theorem lin_ky (H : Hd n h) {v : Rw} {i : Nat} : lin (kyA p h G) v i = sumR n fun k => co v (hpl h k) * co (unR p h G k) i := by
  unfold lin kyA sumR
  rw [List.map_map, H.len]
  rfl
/-- what the stands with 1 held span -/
theorem spn_units (h2 : 2 ≤ p) (H : Hd n h) {v : Rw} : Spn p n (fun a => a ∈ unsR p h G) v ↔ LT p n h G v := by
  have h0 : 0 < p := by omega
  have K := kyA_ky (G := G) h2 H
  have key : ∀ {v : Rw}, VR p n v → (Spn p n (rwsOf (kyA p h G)) v ↔ ∀ j < n, co v (rpl h j) = sg h j * tN n G (heldR n h v) j % p) := fun {v} vv => by
    rw [K.spn_iff h0 vv]
    have er : ∀ j < n, lin (kyA p h G) v (rpl h j) % p = sg h j * tN n G (heldR n h v) j % p := fun j hj => by
      rw [lin_ky H, sumR_mod (g := fun k => sg h j * ((heldR n h v).getD k 0 * gI G k j)) fun k hk => by
        rw [(unR_co H hj hk).2, mulm2, heldR_at hk, ← Int.mul_assoc, Int.mul_comm (co v (hpl h k)), Int.mul_assoc], sumR_mul]
      rfl
    constructor
    · intro q j hj
      rw [← er j hj, ← q _ (rpl_lt H hj), vv.mod h0]
    · intro q i hi
      refine H.cases (P := fun i => co v i % p = lin (kyA p h G) v i % p) (fun j hj => ?_) (fun j hj => ?_) hi
      · rw [lin_ky H, sumR_one hj fun k hk hne => by rw [(unR_co H hj hk).1, if_neg (Ne.symm hne), Int.mul_zero], (unR_co H hj hj).1, if_pos rfl, Int.mul_one]
      · rw [er j hj, vv.mod h0, q j hj]
  rw [← kyA_rows, ← spn_of]
  exact ⟨fun q => ⟨q.vr h0 K.hA, (key (q.vr h0 K.hA)).mp q⟩, fun q => (key q.1).mpr q.2⟩
/-- any two stands meet with 0 -/
theorem LT.meet (h0 : 0 < p) (H : Hd n h) (B : Tb p n G) {u v : Rw} (hu : LT p n h G u) (hv : LT p n h G v) : meetI u v % p = 0 := by
  rw [meetI_co hu.1.len hv.1.len]
  have e1 : ∀ j < n, (co u (2 * j) * co v (2 * j + 1) - co v (2 * j) * co u (2 * j + 1)) % p = ((heldR n h u).getD j 0 * tN n G (heldR n h v) j - (heldR n h v).getD j 0 * tN n G (heldR n h u) j) % p := fun j hj => by
    have eu := hu.2 j hj
    have ev := hv.2 j hj
    rw [heldR_at hj, heldR_at hj]
    unfold hpl rpl sg at *
    rcases H.hN j with ⟨_, e⟩ | ⟨_, e⟩
    · rw [e] at eu ev ⊢
      rw [show 2 * j + (1 - 0) = 2 * j + 1 by omega] at eu ev
      rw [show 2 * j + 0 = 2 * j by omega, eu, ev]
      show _ = _
      rw [Int.sub_emod, mulm2, mulm2, ← Int.sub_emod]
      congr 1
      have : (1 - 2 * ((0 : Nat) : Int)) = 1 := rfl
      rw [this, Int.one_mul, Int.one_mul]
    · rw [e] at eu ev ⊢
      rw [show 2 * j + (1 - 1) = 2 * j by omega] at eu ev
      rw [eu, ev]
      rw [Int.sub_emod, mulm1, mulm1, ← Int.sub_emod]
      congr 1
      have : (1 - 2 * ((1 : Nat) : Int)) = -1 := rfl
      rw [this]
      simp only [Int.neg_mul, Int.one_mul]
      rw [Int.mul_comm (tN n G (heldR n h u) j), Int.mul_comm (tN n G (heldR n h v) j)]
      omega
  rw [sumR_mod e1, sumR_sub]
  have e2 : ∀ xs ys : List Int, (sumR n fun j => xs.getD j 0 * tN n G ys j) = sumR n fun j => sumR n fun k => xs.getD j 0 * ys.getD k 0 * gI G k j := fun xs ys => sumR_congr fun j _ => by
    unfold tN
    rw [← sumR_mul]
    exact sumR_congr fun k _ => (Int.mul_assoc _ _ _).symm
  rw [e2, e2, sumR_swap n n (fun j k => (heldR n h v).getD j 0 * (heldR n h u).getD k 0 * gI G k j)]
  have e3 : (sumR n fun j => sumR n fun k => (heldR n h u).getD j 0 * (heldR n h v).getD k 0 * gI G k j) = sumR n fun j => sumR n fun i => (heldR n h v).getD i 0 * (heldR n h u).getD j 0 * gI G j i := sumR_congr fun j _ => sumR_congr fun k _ => by
    rw [Int.mul_comm ((heldR n h u).getD j 0), B.sym k j]
  rw [e3]
  simp
end
end
open PySem PySem.Spec L2
local macro_rules
  | `(tactic| simp_arith! [$ls,*]) => `(tactic| simp (maxSteps := 1000000) (disch := first | omega | assumption | (simp only [Sto.put_dk, Sto.del_dk]; assumption) | (simp only [List.length_map, List.length_append, List.length_cons, List.length_nil, List.length_zip, List.length_range, List.length_set, List.length_replicate, List.length_take, List.length_drop]; omega)) only [wipeE, List.map_cons, List.map_nil, wSs, wS, wE, wEs, wAnd, wOr, wT, wAndT, wOrT, wTs, eI, Bool.false_eq_true, Bool.not_true, Bool.not_false, if_true, if_false, decide_true, decide_false, true_and, and_true, and_self, and_self_left, exists_const, exists_and_left, D.loc.injEq, O.lst.injEq, set_mapE, ixN_ok, Sto.put_same, put_del, put_put, const_eq, ite_self, tr_bl, tr_int, tr_tup, tr_lst, List.getElem?_cons_zero, List.getElem?_cons_succ,
    Option.some.injEq, exists_eq_left', exists_eq_left, D.bl.injEq, D.int.injEq, D.str.injEq, List.set_cons_zero, List.set_cons_succ, List.length_cons, List.length_nil, List.length_map, List.length_zip, List.length_range, List.length_range', List.replicate_succ, List.replicate_zero, List.cons_append, List.nil_append, List.append_nil, Nat.reduceAdd, Nat.reduceSub, Nat.add_one_sub_one, Nat.sub_self, Nat.zero_add, Nat.add_zero, decide_eq_true_eq,
    sem_tyInt, sem_tyBool, sem_tyTuple, sem_tyList, sem_tyStr, sem_tyDict, sem_int, sem_str, sem_bl, sem_non, sem_dic0, sem_isi, sem_sub, sem_mod, sem_fdiv, sem_neg, sem_add, sem_addT, sem_addL, sem_mul, sem_ix, sem_len, sem_tuple, sem_lst, sem_tup, sem_lstO, sem_intI, sem_intB, sem_listL, sem_listO, sem_lzip, sem_allM, sem_anyM, sem_sumM,
    cs_lt, cs_le, cs_gt, cs_ge, cs_eqI, cs_eqB, cs_eqS, cs_neI, cs_neB, cs_neS, cs_isB, cs_isNotB, cs_eqT0, cs_neT0, cs_isN, cs_isNN, cs_isIN, cs_isTN, cs_isLN, cs_notNN, cs_notIN, cs_notTN, cs_notLN,
    seqS_tup, seqS_lst, lstS_lst, lenS_tup, lenS_lst, stay_tup, stay_lst, sle, mul_ok1, mul_ok2, div_ok, newL_f, bind_nm, bind_tup, bind_unl, binds_nil, binds_cons, it_seqE, it_enumE, it_zipE, it_zip0T, it_zip0L, it_zip3E, it_rg1E, it_rg2E, isTup_tup, isTup_lst, seq_rowD, seq_tupI, seq_lstI, seq_rwsL, seq_rwsT, seq_lstE, seq_tupE, seq_prD, lst_lstI, lst_rwsL, lst_lstE, len_rowD, len_tupI, len_lstI, len_rwsL, len_rwsT, len_lstE, len_tupE, stay_rowD, stay_tupI, stay_lstI, stay_rwsL, stay_rwsT, stay_lstE, stay_tupE, stay_prD, ty_rowD, ty_tupI, ty_rwsT, ty_tupE, ty_lstI, ty_rwsL, ty_lstE, ty_prD, bind_prD, row_fold, row_fold1, row_fold2, pr_fold, tupI_fold, tupI_fold2, lstI_fold, lstI_fold2, rwsL_fold, rwsL_fold2, rwsT_fold, rwsT_fold2, sem_sumI, it_zipRR, it_zipTT, zipD_map, zip3D_map, enumD_map, rgD_nat, rgD_two, at0, at1, at2, atI_map,
    lcRun_map, lcRun2_map, lcT_pure, lcT_filter, lcT_filterP, mem_int, mem_bool, mem_str, mem_tuple, mem_list, ty_int, ty_tup, ty_lst, ty_bl, ty_str, ty_non, isT_ii, isT_ib, isT_tt, isT_ss, isT_bb, isT_ll, startE_eq, $ls,*])
  | `(tactic| simp_arith! [$ls,*] at $h:ident) => `(tactic| simp (maxSteps := 1000000) (disch := first | omega | assumption | (simp only [Sto.put_dk, Sto.del_dk]; assumption) | (simp only [List.length_map, List.length_append, List.length_cons, List.length_nil, List.length_zip, List.length_range, List.length_set, List.length_replicate, List.length_take, List.length_drop]; omega)) only [wipeE, List.map_cons, List.map_nil, wSs, wS, wE, wEs, wAnd, wOr, wT, wAndT, wOrT, wTs, eI, Bool.false_eq_true, Bool.not_true, Bool.not_false, if_true, if_false, decide_true, decide_false, true_and, and_true, and_self, and_self_left, exists_const, exists_and_left, D.loc.injEq, O.lst.injEq, set_mapE, ixN_ok, Sto.put_same, put_del, put_put, const_eq, ite_self, tr_bl, tr_int, tr_tup, tr_lst, List.getElem?_cons_zero, List.getElem?_cons_succ,
    Option.some.injEq, exists_eq_left', exists_eq_left, D.bl.injEq, D.int.injEq, D.str.injEq, List.set_cons_zero, List.set_cons_succ, List.length_cons, List.length_nil, List.length_map, List.length_zip, List.length_range, List.length_range', List.replicate_succ, List.replicate_zero, List.cons_append, List.nil_append, List.append_nil, Nat.reduceAdd, Nat.reduceSub, Nat.add_one_sub_one, Nat.sub_self, Nat.zero_add, Nat.add_zero, decide_eq_true_eq,
    sem_tyInt, sem_tyBool, sem_tyTuple, sem_tyList, sem_tyStr, sem_tyDict, sem_int, sem_str, sem_bl, sem_non, sem_dic0, sem_isi, sem_sub, sem_mod, sem_fdiv, sem_neg, sem_add, sem_addT, sem_addL, sem_mul, sem_ix, sem_len, sem_tuple, sem_lst, sem_tup, sem_lstO, sem_intI, sem_intB, sem_listL, sem_listO, sem_lzip, sem_allM, sem_anyM, sem_sumM,
    cs_lt, cs_le, cs_gt, cs_ge, cs_eqI, cs_eqB, cs_eqS, cs_neI, cs_neB, cs_neS, cs_isB, cs_isNotB, cs_eqT0, cs_neT0, cs_isN, cs_isNN, cs_isIN, cs_isTN, cs_isLN, cs_notNN, cs_notIN, cs_notTN, cs_notLN,
    seqS_tup, seqS_lst, lstS_lst, lenS_tup, lenS_lst, stay_tup, stay_lst, sle, mul_ok1, mul_ok2, div_ok, newL_f, bind_nm, bind_tup, bind_unl, binds_nil, binds_cons, it_seqE, it_enumE, it_zipE, it_zip0T, it_zip0L, it_zip3E, it_rg1E, it_rg2E, isTup_tup, isTup_lst, seq_rowD, seq_tupI, seq_lstI, seq_rwsL, seq_rwsT, seq_lstE, seq_tupE, seq_prD, lst_lstI, lst_rwsL, lst_lstE, len_rowD, len_tupI, len_lstI, len_rwsL, len_rwsT, len_lstE, len_tupE, stay_rowD, stay_tupI, stay_lstI, stay_rwsL, stay_rwsT, stay_lstE, stay_tupE, stay_prD, ty_rowD, ty_tupI, ty_rwsT, ty_tupE, ty_lstI, ty_rwsL, ty_lstE, ty_prD, bind_prD, row_fold, row_fold1, row_fold2, pr_fold, tupI_fold, tupI_fold2, lstI_fold, lstI_fold2, rwsL_fold, rwsL_fold2, rwsT_fold, rwsT_fold2, sem_sumI, it_zipRR, it_zipTT, zipD_map, zip3D_map, enumD_map, rgD_nat, rgD_two, at0, at1, at2, atI_map,
    lcRun_map, lcRun2_map, lcT_pure, lcT_filter, lcT_filterP, mem_int, mem_bool, mem_str, mem_tuple, mem_list, ty_int, ty_tup, ty_lst, ty_bl, ty_str, ty_non, isT_ii, isT_ib, isT_tt, isT_ss, isT_bb, isT_ll, startE_eq, $ls,*] at $h:ident)
section
open PySem PySem.Spec L2
def thingD (p : Int) (n : Nat) (rs : List Rw) : D := .obj "Thing" ["prime", "count", "lot"] [.int p, .int (n : Nat), rwsT rs]
section
variable {S : Sto} {Q : PostE} {c n : Str} {d e : D} {ns : List Str} {ds : List D} {l : Addr}
theorem fld_prime {p : Int} {m : Nat} {rs : List Rw} : fldS S (thingD p m rs) "prime" = some (.int p) := rfl
theorem fld_count {p : Int} {m : Nat} {rs : List Rw} : fldS S (thingD p m rs) "count" = some (.int (m : Nat)) := rfl
theorem fld_lot {p : Int} {m : Nat} {rs : List Rw} : fldS S (thingD p m rs) "lot" = some (rwsT rs) := rfl
theorem isI_thing {p : Int} {m : Nat} {rs : List Rw} : isI "Thing" (thingD p m rs) S = True := eq_true (.inl ⟨_, _, rfl⟩)
theorem isiD_thing {p : Int} {m : Nat} {rs : List Rw} : isiD "Thing" (thingD p m rs) S = some true := rfl
theorem isiD_int {i : Int} : isiD c (.int i) S = some false := rfl
theorem xchk_om : xchk .om c d S = isI c d S := rfl
theorem xchk_eq : xchk .eq c d S = True := rfl
theorem xchk_ne : xchk .ne c d S = True := rfl
theorem xchk_len : xchk .len c d S = True := rfl
theorem xchk_str : xchk .str c d S = True := rfl
theorem xend_om : xend .om c ds S = True := rfl
theorem xend_eq2 : xend .eq c [d, e] S = (isI c d S ∧ isI c e S) := by
  show (∀ x ∈ [d, e], isI c x S) = _
  simp
theorem xend_ne2 : xend .ne c [d, e] S = (isI c d S ∧ isI c e S) := by
  show (∀ x ∈ [d, e], isI c x S) = _
  simp
theorem xend_len1 : xend .len c [d] S = isI c d S := by
  show (∀ x ∈ [d], isI c x S) = _
  simp
theorem xend_str1 : xend .str c [d] S = isI c d S := by
  show (∀ x ∈ [d], isI c x S) = _
  simp
theorem xpost_om : xpost .om Q = Q := rfl
theorem xpost_eqb {b : Bool} : xpost .eq Q (.bl b) S = Q (.bl b) S := by
  refine propext ⟨fun ⟨b', e, q⟩ => ?_, fun q => ⟨b, rfl, q⟩⟩
  cases e; exact q
theorem xpost_neb {b : Bool} : xpost .ne Q (.bl b) S = Q (.bl (!b)) S := by
  refine propext ⟨fun ⟨b', e, q⟩ => ?_, fun q => ⟨b, rfl, q⟩⟩
  cases e; exact q
theorem xpost_leni {i : Int} (h0 : 0 ≤ i) (h1 : i < 9223372036854775808) : xpost .len Q (.int i) S = Q (.int i) S := by
  refine propext ⟨fun ⟨b', e, _, q⟩ => ?_, fun q => ⟨i, rfl, ⟨h0, by omega⟩, q⟩⟩
  cases e; exact q
theorem xpost_strs {y : Str} : xpost .str Q (.str y) S = Q (.str y) S := by
  refine propext ⟨fun ⟨b', e, q⟩ => ?_, fun q => ⟨y, rfl, q⟩⟩
  cases e; exact q
theorem xpostT_om {R : Bool → Sto → Prop} : xpostT .om R d S = (∃ b, truth S d = some b ∧ R b S) := rfl
theorem xpostT_eqb {R : Bool → Sto → Prop} {b : Bool} : xpostT .eq R (.bl b) S = R b S := by
  refine propext ⟨fun ⟨b', e, q⟩ => ?_, fun q => ⟨b, rfl, q⟩⟩
  cases e; exact q
theorem xpostT_neb {R : Bool → Sto → Prop} {b : Bool} : xpostT .ne R (.bl b) S = R (!b) S := by
  refine propext ⟨fun ⟨b', e, q⟩ => ?_, fun q => ⟨b, rfl, q⟩⟩
  cases e; exact q
end
end
open PySem PySem.Spec L2
local macro_rules
  | `(tactic| simp_arith! [$ls,*]) => `(tactic| simp (maxSteps := 1000000) (disch := first | omega | assumption | (simp only [Sto.put_dk, Sto.del_dk]; assumption) | (simp only [List.length_map, List.length_append, List.length_cons, List.length_nil, List.length_zip, List.length_range, List.length_set, List.length_replicate, List.length_take, List.length_drop]; omega)) only [wipeE, List.map_cons, List.map_nil, wSs, wS, wE, wEs, wAnd, wOr, wT, wAndT, wOrT, wTs, eI, Bool.false_eq_true, Bool.not_true, Bool.not_false, if_true, if_false, decide_true, decide_false, true_and, and_true, and_self, and_self_left, exists_const, exists_and_left, D.loc.injEq, O.lst.injEq, set_mapE, ixN_ok, Sto.put_same, put_del, put_put, const_eq, ite_self, tr_bl, tr_int, tr_tup, tr_lst, List.getElem?_cons_zero, List.getElem?_cons_succ,
    Option.some.injEq, exists_eq_left', exists_eq_left, D.bl.injEq, D.int.injEq, D.str.injEq, List.set_cons_zero, List.set_cons_succ, List.length_cons, List.length_nil, List.length_map, List.length_zip, List.length_range, List.length_range', List.replicate_succ, List.replicate_zero, List.cons_append, List.nil_append, List.append_nil, Nat.reduceAdd, Nat.reduceSub, Nat.add_one_sub_one, Nat.sub_self, Nat.zero_add, Nat.add_zero, decide_eq_true_eq,
    sem_tyInt, sem_tyBool, sem_tyTuple, sem_tyList, sem_tyStr, sem_tyDict, sem_int, sem_str, sem_bl, sem_non, sem_dic0, sem_isi, sem_sub, sem_mod, sem_fdiv, sem_neg, sem_add, sem_addT, sem_addL, sem_mul, sem_ix, sem_len, sem_tuple, sem_lst, sem_tup, sem_lstO, sem_intI, sem_intB, sem_listL, sem_listO, sem_lzip, sem_allM, sem_anyM, sem_sumM,
    cs_lt, cs_le, cs_gt, cs_ge, cs_eqI, cs_eqB, cs_eqS, cs_neI, cs_neB, cs_neS, cs_isB, cs_isNotB, cs_eqT0, cs_neT0, cs_isN, cs_isNN, cs_isIN, cs_isTN, cs_isLN, cs_notNN, cs_notIN, cs_notTN, cs_notLN,
    seqS_tup, seqS_lst, lstS_lst, lenS_tup, lenS_lst, stay_tup, stay_lst, sle, mul_ok1, mul_ok2, div_ok, newL_f, bind_nm, bind_tup, bind_unl, binds_nil, binds_cons, it_seqE, it_enumE, it_zipE, it_zip0T, it_zip0L, it_zip3E, it_rg1E, it_rg2E, isTup_tup, isTup_lst, seq_rowD, seq_tupI, seq_lstI, seq_rwsL, seq_rwsT, seq_lstE, seq_tupE, seq_prD, lst_lstI, lst_rwsL, lst_lstE, len_rowD, len_tupI, len_lstI, len_rwsL, len_rwsT, len_lstE, len_tupE, stay_rowD, stay_tupI, stay_lstI, stay_rwsL, stay_rwsT, stay_lstE, stay_tupE, stay_prD, ty_rowD, ty_tupI, ty_rwsT, ty_tupE, ty_lstI, ty_rwsL, ty_lstE, ty_prD, bind_prD, row_fold, row_fold1, row_fold2, pr_fold, tupI_fold, tupI_fold2, lstI_fold, lstI_fold2, rwsL_fold, rwsL_fold2, rwsT_fold, rwsT_fold2, sem_sumI, it_zipRR, it_zipTT, zipD_map, zip3D_map, enumD_map, rgD_nat, rgD_two, at0, at1, at2, atI_map,
    fld_prime, fld_count, fld_lot, isI_thing, isiD_thing, isiD_int, xchk_om, xchk_eq, xchk_ne, xchk_len, xchk_str, xend_om, xend_eq2, xend_ne2, xend_len1, xend_str1, xpost_om, xpost_eqb, xpost_neb, xpost_leni, xpost_strs, xpostT_om, xpostT_eqb, xpostT_neb, it_enumM, lcRun_map, lcRun2_map, lcT_pure, lcT_filter, lcT_filterP, mem_int, mem_bool, mem_str, mem_tuple, mem_list, ty_int, ty_tup, ty_lst, ty_bl, ty_str, ty_non, isT_ii, isT_ib, isT_tt, isT_ss, isT_bb, isT_ll, startE_eq, $ls,*])
  | `(tactic| simp_arith! [$ls,*] at $h:ident) => `(tactic| simp (maxSteps := 1000000) (disch := first | omega | assumption | (simp only [Sto.put_dk, Sto.del_dk]; assumption) | (simp only [List.length_map, List.length_append, List.length_cons, List.length_nil, List.length_zip, List.length_range, List.length_set, List.length_replicate, List.length_take, List.length_drop]; omega)) only [wipeE, List.map_cons, List.map_nil, wSs, wS, wE, wEs, wAnd, wOr, wT, wAndT, wOrT, wTs, eI, Bool.false_eq_true, Bool.not_true, Bool.not_false, if_true, if_false, decide_true, decide_false, true_and, and_true, and_self, and_self_left, exists_const, exists_and_left, D.loc.injEq, O.lst.injEq, set_mapE, ixN_ok, Sto.put_same, put_del, put_put, const_eq, ite_self, tr_bl, tr_int, tr_tup, tr_lst, List.getElem?_cons_zero, List.getElem?_cons_succ,
    Option.some.injEq, exists_eq_left', exists_eq_left, D.bl.injEq, D.int.injEq, D.str.injEq, List.set_cons_zero, List.set_cons_succ, List.length_cons, List.length_nil, List.length_map, List.length_zip, List.length_range, List.length_range', List.replicate_succ, List.replicate_zero, List.cons_append, List.nil_append, List.append_nil, Nat.reduceAdd, Nat.reduceSub, Nat.add_one_sub_one, Nat.sub_self, Nat.zero_add, Nat.add_zero, decide_eq_true_eq,
    sem_tyInt, sem_tyBool, sem_tyTuple, sem_tyList, sem_tyStr, sem_tyDict, sem_int, sem_str, sem_bl, sem_non, sem_dic0, sem_isi, sem_sub, sem_mod, sem_fdiv, sem_neg, sem_add, sem_addT, sem_addL, sem_mul, sem_ix, sem_len, sem_tuple, sem_lst, sem_tup, sem_lstO, sem_intI, sem_intB, sem_listL, sem_listO, sem_lzip, sem_allM, sem_anyM, sem_sumM,
    cs_lt, cs_le, cs_gt, cs_ge, cs_eqI, cs_eqB, cs_eqS, cs_neI, cs_neB, cs_neS, cs_isB, cs_isNotB, cs_eqT0, cs_neT0, cs_isN, cs_isNN, cs_isIN, cs_isTN, cs_isLN, cs_notNN, cs_notIN, cs_notTN, cs_notLN,
    seqS_tup, seqS_lst, lstS_lst, lenS_tup, lenS_lst, stay_tup, stay_lst, sle, mul_ok1, mul_ok2, div_ok, newL_f, bind_nm, bind_tup, bind_unl, binds_nil, binds_cons, it_seqE, it_enumE, it_zipE, it_zip0T, it_zip0L, it_zip3E, it_rg1E, it_rg2E, isTup_tup, isTup_lst, seq_rowD, seq_tupI, seq_lstI, seq_rwsL, seq_rwsT, seq_lstE, seq_tupE, seq_prD, lst_lstI, lst_rwsL, lst_lstE, len_rowD, len_tupI, len_lstI, len_rwsL, len_rwsT, len_lstE, len_tupE, stay_rowD, stay_tupI, stay_lstI, stay_rwsL, stay_rwsT, stay_lstE, stay_tupE, stay_prD, ty_rowD, ty_tupI, ty_rwsT, ty_tupE, ty_lstI, ty_rwsL, ty_lstE, ty_prD, bind_prD, row_fold, row_fold1, row_fold2, pr_fold, tupI_fold, tupI_fold2, lstI_fold, lstI_fold2, rwsL_fold, rwsL_fold2, rwsT_fold, rwsT_fold2, sem_sumI, it_zipRR, it_zipTT, zipD_map, zip3D_map, enumD_map, rgD_nat, rgD_two, at0, at1, at2, atI_map,
    fld_prime, fld_count, fld_lot, isI_thing, isiD_thing, isiD_int, xchk_om, xchk_eq, xchk_ne, xchk_len, xchk_str, xend_om, xend_eq2, xend_ne2, xend_len1, xend_str1, xpost_om, xpost_eqb, xpost_neb, xpost_leni, xpost_strs, xpostT_om, xpostT_eqb, xpostT_neb, it_enumM, lcRun_map, lcRun2_map, lcT_pure, lcT_filter, lcT_filterP, mem_int, mem_bool, mem_str, mem_tuple, mem_list, ty_int, ty_tup, ty_lst, ty_bl, ty_str, ty_non, isT_ii, isT_ib, isT_tt, isT_ss, isT_bb, isT_ll, startE_eq, $ls,*] at $h:ident)
section
open PySem PySem.Spec L2
section
variable {T : Nat → Option FDef} {x : Nat → Nat} {k f : Nat} {S : Sto} {Q : PostE} {p : Int} {n : Nat} {rs : List Rw} {h : List Int} {G : List (List Int)} {xs : List Int}
theorem int_at {ys : List Int} {i : Nat} (hi : i < ys.length) : atI (ys.map D.int) (i : Int) = some (.int (ys.getD i 0)) := by
  rw [atI_map (by omega) (by omega)]
  rfl
theorem Tb.rlen (B : Tb p n G) {i : Nat} (hi : i < n) : (G.getD i []).length = n := by
  have hl : i < G.length := by rw [B.len]; exact hi
  rw [List.getD_eq_getElem?_getD, List.getElem?_eq_getElem hl, Option.getD_some]
  exact B.row _ (List.getElem_mem hl)
end
end
section
open PySem PySem.Spec L2
/-- lists of their own, that hold the rows of a grid -/
structure OwnG (S S' : Sto) (ls : List Addr) (G : List (List Int)) : Prop where
  ext : Ext S S'
  nod : ls.Nodup
  len : ls.length = G.length
  new : ∀ l ∈ ls, S.m l = none
  at_ : ∀ (k : Nat) (hk : k < ls.length), S'.m ls[k] = some (.lst ((G.getD k []).map D.int))
theorem nodup_idx {α : Type} {ls : List α} (h : ls.Nodup) {i k : Nat} (hi : i < ls.length) (hk : k < ls.length) (c : i ≠ k) : ls[i] ≠ ls[k] := by
  have hp := List.pairwise_iff_getElem.mp h
  rcases Nat.lt_or_gt_of_ne c with l | l
  · exact hp i k hi hk l
  · exact fun e => hp k i hk hi l e.symm
theorem OwnG.put {S S' : Sto} {ls : List Addr} {G : List (List Int)} (o : OwnG S S' ls G) {k : Nat} (hk : k < ls.length) (r : List Int) : OwnG S (S'.put ls[k] (.lst (r.map D.int))) ls (G.set k r) := by
  refine ⟨o.ext.wr (o.new _ (List.getElem_mem hk)), o.nod, by rw [List.length_set]; exact o.len, o.new, fun i hi => ?_⟩
  by_cases c : i = k
  · subst c
    rw [Sto.put_same, List.getD_eq_getElem?_getD, List.getElem?_set_self (by rw [← o.len]; exact hk)]
    rfl
  · have ne : ls[i] ≠ ls[k] := nodup_idx o.nod hi hk c
    rw [Sto.put_ne ne, o.at_ i hi, List.getD_eq_getElem?_getD, List.getD_eq_getElem?_getD, List.getElem?_set_ne (Ne.symm c)]
def setG (G : List (List Int)) (k j : Nat) (c : Int) : List (List Int) := G.set k ((G.getD k []).set j c)
section
variable {p : Int} {n : Nat} {G : List (List Int)}
/-- every row has as many numbers as there are rows -/
def SqG (n : Nat) (G : List (List Int)) : Prop := G.length = n ∧ ∀ k < n, (G.getD k []).length = n
theorem SqG.set {k j : Nat} {c : Int} (h : SqG n G) (hk : k < n) : SqG n (setG G k j c) := by
  refine ⟨by simp [setG, h.1], fun i hi => ?_⟩
  unfold setG
  rw [List.getD_eq_getElem?_getD]
  by_cases e : k = i
  · subst e
    rw [List.getElem?_set_self (by rw [h.1]; exact hk), Option.getD_some, List.length_set]
    exact h.2 _ hk
  · rw [List.getElem?_set_ne e, ← List.getD_eq_getElem?_getD]
    exact h.2 _ hi
theorem setG_at {k j a b : Nat} {c : Int} (h : SqG n G) (hk : k < n) (hj : j < n) : gI (setG G k j c) a b = if a = k ∧ b = j then c else gI G a b := by
  unfold gI setG
  rw [List.getD_eq_getElem?_getD (l := G.set _ _)]
  by_cases e : k = a
  · subst e
    rw [List.getElem?_set_self (by rw [h.1]; exact hk), Option.getD_some, List.getD_eq_getElem?_getD]
    by_cases e2 : j = b
    · subst e2
      rw [List.getElem?_set_self (by rw [h.2 _ hk]; exact hj), if_pos ⟨rfl, rfl⟩]
      rfl
    · rw [List.getElem?_set_ne e2, if_neg (fun q => e2 q.2.symm), ← List.getD_eq_getElem?_getD]
  · rw [List.getElem?_set_ne e, if_neg (fun q => e q.1.symm), ← List.getD_eq_getElem?_getD]
theorem Tb.sq (B : Tb p n G) : SqG n G := ⟨B.len, fun k hk => B.rlen hk⟩
theorem Tb.of (h : SqG n G) (r : ∀ k j, 0 ≤ gI G k j ∧ gI G k j < p) (s : ∀ k j, gI G k j = gI G j k) : Tb p n G := by
  refine ⟨h.1, fun g hg => ?_, r, s⟩
  obtain ⟨i, hi, rfl⟩ := List.getElem_of_mem hg
  have := h.2 i (by rw [← h.1]; exact hi)
  rw [List.getD_eq_getElem?_getD, List.getElem?_eq_getElem hi, Option.getD_some] at this
  exact this
theorem Tb.set (B : Tb p n G) {k j : Nat} {c : Int} (hk : k < n) (hj : j < n) (c0 : 0 ≤ c) (c1 : c < p) : Tb p n (setG (setG G k j c) j k c) := by
  have h := B.sq
  refine .of ((h.set hk).set hj) (fun a b => ?_) fun a b => ?_
  · rw [setG_at (h.set hk) hj hk, setG_at h hk hj]
    split
    · exact ⟨c0, c1⟩
    · split
      · exact ⟨c0, c1⟩
      · exact B.rng a b
  · rw [setG_at (h.set hk) hj hk, setG_at h hk hj, setG_at (h.set hk) hj hk, setG_at h hk hj, B.sym a b]
    by_cases e1 : a = k <;> by_cases e2 : b = j <;> by_cases e3 : a = j <;> by_cases e4 : b = k <;> simp [e1, e2, e3, e4] <;> omega
end
end
section
open PySem PySem.Spec L2
section
variable {p : Int} {n : Nat} {rs : List Rw} {A B : Rw → Prop}
/-- a map of rows that keeps sums and multiples -/
structure Lin (p : Int) (n m : Nat) (f : Rw → Rw) : Prop where
  nul : f (nul n) = FP.nul m
  vr : ∀ u, VR p n u → VR p m (f u)
  add : ∀ u v, VR p n u → VR p n v → f (addR p u v) = addR p (f u) (f v)
  mul : ∀ c u, VR p n u → f (mulR p c u) = mulR p c (f u)
theorem Spn.map {m : Nat} {f : Rw → Rw} (L : Lin p n m f) (h0 : 0 < p) (hA : ∀ a, A a → VR p n a) (hB : ∀ b, B b → VR p m b) (h : ∀ a, A a → Spn p m B (f a)) {v : Rw} (hv : Spn p n A v) : Spn p m B (f v) := by
  induction hv with
  | zero => rw [L.nul]; exact .zero
  | @step w a c hw ha ih =>
    have vw := hw.vr h0 hA
    have va := hA a ha
    rw [L.add _ _ vw (va.mul h0), L.mul _ _ va]
    exact ih.add h0 hB ((h a ha).mul h0 hB)
/-- what all rows of a lot's have, all of the lot has -/
theorem Spn.all {P : Rw → Prop} (h0 : 0 < p) (hA : ∀ a, A a → VR p n a) (hz : P (nul n)) (hs : ∀ u a c, VR p n u → P u → A a → P a → P (addR p u (mulR p c a))) (h : ∀ a, A a → P a) {v : Rw} (hv : Spn p n A v) : P v := by
  induction hv with
  | zero => exact hz
  | @step w a c hw ha ih => exact hs w a c (hw.vr h0 hA) ih ha (h a ha)
theorem Spn.co0 (h0 : 0 < p) (hA : ∀ a, A a → VR p n a) {i : Nat} (h : ∀ a, A a → co a i = 0) {v : Rw} (hv : Spn p n A v) : co v i = 0 := by
  refine Spn.all (P := fun v => co v i = 0) h0 hA co_nul (fun u a c vu hu ha hc => ?_) h hv
  rw [vu.co_add ((hA a ha).mul h0), co_mul, hu, hc]
  simp
def oneR (p : Int) (r : Rw) (i : Nat) : Rw := mulR p (invP p (co r i)) r
def withoutR (p : Int) (rs : List Rw) (i : Nat) : List Rw := match rs.zipIdx.find? fun q => decide (co q.1 i ≠ 0) with
  | none => rs
  | some q => (rs.take q.2 ++ rs.drop (q.2 + 1)).map fun o => clr p o (oneR p q.1 i) i
theorem oneR_one (hp : isPr p) {r : Rw} (vr : VR p n r) {i : Nat} (hi : co r i ≠ 0) : co (oneR p r i) i = 1 := by
  have hb := isPr_b hp
  have c := co_in (i := i) vr.inn (show 0 < p by omega)
  obtain ⟨_, _, e, _⟩ := invP_ok hp (show 0 < co r i by omega) c.2
  unfold oneR
  rw [co_mul, Int.mul_comm, e]
theorem find_idx {i : Nat} {q : Rw × Nat} (h : rs.zipIdx.find? (fun q => decide (co q.1 i ≠ 0)) = some q) : ∃ hk : q.2 < rs.length, q.1 = rs[q.2] ∧ co q.1 i ≠ 0 := by
  have h1 := List.find?_some h
  have h2 := List.mem_of_find?_eq_some h
  have h3 := List.mem_zipIdx (x := q.1) (i := q.2) h2
  refine ⟨by omega, by simpa using h3.2.2, by simpa using h1⟩
theorem find_none {i : Nat} (h : rs.zipIdx.find? (fun q => decide (co q.1 i ≠ 0)) = none) : ∀ r ∈ rs, co r i = 0 := by
  intro r hr
  obtain ⟨k, hk, rfl⟩ := List.getElem_of_mem hr
  have := List.find?_eq_none.mp h (rs[k], k) (List.mem_zipIdx_iff_getElem?.mpr (by simp [hk]))
  simpa using this
theorem withoutR_vr (h0 : 0 < p) (hr : ∀ r ∈ rs, VR p n r) {i : Nat} : ∀ r ∈ withoutR p rs i, VR p n r := by
  intro r h
  unfold withoutR at h
  split at h
  · exact hr r h
  · rename_i q e
    obtain ⟨hk, e1, e2⟩ := find_idx e
    obtain ⟨o, ho, rfl⟩ := List.mem_map.mp h
    have vo : VR p n o := hr o ((List.mem_append.mp ho).elim List.mem_of_mem_take List.mem_of_mem_drop)
    have vq : VR p n q.1 := by rw [e1]; exact hr _ (List.getElem_mem hk)
    exact vo.clr h0 (vq.mul h0)
theorem withoutR_len {i : Nat} : ((∀ r ∈ rs, co r i = 0) ∧ withoutR p rs i = rs) ∨ (∃ r ∈ rs, co r i ≠ 0) ∧ (withoutR p rs i).length + 1 = rs.length := by
  unfold withoutR
  split
  · rename_i e; exact .inl ⟨find_none e, rfl⟩
  · rename_i q e
    obtain ⟨hk, e1, e2⟩ := find_idx e
    refine .inr ⟨⟨q.1, by rw [e1]; exact List.getElem_mem hk, e2⟩, ?_⟩
    simp only [List.length_map, List.length_append, List.length_take, List.length_drop]
    omega
theorem clr_lin (h0 : 0 < p) {o : Rw} (vo : VR p n o) {i : Nat} : Lin p n n (fun u => clr p u o i) := by
  refine ⟨?_, fun u vu => vu.clr h0 vo, fun u v vu vv => ?_, fun c u vu => ?_⟩
  · refine row_ext (by rw [clr_len (by rw [vo.len]; simp)]) fun j => ?_
    rw [co_clr (VR.nul h0) vo h0, co_nul, co_nul]
    simp
  · refine row_ext (by rw [((vu.add h0 vv).clr h0 vo).len, ((vu.clr h0 vo).add h0 (vv.clr h0 vo)).len]) fun j => ?_
    rw [co_clr (vu.add h0 vv) vo h0, vu.co_add vv, vu.co_add vv, (vu.clr h0 vo).co_add (vv.clr h0 vo), co_clr vu vo h0, co_clr vv vo h0, addm1, addm2, subm1, ← subm2, mulm1, subm2]
    congr 1
    grind
  · refine row_ext (by rw [((vu.mul h0).clr h0 vo).len, ((vu.clr h0 vo).mul h0).len]) fun j => ?_
    rw [co_clr (vu.mul h0) vo h0, co_mul, co_mul, co_mul, co_clr vu vo h0, mulm2, subm1, ← subm2, mulm1, subm2]
    congr 1
    grind
theorem clr_same (h0 : 0 < p) {u o : Rw} (vu : VR p n u) (vo : VR p n o) {i : Nat} (h : co u i = 0) : clr p u o i = u := by
  refine row_ext (by rw [(vu.clr h0 vo).len, vu.len]) fun j => ?_
  rw [co_clr vu vo h0, h, Int.zero_mul, Int.sub_zero, vu.mod h0]
theorem clr_own (hp : isPr p) {r : Rw} (vr : VR p n r) {i : Nat} (hi : co r i ≠ 0) : clr p r (oneR p r i) i = nul n := by
  have hb := isPr_b hp
  have h0 : 0 < p := by omega
  have c := co_in (i := i) vr.inn h0
  obtain ⟨_, _, e, _⟩ := invP_ok hp (show 0 < co r i by omega) c.2
  unfold oneR
  refine row_ext (by rw [(vr.clr h0 (vr.mul h0)).len]; simp) fun j => ?_
  rw [co_clr vr (vr.mul h0) h0, co_mul, co_nul, ← subm2, mulm2, ← Int.mul_assoc, ← mulm1, e, Int.one_mul, vr.mod h0]
  simp
/-- what rows without a place span: what of the lot has 0 there -/
theorem withoutR_spn (hp : isPr p) (hr : ∀ r ∈ rs, VR p n r) {i : Nat} {v : Rw} : Spn p n (fun a => a ∈ withoutR p rs i) v ↔ Spn p n (fun a => a ∈ rs) v ∧ co v i = 0 := by
  have hb := isPr_b hp
  have h0 : 0 < p := by omega
  have hw := withoutR_vr (i := i) h0 hr
  unfold withoutR at hw ⊢
  split
  · rename_i e
    have z := find_none e
    exact ⟨fun h => ⟨h, h.co0 h0 hr z⟩, fun h => h.1⟩
  · rename_i q e
    rw [e] at hw
    obtain ⟨hk, e1, e2⟩ := find_idx e
    have hq : q.1 ∈ rs := by rw [e1]; exact List.getElem_mem hk
    have vq := hr _ hq
    have v1 : VR p n (oneR p q.1 i) := vq.mul h0
    have o1 := oneR_one hp vq e2
    have mem : ∀ o, o ∈ rs.take q.2 ++ rs.drop (q.2 + 1) → o ∈ rs := fun o ho => (List.mem_append.mp ho).elim List.mem_of_mem_take List.mem_of_mem_drop
    have s1 : Spn p n (fun a => a ∈ rs) (oneR p q.1 i) := (Spn.of h0 hr hq).mul h0 hr
    constructor
    · intro h
      refine ⟨h.mono h0 hr fun a ha => ?_, h.co0 h0 hw fun a ha => ?_⟩
      · obtain ⟨o, ho, rfl⟩ := List.mem_map.mp ha
        exact (Spn.of h0 hr (mem o ho)).sub h0 hr s1
      · obtain ⟨o, ho, rfl⟩ := List.mem_map.mp ha
        rw [co_clr (hr o (mem o ho)) v1 h0, o1, Int.mul_one, Int.sub_self]
        simp
    · rintro ⟨h, z⟩
      have := Spn.map (f := fun u => clr p u (oneR p q.1 i) i) (clr_lin h0 v1) h0 hr hw (fun a ha => ?_) h
      · rwa [clr_same h0 (h.vr h0 hr) v1 z] at this
      · by_cases c : a ∈ rs.take q.2 ++ rs.drop (q.2 + 1)
        · exact Spn.of h0 hw (List.mem_map.mpr ⟨a, c, rfl⟩)
        · have ea : a = q.1 := by
            obtain ⟨j, hj, rfl⟩ := List.getElem_of_mem ha
            rcases Nat.lt_trichotomy j q.2 with l | l | l
            · exact absurd (List.mem_append.mpr (.inl (List.mem_take_iff_getElem.mpr ⟨j, by omega, rfl⟩))) c
            · rw [e1]; congr 1
            · refine absurd (List.mem_append.mpr (.inr (List.mem_drop_iff_getElem.mpr ⟨j - (q.2 + 1), by omega, ?_⟩))) c
              congr 1; omega
          rw [ea, clr_own hp vq e2]
          exact .zero
/-- the rows of a lot that have 0 at a hold's sides -/
def stillR (p : Int) (rs : List Rw) (h : List Int) : List Rw := h.zipIdx.foldl (fun rs q => withoutR p rs (2 * q.2 + q.1.toNat)) rs
theorem stillR_vr' (h0 : 0 < p) : ∀ {qs : List (Int × Nat)} {rs : List Rw}, (∀ r ∈ rs, VR p n r) → ∀ r ∈ qs.foldl (fun rs q => withoutR p rs (2 * q.2 + q.1.toNat)) rs, VR p n r
  | [], _, hr => hr
  | q :: qs, _, hr => stillR_vr' h0 (qs := qs) (withoutR_vr h0 hr)
theorem stillR_spn' (hp : isPr p) : ∀ {qs : List (Int × Nat)} {rs : List Rw}, (∀ r ∈ rs, VR p n r) → ∀ v, Spn p n (fun a => a ∈ qs.foldl (fun rs q => withoutR p rs (2 * q.2 + q.1.toNat)) rs) v ↔ Spn p n (fun a => a ∈ rs) v ∧ ∀ q ∈ qs, co v (2 * q.2 + q.1.toNat) = 0
  | [], _, hr, v => by simp
  | q :: qs, rs, hr, v => by
    have hb := isPr_b hp
    rw [List.foldl_cons, stillR_spn' hp (withoutR_vr (by omega) hr) v, withoutR_spn hp hr]
    simp only [List.mem_cons, forall_eq_or_imp]
    exact ⟨fun ⟨⟨a, b⟩, c⟩ => ⟨a, b, c⟩, fun ⟨a, b, c⟩ => ⟨⟨a, b⟩, c⟩⟩
theorem stillR_vr (h0 : 0 < p) {h : List Int} (hr : ∀ r ∈ rs, VR p n r) : ∀ r ∈ stillR p rs h, VR p n r := stillR_vr' h0 hr
theorem mem_zipIdx_hold {h : List Int} {P : Nat → Prop} : (∀ q ∈ h.zipIdx, P (2 * q.2 + q.1.toNat)) ↔ ∀ j < h.length, P (hpl h j) := by
  constructor
  · intro a j hj
    have := a (h[j], j) (List.mem_zipIdx_iff_getElem?.mpr (by simp [hj]))
    unfold hpl hN
    rw [List.getD_eq_getElem?_getD, List.getElem?_eq_getElem hj]
    exact this
  · rintro a ⟨s, j⟩ hq
    have := List.mem_zipIdx hq
    obtain ⟨_, h2, h3⟩ := this
    have hj : j < h.length := by omega
    have := a j hj
    unfold hpl hN at this
    rw [List.getD_eq_getElem?_getD, List.getElem?_eq_getElem hj] at this
    rw [h3]
    simpa using this
theorem stillR_spn (hp : isPr p) {h : List Int} (H : Hd n h) (hr : ∀ r ∈ rs, VR p n r) {v : Rw} : Spn p n (fun a => a ∈ stillR p rs h) v ↔ Spn p n (fun a => a ∈ rs) v ∧ ∀ j < n, co v (hpl h j) = 0 := by
  unfold stillR
  rw [stillR_spn' hp hr v, mem_zipIdx_hold (P := fun i => co v i = 0), H.len]
variable {h : List Int} {G : List (List Int)}
def lotR (p : Int) (h : List Int) (G : List (List Int)) : List Rw := plainR p (unsR p h G)
theorem unsR_vr (h2 : 2 ≤ p) (H : Hd n h) : ∀ r ∈ unsR p h G, VR p n r := fun r hr => by
  obtain ⟨k, _, rfl⟩ := List.mem_map.mp hr
  exact unR_vr h2 H
theorem unsR_len : (unsR p h G).length = h.length := by simp [unsR]
theorem lot_ok (hp : isPr p) (H : Hd n h) : (∀ r ∈ lotR p h G, VR p n r) ∧ (lotR p h G).length = n ∧ ∀ v, Spn p n (fun a => a ∈ lotR p h G) v ↔ LT p n h G v := by
  have hb := isPr_b hp
  obtain ⟨P, _, sp⟩ := plB_ok hp (unsR_vr (G := G) hb.1 H)
  have e : lotR p h G = (plB p (unsR p h G)).map (·.2) := plainR_plB
  have K := kyA_ky (G := G) hb.1 H
  refine ⟨by rw [e]; exact P.ky.vA, ?_, fun v => ?_⟩
  · rw [e, List.length_map, P.ky.len_eq hb.1 K fun v => ?_]
    · simp [kyA, H.len]
    · rw [sp v, spn_units hb.1 H, spn_of, kyA_rows, spn_units hb.1 H]
  · rw [e, ← spn_of, sp v, spn_units hb.1 H]
def packR (n : Nat) (h : List Int) (v : Rw) : Rw := prs (heldR n h v ++ readR n h v)
def unpR (h : List Int) (r : Rw) : Rw := (List.range h.length).map fun j => if h.getD j 0 = 0 then (co r j, co r (h.length + j)) else (co r (h.length + j), co r j)
theorem pack_len (v : Rw) : (packR n h v).length = n := by
  unfold packR
  rw [prs_len]
  simp [heldR, readR]
  omega
theorem pack_co {v : Rw} {i : Nat} : co (packR n h v) i = if i < n then co v (hpl h i) else if i < 2 * n then co v (rpl h (i - n)) else 0 := by
  unfold packR
  rw [co_prs (by simp [heldR, readR]; omega), List.getD_eq_getElem?_getD]
  by_cases c : i < n
  · rw [if_pos c, List.getElem?_append_left (by simpa [heldR] using c)]
    simp [heldR, c]
  · rw [if_neg c, List.getElem?_append_right (by simp [heldR]; omega)]
    have e : i - (heldR n h v).length = i - n := by simp [heldR]
    rw [e]
    by_cases c2 : i < 2 * n
    · rw [if_pos c2]
      simp [readR, show i - n < n by omega]
    · rw [if_neg c2]
      simp [readR, show ¬ i - n < n by omega]
theorem pack_vr (h0 : 0 < p) {v : Rw} (vv : VR p n v) : VR p n (packR n h v) := by
  refine ⟨in_prs fun c hc => ?_, pack_len v⟩
  rcases List.mem_append.mp hc with hc | hc
  · obtain ⟨j, _, rfl⟩ := List.mem_map.mp hc
    exact co_in vv.inn h0
  · obtain ⟨j, _, rfl⟩ := List.mem_map.mp hc
    exact co_in vv.inn h0
theorem pack_lin (h0 : 0 < p) : Lin p n n (packR n h) := by
  refine ⟨row_ext (by rw [pack_len]; simp) fun i => ?_, fun u vu => pack_vr h0 vu, fun u v vu vv => row_ext ?_ fun i => ?_, fun c u vu => row_ext (by rw [mulR_len, pack_len, pack_len]) fun i => ?_⟩
  · rw [pack_co, co_nul, co_nul, co_nul]; simp
  · rw [addR_len, pack_len, pack_len, pack_len, Nat.min_self]
  · rw [(pack_vr h0 vu).co_add (pack_vr h0 vv), pack_co, pack_co, pack_co, vu.co_add vv, vu.co_add vv]
    split
    · rfl
    · split
      · rfl
      · simp
  · rw [co_mul, pack_co, pack_co, co_mul, co_mul]
    split
    · rfl
    · split
      · rfl
      · simp
theorem unp_pack (H : Hd n h) {v : Rw} (vv : VR p n v) : unpR h (packR n h v) = v := by
  have lv := vv.len
  refine row_ext (by simp [unpR, lv, H.len]) fun i => ?_
  have cj : ∀ j < n, ∀ hl : j < (unpR h (packR n h v)).length, (unpR h (packR n h v))[j] = if h.getD j 0 = 0 then (co v (hpl h j), co v (rpl h j)) else (co v (rpl h j), co v (hpl h j)) := fun j hj hl => by
    simp only [unpR, List.getElem_map, List.getElem_range, H.len]
    rw [pack_co, pack_co, if_pos hj, if_neg (show ¬ n + j < n by omega), if_pos (show n + j < 2 * n by omega), Nat.add_sub_cancel_left]
  by_cases hi : i < 2 * n
  · refine H.cases (P := fun i => co (unpR h (packR n h v)) i = co v i) (fun j hj => ?_) (fun j hj => ?_) hi
    · have hl : j < (unpR h (packR n h v)).length := by simp [unpR, H.len]; exact hj
      have e := cj j hj hl
      unfold hpl rpl at *
      rcases H.hN j with ⟨e1, e2⟩ | ⟨e1, e2⟩
      · rw [e2] at e ⊢
        rw [if_pos e1] at e
        rw [show 2 * j + 0 = 2 * j by omega] at e ⊢
        rw [co_fst hl, e]
      · rw [e2] at e ⊢
        rw [if_neg (by rw [e1]; decide)] at e
        rw [co_snd hl, e]
    · have hl : j < (unpR h (packR n h v)).length := by simp [unpR, H.len]; exact hj
      have e := cj j hj hl
      unfold hpl rpl at *
      rcases H.hN j with ⟨e1, e2⟩ | ⟨e1, e2⟩
      · rw [e2] at e ⊢
        rw [if_pos e1] at e
        rw [show 2 * j + (1 - 0) = 2 * j + 1 by omega] at e ⊢
        rw [co_snd hl, e]
      · rw [e2] at e ⊢
        rw [if_neg (by rw [e1]; decide)] at e
        rw [show 2 * j + (1 - 1) = 2 * j by omega] at e ⊢
        rw [co_fst hl, e]
  · rw [co_out (by simp [unpR, H.len]; omega), co_out (by rw [lv]; omega)]
/-- the plain rows of the packed ones are the packed stands with 1 held -/
theorem pack_plain (hp : isPr p) (H : Hd n h) (hr : ∀ r ∈ rs, VR p n r) (hs : ∀ v, Spn p n (fun a => a ∈ rs) v ↔ LT p n h G v) : plainR p (rs.map (packR n h)) = (unsR p h G).map (packR n h) := by
  have hb := isPr_b hp
  have h0 : 0 < p := by omega
  have vu := unsR_vr (G := G) hb.1 H
  have vp : ∀ ss : List Rw, (∀ r ∈ ss, VR p n r) → ∀ r ∈ ss.map (packR n h), VR p n r := fun ss hss r hr => by
    obtain ⟨s, hs, rfl⟩ := List.mem_map.mp hr
    exact pack_vr h0 (hss s hs)
  let A : List (Nat × Rw) := (List.range n).map fun k => (k, packR n h (unR p h G k))
  have eA : A.map (·.2) = (unsR p h G).map (packR n h) := by
    simp only [A, unsR, List.map_map, H.len]
    rfl
  have mA : ∀ t ∈ A, ∃ k < n, t = (k, packR n h (unR p h G k)) := fun t ht => by
    obtain ⟨k, hk, rfl⟩ := List.mem_map.mp ht
    exact ⟨k, List.mem_range.mp hk, rfl⟩
  have c1 : ∀ k < n, ∀ j < n, co (packR n h (unR p h G k)) j = if j = k then 1 else 0 := fun k hk j hj => by
    rw [pack_co, if_pos hj, (unR_co H hj hk).1]
  rw [← eA]
  refine plainR_unique hp (vp rs hr) ⟨fun t ht => ?_, fun t ht => ?_, ?_, fun t ht => ?_, fun t ht s hs' hne => ?_, fun t ht j hj => ?_⟩ ?_ (fun r hr' => ?_) fun t ht => ?_
  · obtain ⟨k, hk, rfl⟩ := mA t ht; exact pack_vr h0 (unR_vr hb.1 H)
  · obtain ⟨k, hk, rfl⟩ := mA t ht
    show k < 2 * n
    omega
  · simp only [A, List.map_map]
    have : (List.range n).map ((fun x : Nat × Rw => x.1) ∘ fun k => (k, packR n h (unR p h G k))) = List.range n := by
      have : ((fun x : Nat × Rw => x.1) ∘ fun k => (k, packR n h (unR p h G k))) = id := rfl
      rw [this, List.map_id]
    rw [this]
    exact List.nodup_range
  · obtain ⟨k, hk, rfl⟩ := mA t ht
    show co (packR n h (unR p h G k)) k = 1
    rw [c1 k hk k hk, if_pos rfl]
  · obtain ⟨k, hk, rfl⟩ := mA t ht
    obtain ⟨j, hj, rfl⟩ := mA s hs'
    show co (packR n h (unR p h G j)) k = 0
    rw [c1 j hj k hk, if_neg]
    exact fun e => hne e.symm
  · obtain ⟨k, hk, rfl⟩ := mA t ht
    show co (packR n h (unR p h G k)) j = 0
    have hj' : j < k := hj
    rw [c1 k hk j (by omega), if_neg (by omega)]
  · simp only [A]
    rw [List.pairwise_map]
    exact List.pairwise_lt_range.imp fun h => Nat.le_of_lt h
  · obtain ⟨r0, h0r, rfl⟩ := List.mem_map.mp hr'
    rw [spn_of, eA]
    refine Spn.map (pack_lin h0) h0 vu (vp _ vu) (fun a ha => .of h0 (vp _ vu) (List.mem_map.mpr ⟨a, ha, rfl⟩)) ?_
    exact (spn_units hb.1 H).mpr ((hs r0).mp (.of h0 hr h0r))
  · obtain ⟨k, hk, rfl⟩ := mA t ht
    refine Spn.map (pack_lin h0) h0 hr (vp _ hr) (fun a ha => .of h0 (vp _ hr) (List.mem_map.mpr ⟨a, ha, rfl⟩)) ?_
    exact (hs _).mpr ((spn_units hb.1 H).mp (.of h0 vu (List.mem_map.mpr ⟨k, by rw [H.len]; exact List.mem_range.mpr hk, rfl⟩)))
end
end
section
open PySem PySem.Spec L2
def untR (p : Int) (n : Nat) (rs : List Rw) (h : List Int) : List Rw := (plainR p (rs.map (packR n h))).map (unpR h)
section
variable {p : Int} {n : Nat} {rs : List Rw} {h : List Int} {G : List (List Int)} {xs : List Int}
/-- units of rows that are let be by the hold and a table -/
theorem untR_lt (hp : isPr p) (H : Hd n h) (hr : ∀ r ∈ rs, VR p n r) (hs : ∀ v, Spn p n (fun a => a ∈ rs) v ↔ LT p n h G v) : untR p n rs h = unsR p h G := by
  have hb := isPr_b hp
  unfold untR
  rw [pack_plain hp H hr hs, List.map_map]
  refine Eq.trans (List.map_congr_left fun r hr' => ?_) (List.map_id _)
  exact unp_pack H (unsR_vr hb.1 H r hr')
end
end
section
open PySem PySem.Spec L2
section
variable {p : Int} {n : Nat} {rs : List Rw} {h : List Int} {G : List (List Int)} {u v : Rw}
/-- a post's share of a meet, by the hold's sides -/
theorem meet_hold (H : Hd n h) (hu : u.length = n) (hv : v.length = n) : meetI u v = sumR n fun j => sg h j * (co u (hpl h j) * co v (rpl h j) - co v (hpl h j) * co u (rpl h j)) := by
  rw [meetI_co hu hv]
  refine sumR_congr fun j hj => ?_
  unfold hpl rpl sg
  rcases H.hN j with ⟨_, e⟩ | ⟨_, e⟩
  · rw [e, show 2 * j + (1 - 0) = 2 * j + 1 by omega, show 2 * j + 0 = 2 * j by omega]
    have : (1 - 2 * ((0 : Nat) : Int)) = 1 := rfl
    rw [this, Int.one_mul]
  · rw [e, show 2 * j + (1 - 1) = 2 * j by omega]
    have : (1 - 2 * ((1 : Nat) : Int)) = -1 := rfl
    rw [this, Int.neg_mul, Int.one_mul, Int.mul_comm (co u (2 * j + 1)), Int.mul_comm (co v (2 * j + 1))]
    omega
end
end
section
open PySem PySem.Spec L2
/-- rows that have places of their own -/
def KyL (p : Int) (n : Nat) (rs : List Rw) : Prop := ∃ A, Ky p n A ∧ A.map (·.2) = rs
theorem nodup_perm {α : Type} : ∀ {l m : List α}, l.Nodup → (∀ x ∈ l, x ∈ m) → ∃ m', m.Perm (l ++ m')
  | [], m, _, _ => ⟨m, .refl _⟩
  | a :: l, m, nd, h => by
    obtain ⟨m', e⟩ := nodup_perm (List.nodup_cons.mp nd).2 fun x hx => h x (by simp [hx])
    have ha : a ∈ m' := by
      have := e.mem_iff.mp (h a (by simp))
      rcases List.mem_append.mp this with q | q
      · exact absurd q (List.nodup_cons.mp nd).1
      · exact q
    obtain ⟨s, t, rfl⟩ := List.append_of_mem ha
    refine ⟨s ++ t, e.trans ?_⟩
    have : (l ++ (s ++ a :: t)).Perm (a :: (l ++ (s ++ t))) := by
      rw [← List.append_assoc, ← List.append_assoc]
      exact List.perm_middle
    exact this
section
variable {p : Int} {n : Nat} {rs ss : List Rw}
theorem KyL.vr (K : KyL p n rs) : ∀ r ∈ rs, VR p n r := by
  obtain ⟨A, P, rfl⟩ := K
  exact P.vA
theorem KyL.le (h2 : 2 ≤ p) (K : KyL p n rs) (M : KyL p n ss) (h : ∀ v, Spn p n (fun a => a ∈ rs) v → Spn p n (fun a => a ∈ ss) v) :
    rs.length ≤ ss.length ∧ (ss.length ≤ rs.length → ∀ v, Spn p n (fun a => a ∈ ss) v → Spn p n (fun a => a ∈ rs) v) := by
  have h0 : 0 < p := by omega
  obtain ⟨A, PA, rfl⟩ := K
  obtain ⟨B, PB, rfl⟩ := M
  obtain ⟨m', e⟩ := nodup_perm (PA.allF_nodup h0) (m := allF p n (B.map (·.2))) fun v hv => by
    rw [mem_allF h0 PA.vA] at hv
    rw [mem_allF h0 PB.vA]
    exact h v hv
  have l := e.length_eq
  rw [List.length_append, allF_len, allF_len, List.length_map, List.length_map] at l
  simp only [List.length_map]
  refine ⟨?_, fun le v hv => ?_⟩
  · exact (Nat.pow_le_pow_iff_right (show 1 < p.toNat by omega)).mp (by omega)
  · have : p.toNat ^ B.length ≤ p.toNat ^ A.length := Nat.pow_le_pow_right (by omega) le
    have z : m' = [] := List.eq_nil_of_length_eq_zero (by omega)
    rw [z, List.append_nil] at e
    rw [← mem_allF h0 PB.vA] at hv
    rw [← mem_allF h0 PA.vA]
    exact e.mem_iff.mp hv
theorem KyL.eq_len (h2 : 2 ≤ p) (K : KyL p n rs) (M : KyL p n ss) (h : ∀ v, Spn p n (fun a => a ∈ rs) v ↔ Spn p n (fun a => a ∈ ss) v) : rs.length = ss.length :=
  Nat.le_antisymm (K.le h2 M fun v => (h v).mp).1 (M.le h2 K fun v => (h v).mpr).1
theorem plain_kyl (hp : isPr p) (hr : ∀ r ∈ rs, VR p n r) : KyL p n (plainR p rs) := by
  obtain ⟨P, _, _⟩ := plB_ok hp hr
  exact ⟨_, P.ky, plainR_plB.symm⟩
theorem KyL.plain_len (hp : isPr p) (K : KyL p n rs) : (plainR p rs).length = rs.length :=
  (plain_kyl hp K.vr).eq_len (isPr_b hp).1 K fun v => plainR_spn hp K.vr
theorem KyL.nil : KyL p n [] := ⟨[], ⟨by simp, by simp, by simp, by simp, by simp⟩, rfl⟩
theorem KyL.zero (h0 : 0 < p) (K : KyL p n rs) (h : ∀ v, Spn p n (fun a => a ∈ rs) v → v = nul n) : rs = [] := by
  have vr := K.vr
  obtain ⟨A, P, rfl⟩ := K
  cases A with
  | nil => rfl
  | cons t A =>
    have e := h t.2 (.of h0 vr (by simp))
    have o := P.one t (by simp)
    rw [e, co_nul] at o
    omega
theorem KyL.without (hp : isPr p) (K : KyL p n rs) {i : Nat} : KyL p n (withoutR p rs i) := by
  have hb := isPr_b hp
  have h0 : 0 < p := by omega
  have vr := K.vr
  unfold withoutR
  split
  · exact K
  · rename_i q e
    obtain ⟨hk, e1, hc⟩ := find_idx e
    obtain ⟨A, P, rfl⟩ := K
    rw [List.length_map] at hk
    have e1' : q.1 = (A[q.2]).2 := by rw [e1, List.getElem_map]
    refine ⟨(A.eraseIdx q.2).map fun t => (t.1, clr p t.2 (oneR p q.1 i) i), ?_, ?_⟩
    · have hmem : ∀ t ∈ A.eraseIdx q.2, t ∈ A ∧ t.1 ≠ (A[q.2]).1 := fun t ht => by
        refine ⟨List.mem_of_mem_eraseIdx ht, fun ee => ?_⟩
        have pm := perm_eraseIdx hk
        have nd := (pm.map (·.1)).nodup_iff.mpr P.nod
        rw [List.map_append, List.map_cons, List.map_nil, List.singleton_append, List.nodup_cons] at nd
        exact nd.1 (List.mem_map.mpr ⟨t, ht, ee⟩)
      have hA := List.getElem_mem hk
      have vq : VR p n q.1 := by rw [e1']; exact P.vr _ hA
      have vo : VR p n (oneR p q.1 i) := vq.mul h0
      have zo : ∀ t ∈ A.eraseIdx q.2, co (oneR p q.1 i) t.1 = 0 := fun t ht => by
        obtain ⟨t1, t2⟩ := hmem t ht
        have := P.zer t t1 _ hA fun ee => t2 ee.symm
        unfold oneR
        rw [co_mul, e1', this, Int.mul_zero]; simp
      refine ⟨fun t ht => ?_, fun t ht => ?_, ?_, fun t ht => ?_, fun t ht s hs hne => ?_⟩
      · obtain ⟨u, hu, rfl⟩ := List.mem_map.mp ht
        exact (P.vr u (hmem u hu).1).clr h0 vo
      · obtain ⟨u, hu, rfl⟩ := List.mem_map.mp ht
        exact P.pl u (hmem u hu).1
      · rw [List.map_map]
        show ((A.eraseIdx q.2).map fun t => t.1).Nodup
        rw [← map_eraseIdx]
        exact List.Sublist.nodup (List.eraseIdx_sublist _ _) P.nod
      · obtain ⟨u, hu, rfl⟩ := List.mem_map.mp ht
        show co (clr p u.2 _ i) u.1 = 1
        rw [co_clr (P.vr u (hmem u hu).1) vo h0, zo u hu, P.one u (hmem u hu).1, Int.mul_zero]
        exact Int.emod_eq_of_lt (by omega) (by omega)
      · obtain ⟨u, hu, rfl⟩ := List.mem_map.mp ht
        obtain ⟨w, hw, rfl⟩ := List.mem_map.mp hs
        show co (clr p w.2 _ i) u.1 = 0
        rw [co_clr (P.vr w (hmem w hw).1) vo h0, zo u hu, P.zer u (hmem u hu).1 w (hmem w hw).1 hne, Int.mul_zero]; simp
    · rw [List.eraseIdx_eq_take_drop_succ, List.map_map, List.map_append, List.map_append, List.map_take, List.map_drop]
      simp [List.map_take, List.map_drop, Function.comp_def]
theorem meet_spn {A : Rw → Prop} {v w : Rw} (h0 : 0 < p) (hA : ∀ a, A a → VR p n a) (vw : VR p n w) (hv : Spn p n A v) (h : ∀ a, A a → meetI a w % p = 0) : meetI v w % p = 0 :=
  (meet_zero (hv.vr h0 hA) vw).mpr (dot_spn h0 hA hv fun a ha => (meet_zero (hA a ha) vw).mp (h a ha))
/-- a lot that is its own mirror, by rows with places of their own -/
structure Lag (p : Int) (n : Nat) (rs : List Rw) : Prop where
  ky : KyL p n rs
  len : rs.length = n
  fair : ∀ r ∈ rs, ∀ s ∈ rs, meetI r s % p = 0
theorem Lag.vr (L : Lag p n rs) : ∀ r ∈ rs, VR p n r := L.ky.vr
theorem Lag.meet (h0 : 0 < p) (L : Lag p n rs) {u v : Rw} (hu : Spn p n (fun a => a ∈ rs) u) (hv : Spn p n (fun a => a ∈ rs) v) : meetI u v % p = 0 :=
  meet_spn h0 L.vr (hv.vr h0 L.vr) hu fun a ha => meet_swap0.mp (meet_spn h0 L.vr (L.vr a ha) hv fun b hb => L.fair b hb a ha)
theorem Lag.self (hp : isPr p) (L : Lag p n rs) {v : Rw} (vv : VR p n v) : Spn p n (fun a => a ∈ rs) v ↔ ∀ r ∈ rs, meetI v r % p = 0 := by
  have hb := isPr_b hp
  have h0 : 0 < p := by omega
  constructor
  · intro hv r hr; exact L.meet h0 hv (.of h0 L.vr hr)
  · intro hz
    have mk : KyL p n (mirR p n rs) := plain_kyl hp (mirV hp n rs)
    have ml := mir_len hp L.vr
    rw [L.ky.plain_len hp] at ml
    exact (KyL.le hb.1 L.ky mk (fun v hv => (mir_spn hp L.vr (hv.vr h0 L.vr)).mpr fun r hr => L.meet h0 hv (.of h0 L.vr hr))).2 (by have := L.len; omega) v ((mir_spn hp L.vr vv).mpr hz)
theorem lot_lag {h : List Int} {G : List (List Int)} (hp : isPr p) (H : Hd n h) (B : Tb p n G) : Lag p n (lotR p h G) := by
  have hb := isPr_b hp
  have h0 : 0 < p := by omega
  obtain ⟨l1, l2, l3⟩ := lot_ok (G := G) hp H
  exact ⟨plain_kyl hp (unsR_vr hb.1 H), l2, fun r hr s hs => LT.meet h0 H B ((l3 r).mp (.of h0 l1 hr)) ((l3 s).mp (.of h0 l1 hs))⟩
theorem stillR_snoc {h : List Int} {s : Int} : stillR p rs (h ++ [s]) = withoutR p (stillR p rs h) (2 * h.length + s.toNat) := by
  unfold stillR
  rw [List.zipIdx_append, List.foldl_append]
  simp [List.zipIdx_cons, List.zipIdx_nil]
variable {h : List Int} {ps : List Nat}
end
end
section
open PySem PySem.Spec L2
def nmOwn (own : List (Str × Nat)) : List (Str × Nat) := own.map fun q => ("", q.2)
theorem nmOwn_snd {own : List (Str × Nat)} : (nmOwn own).map (·.2) = own.map (·.2) := by simp [nmOwn, Function.comp_def]
mutual
def nmE : RE → RE
  | .var i => .var i
  | .glb f => .glb f
  | .kix f e => .kix f (nmE e)
  | .nd n es => .nd n (nmEs es)
  | .call f es => .call f (nmEs es)
  | .mth n o es => .mth n (nmE o) (nmEs es)
  | .cmp n a b => .cmp n (nmE a) (nmE b)
  | .ch n m a b c => .ch n m (nmE a) (nmE b) (nmE c)
  | .frz e => .frz (nmE e)
  | .and es => .and (nmEs es)
  | .or es => .or (nmEs es)
  | .not e => .not (nmE e)
  | .ite c a b => .ite (nmE c) (nmE a) (nmE b)
  | .fld n o => .fld n (nmE o)
  | .xn k c f o es => .xn k c f (nmE o) (nmEs es)
  | .isi c f e => .isi c f (nmE e)
  | .dsp es => .dsp (nmEs es)
  | .lc2 o elt tg n es cond tg1 n1 es1 cond1 own => .lc2 o (nmE elt) tg n (nmEs es) (nmEs cond) tg1 n1 (nmEs es1) (nmEs cond1) (nmOwn own)
  | .lc o elt tg n es cond own => .lc o (nmE elt) tg n (nmEs es) (nmEs cond) (nmOwn own)
def nmEs : List RE → List RE
  | [] => []
  | e :: es => nmE e :: nmEs es
end
mutual
def nmS : RS → RS
  | .asg t e => .asg t (nmE e)
  | .asgL i e => .asgL i (nmE e)
  | .star i j e => .star i j (nmE e)
  | .par2 i j a b => .par2 i j (nmE a) (nmE b)
  | .par3 i j l a b c => .par3 i j l (nmE a) (nmE b) (nmE c)
  | .aug i n e => .aug i n (nmE e)
  | .setI e o i => .setI (nmE e) (nmE o) (nmE i)
  | .set2 e1 e2 o1 i1 o2 i2 => .set2 (nmE e1) (nmE e2) (nmE o1) (nmE i1) (nmE o2) (nmE i2)
  | .setF n o e => .setF n (nmE o) (nmE e)
  | .expr e => .expr (nmE e)
  | .ret e => .ret (nmE e)
  | .retN => .retN
  | .ifs c a b => .ifs (nmE c) (nmSs a) (nmSs b)
  | .whl c b => .whl (nmE c) (nmSs b)
  | .whb c b => .whb (nmE c) (nmSs b)
  | .for_ t n es b => .for_ t n (nmEs es) (nmSs b)
  | .brk => .brk
  | .cnt => .cnt
  | .pas => .pas
  | .nev => .nev
def nmSs : List RS → List RS
  | [] => []
  | s :: ss => nmS s :: nmSs ss
end
section
variable {C : Nat → List D → Sto → PostE → Prop}
mutual
theorem nmE_ok : ∀ (e : RE) (ρ : En) (S : Sto) (Q : PostE), wE C (nmE e) ρ S Q = wE C e ρ S Q
  | .var i, ρ, S, Q => rfl
  | .glb f, ρ, S, Q => rfl
  | .kix f e, ρ, S, Q => by have h := nmE_ok e; simp only [nmE, wE, h]
  | .nd n es, ρ, S, Q => by have h := nmEs_ok es; simp only [nmE, wE, h]
  | .call f es, ρ, S, Q => by have h := nmEs_ok es; simp only [nmE, wE, h]
  | .mth n o es, ρ, S, Q => by have h := nmEs_ok es; have h1 := nmE_ok o; simp only [nmE, wE, h, h1]
  | .cmp n a b, ρ, S, Q => by have h := nmE_ok a; have h1 := nmE_ok b; simp only [nmE, wE, h, h1]
  | .ch n m a b c, ρ, S, Q => by have h := nmE_ok a; have h1 := nmE_ok b; have h2 := nmE_ok c; simp only [nmE, wE, h, h1, h2]
  | .frz e, ρ, S, Q => by have h := nmE_ok e; simp only [nmE, wE, h]
  | .and es, ρ, S, Q => by have h := nmAnd_ok es; simp only [nmE, wE, h]
  | .or es, ρ, S, Q => by have h := nmOr_ok es; simp only [nmE, wE, h]
  | .not e, ρ, S, Q => by have h := nmE_ok e; simp only [nmE, wE, h]
  | .ite c a b, ρ, S, Q => by have h := nmT_ok c; have h1 := nmE_ok a; have h2 := nmE_ok b; simp only [nmE, wE, h, h1, h2]
  | .fld n o, ρ, S, Q => by have h := nmE_ok o; simp only [nmE, wE, h]
  | .xn k c f o es, ρ, S, Q => by have h := nmEs_ok es; have h1 := nmE_ok o; simp only [nmE, wE, h, h1]
  | .isi c f e, ρ, S, Q => by have h := nmE_ok e; simp only [nmE, wE, h]
  | .dsp es, ρ, S, Q => by have h := nmEs_ok es; simp only [nmE, wE, h]
  | .lc2 o elt tg n es cond tg1 n1 es1 cond1 own, ρ, S, Q => by
    have h := nmE_ok elt
    have h1 := nmEs_ok es
    have h2 := nmTs_ok cond
    have h3 := nmEs_ok es1
    have h4 := nmTs_ok cond1
    simp only [nmE, wE, h, h1, h2, h3, h4, nmOwn_snd]
  | .lc o elt tg n es cond own, ρ, S, Q => by
    have h := nmE_ok elt
    have h1 := nmEs_ok es
    have h2 := nmTs_ok cond
    simp only [nmE, wE, h, h1, h2, nmOwn_snd]
theorem nmEs_ok : ∀ (es : List RE) (ρ : En) (S : Sto) (Q : List D → Sto → Prop), wEs C (nmEs es) ρ S Q = wEs C es ρ S Q
  | [], ρ, S, Q => rfl
  | e :: es, ρ, S, Q => by have h := nmE_ok e; have h1 := nmEs_ok es; simp only [nmEs, wEs, h, h1]
theorem nmAnd_ok : ∀ (es : List RE) (ρ : En) (S : Sto) (Q : PostE), wAnd C (nmEs es) ρ S Q = wAnd C es ρ S Q
  | [], ρ, S, Q => rfl
  | [e], ρ, S, Q => by have h := nmE_ok e; simp only [nmEs, wAnd, h]
  | e :: e2 :: es, ρ, S, Q => by have h := nmE_ok e; have h1 := nmAnd_ok (e2 :: es); simp only [nmEs] at h1; simp only [nmEs, wAnd, h] at h1 ⊢; simp only [h1]
theorem nmOr_ok : ∀ (es : List RE) (ρ : En) (S : Sto) (Q : PostE), wOr C (nmEs es) ρ S Q = wOr C es ρ S Q
  | [], ρ, S, Q => rfl
  | [e], ρ, S, Q => by have h := nmE_ok e; simp only [nmEs, wOr, h]
  | e :: e2 :: es, ρ, S, Q => by have h := nmE_ok e; have h1 := nmOr_ok (e2 :: es); simp only [nmEs] at h1; simp only [nmEs, wOr, h] at h1 ⊢; simp only [h1]
theorem nmT_ok : ∀ (e : RE) (ρ : En) (S : Sto) (Q : Bool → Sto → Prop), wT C (nmE e) ρ S Q = wT C e ρ S Q
  | .var i, ρ, S, Q => rfl
  | .glb f, ρ, S, Q => rfl
  | .kix f e, ρ, S, Q => rfl
  | .nd n es, ρ, S, Q => by have h := nmEs_ok es; simp only [nmE, wT, h]
  | .call f es, ρ, S, Q => by have h := nmEs_ok es; simp only [nmE, wT, h]
  | .mth n o es, ρ, S, Q => by have h := nmEs_ok es; have h1 := nmE_ok o; simp only [nmE, wT, h, h1]
  | .cmp n a b, ρ, S, Q => by have h := nmE_ok a; have h1 := nmE_ok b; simp only [nmE, wT, h, h1]
  | .ch n m a b c, ρ, S, Q => by have h := nmE_ok a; have h1 := nmE_ok b; have h2 := nmE_ok c; simp only [nmE, wT, h, h1, h2]
  | .frz e, ρ, S, Q => rfl
  | .and es, ρ, S, Q => by have h := nmAndT_ok es; simp only [nmE, wT, h]
  | .or es, ρ, S, Q => by have h := nmOrT_ok es; simp only [nmE, wT, h]
  | .not e, ρ, S, Q => by have h := nmT_ok e; simp only [nmE, wT, h]
  | .ite c a b, ρ, S, Q => rfl
  | .fld n o, ρ, S, Q => by have h := nmE_ok o; simp only [nmE, wT, h]
  | .xn k c f o es, ρ, S, Q => by have h := nmEs_ok es; have h1 := nmE_ok o; simp only [nmE, wT, h, h1]
  | .isi c f e, ρ, S, Q => by have h := nmE_ok e; simp only [nmE, wT, h]
  | .dsp _, ρ, S, Q => rfl
  | .lc2 o elt tg n es cond tg1 n1 es1 cond1 own, ρ, S, Q => rfl
  | .lc o elt tg n es cond own, ρ, S, Q => rfl
theorem nmAndT_ok : ∀ (es : List RE) (ρ : En) (S : Sto) (Q : Bool → Sto → Prop), wAndT C (nmEs es) ρ S Q = wAndT C es ρ S Q
  | [], ρ, S, Q => rfl
  | [e], ρ, S, Q => by have h := nmT_ok e; simp only [nmEs, wAndT, h]
  | e :: e2 :: es, ρ, S, Q => by have h := nmT_ok e; have h1 := nmAndT_ok (e2 :: es); simp only [nmEs] at h1; simp only [nmEs, wAndT, h] at h1 ⊢; simp only [h1]
theorem nmOrT_ok : ∀ (es : List RE) (ρ : En) (S : Sto) (Q : Bool → Sto → Prop), wOrT C (nmEs es) ρ S Q = wOrT C es ρ S Q
  | [], ρ, S, Q => rfl
  | [e], ρ, S, Q => by have h := nmT_ok e; simp only [nmEs, wOrT, h]
  | e :: e2 :: es, ρ, S, Q => by have h := nmT_ok e; have h1 := nmOrT_ok (e2 :: es); simp only [nmEs] at h1; simp only [nmEs, wOrT, h] at h1 ⊢; simp only [h1]
theorem nmTs_ok : ∀ (es : List RE) (ρ : En) (S : Sto) (Q : Bool → Sto → Prop), wTs C (nmEs es) ρ S Q = wTs C es ρ S Q
  | [], ρ, S, Q => rfl
  | [e], ρ, S, Q => by have h := nmT_ok e; simp only [nmEs, wTs, h]
  | e :: e2 :: es, ρ, S, Q => by simp only [nmEs, wTs]
end
mutual
theorem nmS_ok : ∀ (s : RS) (W : WEnds) (ρ : En) (S : Sto), wS C (nmS s) W ρ S = wS C s W ρ S
  | .asg t e, W, ρ, S => by have h := @nmE_ok C e; simp only [nmS, wS, h]
  | .asgL i e, W, ρ, S => by have h := @nmE_ok C e; simp only [nmS, wS, h]
  | .star i j e, W, ρ, S => by have h := @nmE_ok C e; simp only [nmS, wS, h]
  | .par2 i j a b, W, ρ, S => by have h := @nmE_ok C a; have h1 := @nmE_ok C b; simp only [nmS, wS, h, h1]
  | .par3 i j l a b c, W, ρ, S => by have h := @nmE_ok C a; have h1 := @nmE_ok C b; have h2 := @nmE_ok C c; simp only [nmS, wS, h, h1, h2]
  | .aug i n e, W, ρ, S => by have h := @nmE_ok C e; simp only [nmS, wS, h]
  | .set2 e1 e2 o1 i1 o2 i2, W, ρ, S => by have h1 := @nmE_ok C e1; have h2 := @nmE_ok C e2; have h3 := @nmE_ok C o1; have h4 := @nmE_ok C i1; have h5 := @nmE_ok C o2; have h6 := @nmE_ok C i2; simp only [nmS, wS, h1, h2, h3, h4, h5, h6]
  | .setI e o i, W, ρ, S => by have h := @nmE_ok C e; have h1 := @nmE_ok C o; have h2 := @nmE_ok C i; simp only [nmS, wS, h, h1, h2]
  | .setF n o e, W, ρ, S => by have h := @nmE_ok C e; have h1 := @nmE_ok C o; simp only [nmS, wS, h, h1]
  | .expr e, W, ρ, S => by have h := @nmE_ok C e; simp only [nmS, wS, h]
  | .ret e, W, ρ, S => by have h := @nmE_ok C e; simp only [nmS, wS, h]
  | .retN, W, ρ, S => rfl
  | .ifs c a b, W, ρ, S => by have h := @nmT_ok C c; have h1 := nmSs_ok a; have h2 := nmSs_ok b; simp only [nmS, wS, h, h1, h2]
  | .whl c b, W, ρ, S => by have h := @nmT_ok C c; have h1 := nmSs_ok b; simp only [nmS, wS, h, h1]
  | .whb c b, W, ρ, S => by have h := @nmT_ok C c; have h1 := nmSs_ok b; simp only [nmS, wS, h, h1]
  | .for_ t n es b, W, ρ, S => by have h := @nmEs_ok C es; have h1 := nmSs_ok b; simp only [nmS, wS, h, h1]
  | .brk, W, ρ, S => rfl
  | .cnt, W, ρ, S => rfl
  | .pas, W, ρ, S => rfl
  | .nev, W, ρ, S => rfl
theorem nmSs_ok : ∀ (ss : List RS) (W : WEnds) (ρ : En) (S : Sto), wSs C (nmSs ss) W ρ S = wSs C ss W ρ S
  | [], W, ρ, S => rfl
  | s :: ss, W, ρ, S => by have h := nmS_ok s; have h1 := nmSs_ok ss; simp only [nmSs, wSs, h, h1]
end
end
def EqvD2 (d e : FDef) : Prop := d.name = e.name ∧ d.ps.length = e.ps.length ∧ d.N.length = e.N.length ∧ nmSs d.body = nmSs e.body ∧ d.prim = e.prim ∧ d.pc = e.pc
def EqvL2 : List FDef → List FDef → Prop
  | [], [] => True
  | d :: ds, e :: es => EqvD2 d e ∧ EqvL2 ds es
  | _, _ => False
theorem EqvL2.get : ∀ {ds es : List FDef}, EqvL2 ds es → ∀ i : Nat, (ds[i]? = none ∧ es[i]? = none) ∨ ∃ d e, ds[i]? = some d ∧ es[i]? = some e ∧ EqvD2 d e
  | [], [], _, i => .inl ⟨by simp, by simp⟩
  | [], _ :: _, h, _ => (show False from h).elim
  | _ :: _, [], h, _ => (show False from h).elim
  | d :: ds, e :: es, h, i => by
    cases i with
    | zero => exact .inr ⟨d, e, by simp, by simp, h.1⟩
    | succ i => simpa using EqvL2.get h.2 i
def EqvO2 (a b : Option FDef) : Prop := (a = none ∧ b = none) ∨ ∃ d e, a = some d ∧ b = some e ∧ EqvD2 d e
theorem wC_eqv2 {T T' : Nat → Option FDef} (h : ∀ f, EqvO2 (T f) (T' f)) : ∀ k, wC T k = wC T' k
  | 0 => rfl
  | k + 1 => by
    have ih := wC_eqv2 h k
    funext f ds S Q
    rcases h f with ⟨e1, e2⟩ | ⟨d, e, e1, e2, n1, n2, n3, n4, n5, n6⟩
    · simp only [wC, e1, e2]
    · cases hp : e.prim with
      | none =>
        have hp' : d.prim = none := n5.trans hp
        have es : startE d.N ds = startE e.N ds := by unfold startE; rw [n3]
        have eb : ∀ W ρ S, wSs (wC T' k) d.body W ρ S = wSs (wC T' k) e.body W ρ S := fun W ρ S => by rw [← nmSs_ok d.body, n4, nmSs_ok]
        simp only [wC, e1, e2, hp, hp', ih, n2, es, eb]
      | some p =>
        have hp' : d.prim = some p := n5.trans hp
        cases p with
        | p f => simp only [wC, e1, e2, hp, hp', n2]
        | mk i z => simp only [wC, e1, e2, hp, hp', ih, n1]
        | al i => simp only [wC, e1, e2, hp, hp', ih]
theorem mkT_eqv2 {tab tab' ctab : List FDef} (h : EqvL2 tab tab') (f : Nat) : EqvO2 (mkT tab ctab f) (mkT tab' ctab f) := by
  unfold mkT
  by_cases h1 : f < AB
  · rw [if_pos h1, if_pos h1]
    exact h.get f
  · rw [if_neg h1, if_neg h1]
    by_cases h2 : f < GB
    · rw [if_pos h2, if_pos h2]
      rcases h.get (f - AB) with ⟨e1, e2⟩ | ⟨d, e, e1, e2, n1, n2, _⟩
      · exact .inl ⟨by rw [e1]; rfl, by rw [e2]; rfl⟩
      · exact .inr ⟨⟨d.name, d.ps, [], [], some (.al (f - AB)), 0⟩, ⟨e.name, e.ps, [], [], some (.al (f - AB)), 0⟩, by rw [e1]; rfl, by rw [e2]; rfl, n1, n2, rfl, rfl, rfl, rfl⟩
    · rw [if_neg h2, if_neg h2]
      cases e : ctab[f - GB]? with
      | none => exact .inl ⟨rfl, rfl⟩
      | some d => exact .inr ⟨d, d, rfl, rfl, rfl, rfl, rfl, rfl, rfl, rfl⟩
theorem wC_alpha2 {tab tab' ctab : List FDef} (h : EqvL2 tab tab') {k f : Nat} {ds : List D} {S : Sto} {Q : PostE} : wC (mkT tab ctab) k f ds S Q ↔ wC (mkT tab' ctab) k f ds S Q := by
  rw [wC_eqv2 (mkT_eqv2 h) k]
end
section
open PySem PySem.Spec L2
section
variable {p : Int} {n : Nat} {rs : List Rw} {h : List Int}
theorem withoutR_ge {i : Nat} : rs.length ≤ (withoutR p rs i).length + 1 := by
  rcases @withoutR_len p rs i with ⟨_, e⟩ | ⟨_, e⟩
  · rw [e]; omega
  · omega
/-- the posts in which two holds differ -/
def unl (n : Nat) (h g : List Int) : List Nat := (List.range n).filter fun j => decide (h.getD j 0 ≠ g.getD j 0)
end
end
section
open PySem PySem.Spec L2
section
variable {T : Nat → Option FDef} {x : Nat → Nat} {k f : Nat} {S : Sto} {Q : PostE} {p : Int} {n : Nat} {rs : List Rw} {h : List Int} {G : List (List Int)} {xs : List Int}
def natD (j : Nat) : D := .int (j : Nat)
end
end
section
open PySem PySem.Spec L2
section
variable {S : Sto} {Q : PostE} {ns ms : List Int}
def lsP (ns : List Int) : PyData := .list (ns.map .int)
theorem py_lstI : pyS S (lstI ns) = some (lsP ns) := by
  have h : ∀ i : Int, pyD (D.int i) = some (.int i) := fun i => rfl
  show pyD (lstI ns) = _
  simp only [lstI, pyD, pyL_map h, Option.map_some, lsP]
theorem shaped_lsP : SeqAt.shaped (lsP ns) = true := by
  have h1 : PyData.depthAll (ns.map PyData.int) ≤ 0 := depth_map fun q => by simp [PyData.depth]
  have h2 : PyData.canLayAll0 (ns.map PyData.int) = true := lay_map fun q => by simp [PyData.canLay0]
  simp only [SeqAt.shaped, lsP, PyData.canLay0, PyData.depth, h2, Bool.true_and, decide_eq_true_eq]
  omega
theorem eqv_lsP : PyData.eqv (lsP ns) (lsP ms) = decide (ns = ms) := by
  simp only [lsP, PyData.eqv]
  exact eqv_map fun a b => by by_cases c : a = b <;> simp [PyData.eqv, c]
theorem cs_eqLI : cEq.cs (lstI ns) (lstI ms) S = some (decide (ns = ms)) := by
  show (match pyS S (lstI ns), pyS S (lstI ms) with
    | some a, some b => if (SeqAt.shaped a && SeqAt.shaped b) = true then some (xor false (PyData.eqv a b)) else none
    | _, _ => none) = _
  simp only [py_lstI]
  simp [shaped_lsP, eqv_lsP]
end
end
section
open PySem PySem.Spec L2
section
variable {p : Int} {n : Nat} {rs : List Rw} {h : List Int}
def cutR (p : Int) (rs : List Rw) (is : List Nat) : List Rw := is.foldl (withoutR p) rs
theorem cutR_kyl (hp : isPr p) : ∀ {is : List Nat} {rs : List Rw}, KyL p n rs → KyL p n (cutR p rs is)
  | [], _, K => K
  | i :: is, _, K => cutR_kyl hp (is := is) (K.without hp (i := i))
theorem cutR_len : ∀ {is : List Nat} {rs : List Rw}, rs.length ≤ (cutR p rs is).length + is.length
  | [], _ => by simp [cutR]
  | i :: is, rs => by
    have a := @cutR_len is (withoutR p rs i)
    have b := @withoutR_ge p rs i
    show rs.length ≤ (cutR p (withoutR p rs i) is).length + (is.length + 1)
    omega
theorem cutR_spn (hp : isPr p) : ∀ {is : List Nat} {rs : List Rw}, KyL p n rs → ∀ {v : Rw}, Spn p n (fun a => a ∈ cutR p rs is) v ↔ Spn p n (fun a => a ∈ rs) v ∧ ∀ i ∈ is, co v i = 0
  | [], _, _, _ => by simp [cutR]
  | i :: is, rs, K, v => by
    show Spn p n (fun a => a ∈ cutR p (withoutR p rs i) is) v ↔ _
    rw [cutR_spn hp (K.without hp (i := i)), withoutR_spn hp K.vr]
    simp only [List.mem_cons, forall_eq_or_imp, and_assoc]
theorem KyL.row_ne (K : KyL p n rs) {r : Rw} (hr : r ∈ rs) : r ≠ nul n := by
  obtain ⟨A, P, rfl⟩ := K
  obtain ⟨t, ht, rfl⟩ := List.mem_map.mp hr
  intro e
  have o := P.one t ht
  rw [e, co_nul] at o
  omega
theorem getD_map_range {m k : Nat} {f : Nat → Int} (hk : k < m) : ((List.range m).map f).getD k 0 = f k := by simp [hk]
theorem getD_map_rangeL {m k : Nat} {f : Nat → List Int} (hk : k < m) : ((List.range m).map f).getD k [] = f k := by simp [hk]
/-- of a hold that stands there is a stand with 1 held at a post and 0 at all others -/
theorem unit_stand (hp : isPr p) (L : Lag p n rs) (H : Hd n h) (st : (stillR p rs h).length = 0) {k : Nat} (hk : k < n) : ∃ v, Spn p n (fun a => a ∈ rs) v ∧ ∀ j < n, co v (hpl h j) = if j = k then 1 else 0 := by
  have hb := isPr_b hp
  have h0 : 0 < p := by omega
  let is := ((List.range n).filter fun j => decide (j ≠ k)).map fun j => hpl h j
  have lis : is.length + 1 ≤ n := by
    have pm := perm_eraseIdx (xs := List.range n) (i := k) (by simpa using hk)
    have : is.length < n := by
      simp only [is, List.length_map]
      have l1 : ((List.range n).filter fun j => decide (j ≠ k)).length < (List.range n).length := by
        refine List.length_filter_lt_length_iff_exists.mpr ⟨k, by simpa using hk, by simp⟩
      simpa using l1
    omega
  have lc := @cutR_len p is rs
  have K := cutR_kyl hp (is := is) L.ky
  have ln := L.len
  cases hc : cutR p rs is with
  | nil => rw [hc] at lc; simp at lc; omega
  | cons r l =>
    have hr : r ∈ cutR p rs is := by rw [hc]; simp
    have sp := (cutR_spn hp (is := is) L.ky).mp (.of h0 K.vr hr)
    have vr := K.vr r hr
    have z : ∀ j < n, j ≠ k → co r (hpl h j) = 0 := fun j hj ne => sp.2 _ (List.mem_map.mpr ⟨j, by simp [hj, ne], rfl⟩)
    have nz : co r (hpl h k) ≠ 0 := fun e => by
      refine K.row_ne hr ?_
      have em : stillR p rs h = [] := List.length_eq_zero_iff.mp st
      have := (stillR_spn hp H L.vr (v := r)).mpr ⟨sp.1, fun j hj => by
        by_cases c : j = k
        · subst c; exact e
        · exact z j hj c⟩
      rw [em] at this
      cases this with
      | zero => rfl
      | step _ ha => cases ha
    have b := co_in (i := hpl h k) vr.inn h0
    obtain ⟨_, _, i2, _⟩ := invP_ok hp (show 0 < co r (hpl h k) by omega) b.2
    refine ⟨mulR p (invP p (co r (hpl h k))) r, sp.1.mul h0 L.vr, fun j hj => ?_⟩
    rw [co_mul]
    by_cases c : j = k
    · subst c; rw [if_pos rfl, Int.mul_comm, i2]
    · rw [if_neg c, z j hj c]; simp
theorem hold_row {u v : Rw} (H : Hd n h) (hu : u.length = n) (hv : v.length = n) (e1 : ∀ j < n, co u (hpl h j) = co v (hpl h j)) (e2 : ∀ j < n, co u (rpl h j) = co v (rpl h j)) : u = v := by
  refine row_ext (by rw [hu, hv]) fun i => ?_
  by_cases hi : i < 2 * n
  · exact H.cases (P := fun i => co u i = co v i) e1 e2 hi
  · rw [co_out (by omega), co_out (by omega)]
/-- a hold that stands has a table -/
theorem Lag.table (hp : isPr p) (L : Lag p n rs) (H : Hd n h) (st : (stillR p rs h).length = 0) : ∃ G, Tb p n G ∧ ∀ v, Spn p n (fun a => a ∈ rs) v ↔ LT p n h G v := by
  have hb := isPr_b hp
  have h0 : 0 < p := by omega
  obtain ⟨U, hU⟩ := Classical.axiomOfChoice (r := fun (k : Nat) (v : Rw) => k < n → Spn p n (fun a => a ∈ rs) v ∧ ∀ j < n, co v (hpl h j) = if j = k then 1 else 0) fun k => by
    by_cases hk : k < n
    · obtain ⟨v, hv⟩ := unit_stand hp L H st hk
      exact ⟨v, fun _ => hv⟩
    · exact ⟨[], fun c => absurd c hk⟩
  have vU : ∀ k < n, VR p n (U k) := fun k hk => (hU k hk).1.vr h0 L.vr
  let G : List (List Int) := (List.range n).map fun k => (List.range n).map fun j => sg h j * co (U k) (rpl h j) % p
  have gk : ∀ k < n, ∀ j < n, gI G k j = sg h j * co (U k) (rpl h j) % p := fun k hk j hj => by
    simp only [gI, G]
    rw [getD_map_rangeL hk, getD_map_range hj]
  have g0 : ∀ k j, ¬ (k < n ∧ j < n) → gI G k j = 0 := fun k j hn => by
    simp only [gI, G]
    by_cases hk : k < n
    · rw [getD_map_rangeL hk]
      have : ¬ j < n := fun c => hn ⟨hk, c⟩
      simp [this]
    · have : ((List.range n).map fun k => (List.range n).map fun j => sg h j * co (U k) (rpl h j) % p).getD k [] = [] := by simp [hk]
      rw [this]; simp
  have sq : SqG n G := ⟨by simp [G], fun k hk => by simp only [G]; rw [getD_map_rangeL hk]; simp⟩
  have sym : ∀ k < n, ∀ j < n, gI G k j = gI G j k := fun k hk j hj => by
    have m := L.meet h0 (hU k hk).1 (hU j hj).1
    rw [meet_hold H (vU k hk).len (vU j hj).len] at m
    have e : ∀ i < n, sg h i * (co (U k) (hpl h i) * co (U j) (rpl h i) - co (U j) (hpl h i) * co (U k) (rpl h i)) = (if i = k then sg h i * co (U j) (rpl h i) else 0) - (if i = j then sg h i * co (U k) (rpl h i) else 0) := fun i hi => by
      rw [(hU k hk).2 i hi, (hU j hj).2 i hi]
      have t1 : ∀ (P : Prop) [Decidable P] (x : Int), (if P then 1 else 0) * x = if P then x else 0 := fun P _ x => by split <;> simp
      have t2 : ∀ (P : Prop) [Decidable P] (a x : Int), a * (if P then x else 0) = if P then a * x else 0 := fun P _ a x => by split <;> simp
      simp only [t1, Int.mul_sub, t2]
    rw [sumR_congr e, sumR_sub, sumR_one hk fun i hi ne => by rw [if_neg ne], sumR_one hj fun i hi ne => by rw [if_neg ne], if_pos rfl, if_pos rfl] at m
    rw [gk k hk j hj, gk j hj k hk]
    exact (sub_zero.mp m).symm
  have B : Tb p n G := Tb.of sq (fun k j => by
      by_cases c : k < n ∧ j < n
      · rw [gk k c.1 j c.2]
        exact ⟨Int.emod_nonneg _ (by omega), Int.emod_lt_of_pos _ h0⟩
      · rw [g0 k j c]; omega) fun k j => by
      by_cases c : k < n ∧ j < n
      · exact sym k c.1 j c.2
      · rw [g0 k j c, g0 j k fun q => c ⟨q.2, q.1⟩]
  refine ⟨G, B, fun v => ?_⟩
  have eU : ∀ k < n, U k = unR p h G k := fun k hk => by
    refine hold_row H (vU k hk).len (unR_vr hb.1 H).len (fun j hj => ?_) fun j hj => ?_
    · rw [(hU k hk).2 j hj, (unR_co H hj hk).1]
    · rw [(unR_co H hj hk).2, gk k hk j hj, mulm2, ← Int.mul_assoc, H.sg2, Int.one_mul, (vU k hk).mod h0]
  have su : ∀ v, Spn p n (fun a => a ∈ unsR p h G) v → Spn p n (fun a => a ∈ rs) v := fun v hv => hv.mono h0 L.vr fun a ha => by
    obtain ⟨k, hk, rfl⟩ := List.mem_map.mp ha
    have hk' : k < n := by rw [← H.len]; exact List.mem_range.mp hk
    rw [← eU k hk']
    exact (hU k hk').1
  have Ku : KyL p n (unsR p h G) := ⟨kyA p h G, kyA_ky hb.1 H, kyA_rows⟩
  have back := (Ku.le hb.1 L.ky su).2 (by rw [L.len, unsR_len, H.len]; exact Nat.le_refl _)
  rw [← spn_units hb.1 H]
  exact ⟨back v, su v⟩
/-- so it has just one -/
theorem LT.inj (hp : isPr p) {G G' : List (List Int)} (H : Hd n h) (B : Tb p n G) (B' : Tb p n G') (e : ∀ v, LT p n h G v → LT p n h G' v) : G = G' := by
  have hb := isPr_b hp
  have h0 : 0 < p := by omega
  have key : ∀ k < n, ∀ j < n, gI G k j = gI G' k j := fun k hk j hj => by
    have l : LT p n h G (unR p h G k) := LT.of h0 H (by rw [H.len]; exact unitN_nv hb.1)
    have l' := e _ l
    have e1 := (unR_co (G := G) (p := p) H hj hk).2
    have e2 := l'.2 j hj
    have hh : heldR n h (unR p h G k) = unitN n k := by
      unfold unR
      rw [H.len]
      exact heldR_stand H (unitN_nv hb.1)
    have tn : tN n G' (unitN n k) j = gI G' k j := by
      unfold tN
      rw [sumR_one hk fun i hi ne => by rw [unitN_at hi, if_neg ne, Int.zero_mul], unitN_at hk, if_pos rfl, Int.one_mul]
    rw [hh, tn, e1] at e2
    have b1 := B.rng k j
    have b2 := B'.rng k j
    have m := congrArg (fun z => sg h j * z % p) e2
    simp only [mulm2] at m
    rw [← Int.mul_assoc, ← Int.mul_assoc, H.sg2, Int.one_mul, Int.one_mul, Int.emod_eq_of_lt b1.1 b1.2, Int.emod_eq_of_lt b2.1 b2.2] at m
    exact m
  refine List.ext_getElem (by rw [B.len, B'.len]) fun k k1 k2 => ?_
  have hk : k < n := by rw [← B.len]; exact k1
  have r1 := B.rlen hk
  have r2 := B'.rlen hk
  have g1 : G.getD k [] = G[k] := by simp [k1]
  have g2 : G'.getD k [] = G'[k] := by simp [k2]
  rw [g1] at r1
  rw [g2] at r2
  refine List.ext_getElem (by rw [r1, r2]) fun j j1 j2 => ?_
  have := key k hk j (by omega)
  unfold gI at this
  rw [g1, g2] at this
  simpa [j1, j2] using this
end
end
section
open PySem PySem.Spec L2
section
variable {p : Int} {n : Nat} {rs ws : List Rw} {h : List Int} {G : List (List Int)} {ts : List Nat}
theorem KyL.swap (K : KyL p n ws) {t : Nat} (ht : t < ws.length) : KyL p n ((ws.set 0 ws[t]).set t ws[0]) := by
  obtain ⟨A, P, rfl⟩ := K
  have ht' : t < A.length := by simpa using ht
  have h0 : 0 < A.length := by omega
  have pm : ((A.set 0 A[t]).set t A[0]).Perm A := List.set_set_perm h0 ht'
  refine ⟨(A.set 0 A[t]).set t A[0], ⟨fun x hx => P.vr x (pm.mem_iff.mp hx), fun x hx => P.pl x (pm.mem_iff.mp hx), ?_, fun x hx => P.one x (pm.mem_iff.mp hx), fun x hx y hy => P.zer x (pm.mem_iff.mp hx) y (pm.mem_iff.mp hy)⟩, ?_⟩
  · exact ((pm.map (·.1)).nodup_iff).mpr P.nod
  · rw [List.map_set, List.map_set]
    simp
theorem swap_spn {t : Nat} (ht : t < ws.length) {v : Rw} : Spn p n (fun a => a ∈ (ws.set 0 ws[t]).set t ws[0]) v ↔ Spn p n (fun a => a ∈ ws) v := by
  have pm : ((ws.set 0 ws[t]).set t ws[0]).Perm ws := List.set_set_perm (show 0 < ws.length by omega) ht
  exact ⟨fun k => k.incl fun a ha => pm.mem_iff.mp ha, fun k => k.incl fun a ha => pm.mem_iff.mpr ha⟩
theorem swap_cons {α : Type} {ws : List α} {t : Nat} (ht : t < ws.length) : ∃ l, (ws.set 0 ws[t]).set t (ws[0]'(by omega)) = ws[t] :: l ∧ l.length + 1 = ws.length := by
  cases ws with
  | nil => simp at ht
  | cons a l =>
    cases t with
    | zero => exact ⟨l, by simp, by simp⟩
    | succ t => exact ⟨l.set t a, by simp, by simp⟩
theorem withoutR_head {r : Rw} {l : List Rw} {i : Nat} (h : co r i ≠ 0) : withoutR p (r :: l) i = l.map fun o => clr p o (oneR p r i) i := by
  unfold withoutR
  simp [List.zipIdx_cons, h]
def shd (p : Int) (h : List Int) (ts : List Nat) (w : Rw) : List Int := ts.map fun u => sg h u * co w (rpl h u) % p
theorem shd_len {w : Rw} : (shd p h ts w).length = ts.length := by simp [shd]
theorem shd_at {w : Rw} {i : Nat} (hi : i < ts.length) : (shd p h ts w).getD i 0 = sg h ts[i] * co w (rpl h ts[i]) % p := by simp [shd, hi]
theorem sg_zero (H : Hd n h) (hp : isPr p) {w : Rw} (vw : VR p n w) {u : Nat} : sg h u * co w (rpl h u) % p = 0 ↔ co w (rpl h u) = 0 := by
  have hb := isPr_b hp
  have h0 : 0 < p := by omega
  constructor
  · intro e
    have : sg h u * (sg h u * co w (rpl h u)) % p = 0 := by rw [← mulm2, e]; simp
    rw [← Int.mul_assoc, H.sg2, Int.one_mul, vw.mod h0] at this
    exact this
  · intro e; rw [e]; simp
/-- less so much of another row, told -/
theorem shd_clr (hp : isPr p) (H : Hd n h) {w r : Rw} (vw : VR p n w) (vr : VR p n r) {i : Nat} (hi : i < ts.length) (hr : co r (rpl h ts[i]) ≠ 0) :
    shd p h ts (clr p w (oneR p r (rpl h ts[i])) (rpl h ts[i])) = subN p ((shd p h ts w).getD i 0 * invP p ((shd p h ts r).getD i 0)) (shd p h ts w) (shd p h ts r) := by
  have hb := isPr_b hp
  have h0 : 0 < p := by omega
  generalize hu : ts[i] = u at hr ⊢
  have e1 : (shd p h ts w).getD i 0 = sg h u * co w (rpl h u) % p := by rw [shd_at hi, hu]
  have e2 : (shd p h ts r).getD i 0 = sg h u * co r (rpl h u) % p := by rw [shd_at hi, hu]
  rw [e1, e2]
  have nz : sg h u * co r (rpl h u) % p ≠ 0 := fun c => hr ((sg_zero H hp vr).mp c)
  have b1 := Int.emod_nonneg (sg h u * co r (rpl h u)) (show p ≠ 0 by omega)
  have b2 := Int.emod_lt_of_pos (sg h u * co r (rpl h u)) h0
  obtain ⟨_, _, i2, _⟩ := invP_ok hp (show 0 < sg h u * co r (rpl h u) % p by omega) b2
  have cr := co_in (i := rpl h u) vr.inn h0
  obtain ⟨_, _, j2, _⟩ := invP_ok hp (show 0 < co r (rpl h u) by omega) cr.2
  generalize ha : invP p (sg h u * co r (rpl h u) % p) = a' at i2 ⊢
  -- the inverse of the told number
  have key : ∀ z : Int, (sg h u * co w (rpl h u) % p * a') * z % p = co w (rpl h u) * (invP p (co r (rpl h u)) * z) % p := by
    intro z
    have s2 := H.sg2 u
    have k1 : a' % p = sg h u * invP p (co r (rpl h u)) % p := by
      have x1 : a' * (co r (rpl h u) * invP p (co r (rpl h u))) % p = a' % p := by rw [← mulm2, j2, Int.mul_one]
      have x2 : a' * (co r (rpl h u) * invP p (co r (rpl h u))) = (sg h u * co r (rpl h u)) * a' * (sg h u * invP p (co r (rpl h u))) := by
        have : (sg h u * co r (rpl h u)) * a' * (sg h u * invP p (co r (rpl h u))) = (sg h u * sg h u) * (a' * (co r (rpl h u) * invP p (co r (rpl h u)))) := by
          simp only [Int.mul_comm, Int.mul_left_comm, Int.mul_assoc]
        rw [this, s2, Int.one_mul]
      rw [← x1, x2, ← mulm1 (a := sg h u * co r (rpl h u) * a'), ← mulm1 (a := sg h u * co r (rpl h u)), i2, Int.one_mul]
    have l1 : (sg h u * co w (rpl h u) % p * a') * z % p = (sg h u * co w (rpl h u)) * (a' * z) % p := by rw [Int.mul_assoc, mulm1]
    rw [l1, ← mulm2, ← mulm1 (a := a'), k1, mulm1, mulm2]
    have : sg h u * co w (rpl h u) * (sg h u * invP p (co r (rpl h u)) * z) = (sg h u * sg h u) * (co w (rpl h u) * (invP p (co r (rpl h u)) * z)) := by
      simp only [Int.mul_comm, Int.mul_left_comm, Int.mul_assoc]
    rw [this, s2, Int.one_mul]
  have vo : VR p n (oneR p r (rpl h u)) := vr.mul h0
  refine List.ext_getElem (by simp [shd, subN]) fun j j1 j2' => ?_
  rw [shd_len] at j1
  simp only [shd, subN, List.getElem_map, List.getElem_zip]
  rw [co_clr vw vo h0, mulm2]
  unfold oneR
  rw [co_mul]
  have e3 := key (sg h ts[j] * co r (rpl h ts[j]))
  rw [← subm2 (b := _ * (sg h ts[j] * co r (rpl h ts[j]) % p)), mulm2, e3, subm2, subm1, Int.mul_sub]
  rw [← subm2 (b := sg h ts[j] * (co w (rpl h u) * (invP p (co r (rpl h u)) * co r (rpl h ts[j]) % p))), ← subm2 (b := co w (rpl h u) * (invP p (co r (rpl h u)) * (sg h ts[j] * co r (rpl h ts[j]))))]
  congr 2
  have m1 : sg h ts[j] * (co w (rpl h u) * (invP p (co r (rpl h u)) * co r (rpl h ts[j]) % p)) % p = sg h ts[j] * (co w (rpl h u) * (invP p (co r (rpl h u)) * co r (rpl h ts[j]))) % p := by
    rw [← Int.mul_assoc, mulm2, Int.mul_assoc]
  rw [m1]
  congr 1
  simp only [Int.mul_comm, Int.mul_left_comm, Int.mul_assoc]
def kyT (p : Int) (h : List Int) (G : List (List Int)) (ts : List Nat) : List (Nat × Rw) := ts.map fun k => (hpl h k, unR p h G k)
theorem kyT_ky (h2 : 2 ≤ p) (H : Hd n h) (nd : ts.Nodup) (b : ∀ t ∈ ts, t < n) : Ky p n (kyT p h G ts) := by
  refine ⟨fun t ht => ?_, fun t ht => ?_, ?_, fun t ht => ?_, fun t ht s hs hne => ?_⟩
  · obtain ⟨k, hk, rfl⟩ := List.mem_map.mp ht
    exact unR_vr h2 H
  · obtain ⟨k, hk, rfl⟩ := List.mem_map.mp ht
    exact hpl_lt H (b k hk)
  · unfold kyT
    rw [List.map_map]
    exact nodup_map_inj (fun a c e => hpl_inj H e) nd
  · obtain ⟨k, hk, rfl⟩ := List.mem_map.mp ht
    have := (unR_co (p := p) (G := G) H (b k hk) (b k hk)).1
    simpa using this
  · obtain ⟨k, hk, rfl⟩ := List.mem_map.mp ht
    obtain ⟨j, hj, rfl⟩ := List.mem_map.mp hs
    have := (unR_co (p := p) (G := G) H (b k hk) (b j hj)).1
    rw [this, if_neg fun e => hne (by rw [e])]
/-- the corner's own rows -/
theorem shd_unit (hp : isPr p) (H : Hd n h) (B : Tb p n G) (b : ∀ t ∈ ts, t < n) {k : Nat} (hk : k < n) : shd p h ts (unR p h G k) = ts.map fun j => gI G k j := by
  have hb := isPr_b hp
  have h0 : 0 < p := by omega
  refine List.map_congr_left fun j hj => ?_
  rw [(unR_co H (b j hj) hk).2, mulm2, ← Int.mul_assoc, H.sg2, Int.one_mul]
  exact Int.emod_eq_of_lt (B.rng k j).1 (B.rng k j).2
structure Lk (p : Int) (n : Nat) (h : List Int) (G : List (List Int)) (ts : List Nat) (j : Nat) (Ms : List (List Int)) (done : Nat) (ws : List Rw) : Prop where
  dj : done ≤ j
  ml : Ms.length = ts.length
  wl : ws.length + done = ts.length
  ky : KyL p n ws
  sp : ∀ v, Spn p n (fun a => a ∈ ws) v ↔ Spn p n (fun a => a ∈ ts.map (unR p h G)) v ∧ ∀ i (hi : i < ts.length), i < j → co v (rpl h ts[i]) = 0
  sh : Ms.drop done = ws.map (shd p h ts)
  rg : ∀ r ∈ Ms, r.length = ts.length ∧ ∀ c ∈ r, 0 ≤ c ∧ c < p
variable {Ms Ms' : List (List Int)} {j done : Nat}
theorem Lk.start (hp : isPr p) (H : Hd n h) (B : Tb p n G) (nd : ts.Nodup) (b : ∀ t ∈ ts, t < n) : Lk p n h G ts 0 (ts.map fun k => ts.map fun j => gI G k j) 0 (ts.map (unR p h G)) := by
  have hb := isPr_b hp
  refine ⟨Nat.le_refl _, by simp, by simp, ⟨kyT p h G ts, kyT_ky hb.1 H nd b, by simp [kyT, Function.comp_def]⟩, fun v => ⟨fun hv => ⟨hv, fun i hi c => by omega⟩, fun hv => hv.1⟩, ?_, fun r hr => ?_⟩
  · rw [List.drop_zero, List.map_map]
    exact List.map_congr_left fun k hk => (shd_unit hp H B b (b k hk)).symm
  · obtain ⟨k, hk, rfl⟩ := List.mem_map.mp hr
    refine ⟨by simp, fun c hc => ?_⟩
    obtain ⟨i, _, rfl⟩ := List.mem_map.mp hc
    exact B.rng k i
theorem Lk.row (L : Lk p n h G ts j Ms done ws) {t : Nat} (ht : t < ws.length) : Ms.getD (done + t) [] = shd p h ts ws[t] := by
  have e : (Ms.drop done)[t]? = some (shd p h ts ws[t]) := by rw [L.sh, List.getElem?_map, List.getElem?_eq_getElem ht]; rfl
  rw [List.getElem?_drop] at e
  rw [List.getD_eq_getElem?_getD, e]
  rfl
theorem Lk.none (hp : isPr p) (H : Hd n h) (L : Lk p n h G ts j Ms done ws) (hj : j < ts.length) (z : ∀ t < ws.length, (Ms.getD (done + t) []).getD j 0 = 0) : Lk p n h G ts (j + 1) Ms done ws := by
  have hb := isPr_b hp
  have h0 : 0 < p := by omega
  have vr := L.ky.vr
  refine ⟨Nat.le_succ_of_le L.dj, L.ml, L.wl, L.ky, fun v => ?_, L.sh, L.rg⟩
  rw [L.sp]
  refine ⟨fun ⟨a, b⟩ => ⟨a, fun i hi c => ?_⟩, fun ⟨a, b⟩ => ⟨a, fun i hi c => b i hi (by omega)⟩⟩
  by_cases e : i < j
  · exact b i hi e
  · have e2 : i = j := by omega
    subst e2
    have sv := (L.sp v).mpr ⟨a, b⟩
    refine Spn.co0 h0 vr (fun r hr => ?_) sv
    obtain ⟨t, ht, rfl⟩ := List.getElem_of_mem hr
    have := z t ht
    rw [L.row ht, shd_at hi] at this
    exact (sg_zero H hp (vr _ hr)).mp this
theorem Lk.some (hp : isPr p) (H : Hd n h) (L : Lk p n h G ts j Ms done ws) (hj : j < ts.length) {t : Nat} (ht : t < ws.length) (nz : (Ms.getD (done + t) []).getD j 0 ≠ 0) (ml' : Ms'.length = ts.length)
    (d1 : Ms'.drop (done + 1) = ((((Ms.set done (Ms.getD (done + t) [])).set (done + t) (Ms.getD done [])).drop (done + 1))).map fun r => subN p (r.getD j 0 * invP p ((Ms.getD (done + t) []).getD j 0)) r (Ms.getD (done + t) []))
    (rg' : ∀ r ∈ Ms', r.length = ts.length ∧ ∀ c ∈ r, 0 ≤ c ∧ c < p) : Lk p n h G ts (j + 1) Ms' (done + 1) (withoutR p ((ws.set 0 ws[t]).set t (ws[0]'(by omega))) (rpl h ts[j])) := by
  have hb := isPr_b hp
  have h0 : 0 < p := by omega
  have vr := L.ky.vr
  have w0 : 0 < ws.length := by omega
  have wl := L.wl
  have dj := L.dj
  have ml := L.ml
  obtain ⟨l, el, ll⟩ := swap_cons ht
  have et : Ms.getD (done + t) [] = shd p h ts ws[t] := L.row ht
  have e0 : Ms.getD done [] = shd p h ts ws[0] := by have := L.row w0; simpa using this
  have cnz : co ws[t] (rpl h ts[j]) ≠ 0 := fun c => nz (by
    rw [et, shd_at hj]
    exact (sg_zero H hp (vr _ (List.getElem_mem _))).mpr c)
  have Ks := L.ky.swap ht
  have vs := Ks.vr
  have wo : withoutR p ((ws.set 0 ws[t]).set t (ws[0]'(by omega))) (rpl h ts[j]) = l.map fun o => clr p o (oneR p ws[t] (rpl h ts[j])) (rpl h ts[j]) := by
    rw [el]; exact withoutR_head cnz
  refine ⟨by omega, ml', ?_, Ks.without hp, fun v => ?_, ?_, rg'⟩
  · rw [wo, List.length_map]; omega
  · rw [withoutR_spn hp vs, swap_spn ht, L.sp]
    constructor
    · rintro ⟨⟨a, b⟩, c⟩
      refine ⟨a, fun i hi d => ?_⟩
      by_cases e : i < j
      · exact b i hi e
      · have e2 : i = j := by omega
        subst e2; exact c
    · rintro ⟨a, b⟩
      exact ⟨⟨a, fun i hi c => b i hi (by omega)⟩, b j hj (by omega)⟩
  · -- what the swapped rows tell
    have sw : ((Ms.set done (Ms.getD (done + t) [])).set (done + t) (Ms.getD done [])).drop done = ((ws.set 0 ws[t]).set t (ws[0]'(by omega))).map (shd p h ts) := by
      rw [List.drop_set, if_neg (by omega), List.drop_set, if_neg (by omega), L.sh, List.map_set, List.map_set, et, e0]
      simp
    have dd : ((Ms.set done (Ms.getD (done + t) [])).set (done + t) (Ms.getD done [])).drop (done + 1) = l.map (shd p h ts) := by
      have : ((Ms.set done (Ms.getD (done + t) [])).set (done + t) (Ms.getD done [])).drop (done + 1) = (((Ms.set done (Ms.getD (done + t) [])).set (done + t) (Ms.getD done [])).drop done).drop 1 := by rw [List.drop_drop]
      rw [this, sw, el]
      rfl
    rw [d1, dd, wo, List.map_map, List.map_map]
    refine List.map_congr_left fun o ho => ?_
    have vo : VR p n o := vs o (by rw [el]; simp [ho])
    simp only [Function.comp_def]
    rw [shd_clr hp H vo (vr _ (List.getElem_mem _)) hj cnz, et]
end
end
section
open PySem PySem.Spec L2
theorem lcT_toF {α : Type} {step : α → Sto → (Option D → Sto → Prop) → Prop} {f : α → D} {p : α → Bool} {stay : Sto → Prop} {S : Sto} {Q : List D → Sto → Prop} (st : stay S) : ∀ {xs : List α} {acc : List D},
    (∀ a ∈ xs, ∀ kk : Option D → Sto → Prop, (if p a = true then kk (some (f a)) S else kk none S) → step a S kk) → Q (acc ++ (xs.filter p).map f) S → lcT step stay xs acc S Q
  | [], acc, _, q => ⟨st, by simpa using q⟩
  | x :: xs, acc, h, q => by
    refine ⟨st, h x (List.mem_cons_self ..) _ ?_⟩
    by_cases c : p x = true
    · rw [if_pos c]
      refine lcT_toF st (fun a ha => h a (List.mem_cons_of_mem _ ha)) ?_
      rw [List.filter_cons_of_pos c] at q
      simpa using q
    · rw [if_neg c]
      refine lcT_toF st (fun a ha => h a (List.mem_cons_of_mem _ ha)) ?_
      rw [List.filter_cons_of_neg c] at q
      exact q
end
section
open PySem PySem.Spec L2
section
variable {p : Int} {n : Nat} {rs : List Rw} {h : List Int} {G : List (List Int)}
def uniR (n i : Nat) : Rw := prs (unitN (2 * n) i)
theorem uniR_co {i k : Nat} (hk : k < 2 * n) : co (uniR n i) k = if k = i then 1 else 0 := by
  unfold uniR
  rw [co_prs (by rw [unitN_len]; omega), unitN_get hk]
theorem uniR_vr (h2 : 2 ≤ p) {i : Nat} : VR p n (uniR n i) := ⟨in_prs fun c hc => by
    have := (unitN_nv (p := p) (n := 2 * n) (k := i) h2).2 c hc
    exact this, by unfold uniR; rw [prs_len, unitN_len]; omega⟩
theorem still_pre (hp : isPr p) (vr : ∀ r ∈ rs, VR p n r) {v : Rw} : Spn p n (fun a => a ∈ stillR p rs h) v ↔ Spn p n (fun a => a ∈ rs) v ∧ ∀ j < h.length, co v (hpl h j) = 0 := by
  unfold stillR
  rw [stillR_spn' hp vr v, mem_zipIdx_hold (P := fun i => co v i = 0)]
/-- what is still of a beginning of a hold that has as many free numbers fewer as posts: at the next post one side or the other isn't 0 throughout -/
theorem next_side (hp : isPr p) (L : Lag p n rs) (hb : ∀ c ∈ h, c = 0 ∨ c = 1) (hl : h.length < n) (z0 : ∀ r ∈ stillR p rs h, co r (2 * h.length) = 0) (z1 : ∀ r ∈ stillR p rs h, co r (2 * h.length + 1) = 0) : False := by
  have hb2 := isPr_b hp
  have h0 : 0 < p := by omega
  generalize hj : h.length = j at hl z0 z1
  have svr := stillR_vr (h := h) h0 L.vr
  let us := (List.range j).map fun k => uniR n (rpl h k)
  have hN01 : ∀ k < j, hN h k = 0 ∨ hN h k = 1 := fun k hk => by
    have : h.getD k 0 ∈ h := by
      rw [List.getD_eq_getElem?_getD, List.getElem?_eq_getElem (by omega)]
      exact List.getElem_mem _
    unfold hN
    rcases hb _ this with e | e <;> rw [e] <;> simp
  have uvr : ∀ r ∈ us, VR p n r := fun r hr => by
    obtain ⟨k, _, rfl⟩ := List.mem_map.mp hr
    exact uniR_vr hb2.1
  have fvr := vapp L.vr uvr
  have mz : ∀ m ∈ mirR p n (rs ++ us), co m (2 * j) = 0 ∧ co m (2 * j + 1) = 0 := by
    intro m hm
    have mv := mir_vr hp m hm
    have ms := (mir_spn hp fvr mv).mp (.of h0 (mir_vr hp) hm)
    have ml : Spn p n (fun a => a ∈ rs) m := (L.self hp mv).mpr fun r hr => ms r (by simp [hr])
    have mh : ∀ k < h.length, co m (hpl h k) = 0 := fun k hk => by
      have e := ms (uniR n (rpl h k)) (List.mem_append_right _ (List.mem_map.mpr ⟨k, List.mem_range.mpr (by omega), rfl⟩))
      rw [meetI_co mv.len (uniR_vr (p := p) hb2.1).len] at e
      have b := co_in (i := hpl h k) mv.inn h0
      have key : (sumR n fun t => co m (2 * t) * co (uniR n (rpl h k)) (2 * t + 1) - co (uniR n (rpl h k)) (2 * t) * co m (2 * t + 1)) = (if hN h k = 0 then co m (hpl h k) else -co m (hpl h k)) := by
        rw [sumR_one (k := k) (by omega) fun t ht ne => by
          rw [uniR_co (by omega), uniR_co (by omega)]
          have := hN01 k (by omega)
          unfold rpl
          rw [if_neg (by omega), if_neg (by omega)]; simp]
        rw [uniR_co (by omega), uniR_co (by omega)]
        rcases hN01 k (by omega) with q | q
        · unfold rpl hpl
          rw [q]; simp
        · unfold rpl hpl
          rw [q]; simp
      rw [key] at e
      split at e
      · rwa [Int.emod_eq_of_lt b.1 b.2] at e
      · have : co m (hpl h k) % p = 0 := by
          have := congrArg (fun z => (0 - z) % p) e
          simp only [subm2] at this
          simpa using this
        rwa [Int.emod_eq_of_lt b.1 b.2] at this
    have st := (still_pre hp L.vr).mpr ⟨ml, mh⟩
    exact ⟨Spn.co0 h0 svr z0 st, Spn.co0 h0 svr z1 st⟩
  have meets : ∀ i, (i = 2 * j ∨ i = 2 * j + 1) → Spn p n (fun a => a ∈ rs ++ us) (uniR n i) := by
    intro i hi
    refine (mir_back hp fvr (uniR_vr hb2.1)).mp fun m hm => ?_
    have mv := mir_vr hp m hm
    obtain ⟨a, b⟩ := mz m hm
    rw [meetI_co mv.len (uniR_vr (p := p) hb2.1).len, sumR_congr (g := fun _ => 0) fun t ht => ?_, sumR_nul]
    · simp
    · rw [uniR_co (by omega), uniR_co (by omega)]
      by_cases c : t = j
      · subst c; rw [a, b]; simp
      · rw [if_neg (by omega), if_neg (by omega)]; simp
  have part : ∀ i, (i = 2 * j ∨ i = 2 * j + 1) → ∃ l, Spn p n (fun a => a ∈ rs) l ∧ ∀ t < 2 * n, (∀ k < j, t ≠ rpl h k) → co l t = if t = i then 1 else 0 := by
    intro i hi
    obtain ⟨l, r, hl', hr', e⟩ := (spn_app h0 L.vr uvr).mp (meets i hi)
    refine ⟨l, hl', fun t ht no => ?_⟩
    have lv := hl'.vr h0 L.vr
    have rv := hr'.vr h0 uvr
    have rz : co r t = 0 := Spn.co0 h0 uvr (fun a ha => by
      obtain ⟨k, hk, rfl⟩ := List.mem_map.mp ha
      rw [uniR_co ht, if_neg (no k (List.mem_range.mp hk))]) hr'
    have := congrArg (fun w => co w t) e
    rw [lv.co_add rv, rz, Int.add_zero, lv.mod h0, uniR_co ht] at this
    exact this
  obtain ⟨l1, s1, c1⟩ := part (2 * j) (.inl rfl)
  obtain ⟨l2, s2, c2⟩ := part (2 * j + 1) (.inr rfl)
  have m := L.meet h0 s1 s2
  have rp : ∀ k < j, rpl h k = 2 * k ∨ rpl h k = 2 * k + 1 := fun k hk => by
    have := hN01 k hk
    unfold rpl; omega
  rw [meetI_co (s1.vr h0 L.vr).len (s2.vr h0 L.vr).len, sumR_one (k := j) hl fun t ht ne => ?_] at m
  · rw [c1 (2 * j) (by omega) (fun k hk => by have := rp k hk; omega), c1 (2 * j + 1) (by omega) (fun k hk => by have := rp k hk; omega), c2 (2 * j) (by omega) (fun k hk => by have := rp k hk; omega), c2 (2 * j + 1) (by omega) (fun k hk => by have := rp k hk; omega)] at m
    simp only [if_true, if_neg (show ¬ 2 * j = 2 * j + 1 by omega), if_neg (show ¬ 2 * j + 1 = 2 * j by omega)] at m
    have : (1 : Int) % p = 1 := one_lt hb2.1
    simp at m
    omega
  · by_cases c : t < j
    · -- one side of it is 0 in both
      have z : ∀ l i, (∀ t < 2 * n, (∀ k < j, t ≠ rpl h k) → co l t = if t = i then 1 else 0) → (i = 2 * j ∨ i = 2 * j + 1) → co l (hpl h t) = 0 := fun l i hc hi => by
        have hv := hN01 t c
        have hne : ∀ k < j, hpl h t ≠ rpl h k := fun k hk e => by
          have h1 := hN01 k hk
          unfold hpl rpl at e
          have : t = k := by omega
          subst this
          omega
        rw [hc (hpl h t) (by unfold hpl; omega) hne, if_neg (by unfold hpl; omega)]
      have q1 := z l1 _ c1 (.inl rfl)
      have q2 := z l2 _ c2 (.inr rfl)
      unfold hpl at q1 q2
      rcases hN01 t c with e | e
      · rw [e] at q1 q2
        simp only [Nat.add_zero] at q1 q2
        rw [q1, q2]; simp
      · rw [e] at q1 q2
        rw [q1, q2]; simp
    · rw [c1 (2 * t) (by omega) (fun k hk => by have := rp k hk; omega), c1 (2 * t + 1) (by omega) (fun k hk => by have := rp k hk; omega), if_neg (by omega), if_neg (by omega)]; simp
def tfF (p : Int) (rs : List Rw) : Nat → List Int × List Rw
  | 0 => ([], rs)
  | m + 1 => if (withoutR p (tfF p rs m).2 (2 * m)).length = (tfF p rs m).2.length then ((tfF p rs m).1 ++ [1], withoutR p (tfF p rs m).2 (2 * m + 1)) else ((tfF p rs m).1 ++ [0], withoutR p (tfF p rs m).2 (2 * m))
def tfH (p : Int) (n : Nat) (rs : List Rw) : List Int := (tfF p rs n).1
theorem tfF_ok (hp : isPr p) (L : Lag p n rs) : ∀ m ≤ n, (tfF p rs m).1.length = m ∧ (∀ c ∈ (tfF p rs m).1, c = 0 ∨ c = 1) ∧ (tfF p rs m).2 = stillR p rs (tfF p rs m).1 ∧ (tfF p rs m).2.length + m = n
  | 0, _ => ⟨rfl, by simp [tfF], rfl, by simpa [tfF] using L.len⟩
  | m + 1, hm => by
    obtain ⟨a1, a2, a3, a4⟩ := tfF_ok hp L m (by omega)
    generalize hq : tfF p rs m = q at a1 a2 a3 a4
    simp only [tfF, hq]
    rcases @withoutR_len p q.2 (2 * m) with ⟨z, e⟩ | ⟨_, e⟩
    · rw [if_pos (by rw [e])]
      rcases @withoutR_len p q.2 (2 * m + 1) with ⟨z', _⟩ | ⟨_, e'⟩
      · exact (next_side hp L a2 (by omega) (by rw [← a3, a1]; exact z) (by rw [← a3, a1]; exact z')).elim
      · refine ⟨by simp [a1], fun c hc => ?_, ?_, by simp only; omega⟩
        · rcases List.mem_append.mp hc with h | h
          · exact a2 c h
          · simp at h; omega
        · simp only
          rw [stillR_snoc, ← a3, a1]; rfl
    · rw [if_neg (by omega)]
      refine ⟨by simp [a1], fun c hc => ?_, ?_, by simp only; omega⟩
      · rcases List.mem_append.mp hc with h | h
        · exact a2 c h
        · simp at h; omega
      · simp only
        rw [stillR_snoc, ← a3, a1]; rfl
theorem tfH_ok (hp : isPr p) (L : Lag p n rs) : Hd n (tfH p n rs) ∧ (stillR p rs (tfH p n rs)).length = 0 := by
  obtain ⟨a1, a2, a3, a4⟩ := tfF_ok hp L n (Nat.le_refl _)
  exact ⟨⟨a1, a2⟩, by unfold tfH; rw [← a3]; omega⟩
def toldS (p : Int) (n : Nat) (h : List Int) (v : Rw) : List Int := (List.range n).map fun j => co v (rpl h j) * sg h j % p
def tabR (p : Int) (n : Nat) (rs : List Rw) (h : List Int) : List (List Int) := (untR p n rs h).map (toldS p n h)
theorem tab_lt (hp : isPr p) (H : Hd n h) (B : Tb p n G) (vr : ∀ r ∈ rs, VR p n r) (hs : ∀ v, Spn p n (fun a => a ∈ rs) v ↔ LT p n h G v) : tabR p n rs h = G := by
  have hb := isPr_b hp
  have h0 : 0 < p := by omega
  unfold tabR
  rw [untR_lt hp H vr hs]
  unfold unsR
  rw [List.map_map, H.len]
  refine List.ext_getElem (by simp [B.len]) fun k k1 k2 => ?_
  have hk : k < n := by simpa using k1
  have r := B.rlen hk
  have g1 : G.getD k [] = G[k] := by simp [k2]
  rw [g1] at r
  simp only [List.getElem_map, List.getElem_range, Function.comp_def, toldS]
  refine List.ext_getElem (by simp [r]) fun j j1 j2 => ?_
  have hj : j < n := by simpa using j1
  simp only [List.getElem_map, List.getElem_range]
  rw [(unR_co H hj hk).2, Int.mul_comm, mulm2, ← Int.mul_assoc, H.sg2, Int.one_mul, Int.emod_eq_of_lt (B.rng k j).1 (B.rng k j).2]
  unfold gI
  rw [g1]
  simp [j2]
end
end
section
open PySem PySem.Spec L2
section
variable {T : Nat → Option FDef} {x : Nat → Nat} {k f : Nat} {S : Sto} {Q : PostE} {p : Int} {n : Nat} {rs : List Rw} {h g : List Int} {G G' : List (List Int)}
theorem told_tb (hp : isPr p) (L : Lag p n rs) : Tb p n (tabR p n rs (tfH p n rs)) ∧ ∀ v, Spn p n (fun a => a ∈ rs) v ↔ LT p n (tfH p n rs) (tabR p n rs (tfH p n rs)) v := by
  obtain ⟨Hd, st⟩ := tfH_ok hp L
  obtain ⟨G', B', hs'⟩ := L.table hp Hd st
  rw [tab_lt hp Hd B' L.vr hs']
  exact ⟨B', hs'⟩
end
end
section
open PySem PySem.Spec L2
section
variable {p : Int} {n : Nat} {rs : List Rw} {h g : List Int} {G G' : List (List Int)}
/-- the other sides -/
def oth (h : List Int) : List Int := h.map fun s => 1 - s
end
end
section
open PySem PySem.Spec L2
/-- an order of the posts -/
structure Pm (n : Nat) (σ : List Nat) : Prop where
  nd : σ.Nodup
  len : σ.length = n
  lt : ∀ k ∈ σ, k < n
theorem Pm.perm {n : Nat} {σ : List Nat} (P : Pm n σ) : (List.range n).Perm σ := by
  obtain ⟨m', e⟩ := nodup_perm (m := List.range n) P.nd fun x hx => List.mem_range.mpr (P.lt x hx)
  have l := e.length_eq
  rw [List.length_range, List.length_append, P.len] at l
  have : m' = [] := List.eq_nil_of_length_eq_zero (by omega)
  rw [this, List.append_nil] at e
  exact e
theorem Pm.at {n : Nat} {σ : List Nat} (P : Pm n σ) {j : Nat} (hj : j < n) : σ.getD j 0 < n := by
  rw [List.getD_eq_getElem?_getD, List.getElem?_eq_getElem (by rw [P.len]; exact hj), Option.getD_some]
  exact P.lt _ (List.getElem_mem _)
theorem Pm.inj {n : Nat} {σ : List Nat} (P : Pm n σ) {a b : Nat} (ha : a < n) (hb : b < n) (e : σ.getD a 0 = σ.getD b 0) : a = b := by
  have la : a < σ.length := by rw [P.len]; exact ha
  have lb : b < σ.length := by rw [P.len]; exact hb
  rw [List.getD_eq_getElem?_getD (i := a), List.getElem?_eq_getElem la, Option.getD_some, List.getD_eq_getElem?_getD (i := b), List.getElem?_eq_getElem lb, Option.getD_some] at e
  exact (List.getElem_inj P.nd).mp e
end
section
open PySem PySem.Spec L2
section
variable {T : Nat → Option FDef} {x : Nat → Nat} {k f : Nat} {S : Sto} {Q : PostE} {p c : Int} {n m : Nat} {rs : List Rw} {h g : List Int} {G G' : List (List Int)}
theorem lot_same {h' : List Int} (hp : isPr p) (H : Hd n h) (H' : Hd n h') (e : ∀ v, LT p n h G v ↔ LT p n h' G' v) : lotR p h G = lotR p h' G' := by
  have hb := isPr_b hp
  have v1 := unsR_vr (G := G) hb.1 H
  have v2 := unsR_vr (G := G') hb.1 H'
  show plainR p (unsR p h G) = plainR p (unsR p h' G')
  exact plainR_congr hp v1 v2 fun v => by rw [spn_units hb.1 H, spn_units hb.1 H', e]
end
end
section
open PySem PySem.Spec L2
section
variable {p : Int} {n : Nat} {rs : List Rw} {h g : List Int} {G G' : List (List Int)}
/-- nothing leads out of these posts -/
def Cld (n : Nat) (G : List (List Int)) (A : Nat → Prop) : Prop := ∀ k j, k < n → j < n → A k → gI G k j ≠ 0 → A j
/-- the least such posts about a post -/
def Grp (n : Nat) (G : List (List Int)) (a b : Nat) : Prop := b < n ∧ ∀ A : List Nat, Cld n G (· ∈ A) → a ∈ A → b ∈ A
theorem Grp.self {a : Nat} (ha : a < n) : Grp n G a a := ⟨ha, fun _ _ h => h⟩
theorem Grp.trans {a b c : Nat} (h1 : Grp n G a b) (h2 : Grp n G b c) : Grp n G a c := ⟨h2.1, fun A cl ha => h2.2 A cl (h1.2 A cl ha)⟩
theorem Grp.symm (B : Tb p n G) {a b : Nat} (ha : a < n) (h1 : Grp n G a b) : Grp n G b a := by
  refine ⟨ha, fun A cl hb => Classical.byContradiction fun no => ?_⟩
  have cl' : Cld n G (· ∈ (List.range n).filter fun i => decide (i ∉ A)) := fun k j hk hj kA ne => by
    have k1 : k ∉ A := by simpa using (List.mem_filter.mp kA).2
    refine List.mem_filter.mpr ⟨List.mem_range.mpr hj, ?_⟩
    have j1 : j ∉ A := fun jA => k1 (cl j k hj hk jA (by rw [B.sym j k]; exact ne))
    simpa using j1
  have := h1.2 _ cl' (List.mem_filter.mpr ⟨List.mem_range.mpr ha, by simpa using no⟩)
  have := (List.mem_filter.mp this).2
  simp only [decide_eq_true_eq] at this
  exact this hb
theorem Grp.one (a k j : Nat) (hk : k < n) (hj : j < n) (h1 : Grp n G a k) (ne : gI G k j ≠ 0) : Grp n G a j := ⟨hj, fun A cl ha => cl k j hk hj (h1.2 A cl ha) ne⟩
end
end
section
open PySem PySem.Spec L2
section
variable {T : Nat → Option FDef} {x : Nat → Nat} {k f : Nat} {S : Sto} {Q : PostE} {p c : Int} {n m : Nat} {rs : List Rw} {h g : List Int} {G G' : List (List Int)}
theorem Ext.del {S' : Sto} {l : Addr} (e : Ext S S') (hl : S.m l = none) : Ext S (S'.del l) := ⟨e.dk, fun b o z => by
  by_cases c : b = l
  · subst c; rw [hl] at z; cases z
  · show (if b = l then none else S'.m b) = some o
    rw [if_neg c]
    exact e.m b o z⟩
theorem app_gen {l : Addr} {xs : List D} {d : D} (h : S.m l = some (.lst xs)) : mApp.sem [.loc l, d] S Q = (xs.length < sizeLine ∧ Q .non (S.put l (.lst (xs ++ [d])))) := by
  refine propext ⟨fun ⟨b, e, zs, q, h1, h2, h3⟩ => ?_, fun h' => ⟨l, d, xs, rfl, h, h'.1, h'.2⟩⟩
  cases q
  rw [h] at h1
  cases h1
  exact ⟨h2, h3⟩
end
end
section
open PySem PySem.Spec L2
def keyD : D → Option Key
  | .int i => some (.inl i)
  | .str x => some (.inr x)
  | _ => none
def dicS (S : Sto) : D → Option (List Key × List D)
  | .dic ks ds => some (ks, ds)
  | .loc a => match S.m a with
    | some (.dK ks ds) => some (ks, ds)
    | _ => none
  | _ => none
def getDic (ks : List Key) (ds : List D) (k : Key) : Option D := ((ks.zip ds).find? fun q => decide (q.1 = k)).map (·.2)
theorem dic_of {K : PySem.W.Frag} {pv : List Addr} {S : Sto} {Hd H : Hp} {M : Nat} {d : D} {x : V} {ks : List Key} {ds : List D} (sr : SR K pv S Hd H M) (r : Rep K Hd d x) (h : dicS S d = some (ks, ds)) :
    ∃ a vs, x = .ref a ∧ H a = some (.dK vs) ∧ vs.map (·.1) = ks ∧ RepL K Hd ds (vs.map (·.2)) := by
  cases d with
  | dic ks' ds' =>
    simp only [dicS, Option.some.injEq, Prod.mk.injEq] at h
    obtain ⟨rfl, rfl⟩ := h
    simp only [Rep] at r
    obtain ⟨a, vs, rfl, e, k, rl⟩ := r
    exact ⟨a, vs, rfl, sr.sub _ _ e, k, rl⟩
  | loc a =>
    simp only [dicS] at h
    simp only [Rep] at r
    subst r
    split at h
    · rename_i ks' ds' e
      simp only [Option.some.injEq, Prod.mk.injEq] at h
      obtain ⟨rfl, rfl⟩ := h
      obtain ⟨_, ho, e2, vs, rfl, k, rl⟩ := sr.sto _ _ e
      exact ⟨a, vs, rfl, e2, k, rl⟩
    · cases h
  | _ => simp [dicS] at h
theorem getDic_of {K : PySem.W.Frag} {H : Hp} {k : Key} : ∀ {vs : List (Key × V)} {ds : List D}, RepL K H ds (vs.map (·.2)) → (getDic (vs.map (·.1)) ds k = none ∧ valV vs k = none) ∨ ∃ d v, getDic (vs.map (·.1)) ds k = some d ∧ valV vs k = some v ∧ Rep K H d v
  | [], ds, r => by
    have : ds = [] := by
      cases ds with
      | nil => rfl
      | cons d ds => simp [RepL] at r
    subst this
    exact .inl ⟨rfl, rfl⟩
  | q :: vs, ds, r => by
    cases ds with
    | nil => simp [RepL] at r
    | cons d ds =>
      simp only [List.map_cons, RepL] at r
      obtain ⟨v, w, e, rd, rl⟩ := r
      simp only [List.cons.injEq] at e
      obtain ⟨rfl, rfl⟩ := e
      by_cases h : q.1 = k
      · refine .inr ⟨d, q.2, ?_, valV_pos h, rd⟩
        simp [getDic, h]
      · have g : getDic ((q :: vs).map (·.1)) (d :: ds) k = getDic (vs.map (·.1)) ds k := by simp [getDic, h]
        rw [g, valV_neg h]
        exact getDic_of rl
def mGet2 : MNode := mB "get" 2 "dict" "dict.get" PySem.F.plainAttrs_dict PySem.F.slot_dict_get PySem.F.type_dict_get (fun d S => ∃ q, dicS S d = some q)
  (fun ds S Q => ∃ d k z ks es key, ds = [d, k, z] ∧ dicS S d = some (ks, es) ∧ keyD k = some key ∧ Q ((getDic ks es key).getD z) S)
  (fun _ _ _ _ _ _ d x sr r h => by
    obtain ⟨⟨ks, ds⟩, h⟩ := h
    obtain ⟨a, vs, rfl, e, _, _⟩ := dic_of sr r h
    exact .inr (.inr (.inl ⟨rfl, .inl ⟨vs, e⟩⟩))) fun X A pins s σ H x xs v us Q I rx rxs q => by
    obtain ⟨pv, ds, S, Hd, M, Qd, rl, sr, hc, w, fin⟩ := q
    obtain ⟨d, k, z, ks, es, key, rfl, hd, hk, w⟩ := w
    obtain ⟨x', y, zv, e, r1, r2, r3⟩ := rl.three
    cases e
    obtain ⟨a, vs, rfl, eh, rfl, rl'⟩ := dic_of sr r1 hd
    have ey : y = kV key := by
      cases k with
      | int i => simp only [keyD, Option.some.injEq] at hk; subst hk; simp only [Rep] at r2; exact r2
      | str i => simp only [keyD, Option.some.injEq] at hk; subst hk; simp only [Rep] at r2; exact r2
      | _ => simp [keyD] at hk
    subst ey
    have hz : Rep X.K Hd ((getDic (vs.map (·.1)) es key).getD z) ((valV vs key).getD zv) := by
      rcases getDic_of (k := key) rl' with ⟨e1, e2⟩ | ⟨d', v', e1, e2, rd⟩
      · rw [e1, e2]; exact r3
      · rw [e1, e2]; exact rd
    cases rx
    cases rxs with
    | cons ry rxs =>
      cases rxs with
      | cons rz rxs =>
        cases rxs
        exact d_get2 (show X.A.units + 1 < cLine by have := A.un; omega) I (DGet.k eh) ry rz fun w' s' I' rw' => ⟨_, H, I', rw', fin _ S Hd H _ (.refl ..) (by simpa using sr) hz w⟩
section
variable {S : Sto} {Q : PostE} {ks : List Key} {ds : List D} {i : Int} {z : D}
theorem get_chk : mGet2.chk (.dic ks ds) S = True := eq_true ⟨_, rfl⟩
theorem get_sem : mGet2.sem [.dic ks ds, .int i, z] S Q = Q ((getDic ks ds (.inl i)).getD z) S :=
  propext ⟨fun ⟨_, _, _, _, _, _, e, h1, h2, q⟩ => by
    cases e
    simp only [dicS, Option.some.injEq, Prod.mk.injEq] at h1
    simp only [keyD, Option.some.injEq] at h2
    obtain ⟨rfl, rfl⟩ := h1
    subst h2
    exact q, fun q => ⟨_, _, _, _, _, _, rfl, rfl, rfl, q⟩⟩
end
end
section
open PySem PySem.Spec L2
inductive Tie where
  | join (a b : Nat) | still (a : Nat) | free (a : Nat)
deriving DecidableEq
def Tie.ps : Tie → List Nat
  | .join a b => [a, b]
  | .still a => [a]
  | .free a => [a]
structure TOk (n : Nat) (t : Tie) : Prop where
  lt : ∀ j ∈ t.ps, j < n
  nd : t.ps.Nodup
section
variable {p : Int} {n m : Nat} {rs ss : List Rw} {t s : Tie}
structure TsOk (n : Nat) (ts : List Tie) : Prop where
  lt : ∀ t ∈ ts, ∀ j ∈ t.ps, j < n
  nd : (ts.flatMap Tie.ps).Nodup
variable {ts : List Tie}
theorem nd_of : ∀ {ts : List Tie}, (ts.flatMap Tie.ps).Nodup → ∀ t ∈ ts, t.ps.Nodup
  | [], _, _, h => by simp at h
  | a :: ts, nd, t, h => by
    rw [List.flatMap_cons, List.nodup_append] at nd
    rcases List.mem_cons.mp h with rfl | h
    · exact nd.1
    · exact nd_of nd.2.1 t h
theorem TsOk.one (O : TsOk n ts) (h : t ∈ ts) : TOk n t := ⟨O.lt t h, nd_of O.nd t h⟩
end
end
section
open PySem PySem.Spec L2
theorem dsp_one {i : Int} {d : D} {S : Sto} {Q : D → Sto → Prop} : dspQ [.int i, d] S Q = Q (.dic [.inl i] [d]) S := by
  refine propext ⟨fun ⟨kvs, h, _, _, q⟩ => ?_, fun q => ⟨[(.inl i, d)], rfl, by simp, by simp, q⟩⟩
  simp only [dspD, Option.map_some, Option.some.injEq] at h
  subst h
  exact q
theorem dsp_two {i j : Int} {d e : D} {S : Sto} {Q : D → Sto → Prop} (hij : i ≠ j) : dspQ [.int i, d, .int j, e] S Q = Q (.dic [.inl i, .inl j] [d, e]) S := by
  refine propext ⟨fun ⟨kvs, h, _, _, q⟩ => ?_, fun q => ⟨[(.inl i, d), (.inl j, e)], rfl, by simp [hij], by simp, q⟩⟩
  simp only [dspD, Option.map_some, Option.some.injEq] at h
  subst h
  exact q
end
open PySem PySem.Spec L2
local macro_rules
  | `(tactic| simp_arith! [$ls,*]) => `(tactic| simp (maxSteps := 1000000) (disch := first | omega | assumption | (simp only [Sto.put_dk, Sto.del_dk]; assumption) | (simp only [List.length_map, List.length_append, List.length_cons, List.length_nil, List.length_zip, List.length_range, List.length_set, List.length_replicate, List.length_take, List.length_drop]; omega)) only [wipeE, List.map_cons, List.map_nil, wSs, wS, wE, wEs, wAnd, wOr, wT, wAndT, wOrT, wTs, eI, Bool.false_eq_true, Bool.not_true, Bool.not_false, if_true, if_false, decide_true, decide_false, true_and, and_true, and_self, and_self_left, exists_const, exists_and_left, D.loc.injEq, O.lst.injEq, set_mapE, ixN_ok, Sto.put_same, put_del, put_put, const_eq, ite_self, tr_bl, tr_int, tr_tup, tr_lst, List.getElem?_cons_zero, List.getElem?_cons_succ,
    Option.some.injEq, exists_eq_left', exists_eq_left, D.bl.injEq, D.int.injEq, D.str.injEq, List.set_cons_zero, List.set_cons_succ, List.length_cons, List.length_nil, List.length_map, List.length_zip, List.length_range, List.length_range', List.replicate_succ, List.replicate_zero, List.cons_append, List.nil_append, List.append_nil, Nat.reduceAdd, Nat.reduceSub, Nat.add_one_sub_one, Nat.sub_self, Nat.zero_add, Nat.add_zero, decide_eq_true_eq,
    sem_tyInt, sem_tyBool, sem_tyTuple, sem_tyList, sem_tyStr, sem_tyDict, sem_int, sem_str, sem_bl, sem_non, sem_dic0, sem_isi, sem_sub, sem_mod, sem_fdiv, sem_neg, sem_add, sem_addT, sem_addL, sem_mul, sem_ix, sem_len, sem_tuple, sem_lst, sem_tup, sem_lstO, sem_intI, sem_intB, sem_listL, sem_listO, sem_lzip, sem_allM, sem_anyM, sem_sumM,
    cs_lt, cs_le, cs_gt, cs_ge, cs_eqI, cs_eqB, cs_eqS, cs_neI, cs_neB, cs_neS, cs_isB, cs_isNotB, cs_eqT0, cs_neT0, cs_isN, cs_isNN, cs_isIN, cs_isTN, cs_isLN, cs_notNN, cs_notIN, cs_notTN, cs_notLN,
    seqS_tup, seqS_lst, lstS_lst, lenS_tup, lenS_lst, stay_tup, stay_lst, sle, mul_ok1, mul_ok2, div_ok, newL_f, bind_nm, bind_tup, bind_unl, binds_nil, binds_cons, it_seqE, it_enumE, it_zipE, it_zip0T, it_zip0L, it_zip3E, it_rg1E, it_rg2E, isTup_tup, isTup_lst, seq_rowD, seq_tupI, seq_lstI, seq_rwsL, seq_rwsT, seq_lstE, seq_tupE, seq_prD, lst_lstI, lst_rwsL, lst_lstE, len_rowD, len_tupI, len_lstI, len_rwsL, len_rwsT, len_lstE, len_tupE, stay_rowD, stay_tupI, stay_lstI, stay_rwsL, stay_rwsT, stay_lstE, stay_tupE, stay_prD, ty_rowD, ty_tupI, ty_rwsT, ty_tupE, ty_lstI, ty_rwsL, ty_lstE, ty_prD, bind_prD, row_fold, row_fold1, row_fold2, pr_fold, tupI_fold, tupI_fold2, lstI_fold, lstI_fold2, rwsL_fold, rwsL_fold2, rwsT_fold, rwsT_fold2, sem_sumI, it_zipRR, it_zipTT, zipD_map, zip3D_map, enumD_map, rgD_nat, rgD_two, at0, at1, at2, atI_map,
    get_chk, get_sem, dsp_one, dsp_two, fld_prime, fld_count, fld_lot, isI_thing, isiD_thing, isiD_int, xchk_om, xchk_eq, xchk_ne, xchk_len, xchk_str, xend_om, xend_eq2, xend_ne2, xend_len1, xend_str1, xpost_om, xpost_eqb, xpost_neb, xpost_leni, xpost_strs, xpostT_om, xpostT_eqb, xpostT_neb, it_enumM, lcRun_map, lcRun2_map, lcT_pure, lcT_filter, lcT_filterP, mem_int, mem_bool, mem_str, mem_tuple, mem_list, ty_int, ty_tup, ty_lst, ty_bl, ty_str, ty_non, isT_ii, isT_ib, isT_tt, isT_ss, isT_bb, isT_ll, startE_eq, $ls,*])
  | `(tactic| simp_arith! [$ls,*] at $h:ident) => `(tactic| simp (maxSteps := 1000000) (disch := first | omega | assumption | (simp only [Sto.put_dk, Sto.del_dk]; assumption) | (simp only [List.length_map, List.length_append, List.length_cons, List.length_nil, List.length_zip, List.length_range, List.length_set, List.length_replicate, List.length_take, List.length_drop]; omega)) only [wipeE, List.map_cons, List.map_nil, wSs, wS, wE, wEs, wAnd, wOr, wT, wAndT, wOrT, wTs, eI, Bool.false_eq_true, Bool.not_true, Bool.not_false, if_true, if_false, decide_true, decide_false, true_and, and_true, and_self, and_self_left, exists_const, exists_and_left, D.loc.injEq, O.lst.injEq, set_mapE, ixN_ok, Sto.put_same, put_del, put_put, const_eq, ite_self, tr_bl, tr_int, tr_tup, tr_lst, List.getElem?_cons_zero, List.getElem?_cons_succ,
    Option.some.injEq, exists_eq_left', exists_eq_left, D.bl.injEq, D.int.injEq, D.str.injEq, List.set_cons_zero, List.set_cons_succ, List.length_cons, List.length_nil, List.length_map, List.length_zip, List.length_range, List.length_range', List.replicate_succ, List.replicate_zero, List.cons_append, List.nil_append, List.append_nil, Nat.reduceAdd, Nat.reduceSub, Nat.add_one_sub_one, Nat.sub_self, Nat.zero_add, Nat.add_zero, decide_eq_true_eq,
    sem_tyInt, sem_tyBool, sem_tyTuple, sem_tyList, sem_tyStr, sem_tyDict, sem_int, sem_str, sem_bl, sem_non, sem_dic0, sem_isi, sem_sub, sem_mod, sem_fdiv, sem_neg, sem_add, sem_addT, sem_addL, sem_mul, sem_ix, sem_len, sem_tuple, sem_lst, sem_tup, sem_lstO, sem_intI, sem_intB, sem_listL, sem_listO, sem_lzip, sem_allM, sem_anyM, sem_sumM,
    cs_lt, cs_le, cs_gt, cs_ge, cs_eqI, cs_eqB, cs_eqS, cs_neI, cs_neB, cs_neS, cs_isB, cs_isNotB, cs_eqT0, cs_neT0, cs_isN, cs_isNN, cs_isIN, cs_isTN, cs_isLN, cs_notNN, cs_notIN, cs_notTN, cs_notLN,
    seqS_tup, seqS_lst, lstS_lst, lenS_tup, lenS_lst, stay_tup, stay_lst, sle, mul_ok1, mul_ok2, div_ok, newL_f, bind_nm, bind_tup, bind_unl, binds_nil, binds_cons, it_seqE, it_enumE, it_zipE, it_zip0T, it_zip0L, it_zip3E, it_rg1E, it_rg2E, isTup_tup, isTup_lst, seq_rowD, seq_tupI, seq_lstI, seq_rwsL, seq_rwsT, seq_lstE, seq_tupE, seq_prD, lst_lstI, lst_rwsL, lst_lstE, len_rowD, len_tupI, len_lstI, len_rwsL, len_rwsT, len_lstE, len_tupE, stay_rowD, stay_tupI, stay_lstI, stay_rwsL, stay_rwsT, stay_lstE, stay_tupE, stay_prD, ty_rowD, ty_tupI, ty_rwsT, ty_tupE, ty_lstI, ty_rwsL, ty_lstE, ty_prD, bind_prD, row_fold, row_fold1, row_fold2, pr_fold, tupI_fold, tupI_fold2, lstI_fold, lstI_fold2, rwsL_fold, rwsL_fold2, rwsT_fold, rwsT_fold2, sem_sumI, it_zipRR, it_zipTT, zipD_map, zip3D_map, enumD_map, rgD_nat, rgD_two, at0, at1, at2, atI_map,
    get_chk, get_sem, dsp_one, dsp_two, fld_prime, fld_count, fld_lot, isI_thing, isiD_thing, isiD_int, xchk_om, xchk_eq, xchk_ne, xchk_len, xchk_str, xend_om, xend_eq2, xend_ne2, xend_len1, xend_str1, xpost_om, xpost_eqb, xpost_neb, xpost_leni, xpost_strs, xpostT_om, xpostT_eqb, xpostT_neb, it_enumM, lcRun_map, lcRun2_map, lcT_pure, lcT_filter, lcT_filterP, mem_int, mem_bool, mem_str, mem_tuple, mem_list, ty_int, ty_tup, ty_lst, ty_bl, ty_str, ty_non, isT_ii, isT_ib, isT_tt, isT_ss, isT_bb, isT_ll, startE_eq, $ls,*] at $h:ident)
section
open PySem PySem.Spec L2
section
variable {T : Nat → Option FDef} {x : Nat → Nat} {k f : Nat} {S : Sto} {Q : PostE} {p : Int} {n : Nat} {rs : List Rw} {t : Tie}
theorem free_ok {j : Nat} (hj : j < n) : TOk n (.free j) := ⟨by simpa [Tie.ps] using hj, by simp [Tie.ps]⟩
end
end
section
open PySem PySem.Spec L2
section
variable {T : Nat → Option FDef} {x : Nat → Nat} {k f : Nat} {S : Sto} {Q : PostE} {p : Int} {n m : Nat} {rs : List Rw} {A : List (Nat × Rw)}
theorem none_iff {s : List Rw} {r : Rw} : (s.filter fun a => decide (meetI a r % p ≠ 0)).isEmpty = decide (∀ a ∈ s, meetI a r % p = 0) := by
  rw [Bool.eq_iff_iff, List.isEmpty_iff, List.filter_eq_nil_iff]
  simp
end
end
section
open PySem PySem.Spec L2
/-- a thing's rows, and what it lets be -/
structure Th (p : Int) (n : Nat) (rs : List Rw) (R : Rw → Prop) : Prop where
  ex : ∃ h G, Hd n h ∧ Tb p n G ∧ rs = lotR p h G ∧ ∀ v, LT p n h G v ↔ R v
section
variable {p : Int} {n m : Nat} {rs rs' ss : List Rw} {R R' : Rw → Prop} {h : List Int} {G : List (List Int)} {t : Tie} {ts : List Tie}
theorem Th.lag (hp : isPr p) (T : Th p n rs R) : Lag p n rs := by
  obtain ⟨h, G, H, B, rfl, e⟩ := T.ex
  exact lot_lag hp H B
theorem Th.vr (T : Th p n rs R) {v : Rw} (r : R v) : VR p n v := by
  obtain ⟨h, G, H, B, rfl, e⟩ := T.ex
  exact ((e v).mpr r).1
theorem Th.sp (hp : isPr p) (T : Th p n rs R) {v : Rw} : Spn p n (fun a => a ∈ rs) v ↔ R v := by
  obtain ⟨h, G, H, B, rfl, e⟩ := T.ex
  rw [(lot_ok hp H).2.2, e]
theorem Th.eq (hp : isPr p) (T : Th p n rs R) (T' : Th p n rs' R') (e : ∀ v, R v ↔ R' v) : rs = rs' := by
  obtain ⟨h, G, H, B, rfl, e1⟩ := T.ex
  obtain ⟨h', G', H', B', rfl, e2⟩ := T'.ex
  exact lot_same hp H H' fun v => (e1 v).trans ((e v).trans (e2 v).symm)
theorem Th.of (hp : isPr p) (L : Lag p n (plainR p ss)) (vs : ∀ r ∈ ss, VR p n r) (e : ∀ v, Spn p n (fun a => a ∈ ss) v ↔ R v) : Th p n (plainR p ss) R := by
  have hb := isPr_b hp
  obtain ⟨B, s⟩ := told_tb hp L
  have H := (tfH_ok hp L).1
  generalize tabR p n (plainR p ss) (tfH p n (plainR p ss)) = G at B s
  generalize tfH p n (plainR p ss) = h at H s
  refine ⟨h, G, H, B, ?_, fun v => (s v).symm.trans ((plainR_spn hp vs).trans (e v))⟩
  refine plainR_congr hp vs (unsR_vr hb.1 H) fun v => ?_
  rw [spn_units hb.1 H, ← s, plainR_spn hp vs]
theorem Th.add (hp : isPr p) (T : Th p n rs R) {u v : Rw} (hu : R u) (hv : R v) : R (addR p u v) := by
  have hb := isPr_b hp
  exact (T.sp hp).mp (((T.sp hp).mpr hu).add (by omega) (T.lag hp).vr ((T.sp hp).mpr hv))
theorem Th.mul (hp : isPr p) (T : Th p n rs R) {u : Rw} {c : Int} (hu : R u) : R (mulR p c u) := by
  have hb := isPr_b hp
  exact (T.sp hp).mp (((T.sp hp).mpr hu).mul (by omega) (T.lag hp).vr)
def Tie.mp (A : List Nat) : Tie → Tie
  | .join a b => .join (A.getD a 0) (A.getD b 0)
  | .still a => .still (A.getD a 0)
  | .free a => .free (A.getD a 0)
end
end
section
open PySem PySem.Spec L2
section
variable {C : Nat → List D → Sto → PostE → Prop} {ρ : En} {S : Sto} {Q : PostE} {W : WEnds} {R : Bool → Sto → Prop}
theorem hv0 {d : D} : wE C (.var 0) (some d :: ρ) S Q = Q d S := by simp [wE]
theorem hb0 {o : Option D} {d : D} {K : En → Prop} : bindT (.nm 0) d (o :: ρ) K = K (some d :: ρ) := rfl
theorem hl0 {o : Option D} {e : RE} : wS C (.asgL 0 e) W (o :: ρ) S = wE C e (o :: ρ) S fun d S' => W.nx (some d :: ρ) S' := by simp [wS]
theorem ht0 {d : D} : wT C (.var 0) (some d :: ρ) S R = ∃ b, truth S d = some b ∧ R b S := by simp [wT]
theorem hv1 {o0 : Option D} {d : D} : wE C (.var 1) (o0 :: some d :: ρ) S Q = Q d S := by simp [wE]
theorem hb1 {o0 : Option D} {o : Option D} {d : D} {K : En → Prop} : bindT (.nm 1) d (o0 :: o :: ρ) K = K (o0 :: some d :: ρ) := rfl
theorem hl1 {o0 : Option D} {o : Option D} {e : RE} : wS C (.asgL 1 e) W (o0 :: o :: ρ) S = wE C e (o0 :: o :: ρ) S fun d S' => W.nx (o0 :: some d :: ρ) S' := by simp [wS]
theorem ht1 {o0 : Option D} {d : D} : wT C (.var 1) (o0 :: some d :: ρ) S R = ∃ b, truth S d = some b ∧ R b S := by simp [wT]
theorem hv2 {o0 o1 : Option D} {d : D} : wE C (.var 2) (o0 :: o1 :: some d :: ρ) S Q = Q d S := by simp [wE]
theorem hb2 {o0 o1 : Option D} {o : Option D} {d : D} {K : En → Prop} : bindT (.nm 2) d (o0 :: o1 :: o :: ρ) K = K (o0 :: o1 :: some d :: ρ) := rfl
theorem hl2 {o0 o1 : Option D} {o : Option D} {e : RE} : wS C (.asgL 2 e) W (o0 :: o1 :: o :: ρ) S = wE C e (o0 :: o1 :: o :: ρ) S fun d S' => W.nx (o0 :: o1 :: some d :: ρ) S' := by simp [wS]
theorem ht2 {o0 o1 : Option D} {d : D} : wT C (.var 2) (o0 :: o1 :: some d :: ρ) S R = ∃ b, truth S d = some b ∧ R b S := by simp [wT]
theorem hv3 {o0 o1 o2 : Option D} {d : D} : wE C (.var 3) (o0 :: o1 :: o2 :: some d :: ρ) S Q = Q d S := by simp [wE]
theorem hb3 {o0 o1 o2 : Option D} {o : Option D} {d : D} {K : En → Prop} : bindT (.nm 3) d (o0 :: o1 :: o2 :: o :: ρ) K = K (o0 :: o1 :: o2 :: some d :: ρ) := rfl
theorem hl3 {o0 o1 o2 : Option D} {o : Option D} {e : RE} : wS C (.asgL 3 e) W (o0 :: o1 :: o2 :: o :: ρ) S = wE C e (o0 :: o1 :: o2 :: o :: ρ) S fun d S' => W.nx (o0 :: o1 :: o2 :: some d :: ρ) S' := by simp [wS]
theorem ht3 {o0 o1 o2 : Option D} {d : D} : wT C (.var 3) (o0 :: o1 :: o2 :: some d :: ρ) S R = ∃ b, truth S d = some b ∧ R b S := by simp [wT]
theorem hv4 {o0 o1 o2 o3 : Option D} {d : D} : wE C (.var 4) (o0 :: o1 :: o2 :: o3 :: some d :: ρ) S Q = Q d S := by simp [wE]
theorem hb4 {o0 o1 o2 o3 : Option D} {o : Option D} {d : D} {K : En → Prop} : bindT (.nm 4) d (o0 :: o1 :: o2 :: o3 :: o :: ρ) K = K (o0 :: o1 :: o2 :: o3 :: some d :: ρ) := rfl
theorem hl4 {o0 o1 o2 o3 : Option D} {o : Option D} {e : RE} : wS C (.asgL 4 e) W (o0 :: o1 :: o2 :: o3 :: o :: ρ) S = wE C e (o0 :: o1 :: o2 :: o3 :: o :: ρ) S fun d S' => W.nx (o0 :: o1 :: o2 :: o3 :: some d :: ρ) S' := by simp [wS]
theorem ht4 {o0 o1 o2 o3 : Option D} {d : D} : wT C (.var 4) (o0 :: o1 :: o2 :: o3 :: some d :: ρ) S R = ∃ b, truth S d = some b ∧ R b S := by simp [wT]
theorem hv5 {o0 o1 o2 o3 o4 : Option D} {d : D} : wE C (.var 5) (o0 :: o1 :: o2 :: o3 :: o4 :: some d :: ρ) S Q = Q d S := by simp [wE]
theorem hb5 {o0 o1 o2 o3 o4 : Option D} {o : Option D} {d : D} {K : En → Prop} : bindT (.nm 5) d (o0 :: o1 :: o2 :: o3 :: o4 :: o :: ρ) K = K (o0 :: o1 :: o2 :: o3 :: o4 :: some d :: ρ) := rfl
theorem hl5 {o0 o1 o2 o3 o4 : Option D} {o : Option D} {e : RE} : wS C (.asgL 5 e) W (o0 :: o1 :: o2 :: o3 :: o4 :: o :: ρ) S = wE C e (o0 :: o1 :: o2 :: o3 :: o4 :: o :: ρ) S fun d S' => W.nx (o0 :: o1 :: o2 :: o3 :: o4 :: some d :: ρ) S' := by simp [wS]
theorem ht5 {o0 o1 o2 o3 o4 : Option D} {d : D} : wT C (.var 5) (o0 :: o1 :: o2 :: o3 :: o4 :: some d :: ρ) S R = ∃ b, truth S d = some b ∧ R b S := by simp [wT]
theorem hv6 {o0 o1 o2 o3 o4 o5 : Option D} {d : D} : wE C (.var 6) (o0 :: o1 :: o2 :: o3 :: o4 :: o5 :: some d :: ρ) S Q = Q d S := by simp [wE]
theorem hb6 {o0 o1 o2 o3 o4 o5 : Option D} {o : Option D} {d : D} {K : En → Prop} : bindT (.nm 6) d (o0 :: o1 :: o2 :: o3 :: o4 :: o5 :: o :: ρ) K = K (o0 :: o1 :: o2 :: o3 :: o4 :: o5 :: some d :: ρ) := rfl
theorem hl6 {o0 o1 o2 o3 o4 o5 : Option D} {o : Option D} {e : RE} : wS C (.asgL 6 e) W (o0 :: o1 :: o2 :: o3 :: o4 :: o5 :: o :: ρ) S = wE C e (o0 :: o1 :: o2 :: o3 :: o4 :: o5 :: o :: ρ) S fun d S' => W.nx (o0 :: o1 :: o2 :: o3 :: o4 :: o5 :: some d :: ρ) S' := by simp [wS]
theorem ht6 {o0 o1 o2 o3 o4 o5 : Option D} {d : D} : wT C (.var 6) (o0 :: o1 :: o2 :: o3 :: o4 :: o5 :: some d :: ρ) S R = ∃ b, truth S d = some b ∧ R b S := by simp [wT]
theorem hv7 {o0 o1 o2 o3 o4 o5 o6 : Option D} {d : D} : wE C (.var 7) (o0 :: o1 :: o2 :: o3 :: o4 :: o5 :: o6 :: some d :: ρ) S Q = Q d S := by simp [wE]
theorem hb7 {o0 o1 o2 o3 o4 o5 o6 : Option D} {o : Option D} {d : D} {K : En → Prop} : bindT (.nm 7) d (o0 :: o1 :: o2 :: o3 :: o4 :: o5 :: o6 :: o :: ρ) K = K (o0 :: o1 :: o2 :: o3 :: o4 :: o5 :: o6 :: some d :: ρ) := rfl
theorem hl7 {o0 o1 o2 o3 o4 o5 o6 : Option D} {o : Option D} {e : RE} : wS C (.asgL 7 e) W (o0 :: o1 :: o2 :: o3 :: o4 :: o5 :: o6 :: o :: ρ) S = wE C e (o0 :: o1 :: o2 :: o3 :: o4 :: o5 :: o6 :: o :: ρ) S fun d S' => W.nx (o0 :: o1 :: o2 :: o3 :: o4 :: o5 :: o6 :: some d :: ρ) S' := by simp [wS]
theorem ht7 {o0 o1 o2 o3 o4 o5 o6 : Option D} {d : D} : wT C (.var 7) (o0 :: o1 :: o2 :: o3 :: o4 :: o5 :: o6 :: some d :: ρ) S R = ∃ b, truth S d = some b ∧ R b S := by simp [wT]
theorem hv8 {o0 o1 o2 o3 o4 o5 o6 o7 : Option D} {d : D} : wE C (.var 8) (o0 :: o1 :: o2 :: o3 :: o4 :: o5 :: o6 :: o7 :: some d :: ρ) S Q = Q d S := by simp [wE]
theorem hb8 {o0 o1 o2 o3 o4 o5 o6 o7 : Option D} {o : Option D} {d : D} {K : En → Prop} : bindT (.nm 8) d (o0 :: o1 :: o2 :: o3 :: o4 :: o5 :: o6 :: o7 :: o :: ρ) K = K (o0 :: o1 :: o2 :: o3 :: o4 :: o5 :: o6 :: o7 :: some d :: ρ) := rfl
theorem hl8 {o0 o1 o2 o3 o4 o5 o6 o7 : Option D} {o : Option D} {e : RE} : wS C (.asgL 8 e) W (o0 :: o1 :: o2 :: o3 :: o4 :: o5 :: o6 :: o7 :: o :: ρ) S = wE C e (o0 :: o1 :: o2 :: o3 :: o4 :: o5 :: o6 :: o7 :: o :: ρ) S fun d S' => W.nx (o0 :: o1 :: o2 :: o3 :: o4 :: o5 :: o6 :: o7 :: some d :: ρ) S' := by simp [wS]
theorem ht8 {o0 o1 o2 o3 o4 o5 o6 o7 : Option D} {d : D} : wT C (.var 8) (o0 :: o1 :: o2 :: o3 :: o4 :: o5 :: o6 :: o7 :: some d :: ρ) S R = ∃ b, truth S d = some b ∧ R b S := by simp [wT]
theorem hv9 {o0 o1 o2 o3 o4 o5 o6 o7 o8 : Option D} {d : D} : wE C (.var 9) (o0 :: o1 :: o2 :: o3 :: o4 :: o5 :: o6 :: o7 :: o8 :: some d :: ρ) S Q = Q d S := by simp [wE]
theorem hb9 {o0 o1 o2 o3 o4 o5 o6 o7 o8 : Option D} {o : Option D} {d : D} {K : En → Prop} : bindT (.nm 9) d (o0 :: o1 :: o2 :: o3 :: o4 :: o5 :: o6 :: o7 :: o8 :: o :: ρ) K = K (o0 :: o1 :: o2 :: o3 :: o4 :: o5 :: o6 :: o7 :: o8 :: some d :: ρ) := rfl
theorem hl9 {o0 o1 o2 o3 o4 o5 o6 o7 o8 : Option D} {o : Option D} {e : RE} : wS C (.asgL 9 e) W (o0 :: o1 :: o2 :: o3 :: o4 :: o5 :: o6 :: o7 :: o8 :: o :: ρ) S = wE C e (o0 :: o1 :: o2 :: o3 :: o4 :: o5 :: o6 :: o7 :: o8 :: o :: ρ) S fun d S' => W.nx (o0 :: o1 :: o2 :: o3 :: o4 :: o5 :: o6 :: o7 :: o8 :: some d :: ρ) S' := by simp [wS]
theorem ht9 {o0 o1 o2 o3 o4 o5 o6 o7 o8 : Option D} {d : D} : wT C (.var 9) (o0 :: o1 :: o2 :: o3 :: o4 :: o5 :: o6 :: o7 :: o8 :: some d :: ρ) S R = ∃ b, truth S d = some b ∧ R b S := by simp [wT]
theorem hv10 {o0 o1 o2 o3 o4 o5 o6 o7 o8 o9 : Option D} {d : D} : wE C (.var 10) (o0 :: o1 :: o2 :: o3 :: o4 :: o5 :: o6 :: o7 :: o8 :: o9 :: some d :: ρ) S Q = Q d S := by simp [wE]
theorem hb10 {o0 o1 o2 o3 o4 o5 o6 o7 o8 o9 : Option D} {o : Option D} {d : D} {K : En → Prop} : bindT (.nm 10) d (o0 :: o1 :: o2 :: o3 :: o4 :: o5 :: o6 :: o7 :: o8 :: o9 :: o :: ρ) K = K (o0 :: o1 :: o2 :: o3 :: o4 :: o5 :: o6 :: o7 :: o8 :: o9 :: some d :: ρ) := rfl
theorem hl10 {o0 o1 o2 o3 o4 o5 o6 o7 o8 o9 : Option D} {o : Option D} {e : RE} : wS C (.asgL 10 e) W (o0 :: o1 :: o2 :: o3 :: o4 :: o5 :: o6 :: o7 :: o8 :: o9 :: o :: ρ) S = wE C e (o0 :: o1 :: o2 :: o3 :: o4 :: o5 :: o6 :: o7 :: o8 :: o9 :: o :: ρ) S fun d S' => W.nx (o0 :: o1 :: o2 :: o3 :: o4 :: o5 :: o6 :: o7 :: o8 :: o9 :: some d :: ρ) S' := by simp [wS]
theorem ht10 {o0 o1 o2 o3 o4 o5 o6 o7 o8 o9 : Option D} {d : D} : wT C (.var 10) (o0 :: o1 :: o2 :: o3 :: o4 :: o5 :: o6 :: o7 :: o8 :: o9 :: some d :: ρ) S R = ∃ b, truth S d = some b ∧ R b S := by simp [wT]
theorem hv11 {o0 o1 o2 o3 o4 o5 o6 o7 o8 o9 o10 : Option D} {d : D} : wE C (.var 11) (o0 :: o1 :: o2 :: o3 :: o4 :: o5 :: o6 :: o7 :: o8 :: o9 :: o10 :: some d :: ρ) S Q = Q d S := by simp [wE]
theorem hb11 {o0 o1 o2 o3 o4 o5 o6 o7 o8 o9 o10 : Option D} {o : Option D} {d : D} {K : En → Prop} : bindT (.nm 11) d (o0 :: o1 :: o2 :: o3 :: o4 :: o5 :: o6 :: o7 :: o8 :: o9 :: o10 :: o :: ρ) K = K (o0 :: o1 :: o2 :: o3 :: o4 :: o5 :: o6 :: o7 :: o8 :: o9 :: o10 :: some d :: ρ) := rfl
theorem hl11 {o0 o1 o2 o3 o4 o5 o6 o7 o8 o9 o10 : Option D} {o : Option D} {e : RE} : wS C (.asgL 11 e) W (o0 :: o1 :: o2 :: o3 :: o4 :: o5 :: o6 :: o7 :: o8 :: o9 :: o10 :: o :: ρ) S = wE C e (o0 :: o1 :: o2 :: o3 :: o4 :: o5 :: o6 :: o7 :: o8 :: o9 :: o10 :: o :: ρ) S fun d S' => W.nx (o0 :: o1 :: o2 :: o3 :: o4 :: o5 :: o6 :: o7 :: o8 :: o9 :: o10 :: some d :: ρ) S' := by simp [wS]
theorem ht11 {o0 o1 o2 o3 o4 o5 o6 o7 o8 o9 o10 : Option D} {d : D} : wT C (.var 11) (o0 :: o1 :: o2 :: o3 :: o4 :: o5 :: o6 :: o7 :: o8 :: o9 :: o10 :: some d :: ρ) S R = ∃ b, truth S d = some b ∧ R b S := by simp [wT]
theorem hv12 {o0 o1 o2 o3 o4 o5 o6 o7 o8 o9 o10 o11 : Option D} {d : D} : wE C (.var 12) (o0 :: o1 :: o2 :: o3 :: o4 :: o5 :: o6 :: o7 :: o8 :: o9 :: o10 :: o11 :: some d :: ρ) S Q = Q d S := by simp [wE]
theorem hb12 {o0 o1 o2 o3 o4 o5 o6 o7 o8 o9 o10 o11 : Option D} {o : Option D} {d : D} {K : En → Prop} : bindT (.nm 12) d (o0 :: o1 :: o2 :: o3 :: o4 :: o5 :: o6 :: o7 :: o8 :: o9 :: o10 :: o11 :: o :: ρ) K = K (o0 :: o1 :: o2 :: o3 :: o4 :: o5 :: o6 :: o7 :: o8 :: o9 :: o10 :: o11 :: some d :: ρ) := rfl
theorem hl12 {o0 o1 o2 o3 o4 o5 o6 o7 o8 o9 o10 o11 : Option D} {o : Option D} {e : RE} : wS C (.asgL 12 e) W (o0 :: o1 :: o2 :: o3 :: o4 :: o5 :: o6 :: o7 :: o8 :: o9 :: o10 :: o11 :: o :: ρ) S = wE C e (o0 :: o1 :: o2 :: o3 :: o4 :: o5 :: o6 :: o7 :: o8 :: o9 :: o10 :: o11 :: o :: ρ) S fun d S' => W.nx (o0 :: o1 :: o2 :: o3 :: o4 :: o5 :: o6 :: o7 :: o8 :: o9 :: o10 :: o11 :: some d :: ρ) S' := by simp [wS]
theorem ht12 {o0 o1 o2 o3 o4 o5 o6 o7 o8 o9 o10 o11 : Option D} {d : D} : wT C (.var 12) (o0 :: o1 :: o2 :: o3 :: o4 :: o5 :: o6 :: o7 :: o8 :: o9 :: o10 :: o11 :: some d :: ρ) S R = ∃ b, truth S d = some b ∧ R b S := by simp [wT]
theorem hv13 {o0 o1 o2 o3 o4 o5 o6 o7 o8 o9 o10 o11 o12 : Option D} {d : D} : wE C (.var 13) (o0 :: o1 :: o2 :: o3 :: o4 :: o5 :: o6 :: o7 :: o8 :: o9 :: o10 :: o11 :: o12 :: some d :: ρ) S Q = Q d S := by simp [wE]
theorem hb13 {o0 o1 o2 o3 o4 o5 o6 o7 o8 o9 o10 o11 o12 : Option D} {o : Option D} {d : D} {K : En → Prop} : bindT (.nm 13) d (o0 :: o1 :: o2 :: o3 :: o4 :: o5 :: o6 :: o7 :: o8 :: o9 :: o10 :: o11 :: o12 :: o :: ρ) K = K (o0 :: o1 :: o2 :: o3 :: o4 :: o5 :: o6 :: o7 :: o8 :: o9 :: o10 :: o11 :: o12 :: some d :: ρ) := rfl
theorem hl13 {o0 o1 o2 o3 o4 o5 o6 o7 o8 o9 o10 o11 o12 : Option D} {o : Option D} {e : RE} : wS C (.asgL 13 e) W (o0 :: o1 :: o2 :: o3 :: o4 :: o5 :: o6 :: o7 :: o8 :: o9 :: o10 :: o11 :: o12 :: o :: ρ) S = wE C e (o0 :: o1 :: o2 :: o3 :: o4 :: o5 :: o6 :: o7 :: o8 :: o9 :: o10 :: o11 :: o12 :: o :: ρ) S fun d S' => W.nx (o0 :: o1 :: o2 :: o3 :: o4 :: o5 :: o6 :: o7 :: o8 :: o9 :: o10 :: o11 :: o12 :: some d :: ρ) S' := by simp [wS]
theorem ht13 {o0 o1 o2 o3 o4 o5 o6 o7 o8 o9 o10 o11 o12 : Option D} {d : D} : wT C (.var 13) (o0 :: o1 :: o2 :: o3 :: o4 :: o5 :: o6 :: o7 :: o8 :: o9 :: o10 :: o11 :: o12 :: some d :: ρ) S R = ∃ b, truth S d = some b ∧ R b S := by simp [wT]
theorem hv14 {o0 o1 o2 o3 o4 o5 o6 o7 o8 o9 o10 o11 o12 o13 : Option D} {d : D} : wE C (.var 14) (o0 :: o1 :: o2 :: o3 :: o4 :: o5 :: o6 :: o7 :: o8 :: o9 :: o10 :: o11 :: o12 :: o13 :: some d :: ρ) S Q = Q d S := by simp [wE]
theorem hb14 {o0 o1 o2 o3 o4 o5 o6 o7 o8 o9 o10 o11 o12 o13 : Option D} {o : Option D} {d : D} {K : En → Prop} : bindT (.nm 14) d (o0 :: o1 :: o2 :: o3 :: o4 :: o5 :: o6 :: o7 :: o8 :: o9 :: o10 :: o11 :: o12 :: o13 :: o :: ρ) K = K (o0 :: o1 :: o2 :: o3 :: o4 :: o5 :: o6 :: o7 :: o8 :: o9 :: o10 :: o11 :: o12 :: o13 :: some d :: ρ) := rfl
theorem hl14 {o0 o1 o2 o3 o4 o5 o6 o7 o8 o9 o10 o11 o12 o13 : Option D} {o : Option D} {e : RE} : wS C (.asgL 14 e) W (o0 :: o1 :: o2 :: o3 :: o4 :: o5 :: o6 :: o7 :: o8 :: o9 :: o10 :: o11 :: o12 :: o13 :: o :: ρ) S = wE C e (o0 :: o1 :: o2 :: o3 :: o4 :: o5 :: o6 :: o7 :: o8 :: o9 :: o10 :: o11 :: o12 :: o13 :: o :: ρ) S fun d S' => W.nx (o0 :: o1 :: o2 :: o3 :: o4 :: o5 :: o6 :: o7 :: o8 :: o9 :: o10 :: o11 :: o12 :: o13 :: some d :: ρ) S' := by simp [wS]
theorem ht14 {o0 o1 o2 o3 o4 o5 o6 o7 o8 o9 o10 o11 o12 o13 : Option D} {d : D} : wT C (.var 14) (o0 :: o1 :: o2 :: o3 :: o4 :: o5 :: o6 :: o7 :: o8 :: o9 :: o10 :: o11 :: o12 :: o13 :: some d :: ρ) S R = ∃ b, truth S d = some b ∧ R b S := by simp [wT]
theorem hv15 {o0 o1 o2 o3 o4 o5 o6 o7 o8 o9 o10 o11 o12 o13 o14 : Option D} {d : D} : wE C (.var 15) (o0 :: o1 :: o2 :: o3 :: o4 :: o5 :: o6 :: o7 :: o8 :: o9 :: o10 :: o11 :: o12 :: o13 :: o14 :: some d :: ρ) S Q = Q d S := by simp [wE]
theorem hb15 {o0 o1 o2 o3 o4 o5 o6 o7 o8 o9 o10 o11 o12 o13 o14 : Option D} {o : Option D} {d : D} {K : En → Prop} : bindT (.nm 15) d (o0 :: o1 :: o2 :: o3 :: o4 :: o5 :: o6 :: o7 :: o8 :: o9 :: o10 :: o11 :: o12 :: o13 :: o14 :: o :: ρ) K = K (o0 :: o1 :: o2 :: o3 :: o4 :: o5 :: o6 :: o7 :: o8 :: o9 :: o10 :: o11 :: o12 :: o13 :: o14 :: some d :: ρ) := rfl
theorem hl15 {o0 o1 o2 o3 o4 o5 o6 o7 o8 o9 o10 o11 o12 o13 o14 : Option D} {o : Option D} {e : RE} : wS C (.asgL 15 e) W (o0 :: o1 :: o2 :: o3 :: o4 :: o5 :: o6 :: o7 :: o8 :: o9 :: o10 :: o11 :: o12 :: o13 :: o14 :: o :: ρ) S = wE C e (o0 :: o1 :: o2 :: o3 :: o4 :: o5 :: o6 :: o7 :: o8 :: o9 :: o10 :: o11 :: o12 :: o13 :: o14 :: o :: ρ) S fun d S' => W.nx (o0 :: o1 :: o2 :: o3 :: o4 :: o5 :: o6 :: o7 :: o8 :: o9 :: o10 :: o11 :: o12 :: o13 :: o14 :: some d :: ρ) S' := by simp [wS]
theorem ht15 {o0 o1 o2 o3 o4 o5 o6 o7 o8 o9 o10 o11 o12 o13 o14 : Option D} {d : D} : wT C (.var 15) (o0 :: o1 :: o2 :: o3 :: o4 :: o5 :: o6 :: o7 :: o8 :: o9 :: o10 :: o11 :: o12 :: o13 :: o14 :: some d :: ρ) S R = ∃ b, truth S d = some b ∧ R b S := by simp [wT]
theorem hv16 {o0 o1 o2 o3 o4 o5 o6 o7 o8 o9 o10 o11 o12 o13 o14 o15 : Option D} {d : D} : wE C (.var 16) (o0 :: o1 :: o2 :: o3 :: o4 :: o5 :: o6 :: o7 :: o8 :: o9 :: o10 :: o11 :: o12 :: o13 :: o14 :: o15 :: some d :: ρ) S Q = Q d S := by simp [wE]
theorem hb16 {o0 o1 o2 o3 o4 o5 o6 o7 o8 o9 o10 o11 o12 o13 o14 o15 : Option D} {o : Option D} {d : D} {K : En → Prop} : bindT (.nm 16) d (o0 :: o1 :: o2 :: o3 :: o4 :: o5 :: o6 :: o7 :: o8 :: o9 :: o10 :: o11 :: o12 :: o13 :: o14 :: o15 :: o :: ρ) K = K (o0 :: o1 :: o2 :: o3 :: o4 :: o5 :: o6 :: o7 :: o8 :: o9 :: o10 :: o11 :: o12 :: o13 :: o14 :: o15 :: some d :: ρ) := rfl
theorem hl16 {o0 o1 o2 o3 o4 o5 o6 o7 o8 o9 o10 o11 o12 o13 o14 o15 : Option D} {o : Option D} {e : RE} : wS C (.asgL 16 e) W (o0 :: o1 :: o2 :: o3 :: o4 :: o5 :: o6 :: o7 :: o8 :: o9 :: o10 :: o11 :: o12 :: o13 :: o14 :: o15 :: o :: ρ) S = wE C e (o0 :: o1 :: o2 :: o3 :: o4 :: o5 :: o6 :: o7 :: o8 :: o9 :: o10 :: o11 :: o12 :: o13 :: o14 :: o15 :: o :: ρ) S fun d S' => W.nx (o0 :: o1 :: o2 :: o3 :: o4 :: o5 :: o6 :: o7 :: o8 :: o9 :: o10 :: o11 :: o12 :: o13 :: o14 :: o15 :: some d :: ρ) S' := by simp [wS]
theorem ht16 {o0 o1 o2 o3 o4 o5 o6 o7 o8 o9 o10 o11 o12 o13 o14 o15 : Option D} {d : D} : wT C (.var 16) (o0 :: o1 :: o2 :: o3 :: o4 :: o5 :: o6 :: o7 :: o8 :: o9 :: o10 :: o11 :: o12 :: o13 :: o14 :: o15 :: some d :: ρ) S R = ∃ b, truth S d = some b ∧ R b S := by simp [wT]
theorem hv17 {o0 o1 o2 o3 o4 o5 o6 o7 o8 o9 o10 o11 o12 o13 o14 o15 o16 : Option D} {d : D} : wE C (.var 17) (o0 :: o1 :: o2 :: o3 :: o4 :: o5 :: o6 :: o7 :: o8 :: o9 :: o10 :: o11 :: o12 :: o13 :: o14 :: o15 :: o16 :: some d :: ρ) S Q = Q d S := by simp [wE]
theorem hb17 {o0 o1 o2 o3 o4 o5 o6 o7 o8 o9 o10 o11 o12 o13 o14 o15 o16 : Option D} {o : Option D} {d : D} {K : En → Prop} : bindT (.nm 17) d (o0 :: o1 :: o2 :: o3 :: o4 :: o5 :: o6 :: o7 :: o8 :: o9 :: o10 :: o11 :: o12 :: o13 :: o14 :: o15 :: o16 :: o :: ρ) K = K (o0 :: o1 :: o2 :: o3 :: o4 :: o5 :: o6 :: o7 :: o8 :: o9 :: o10 :: o11 :: o12 :: o13 :: o14 :: o15 :: o16 :: some d :: ρ) := rfl
theorem hl17 {o0 o1 o2 o3 o4 o5 o6 o7 o8 o9 o10 o11 o12 o13 o14 o15 o16 : Option D} {o : Option D} {e : RE} : wS C (.asgL 17 e) W (o0 :: o1 :: o2 :: o3 :: o4 :: o5 :: o6 :: o7 :: o8 :: o9 :: o10 :: o11 :: o12 :: o13 :: o14 :: o15 :: o16 :: o :: ρ) S = wE C e (o0 :: o1 :: o2 :: o3 :: o4 :: o5 :: o6 :: o7 :: o8 :: o9 :: o10 :: o11 :: o12 :: o13 :: o14 :: o15 :: o16 :: o :: ρ) S fun d S' => W.nx (o0 :: o1 :: o2 :: o3 :: o4 :: o5 :: o6 :: o7 :: o8 :: o9 :: o10 :: o11 :: o12 :: o13 :: o14 :: o15 :: o16 :: some d :: ρ) S' := by simp [wS]
theorem ht17 {o0 o1 o2 o3 o4 o5 o6 o7 o8 o9 o10 o11 o12 o13 o14 o15 o16 : Option D} {d : D} : wT C (.var 17) (o0 :: o1 :: o2 :: o3 :: o4 :: o5 :: o6 :: o7 :: o8 :: o9 :: o10 :: o11 :: o12 :: o13 :: o14 :: o15 :: o16 :: some d :: ρ) S R = ∃ b, truth S d = some b ∧ R b S := by simp [wT]
theorem hv18 {o0 o1 o2 o3 o4 o5 o6 o7 o8 o9 o10 o11 o12 o13 o14 o15 o16 o17 : Option D} {d : D} : wE C (.var 18) (o0 :: o1 :: o2 :: o3 :: o4 :: o5 :: o6 :: o7 :: o8 :: o9 :: o10 :: o11 :: o12 :: o13 :: o14 :: o15 :: o16 :: o17 :: some d :: ρ) S Q = Q d S := by simp [wE]
theorem hb18 {o0 o1 o2 o3 o4 o5 o6 o7 o8 o9 o10 o11 o12 o13 o14 o15 o16 o17 : Option D} {o : Option D} {d : D} {K : En → Prop} : bindT (.nm 18) d (o0 :: o1 :: o2 :: o3 :: o4 :: o5 :: o6 :: o7 :: o8 :: o9 :: o10 :: o11 :: o12 :: o13 :: o14 :: o15 :: o16 :: o17 :: o :: ρ) K = K (o0 :: o1 :: o2 :: o3 :: o4 :: o5 :: o6 :: o7 :: o8 :: o9 :: o10 :: o11 :: o12 :: o13 :: o14 :: o15 :: o16 :: o17 :: some d :: ρ) := rfl
theorem hl18 {o0 o1 o2 o3 o4 o5 o6 o7 o8 o9 o10 o11 o12 o13 o14 o15 o16 o17 : Option D} {o : Option D} {e : RE} : wS C (.asgL 18 e) W (o0 :: o1 :: o2 :: o3 :: o4 :: o5 :: o6 :: o7 :: o8 :: o9 :: o10 :: o11 :: o12 :: o13 :: o14 :: o15 :: o16 :: o17 :: o :: ρ) S = wE C e (o0 :: o1 :: o2 :: o3 :: o4 :: o5 :: o6 :: o7 :: o8 :: o9 :: o10 :: o11 :: o12 :: o13 :: o14 :: o15 :: o16 :: o17 :: o :: ρ) S fun d S' => W.nx (o0 :: o1 :: o2 :: o3 :: o4 :: o5 :: o6 :: o7 :: o8 :: o9 :: o10 :: o11 :: o12 :: o13 :: o14 :: o15 :: o16 :: o17 :: some d :: ρ) S' := by simp [wS]
theorem ht18 {o0 o1 o2 o3 o4 o5 o6 o7 o8 o9 o10 o11 o12 o13 o14 o15 o16 o17 : Option D} {d : D} : wT C (.var 18) (o0 :: o1 :: o2 :: o3 :: o4 :: o5 :: o6 :: o7 :: o8 :: o9 :: o10 :: o11 :: o12 :: o13 :: o14 :: o15 :: o16 :: o17 :: some d :: ρ) S R = ∃ b, truth S d = some b ∧ R b S := by simp [wT]
theorem hv19 {o0 o1 o2 o3 o4 o5 o6 o7 o8 o9 o10 o11 o12 o13 o14 o15 o16 o17 o18 : Option D} {d : D} : wE C (.var 19) (o0 :: o1 :: o2 :: o3 :: o4 :: o5 :: o6 :: o7 :: o8 :: o9 :: o10 :: o11 :: o12 :: o13 :: o14 :: o15 :: o16 :: o17 :: o18 :: some d :: ρ) S Q = Q d S := by simp [wE]
theorem hb19 {o0 o1 o2 o3 o4 o5 o6 o7 o8 o9 o10 o11 o12 o13 o14 o15 o16 o17 o18 : Option D} {o : Option D} {d : D} {K : En → Prop} : bindT (.nm 19) d (o0 :: o1 :: o2 :: o3 :: o4 :: o5 :: o6 :: o7 :: o8 :: o9 :: o10 :: o11 :: o12 :: o13 :: o14 :: o15 :: o16 :: o17 :: o18 :: o :: ρ) K = K (o0 :: o1 :: o2 :: o3 :: o4 :: o5 :: o6 :: o7 :: o8 :: o9 :: o10 :: o11 :: o12 :: o13 :: o14 :: o15 :: o16 :: o17 :: o18 :: some d :: ρ) := rfl
theorem hl19 {o0 o1 o2 o3 o4 o5 o6 o7 o8 o9 o10 o11 o12 o13 o14 o15 o16 o17 o18 : Option D} {o : Option D} {e : RE} : wS C (.asgL 19 e) W (o0 :: o1 :: o2 :: o3 :: o4 :: o5 :: o6 :: o7 :: o8 :: o9 :: o10 :: o11 :: o12 :: o13 :: o14 :: o15 :: o16 :: o17 :: o18 :: o :: ρ) S = wE C e (o0 :: o1 :: o2 :: o3 :: o4 :: o5 :: o6 :: o7 :: o8 :: o9 :: o10 :: o11 :: o12 :: o13 :: o14 :: o15 :: o16 :: o17 :: o18 :: o :: ρ) S fun d S' => W.nx (o0 :: o1 :: o2 :: o3 :: o4 :: o5 :: o6 :: o7 :: o8 :: o9 :: o10 :: o11 :: o12 :: o13 :: o14 :: o15 :: o16 :: o17 :: o18 :: some d :: ρ) S' := by simp [wS]
theorem ht19 {o0 o1 o2 o3 o4 o5 o6 o7 o8 o9 o10 o11 o12 o13 o14 o15 o16 o17 o18 : Option D} {d : D} : wT C (.var 19) (o0 :: o1 :: o2 :: o3 :: o4 :: o5 :: o6 :: o7 :: o8 :: o9 :: o10 :: o11 :: o12 :: o13 :: o14 :: o15 :: o16 :: o17 :: o18 :: some d :: ρ) S R = ∃ b, truth S d = some b ∧ R b S := by simp [wT]
theorem hv20 {o0 o1 o2 o3 o4 o5 o6 o7 o8 o9 o10 o11 o12 o13 o14 o15 o16 o17 o18 o19 : Option D} {d : D} : wE C (.var 20) (o0 :: o1 :: o2 :: o3 :: o4 :: o5 :: o6 :: o7 :: o8 :: o9 :: o10 :: o11 :: o12 :: o13 :: o14 :: o15 :: o16 :: o17 :: o18 :: o19 :: some d :: ρ) S Q = Q d S := by simp [wE]
theorem hb20 {o0 o1 o2 o3 o4 o5 o6 o7 o8 o9 o10 o11 o12 o13 o14 o15 o16 o17 o18 o19 : Option D} {o : Option D} {d : D} {K : En → Prop} : bindT (.nm 20) d (o0 :: o1 :: o2 :: o3 :: o4 :: o5 :: o6 :: o7 :: o8 :: o9 :: o10 :: o11 :: o12 :: o13 :: o14 :: o15 :: o16 :: o17 :: o18 :: o19 :: o :: ρ) K = K (o0 :: o1 :: o2 :: o3 :: o4 :: o5 :: o6 :: o7 :: o8 :: o9 :: o10 :: o11 :: o12 :: o13 :: o14 :: o15 :: o16 :: o17 :: o18 :: o19 :: some d :: ρ) := rfl
theorem hl20 {o0 o1 o2 o3 o4 o5 o6 o7 o8 o9 o10 o11 o12 o13 o14 o15 o16 o17 o18 o19 : Option D} {o : Option D} {e : RE} : wS C (.asgL 20 e) W (o0 :: o1 :: o2 :: o3 :: o4 :: o5 :: o6 :: o7 :: o8 :: o9 :: o10 :: o11 :: o12 :: o13 :: o14 :: o15 :: o16 :: o17 :: o18 :: o19 :: o :: ρ) S = wE C e (o0 :: o1 :: o2 :: o3 :: o4 :: o5 :: o6 :: o7 :: o8 :: o9 :: o10 :: o11 :: o12 :: o13 :: o14 :: o15 :: o16 :: o17 :: o18 :: o19 :: o :: ρ) S fun d S' => W.nx (o0 :: o1 :: o2 :: o3 :: o4 :: o5 :: o6 :: o7 :: o8 :: o9 :: o10 :: o11 :: o12 :: o13 :: o14 :: o15 :: o16 :: o17 :: o18 :: o19 :: some d :: ρ) S' := by simp [wS]
theorem ht20 {o0 o1 o2 o3 o4 o5 o6 o7 o8 o9 o10 o11 o12 o13 o14 o15 o16 o17 o18 o19 : Option D} {d : D} : wT C (.var 20) (o0 :: o1 :: o2 :: o3 :: o4 :: o5 :: o6 :: o7 :: o8 :: o9 :: o10 :: o11 :: o12 :: o13 :: o14 :: o15 :: o16 :: o17 :: o18 :: o19 :: some d :: ρ) S R = ∃ b, truth S d = some b ∧ R b S := by simp [wT]
theorem hv21 {o0 o1 o2 o3 o4 o5 o6 o7 o8 o9 o10 o11 o12 o13 o14 o15 o16 o17 o18 o19 o20 : Option D} {d : D} : wE C (.var 21) (o0 :: o1 :: o2 :: o3 :: o4 :: o5 :: o6 :: o7 :: o8 :: o9 :: o10 :: o11 :: o12 :: o13 :: o14 :: o15 :: o16 :: o17 :: o18 :: o19 :: o20 :: some d :: ρ) S Q = Q d S := by simp [wE]
theorem hb21 {o0 o1 o2 o3 o4 o5 o6 o7 o8 o9 o10 o11 o12 o13 o14 o15 o16 o17 o18 o19 o20 : Option D} {o : Option D} {d : D} {K : En → Prop} : bindT (.nm 21) d (o0 :: o1 :: o2 :: o3 :: o4 :: o5 :: o6 :: o7 :: o8 :: o9 :: o10 :: o11 :: o12 :: o13 :: o14 :: o15 :: o16 :: o17 :: o18 :: o19 :: o20 :: o :: ρ) K = K (o0 :: o1 :: o2 :: o3 :: o4 :: o5 :: o6 :: o7 :: o8 :: o9 :: o10 :: o11 :: o12 :: o13 :: o14 :: o15 :: o16 :: o17 :: o18 :: o19 :: o20 :: some d :: ρ) := rfl
theorem hl21 {o0 o1 o2 o3 o4 o5 o6 o7 o8 o9 o10 o11 o12 o13 o14 o15 o16 o17 o18 o19 o20 : Option D} {o : Option D} {e : RE} : wS C (.asgL 21 e) W (o0 :: o1 :: o2 :: o3 :: o4 :: o5 :: o6 :: o7 :: o8 :: o9 :: o10 :: o11 :: o12 :: o13 :: o14 :: o15 :: o16 :: o17 :: o18 :: o19 :: o20 :: o :: ρ) S = wE C e (o0 :: o1 :: o2 :: o3 :: o4 :: o5 :: o6 :: o7 :: o8 :: o9 :: o10 :: o11 :: o12 :: o13 :: o14 :: o15 :: o16 :: o17 :: o18 :: o19 :: o20 :: o :: ρ) S fun d S' => W.nx (o0 :: o1 :: o2 :: o3 :: o4 :: o5 :: o6 :: o7 :: o8 :: o9 :: o10 :: o11 :: o12 :: o13 :: o14 :: o15 :: o16 :: o17 :: o18 :: o19 :: o20 :: some d :: ρ) S' := by simp [wS]
theorem ht21 {o0 o1 o2 o3 o4 o5 o6 o7 o8 o9 o10 o11 o12 o13 o14 o15 o16 o17 o18 o19 o20 : Option D} {d : D} : wT C (.var 21) (o0 :: o1 :: o2 :: o3 :: o4 :: o5 :: o6 :: o7 :: o8 :: o9 :: o10 :: o11 :: o12 :: o13 :: o14 :: o15 :: o16 :: o17 :: o18 :: o19 :: o20 :: some d :: ρ) S R = ∃ b, truth S d = some b ∧ R b S := by simp [wT]
theorem hv22 {o0 o1 o2 o3 o4 o5 o6 o7 o8 o9 o10 o11 o12 o13 o14 o15 o16 o17 o18 o19 o20 o21 : Option D} {d : D} : wE C (.var 22) (o0 :: o1 :: o2 :: o3 :: o4 :: o5 :: o6 :: o7 :: o8 :: o9 :: o10 :: o11 :: o12 :: o13 :: o14 :: o15 :: o16 :: o17 :: o18 :: o19 :: o20 :: o21 :: some d :: ρ) S Q = Q d S := by simp [wE]
theorem hb22 {o0 o1 o2 o3 o4 o5 o6 o7 o8 o9 o10 o11 o12 o13 o14 o15 o16 o17 o18 o19 o20 o21 : Option D} {o : Option D} {d : D} {K : En → Prop} : bindT (.nm 22) d (o0 :: o1 :: o2 :: o3 :: o4 :: o5 :: o6 :: o7 :: o8 :: o9 :: o10 :: o11 :: o12 :: o13 :: o14 :: o15 :: o16 :: o17 :: o18 :: o19 :: o20 :: o21 :: o :: ρ) K = K (o0 :: o1 :: o2 :: o3 :: o4 :: o5 :: o6 :: o7 :: o8 :: o9 :: o10 :: o11 :: o12 :: o13 :: o14 :: o15 :: o16 :: o17 :: o18 :: o19 :: o20 :: o21 :: some d :: ρ) := rfl
theorem hl22 {o0 o1 o2 o3 o4 o5 o6 o7 o8 o9 o10 o11 o12 o13 o14 o15 o16 o17 o18 o19 o20 o21 : Option D} {o : Option D} {e : RE} : wS C (.asgL 22 e) W (o0 :: o1 :: o2 :: o3 :: o4 :: o5 :: o6 :: o7 :: o8 :: o9 :: o10 :: o11 :: o12 :: o13 :: o14 :: o15 :: o16 :: o17 :: o18 :: o19 :: o20 :: o21 :: o :: ρ) S = wE C e (o0 :: o1 :: o2 :: o3 :: o4 :: o5 :: o6 :: o7 :: o8 :: o9 :: o10 :: o11 :: o12 :: o13 :: o14 :: o15 :: o16 :: o17 :: o18 :: o19 :: o20 :: o21 :: o :: ρ) S fun d S' => W.nx (o0 :: o1 :: o2 :: o3 :: o4 :: o5 :: o6 :: o7 :: o8 :: o9 :: o10 :: o11 :: o12 :: o13 :: o14 :: o15 :: o16 :: o17 :: o18 :: o19 :: o20 :: o21 :: some d :: ρ) S' := by simp [wS]
theorem ht22 {o0 o1 o2 o3 o4 o5 o6 o7 o8 o9 o10 o11 o12 o13 o14 o15 o16 o17 o18 o19 o20 o21 : Option D} {d : D} : wT C (.var 22) (o0 :: o1 :: o2 :: o3 :: o4 :: o5 :: o6 :: o7 :: o8 :: o9 :: o10 :: o11 :: o12 :: o13 :: o14 :: o15 :: o16 :: o17 :: o18 :: o19 :: o20 :: o21 :: some d :: ρ) S R = ∃ b, truth S d = some b ∧ R b S := by simp [wT]
theorem hv23 {o0 o1 o2 o3 o4 o5 o6 o7 o8 o9 o10 o11 o12 o13 o14 o15 o16 o17 o18 o19 o20 o21 o22 : Option D} {d : D} : wE C (.var 23) (o0 :: o1 :: o2 :: o3 :: o4 :: o5 :: o6 :: o7 :: o8 :: o9 :: o10 :: o11 :: o12 :: o13 :: o14 :: o15 :: o16 :: o17 :: o18 :: o19 :: o20 :: o21 :: o22 :: some d :: ρ) S Q = Q d S := by simp [wE]
theorem hb23 {o0 o1 o2 o3 o4 o5 o6 o7 o8 o9 o10 o11 o12 o13 o14 o15 o16 o17 o18 o19 o20 o21 o22 : Option D} {o : Option D} {d : D} {K : En → Prop} : bindT (.nm 23) d (o0 :: o1 :: o2 :: o3 :: o4 :: o5 :: o6 :: o7 :: o8 :: o9 :: o10 :: o11 :: o12 :: o13 :: o14 :: o15 :: o16 :: o17 :: o18 :: o19 :: o20 :: o21 :: o22 :: o :: ρ) K = K (o0 :: o1 :: o2 :: o3 :: o4 :: o5 :: o6 :: o7 :: o8 :: o9 :: o10 :: o11 :: o12 :: o13 :: o14 :: o15 :: o16 :: o17 :: o18 :: o19 :: o20 :: o21 :: o22 :: some d :: ρ) := rfl
theorem hl23 {o0 o1 o2 o3 o4 o5 o6 o7 o8 o9 o10 o11 o12 o13 o14 o15 o16 o17 o18 o19 o20 o21 o22 : Option D} {o : Option D} {e : RE} : wS C (.asgL 23 e) W (o0 :: o1 :: o2 :: o3 :: o4 :: o5 :: o6 :: o7 :: o8 :: o9 :: o10 :: o11 :: o12 :: o13 :: o14 :: o15 :: o16 :: o17 :: o18 :: o19 :: o20 :: o21 :: o22 :: o :: ρ) S = wE C e (o0 :: o1 :: o2 :: o3 :: o4 :: o5 :: o6 :: o7 :: o8 :: o9 :: o10 :: o11 :: o12 :: o13 :: o14 :: o15 :: o16 :: o17 :: o18 :: o19 :: o20 :: o21 :: o22 :: o :: ρ) S fun d S' => W.nx (o0 :: o1 :: o2 :: o3 :: o4 :: o5 :: o6 :: o7 :: o8 :: o9 :: o10 :: o11 :: o12 :: o13 :: o14 :: o15 :: o16 :: o17 :: o18 :: o19 :: o20 :: o21 :: o22 :: some d :: ρ) S' := by simp [wS]
theorem ht23 {o0 o1 o2 o3 o4 o5 o6 o7 o8 o9 o10 o11 o12 o13 o14 o15 o16 o17 o18 o19 o20 o21 o22 : Option D} {d : D} : wT C (.var 23) (o0 :: o1 :: o2 :: o3 :: o4 :: o5 :: o6 :: o7 :: o8 :: o9 :: o10 :: o11 :: o12 :: o13 :: o14 :: o15 :: o16 :: o17 :: o18 :: o19 :: o20 :: o21 :: o22 :: some d :: ρ) S R = ∃ b, truth S d = some b ∧ R b S := by simp [wT]
theorem h_nd {n : Node} {es : List RE} : wE C (.nd n es) ρ S Q = wEs C es ρ S fun ds S' => n.sem ds S' Q := by simp only [wE]
theorem h_call {f : Nat} {es : List RE} : wE C (.call f es) ρ S Q = wEs C es ρ S fun ds S' => C f ds S' Q := by simp only [wE]
theorem h_glb {f : Nat} : wE C (.glb f) ρ S Q = C f [] S Q := by simp only [wE]
theorem h_kix {f : Nat} {e : RE} : wE C (.kix f e) ρ S Q = C f [] S fun d S1 => ∃ xs : List Str, d = .tup (xs.map D.str) ∧ wE C e ρ S1 fun y S2 => ∃ (z : Str) (j : Nat), y = .str z ∧ xs[j]? = some z ∧ (∀ m, m < j → xs[m]? ≠ some z) ∧ Q (.int (j : Nat)) S2 := by simp only [wE]
theorem h_mth {n : MNode} {o : RE} {es : List RE} : wE C (.mth n o es) ρ S Q = wE C o ρ S fun d S1 => n.chk d S1 ∧ wEs C es ρ S1 fun ds S2 => n.sem (d :: ds) S2 Q := by simp only [wE]
theorem h_cmp {n : CNode} {a b : RE} : wE C (.cmp n a b) ρ S Q = wE C a ρ S fun x S1 => wE C b ρ S1 fun y S2 => ∃ k, n.cs x y S2 = some k ∧ Q (.bl k) S2 := by simp only [wE]
theorem hT_cmp {n : CNode} {a b : RE} : wT C (.cmp n a b) ρ S R = wE C a ρ S fun x S1 => wE C b ρ S1 fun y S2 => ∃ k, n.cs x y S2 = some k ∧ R k S2 := by simp only [wT]
theorem h_xn {k : XK} {c : Str} {f : Nat} {o : RE} {es : List RE} : wE C (.xn k c f o es) ρ S Q = wE C o ρ S fun d S1 => xchk k c d S1 ∧ wEs C es ρ S1 fun ds S2 => xend k c (d :: ds) S2 ∧ C f (d :: ds) S2 (xpost k Q) := by simp only [wE]
theorem hT_xn {k : XK} {c : Str} {f : Nat} {o : RE} {es : List RE} : wT C (.xn k c f o es) ρ S R = wE C o ρ S fun d S1 => xchk k c d S1 ∧ wEs C es ρ S1 fun ds S2 => xend k c (d :: ds) S2 ∧ C f (d :: ds) S2 (xpostT k R) := by simp only [wT]
theorem hT_nd {n : Node} {es : List RE} : wT C (.nd n es) ρ S R = wEs C es ρ S fun ds S' => n.sem ds S' fun d S2 => ∃ b, truth S2 d = some b ∧ R b S2 := by simp only [wT]
theorem hT_call {f : Nat} {es : List RE} : wT C (.call f es) ρ S R = wEs C es ρ S fun ds S' => C f ds S' fun d S2 => ∃ b, truth S2 d = some b ∧ R b S2 := by simp only [wT]
theorem hT_not {e : RE} : wT C (.not e) ρ S R = wT C e ρ S fun b S' => R (!b) S' := by simp only [wT]
theorem h_ite {c a b : RE} : wE C (.ite c a b) ρ S Q = wT C c ρ S fun t S' => if t = true then wE C a ρ S' Q else wE C b ρ S' Q := by simp only [wE]
theorem h_es0 {K : List D → Sto → Prop} : wEs C [] ρ S K = K [] S := by simp only [wEs]
theorem h_es {e : RE} {es : List RE} {K : List D → Sto → Prop} : wEs C (e :: es) ρ S K = wE C e ρ S fun d S1 => wEs C es ρ S1 fun ds S2 => K (d :: ds) S2 := by simp only [wEs]
theorem h_asg {t : RT} {e : RE} : wS C (.asg t e) W ρ S = wE C e ρ S fun d S' => bindT t d ρ fun ρ' => W.nx ρ' S' := by simp only [wS]
theorem h_expr {e : RE} : wS C (.expr e) W ρ S = wE C e ρ S fun _ S' => W.nx ρ S' := by simp only [wS]
theorem h_ret {e : RE} : wS C (.ret e) W ρ S = wE C e ρ S W.rt := by simp only [wS]
theorem h_retN  : wS C .retN W ρ S = W.rt .non S := by simp only [wS]
theorem h_ifs {c : RE} {a b : List RS} : wS C (.ifs c a b) W ρ S = wT C c ρ S fun t S' => if t = true then wSs C a W ρ S' else wSs C b W ρ S' := by simp only [wS]
theorem h_ss0  : wSs C [] W ρ S = W.nx ρ S := by simp only [wSs]
theorem h_ss {s : RS} {ss : List RS} : wSs C (s :: ss) W ρ S = wS C s { W with nx := fun ρ' S' => wSs C ss W ρ' S' } ρ S := by simp only [wSs]
theorem h_exb {b : Bool} {K : Bool → Prop} : (∃ c, D.bl b = D.bl c ∧ K c) = K b := propext ⟨fun ⟨_, e, h⟩ => by cases e; exact h, fun h => ⟨_, rfl, h⟩⟩
theorem h_trb {b : Bool} {K : Bool → Prop} : (∃ c, truth S (.bl b) = some c ∧ K c) = K b := propext ⟨fun ⟨_, e, h⟩ => by cases e; exact h, fun h => ⟨_, rfl, h⟩⟩
theorem h_tri {i : Int} {K : Bool → Prop} : (∃ c, truth S (.int i) = some c ∧ K c) = K (i != 0) := propext ⟨fun ⟨_, e, h⟩ => by cases e; exact h, fun h => ⟨_, rfl, h⟩⟩
theorem hc_lt {i j : Int} {K : Bool → Prop} : (∃ k, cLt.cs (.int i) (.int j) S = some k ∧ K k) = K (decide (i < j)) := by rw [cs_lt]; exact propext ⟨fun ⟨_, e, h⟩ => by cases e; exact h, fun h => ⟨_, rfl, h⟩⟩
theorem hc_le {i j : Int} {K : Bool → Prop} : (∃ k, cLe.cs (.int i) (.int j) S = some k ∧ K k) = K (decide (i ≤ j)) := by rw [cs_le]; exact propext ⟨fun ⟨_, e, h⟩ => by cases e; exact h, fun h => ⟨_, rfl, h⟩⟩
theorem hc_gt {i j : Int} {K : Bool → Prop} : (∃ k, cGt.cs (.int i) (.int j) S = some k ∧ K k) = K (decide (j < i)) := by rw [cs_gt]; exact propext ⟨fun ⟨_, e, h⟩ => by cases e; exact h, fun h => ⟨_, rfl, h⟩⟩
theorem hc_ge {i j : Int} {K : Bool → Prop} : (∃ k, cGe.cs (.int i) (.int j) S = some k ∧ K k) = K (decide (j ≤ i)) := by rw [cs_ge]; exact propext ⟨fun ⟨_, e, h⟩ => by cases e; exact h, fun h => ⟨_, rfl, h⟩⟩
theorem hc_eqI {i j : Int} {K : Bool → Prop} : (∃ k, cEq.cs (.int i) (.int j) S = some k ∧ K k) = K (decide (i = j)) := by rw [cs_eqI]; exact propext ⟨fun ⟨_, e, h⟩ => by cases e; exact h, fun h => ⟨_, rfl, h⟩⟩
theorem hc_neI {i j : Int} {K : Bool → Prop} : (∃ k, cNe.cs (.int i) (.int j) S = some k ∧ K k) = K (!decide (i = j)) := by rw [cs_neI]; exact propext ⟨fun ⟨_, e, h⟩ => by cases e; exact h, fun h => ⟨_, rfl, h⟩⟩
theorem hc_eqS {x y : Str} {K : Bool → Prop} : (∃ k, cEq.cs (.str x) (.str y) S = some k ∧ K k) = K (decide (x = y)) := by rw [cs_eqS]; exact propext ⟨fun ⟨_, e, h⟩ => by cases e; exact h, fun h => ⟨_, rfl, h⟩⟩
theorem hc_neS {x y : Str} {K : Bool → Prop} : (∃ k, cNe.cs (.str x) (.str y) S = some k ∧ K k) = K (!decide (x = y)) := by rw [cs_neS]; exact propext ⟨fun ⟨_, e, h⟩ => by cases e; exact h, fun h => ⟨_, rfl, h⟩⟩
theorem hc_eqB {x y : Bool} {K : Bool → Prop} : (∃ k, cEq.cs (.bl x) (.bl y) S = some k ∧ K k) = K (decide (x = y)) := by rw [cs_eqB]; exact propext ⟨fun ⟨_, e, h⟩ => by cases e; exact h, fun h => ⟨_, rfl, h⟩⟩
theorem hc_neB {x y : Bool} {K : Bool → Prop} : (∃ k, cNe.cs (.bl x) (.bl y) S = some k ∧ K k) = K (!decide (x = y)) := by rw [cs_neB]; exact propext ⟨fun ⟨_, e, h⟩ => by cases e; exact h, fun h => ⟨_, rfl, h⟩⟩
theorem hix_l0 {d0 : D} {xs : List D} : nIx.sem [.lst (d0 :: xs), .int 0] S Q = Q d0 S := by rw [sem_ix]; refine propext ⟨fun ⟨xs, v, e, h, q⟩ => ?_, fun q => ⟨_, _, rfl, atI_nat (k := 0) rfl, q⟩⟩; cases e; rw [show (0 : Int) = ((0 : Nat) : Int) from rfl, atI_nat (k := 0) (d := d0) rfl] at h; cases h; exact q
theorem hix_t0 {d0 : D} {xs : List D} : nIx.sem [.tup (d0 :: xs), .int 0] S Q = Q d0 S := by rw [sem_ix]; refine propext ⟨fun ⟨xs, v, e, h, q⟩ => ?_, fun q => ⟨_, _, rfl, atI_nat (k := 0) rfl, q⟩⟩; cases e; rw [show (0 : Int) = ((0 : Nat) : Int) from rfl, atI_nat (k := 0) (d := d0) rfl] at h; cases h; exact q
theorem hix_l1 {d0 d1 : D} {xs : List D} : nIx.sem [.lst (d0 :: d1 :: xs), .int 1] S Q = Q d1 S := by rw [sem_ix]; refine propext ⟨fun ⟨xs, v, e, h, q⟩ => ?_, fun q => ⟨_, _, rfl, atI_nat (k := 1) rfl, q⟩⟩; cases e; rw [show (1 : Int) = ((1 : Nat) : Int) from rfl, atI_nat (k := 1) (d := d1) rfl] at h; cases h; exact q
theorem hix_t1 {d0 d1 : D} {xs : List D} : nIx.sem [.tup (d0 :: d1 :: xs), .int 1] S Q = Q d1 S := by rw [sem_ix]; refine propext ⟨fun ⟨xs, v, e, h, q⟩ => ?_, fun q => ⟨_, _, rfl, atI_nat (k := 1) rfl, q⟩⟩; cases e; rw [show (1 : Int) = ((1 : Nat) : Int) from rfl, atI_nat (k := 1) (d := d1) rfl] at h; cases h; exact q
theorem hix_l2 {d0 d1 d2 : D} {xs : List D} : nIx.sem [.lst (d0 :: d1 :: d2 :: xs), .int 2] S Q = Q d2 S := by rw [sem_ix]; refine propext ⟨fun ⟨xs, v, e, h, q⟩ => ?_, fun q => ⟨_, _, rfl, atI_nat (k := 2) rfl, q⟩⟩; cases e; rw [show (2 : Int) = ((2 : Nat) : Int) from rfl, atI_nat (k := 2) (d := d2) rfl] at h; cases h; exact q
theorem hix_t2 {d0 d1 d2 : D} {xs : List D} : nIx.sem [.tup (d0 :: d1 :: d2 :: xs), .int 2] S Q = Q d2 S := by rw [sem_ix]; refine propext ⟨fun ⟨xs, v, e, h, q⟩ => ?_, fun q => ⟨_, _, rfl, atI_nat (k := 2) rfl, q⟩⟩; cases e; rw [show (2 : Int) = ((2 : Nat) : Int) from rfl, atI_nat (k := 2) (d := d2) rfl] at h; cases h; exact q
theorem hix_l3 {d0 d1 d2 d3 : D} {xs : List D} : nIx.sem [.lst (d0 :: d1 :: d2 :: d3 :: xs), .int 3] S Q = Q d3 S := by rw [sem_ix]; refine propext ⟨fun ⟨xs, v, e, h, q⟩ => ?_, fun q => ⟨_, _, rfl, atI_nat (k := 3) rfl, q⟩⟩; cases e; rw [show (3 : Int) = ((3 : Nat) : Int) from rfl, atI_nat (k := 3) (d := d3) rfl] at h; cases h; exact q
theorem hix_t3 {d0 d1 d2 d3 : D} {xs : List D} : nIx.sem [.tup (d0 :: d1 :: d2 :: d3 :: xs), .int 3] S Q = Q d3 S := by rw [sem_ix]; refine propext ⟨fun ⟨xs, v, e, h, q⟩ => ?_, fun q => ⟨_, _, rfl, atI_nat (k := 3) rfl, q⟩⟩; cases e; rw [show (3 : Int) = ((3 : Nat) : Int) from rfl, atI_nat (k := 3) (d := d3) rfl] at h; cases h; exact q
theorem hix_l4 {d0 d1 d2 d3 d4 : D} {xs : List D} : nIx.sem [.lst (d0 :: d1 :: d2 :: d3 :: d4 :: xs), .int 4] S Q = Q d4 S := by rw [sem_ix]; refine propext ⟨fun ⟨xs, v, e, h, q⟩ => ?_, fun q => ⟨_, _, rfl, atI_nat (k := 4) rfl, q⟩⟩; cases e; rw [show (4 : Int) = ((4 : Nat) : Int) from rfl, atI_nat (k := 4) (d := d4) rfl] at h; cases h; exact q
theorem hix_t4 {d0 d1 d2 d3 d4 : D} {xs : List D} : nIx.sem [.tup (d0 :: d1 :: d2 :: d3 :: d4 :: xs), .int 4] S Q = Q d4 S := by rw [sem_ix]; refine propext ⟨fun ⟨xs, v, e, h, q⟩ => ?_, fun q => ⟨_, _, rfl, atI_nat (k := 4) rfl, q⟩⟩; cases e; rw [show (4 : Int) = ((4 : Nat) : Int) from rfl, atI_nat (k := 4) (d := d4) rfl] at h; cases h; exact q
theorem htp0  : nTup.sem [] S Q = Q (.tup []) S := by rw [sem_tup]; exact propext ⟨fun h => h.2, fun h => ⟨(show 0 ≤ sizeLine by decide), h⟩⟩
theorem hls0  : (nLst false).sem [] S Q = Q (.lst []) S := by rw [sem_lst]; exact propext ⟨fun h => h.2, fun h => ⟨(show 0 ≤ sizeLine by decide), h⟩⟩
theorem htp1 {d0 : D} : nTup.sem [d0] S Q = Q (.tup [d0]) S := by rw [sem_tup]; exact propext ⟨fun h => h.2, fun h => ⟨(show 1 ≤ sizeLine by decide), h⟩⟩
theorem hls1 {d0 : D} : (nLst false).sem [d0] S Q = Q (.lst [d0]) S := by rw [sem_lst]; exact propext ⟨fun h => h.2, fun h => ⟨(show 1 ≤ sizeLine by decide), h⟩⟩
theorem htp2 {d0 d1 : D} : nTup.sem [d0, d1] S Q = Q (.tup [d0, d1]) S := by rw [sem_tup]; exact propext ⟨fun h => h.2, fun h => ⟨(show 2 ≤ sizeLine by decide), h⟩⟩
theorem hls2 {d0 d1 : D} : (nLst false).sem [d0, d1] S Q = Q (.lst [d0, d1]) S := by rw [sem_lst]; exact propext ⟨fun h => h.2, fun h => ⟨(show 2 ≤ sizeLine by decide), h⟩⟩
theorem htp3 {d0 d1 d2 : D} : nTup.sem [d0, d1, d2] S Q = Q (.tup [d0, d1, d2]) S := by rw [sem_tup]; exact propext ⟨fun h => h.2, fun h => ⟨(show 3 ≤ sizeLine by decide), h⟩⟩
theorem hls3 {d0 d1 d2 : D} : (nLst false).sem [d0, d1, d2] S Q = Q (.lst [d0, d1, d2]) S := by rw [sem_lst]; exact propext ⟨fun h => h.2, fun h => ⟨(show 3 ≤ sizeLine by decide), h⟩⟩
theorem htp4 {d0 d1 d2 d3 : D} : nTup.sem [d0, d1, d2, d3] S Q = Q (.tup [d0, d1, d2, d3]) S := by rw [sem_tup]; exact propext ⟨fun h => h.2, fun h => ⟨(show 4 ≤ sizeLine by decide), h⟩⟩
theorem hls4 {d0 d1 d2 d3 : D} : (nLst false).sem [d0, d1, d2, d3] S Q = Q (.lst [d0, d1, d2, d3]) S := by rw [sem_lst]; exact propext ⟨fun h => h.2, fun h => ⟨(show 4 ≤ sizeLine by decide), h⟩⟩
theorem htp5 {d0 d1 d2 d3 d4 : D} : nTup.sem [d0, d1, d2, d3, d4] S Q = Q (.tup [d0, d1, d2, d3, d4]) S := by rw [sem_tup]; exact propext ⟨fun h => h.2, fun h => ⟨(show 5 ≤ sizeLine by decide), h⟩⟩
theorem hls5 {d0 d1 d2 d3 d4 : D} : (nLst false).sem [d0, d1, d2, d3, d4] S Q = Q (.lst [d0, d1, d2, d3, d4]) S := by rw [sem_lst]; exact propext ⟨fun h => h.2, fun h => ⟨(show 5 ≤ sizeLine by decide), h⟩⟩
end
end
open PySem PySem.Spec L2
local macro_rules
  | `(tactic| simp_arith! [$ls,*]) => `(tactic| simp (maxSteps := 1000000) (disch := first | omega | assumption | (simp only [Sto.put_dk, Sto.del_dk]; assumption) | (simp only [List.length_map, List.length_append, List.length_cons, List.length_nil, List.length_zip, List.length_range, List.length_set, List.length_replicate, List.length_take, List.length_drop]; omega)) only [↓hv0, ↓hb0, ↓hl0, ↓ht0, ↓hv1, ↓hb1, ↓hl1, ↓ht1, ↓hv2, ↓hb2, ↓hl2, ↓ht2, ↓hv3, ↓hb3, ↓hl3, ↓ht3, ↓hv4, ↓hb4, ↓hl4, ↓ht4, ↓hv5, ↓hb5, ↓hl5, ↓ht5, ↓hv6, ↓hb6, ↓hl6, ↓ht6, ↓hv7, ↓hb7, ↓hl7, ↓ht7, ↓hv8, ↓hb8, ↓hl8, ↓ht8, ↓hv9, ↓hb9, ↓hl9, ↓ht9, ↓hv10, ↓hb10, ↓hl10, ↓ht10, ↓hv11, ↓hb11, ↓hl11, ↓ht11, ↓hv12, ↓hb12, ↓hl12, ↓ht12, ↓hv13, ↓hb13, ↓hl13, ↓ht13, ↓hv14, ↓hb14, ↓hl14, ↓ht14, ↓hv15, ↓hb15, ↓hl15, ↓ht15, ↓hv16, ↓hb16, ↓hl16, ↓ht16, ↓hv17, ↓hb17, ↓hl17, ↓ht17, ↓hv18, ↓hb18, ↓hl18, ↓ht18, ↓hv19, ↓hb19, ↓hl19, ↓ht19, ↓hv20, ↓hb20, ↓hl20, ↓ht20, ↓hv21, ↓hb21, ↓hl21, ↓ht21, ↓hv22, ↓hb22, ↓hl22, ↓ht22, ↓hv23, ↓hb23, ↓hl23, ↓ht23, ↓h_nd, ↓h_call, ↓h_glb, ↓h_kix, ↓h_mth, ↓h_cmp, ↓hT_cmp, ↓h_xn, ↓hT_xn, ↓hT_nd, ↓hT_call, ↓hT_not, ↓h_ite, ↓h_es0, ↓h_es, ↓h_asg, ↓h_expr, ↓h_ret, ↓h_retN, ↓h_ifs, ↓h_ss0, ↓h_ss, ↓h_exb, ↓h_trb, ↓h_tri, ↓hc_lt, ↓hc_le, ↓hc_gt, ↓hc_ge, ↓hc_eqI, ↓hc_neI, ↓hc_eqS, ↓hc_neS, ↓hc_eqB, ↓hc_neB, ↓hix_l0, ↓hix_t0, ↓hix_l1, ↓hix_t1, ↓hix_l2, ↓hix_t2, ↓hix_l3, ↓hix_t3, ↓hix_l4, ↓hix_t4, ↓htp0, ↓hls0, ↓htp1, ↓hls1, ↓htp2, ↓hls2, ↓htp3, ↓hls3, ↓htp4, ↓hls4, ↓htp5, ↓hls5, ↓sem_int, ↓sem_str, ↓sem_bl, ↓sem_non, ↓sem_sub, ↓sem_add, ↓sem_neg, ↓sem_tyInt, ↓sem_tyBool, ↓sem_tyTuple, ↓sem_tyList, ↓sem_tyStr, ↓sem_tyDict, ↓xpost_om, ↓xchk_om, ↓xend_om, ↓isI_thing, ↓true_and, wipeE, List.map_cons, List.map_nil, wSs, wS, wE, wEs, wAnd, wOr, wT, wAndT, wOrT, wTs, eI, Bool.false_eq_true, Bool.not_true, Bool.not_false, if_true, if_false, decide_true, decide_false, true_and, and_true, and_self, and_self_left, exists_const, exists_and_left, D.loc.injEq, O.lst.injEq, set_mapE, ixN_ok, Sto.put_same, put_del, put_put, const_eq, ite_self, tr_bl, tr_int, tr_tup, tr_lst, List.getElem?_cons_zero, List.getElem?_cons_succ,
    Option.some.injEq, exists_eq_left', exists_eq_left, D.bl.injEq, D.int.injEq, D.str.injEq, List.set_cons_zero, List.set_cons_succ, List.length_cons, List.length_nil, List.length_map, List.length_zip, List.length_range, List.length_range', List.replicate_succ, List.replicate_zero, List.cons_append, List.nil_append, List.append_nil, Nat.reduceAdd, Nat.reduceSub, Nat.add_one_sub_one, Nat.sub_self, Nat.zero_add, Nat.add_zero, decide_eq_true_eq,
    sem_tyInt, sem_tyBool, sem_tyTuple, sem_tyList, sem_tyStr, sem_tyDict, sem_int, sem_str, sem_bl, sem_non, sem_dic0, sem_isi, sem_sub, sem_mod, sem_fdiv, sem_neg, sem_add, sem_addT, sem_addL, sem_mul, sem_ix, sem_len, sem_tuple, sem_lst, sem_tup, sem_lstO, sem_intI, sem_intB, sem_listL, sem_listO, sem_lzip, sem_allM, sem_anyM, sem_sumM,
    cs_lt, cs_le, cs_gt, cs_ge, cs_eqI, cs_eqB, cs_eqS, cs_neI, cs_neB, cs_neS, cs_isB, cs_isNotB, cs_eqT0, cs_neT0, cs_isN, cs_isNN, cs_isIN, cs_isTN, cs_isLN, cs_notNN, cs_notIN, cs_notTN, cs_notLN,
    seqS_tup, seqS_lst, lstS_lst, lenS_tup, lenS_lst, stay_tup, stay_lst, sle, mul_ok1, mul_ok2, div_ok, newL_f, bind_nm, bind_tup, bind_unl, binds_nil, binds_cons, it_seqE, it_enumE, it_zipE, it_zip0T, it_zip0L, it_zip3E, it_rg1E, it_rg2E, isTup_tup, isTup_lst, seq_rowD, seq_tupI, seq_lstI, seq_rwsL, seq_rwsT, seq_lstE, seq_tupE, seq_prD, lst_lstI, lst_rwsL, lst_lstE, len_rowD, len_tupI, len_lstI, len_rwsL, len_rwsT, len_lstE, len_tupE, stay_rowD, stay_tupI, stay_lstI, stay_rwsL, stay_rwsT, stay_lstE, stay_tupE, stay_prD, ty_rowD, ty_tupI, ty_rwsT, ty_tupE, ty_lstI, ty_rwsL, ty_lstE, ty_prD, bind_prD, row_fold, row_fold1, row_fold2, pr_fold, tupI_fold, tupI_fold2, lstI_fold, lstI_fold2, rwsL_fold, rwsL_fold2, rwsT_fold, rwsT_fold2, sem_sumI, it_zipRR, it_zipTT, zipD_map, zip3D_map, enumD_map, rgD_nat, rgD_two, at0, at1, at2, atI_map,
    get_chk, get_sem, dsp_one, dsp_two, fld_prime, fld_count, fld_lot, isI_thing, isiD_thing, isiD_int, xchk_om, xchk_eq, xchk_ne, xchk_len, xchk_str, xend_om, xend_eq2, xend_ne2, xend_len1, xend_str1, xpost_om, xpost_eqb, xpost_neb, xpost_leni, xpost_strs, xpostT_om, xpostT_eqb, xpostT_neb, it_enumM, lcRun_map, lcRun2_map, lcT_pure, lcT_filter, lcT_filterP, mem_int, mem_bool, mem_str, mem_tuple, mem_list, ty_int, ty_tup, ty_lst, ty_bl, ty_str, ty_non, isT_ii, isT_ib, isT_tt, isT_ss, isT_bb, isT_ll, startE_eq, $ls,*])
  | `(tactic| simp_arith! [$ls,*] at $h:ident) => `(tactic| simp (maxSteps := 1000000) (disch := first | omega | assumption | (simp only [Sto.put_dk, Sto.del_dk]; assumption) | (simp only [List.length_map, List.length_append, List.length_cons, List.length_nil, List.length_zip, List.length_range, List.length_set, List.length_replicate, List.length_take, List.length_drop]; omega)) only [↓hv0, ↓hb0, ↓hl0, ↓ht0, ↓hv1, ↓hb1, ↓hl1, ↓ht1, ↓hv2, ↓hb2, ↓hl2, ↓ht2, ↓hv3, ↓hb3, ↓hl3, ↓ht3, ↓hv4, ↓hb4, ↓hl4, ↓ht4, ↓hv5, ↓hb5, ↓hl5, ↓ht5, ↓hv6, ↓hb6, ↓hl6, ↓ht6, ↓hv7, ↓hb7, ↓hl7, ↓ht7, ↓hv8, ↓hb8, ↓hl8, ↓ht8, ↓hv9, ↓hb9, ↓hl9, ↓ht9, ↓hv10, ↓hb10, ↓hl10, ↓ht10, ↓hv11, ↓hb11, ↓hl11, ↓ht11, ↓hv12, ↓hb12, ↓hl12, ↓ht12, ↓hv13, ↓hb13, ↓hl13, ↓ht13, ↓hv14, ↓hb14, ↓hl14, ↓ht14, ↓hv15, ↓hb15, ↓hl15, ↓ht15, ↓hv16, ↓hb16, ↓hl16, ↓ht16, ↓hv17, ↓hb17, ↓hl17, ↓ht17, ↓hv18, ↓hb18, ↓hl18, ↓ht18, ↓hv19, ↓hb19, ↓hl19, ↓ht19, ↓hv20, ↓hb20, ↓hl20, ↓ht20, ↓hv21, ↓hb21, ↓hl21, ↓ht21, ↓hv22, ↓hb22, ↓hl22, ↓ht22, ↓hv23, ↓hb23, ↓hl23, ↓ht23, ↓h_nd, ↓h_call, ↓h_glb, ↓h_kix, ↓h_mth, ↓h_cmp, ↓hT_cmp, ↓h_xn, ↓hT_xn, ↓hT_nd, ↓hT_call, ↓hT_not, ↓h_ite, ↓h_es0, ↓h_es, ↓h_asg, ↓h_expr, ↓h_ret, ↓h_retN, ↓h_ifs, ↓h_ss0, ↓h_ss, ↓h_exb, ↓h_trb, ↓h_tri, ↓hc_lt, ↓hc_le, ↓hc_gt, ↓hc_ge, ↓hc_eqI, ↓hc_neI, ↓hc_eqS, ↓hc_neS, ↓hc_eqB, ↓hc_neB, ↓hix_l0, ↓hix_t0, ↓hix_l1, ↓hix_t1, ↓hix_l2, ↓hix_t2, ↓hix_l3, ↓hix_t3, ↓hix_l4, ↓hix_t4, ↓htp0, ↓hls0, ↓htp1, ↓hls1, ↓htp2, ↓hls2, ↓htp3, ↓hls3, ↓htp4, ↓hls4, ↓htp5, ↓hls5, ↓sem_int, ↓sem_str, ↓sem_bl, ↓sem_non, ↓sem_sub, ↓sem_add, ↓sem_neg, ↓sem_tyInt, ↓sem_tyBool, ↓sem_tyTuple, ↓sem_tyList, ↓sem_tyStr, ↓sem_tyDict, ↓xpost_om, ↓xchk_om, ↓xend_om, ↓isI_thing, ↓true_and, wipeE, List.map_cons, List.map_nil, wSs, wS, wE, wEs, wAnd, wOr, wT, wAndT, wOrT, wTs, eI, Bool.false_eq_true, Bool.not_true, Bool.not_false, if_true, if_false, decide_true, decide_false, true_and, and_true, and_self, and_self_left, exists_const, exists_and_left, D.loc.injEq, O.lst.injEq, set_mapE, ixN_ok, Sto.put_same, put_del, put_put, const_eq, ite_self, tr_bl, tr_int, tr_tup, tr_lst, List.getElem?_cons_zero, List.getElem?_cons_succ,
    Option.some.injEq, exists_eq_left', exists_eq_left, D.bl.injEq, D.int.injEq, D.str.injEq, List.set_cons_zero, List.set_cons_succ, List.length_cons, List.length_nil, List.length_map, List.length_zip, List.length_range, List.length_range', List.replicate_succ, List.replicate_zero, List.cons_append, List.nil_append, List.append_nil, Nat.reduceAdd, Nat.reduceSub, Nat.add_one_sub_one, Nat.sub_self, Nat.zero_add, Nat.add_zero, decide_eq_true_eq,
    sem_tyInt, sem_tyBool, sem_tyTuple, sem_tyList, sem_tyStr, sem_tyDict, sem_int, sem_str, sem_bl, sem_non, sem_dic0, sem_isi, sem_sub, sem_mod, sem_fdiv, sem_neg, sem_add, sem_addT, sem_addL, sem_mul, sem_ix, sem_len, sem_tuple, sem_lst, sem_tup, sem_lstO, sem_intI, sem_intB, sem_listL, sem_listO, sem_lzip, sem_allM, sem_anyM, sem_sumM,
    cs_lt, cs_le, cs_gt, cs_ge, cs_eqI, cs_eqB, cs_eqS, cs_neI, cs_neB, cs_neS, cs_isB, cs_isNotB, cs_eqT0, cs_neT0, cs_isN, cs_isNN, cs_isIN, cs_isTN, cs_isLN, cs_notNN, cs_notIN, cs_notTN, cs_notLN,
    seqS_tup, seqS_lst, lstS_lst, lenS_tup, lenS_lst, stay_tup, stay_lst, sle, mul_ok1, mul_ok2, div_ok, newL_f, bind_nm, bind_tup, bind_unl, binds_nil, binds_cons, it_seqE, it_enumE, it_zipE, it_zip0T, it_zip0L, it_zip3E, it_rg1E, it_rg2E, isTup_tup, isTup_lst, seq_rowD, seq_tupI, seq_lstI, seq_rwsL, seq_rwsT, seq_lstE, seq_tupE, seq_prD, lst_lstI, lst_rwsL, lst_lstE, len_rowD, len_tupI, len_lstI, len_rwsL, len_rwsT, len_lstE, len_tupE, stay_rowD, stay_tupI, stay_lstI, stay_rwsL, stay_rwsT, stay_lstE, stay_tupE, stay_prD, ty_rowD, ty_tupI, ty_rwsT, ty_tupE, ty_lstI, ty_rwsL, ty_lstE, ty_prD, bind_prD, row_fold, row_fold1, row_fold2, pr_fold, tupI_fold, tupI_fold2, lstI_fold, lstI_fold2, rwsL_fold, rwsL_fold2, rwsT_fold, rwsT_fold2, sem_sumI, it_zipRR, it_zipTT, zipD_map, zip3D_map, enumD_map, rgD_nat, rgD_two, at0, at1, at2, atI_map,
    get_chk, get_sem, dsp_one, dsp_two, fld_prime, fld_count, fld_lot, isI_thing, isiD_thing, isiD_int, xchk_om, xchk_eq, xchk_ne, xchk_len, xchk_str, xend_om, xend_eq2, xend_ne2, xend_len1, xend_str1, xpost_om, xpost_eqb, xpost_neb, xpost_leni, xpost_strs, xpostT_om, xpostT_eqb, xpostT_neb, it_enumM, lcRun_map, lcRun2_map, lcT_pure, lcT_filter, lcT_filterP, mem_int, mem_bool, mem_str, mem_tuple, mem_list, ty_int, ty_tup, ty_lst, ty_bl, ty_str, ty_non, isT_ii, isT_ib, isT_tt, isT_ss, isT_bb, isT_ll, startE_eq, $ls,*] at $h:ident)
open PySem PySem.Spec L2
local macro_rules
  | `(tactic| simp_arith! [$ls,*]) => `(tactic| simp (maxSteps := 1000000) (disch := first | omega | assumption | (simp only [Sto.put_dk, Sto.del_dk]; assumption) | (simp only [List.length_map, List.length_append, List.length_cons, List.length_nil, List.length_zip, List.length_range, List.length_set, List.length_replicate, List.length_take, List.length_drop]; omega)) only [wipeE, List.map_cons, List.map_nil, wSs, wS, wE, wEs, wAnd, wOr, wT, wAndT, wOrT, wTs, eI, Bool.false_eq_true, Bool.not_true, Bool.not_false, if_true, if_false, decide_true, decide_false, true_and, and_true, and_self, and_self_left, exists_const, exists_and_left, D.loc.injEq, O.lst.injEq, set_mapE, ixN_ok, Sto.put_same, put_del, put_put, const_eq, ite_self, tr_bl, tr_int, tr_tup, tr_lst, List.getElem?_cons_zero, List.getElem?_cons_succ,
    Option.some.injEq, exists_eq_left', exists_eq_left, D.bl.injEq, D.int.injEq, D.str.injEq, List.set_cons_zero, List.set_cons_succ, List.length_cons, List.length_nil, List.length_map, List.length_zip, List.length_range, List.length_range', List.replicate_succ, List.replicate_zero, List.cons_append, List.nil_append, List.append_nil, Nat.reduceAdd, Nat.reduceSub, Nat.add_one_sub_one, Nat.sub_self, Nat.zero_add, Nat.add_zero, decide_eq_true_eq,
    sem_tyInt, sem_tyBool, sem_tyTuple, sem_tyList, sem_tyStr, sem_tyDict, sem_int, sem_str, sem_bl, sem_non, sem_dic0, sem_isi, sem_sub, sem_mod, sem_fdiv, sem_neg, sem_add, sem_addT, sem_addL, sem_mul, sem_ix, sem_len, sem_tuple, sem_lst, sem_tup, sem_lstO, sem_intI, sem_intB, sem_listL, sem_listO, sem_lzip, sem_allM, sem_anyM, sem_sumM,
    cs_lt, cs_le, cs_gt, cs_ge, cs_eqI, cs_eqB, cs_eqS, cs_neI, cs_neB, cs_neS, cs_isB, cs_isNotB, cs_eqT0, cs_neT0, cs_isN, cs_isNN, cs_isIN, cs_isTN, cs_isLN, cs_notNN, cs_notIN, cs_notTN, cs_notLN,
    seqS_tup, seqS_lst, lstS_lst, lenS_tup, lenS_lst, stay_tup, stay_lst, sle, mul_ok1, mul_ok2, div_ok, newL_f, bind_nm, bind_tup, bind_unl, binds_nil, binds_cons, it_seqE, it_enumE, it_zipE, it_zip0T, it_zip0L, it_zip3E, it_rg1E, it_rg2E, isTup_tup, isTup_lst, seq_rowD, seq_tupI, seq_lstI, seq_rwsL, seq_rwsT, seq_lstE, seq_tupE, seq_prD, lst_lstI, lst_rwsL, lst_lstE, len_rowD, len_tupI, len_lstI, len_rwsL, len_rwsT, len_lstE, len_tupE, stay_rowD, stay_tupI, stay_lstI, stay_rwsL, stay_rwsT, stay_lstE, stay_tupE, stay_prD, ty_rowD, ty_tupI, ty_rwsT, ty_tupE, ty_lstI, ty_rwsL, ty_lstE, ty_prD, bind_prD, row_fold, row_fold1, row_fold2, pr_fold, tupI_fold, tupI_fold2, lstI_fold, lstI_fold2, rwsL_fold, rwsL_fold2, rwsT_fold, rwsT_fold2, sem_sumI, it_zipRR, it_zipTT, zipD_map, zip3D_map, enumD_map, rgD_nat, rgD_two, at0, at1, at2, atI_map,
    get_chk, get_sem, dsp_one, dsp_two, fld_prime, fld_count, fld_lot, isI_thing, isiD_thing, isiD_int, xchk_om, xchk_eq, xchk_ne, xchk_len, xchk_str, xend_om, xend_eq2, xend_ne2, xend_len1, xend_str1, xpost_om, xpost_eqb, xpost_neb, xpost_leni, xpost_strs, xpostT_om, xpostT_eqb, xpostT_neb, it_enumM, lcRun_map, lcRun2_map, lcT_pure, lcT_filter, lcT_filterP, mem_int, mem_bool, mem_str, mem_tuple, mem_list, ty_int, ty_tup, ty_lst, ty_bl, ty_str, ty_non, isT_ii, isT_ib, isT_tt, isT_ss, isT_bb, isT_ll, startE_eq, $ls,*])
  | `(tactic| simp_arith! [$ls,*] at $h:ident) => `(tactic| simp (maxSteps := 1000000) (disch := first | omega | assumption | (simp only [Sto.put_dk, Sto.del_dk]; assumption) | (simp only [List.length_map, List.length_append, List.length_cons, List.length_nil, List.length_zip, List.length_range, List.length_set, List.length_replicate, List.length_take, List.length_drop]; omega)) only [wipeE, List.map_cons, List.map_nil, wSs, wS, wE, wEs, wAnd, wOr, wT, wAndT, wOrT, wTs, eI, Bool.false_eq_true, Bool.not_true, Bool.not_false, if_true, if_false, decide_true, decide_false, true_and, and_true, and_self, and_self_left, exists_const, exists_and_left, D.loc.injEq, O.lst.injEq, set_mapE, ixN_ok, Sto.put_same, put_del, put_put, const_eq, ite_self, tr_bl, tr_int, tr_tup, tr_lst, List.getElem?_cons_zero, List.getElem?_cons_succ,
    Option.some.injEq, exists_eq_left', exists_eq_left, D.bl.injEq, D.int.injEq, D.str.injEq, List.set_cons_zero, List.set_cons_succ, List.length_cons, List.length_nil, List.length_map, List.length_zip, List.length_range, List.length_range', List.replicate_succ, List.replicate_zero, List.cons_append, List.nil_append, List.append_nil, Nat.reduceAdd, Nat.reduceSub, Nat.add_one_sub_one, Nat.sub_self, Nat.zero_add, Nat.add_zero, decide_eq_true_eq,
    sem_tyInt, sem_tyBool, sem_tyTuple, sem_tyList, sem_tyStr, sem_tyDict, sem_int, sem_str, sem_bl, sem_non, sem_dic0, sem_isi, sem_sub, sem_mod, sem_fdiv, sem_neg, sem_add, sem_addT, sem_addL, sem_mul, sem_ix, sem_len, sem_tuple, sem_lst, sem_tup, sem_lstO, sem_intI, sem_intB, sem_listL, sem_listO, sem_lzip, sem_allM, sem_anyM, sem_sumM,
    cs_lt, cs_le, cs_gt, cs_ge, cs_eqI, cs_eqB, cs_eqS, cs_neI, cs_neB, cs_neS, cs_isB, cs_isNotB, cs_eqT0, cs_neT0, cs_isN, cs_isNN, cs_isIN, cs_isTN, cs_isLN, cs_notNN, cs_notIN, cs_notTN, cs_notLN,
    seqS_tup, seqS_lst, lstS_lst, lenS_tup, lenS_lst, stay_tup, stay_lst, sle, mul_ok1, mul_ok2, div_ok, newL_f, bind_nm, bind_tup, bind_unl, binds_nil, binds_cons, it_seqE, it_enumE, it_zipE, it_zip0T, it_zip0L, it_zip3E, it_rg1E, it_rg2E, isTup_tup, isTup_lst, seq_rowD, seq_tupI, seq_lstI, seq_rwsL, seq_rwsT, seq_lstE, seq_tupE, seq_prD, lst_lstI, lst_rwsL, lst_lstE, len_rowD, len_tupI, len_lstI, len_rwsL, len_rwsT, len_lstE, len_tupE, stay_rowD, stay_tupI, stay_lstI, stay_rwsL, stay_rwsT, stay_lstE, stay_tupE, stay_prD, ty_rowD, ty_tupI, ty_rwsT, ty_tupE, ty_lstI, ty_rwsL, ty_lstE, ty_prD, bind_prD, row_fold, row_fold1, row_fold2, pr_fold, tupI_fold, tupI_fold2, lstI_fold, lstI_fold2, rwsL_fold, rwsL_fold2, rwsT_fold, rwsT_fold2, sem_sumI, it_zipRR, it_zipTT, zipD_map, zip3D_map, enumD_map, rgD_nat, rgD_two, at0, at1, at2, atI_map,
    get_chk, get_sem, dsp_one, dsp_two, fld_prime, fld_count, fld_lot, isI_thing, isiD_thing, isiD_int, xchk_om, xchk_eq, xchk_ne, xchk_len, xchk_str, xend_om, xend_eq2, xend_ne2, xend_len1, xend_str1, xpost_om, xpost_eqb, xpost_neb, xpost_leni, xpost_strs, xpostT_om, xpostT_eqb, xpostT_neb, it_enumM, lcRun_map, lcRun2_map, lcT_pure, lcT_filter, lcT_filterP, mem_int, mem_bool, mem_str, mem_tuple, mem_list, ty_int, ty_tup, ty_lst, ty_bl, ty_str, ty_non, isT_ii, isT_ib, isT_tt, isT_ss, isT_bb, isT_ll, startE_eq, $ls,*] at $h:ident)
section
open PySem PySem.Spec L2 PyProof.Rows
section
variable {P : Program} {w : World} {A : Around} {E : Value → Shared → Prop} {s : Shared}
theorem call_set_lstI {l : Addr} {items : Array Value} (ns : List Int) {Q : Value → Shared → Prop} (hh : A.handled = none) (hl : s.heap.IsList l items) (hit : IntsAre items.toList ns) (hb : ns.length + 1 < scanBound)
    (h : ∀ (h' : Heap) (tk c : Nat), SetR w h' s.heap.objs.size (fun j => decide (j ∈ ns)) c → c ≤ ns.length → (∀ b o, s.heap.get? b = some o → h'.get? b = some o) → Q (.ref s.heap.objs.size) { s with heap := h', toks := tk }) :
    wpAny (model P w) A (PySem.call (.type "set") [.ref l]) Q E s := by
  have hisz : items.size = ns.length := by
    have q := IntsAre.length hit
    rw [Array.length_toList] at q
    exact q
  obtain ⟨c, tl, hmro⟩ := F.called_set.mro
  have hmade := F.called_set.made
  have hsub := F.called_set.sub
  refine wpAny_call (codeAny_of_tree ?_)
  show wpAny _ _ (callAny (.type "set") _) _ _ _
  refine wpAny_pure ⟨Code.quiet_builtin _ (by decide +kernel), codeAny_builtin F.entry_type_call ?_⟩
  rw [Around.under_plain (weight_type_call_type "set" [.ref l] []) rfl]
  have h1 := F.called_set.notType
  have h2 := F.called_set.canCreate
  have hct := F.typeCall_set_1 (.ref l)
  repeat (any_goals (first | assumption | wp_step))
  refine codeAny_mono (code_set_led1 (.ref l) (E := E) (Q₁ := fun obj s₁ => obj = .ref s.heap.objs.size ∧ s₁ = { s with heap := s.heap.push { cls := .type "set", dict := none, data := .set #[] 0 (.fresh 0 0 (!w.params.followText "set-order")) } }) ⟨rfl, rfl⟩) fun r s₁ hr => ?_
  cases r with
  | error e => exact hr
  | ok fl =>
    cases fl with
    | ret obj =>
      obtain ⟨rfl, rfl⟩ := hr
      have hS : (s.heap.push { cls := .type "set", dict := none, data := .set #[] 0 (.fresh 0 0 (!w.params.followText "set-order")) }).get? s.heap.objs.size = some { cls := .type "set", dict := none, data := .set #[] 0 (.fresh 0 0 (!w.params.followText "set-order")) } := Heap.get?_push_size _ rfl
      have hT : Shared.TypeIs { s with heap := s.heap.push { cls := .type "set", dict := none, data := .set #[] 0 (.fresh 0 0 (!w.params.followText "set-order")) } } (.ref s.heap.objs.size) "set" := ⟨_, hS, rfl⟩
      have hli := F.called_set.init.lookup
      have hbi := F.called_set.init.bind (.ref s.heap.objs.size)
      repeat (any_goals (first | assumption | wp_step))
      refine codeAny_mono (codeAny_call_builtin (R := wants (fun r s₂ => r = .none ∧ ∃ h' tk c, s₂ = { s with heap := h', toks := tk } ∧ SetR w h' s.heap.objs.size (fun j => decide (j ∈ ns)) c ∧ c ≤ ns.length ∧
          (∀ b o, s.heap.get? b = some o → h'.get? b = some o)) E) F.called_set.init.plain F.entry_set_init (check_set_init_1 hT ?_)) fun r₂ s₂ hr₂ => ?_
      · obtain ⟨ol, hol, hcl, nl, hdl⟩ := hl
        obtain ⟨ocls, odict, odata, oslots⟩ := ol
        simp only at hcl hdl
        subst hcl; subst hdl
        have hol' : (s.heap.push { cls := .type "set", dict := none, data := .set #[] 0 (.fresh 0 0 (!w.params.followText "set-order")) }).get? l = some { cls := .type "list", dict := odict, data := .seq items nl, slots := oslots } := Heap.get?_push_of_some _ hol
        have hsls := F.sub_list_set
        have hslf := F.sub_list_frozenset
        have hne : (Value.type "list" == Value.type "dict") = false := by decide
        have hl1 : (s.heap.push { cls := .type "set", dict := none, data := .set #[] 0 (.fresh 0 0 (!w.params.followText "set-order")) }).IsList l items := ⟨_, hol', rfl, nl, rfl⟩
        unfold Builtin.«set.__init__» noKeywords Builtin.Frozenset.updateFrom
        generalize hPI : pyIter = PI
        wp_walk
        subst hPI
        refine wpAny_pyIter_list hl1 ?_
        refine wpAny_bind (wpAny_runValue ?_)
        have hlS : l < s.heap.objs.size := Heap.lt_size hol
        have hh3 : A.in1.in1.in1.handled = none := by simp [hh]
        have hz1 : (s.heap.push { cls := .type "set", dict := none, data := .set #[] 0 (.fresh 0 0 (!w.params.followText "set-order")) }).objs.size = s.heap.objs.size + 1 := Heap.size_push ..
        have hneI : l ≠ (s.heap.push { cls := .type "set", dict := none, data := .set #[] 0 (.fresh 0 0 (!w.params.followText "set-order")) }).objs.size := by
          rw [Heap.size_push]; exact Nat.ne_of_lt (Nat.lt_succ_of_lt hlS)
        have hSf : s.heap.objs.size ∉ [(s.heap.push { cls := .type "set", dict := none, data := .set #[] 0 (.fresh 0 0 (!w.params.followText "set-order")) }).objs.size, l] := by
          rw [Heap.size_push]; simp only [List.mem_cons, List.mem_singleton, List.not_mem_nil, or_false, not_or]
          exact ⟨Nat.ne_of_lt (Nat.lt_succ_self _), Nat.ne_of_gt hlS⟩
        have hval : ∀ (i : Nat) (v : Value), items[i]? = some v → ∃ k t, ns[i]? = some k ∧ v = .int k t := fun i v hv => by
          have hi : i < ns.length := by rw [← hisz]; exact (Array.getElem?_eq_some_iff.mp hv).1
          obtain ⟨t, e⟩ := PyProof.Rows.IntsAre.int_at hit i v (by rw [Array.getElem?_toList]; exact hv)
          refine ⟨ns[i], t, List.getElem?_eq_getElem hi, ?_⟩
          rw [e, List.getD_eq_getElem?_getD, List.getElem?_eq_getElem hi] <;> rfl
        refine set_update_ints ((Walks.list hh3 _ l hneI items).toS) s.heap.objs.size
          hSf ns hisz hb hval (items.size - 0) 0 _ (by omega) (Nat.zero_le _)
          ⟨⟨_, Heap.get?_push_size _ rfl, rfl, rfl⟩, (hl1.push _)⟩ ?hS0 ?hR
        case hS0 =>
          have hget : ((s.heap.push { cls := .type "set", dict := none, data := .set #[] 0 (.fresh 0 0 (!w.params.followText "set-order")) }).push { cls := .type "list_iterator", data := .fields #[.ref l, .int 0 0] }).get? s.heap.objs.size
              = some { cls := .type "set", dict := none, data := .set #[] 0 (.fresh 0 0 (!w.params.followText "set-order")) } := Heap.get?_push_of_some _ hS
          exact ⟨0, Nat.le_refl 0, setR_new_at hget⟩
        case hR =>
          intro s' c' hm hc' hS'
          obtain ⟨h', g2, d', tk', os'⟩ := s'
          have eg : g2 = s.gens := hm.gens
          have ed : d' = s.drawn := hm.drawn
          have eo : os' = s.os := hm.os
          subst eg; subst ed; subst eo
          show wpAny _ _ _ _ _ _
          refine wpAny_pure ?_
          show wpAny _ _ (ret Value.none) _ _ _
          rw [hisz] at hc'
          refine wpAny_pure ⟨rfl, h', tk', c', rfl, hS', hc', fun b o e => ?_⟩
          have hb0 : b < s.heap.objs.size := Heap.lt_size e
          have hb1 : b ≠ s.heap.objs.size := Nat.ne_of_lt hb0
          have hb2 : b ≠ (s.heap.push { cls := .type "set", dict := none, data := .set #[] 0 (.fresh 0 0 (!w.params.followText "set-order")) }).objs.size := by
            rw [Heap.size_push]; exact Nat.ne_of_lt (Nat.lt_succ_of_lt hb0)
          exact hm.heap b o (by simp only [List.mem_cons, List.mem_singleton, List.not_mem_nil, or_false, not_or]; exact ⟨hb1, hb2⟩) (Heap.get?_push_of_some _ (Heap.get?_push_of_some _ e))
      · cases r₂ with
        | error e => exact hr₂
        | ok fl₂ =>
          cases fl₂ with
          | ret r =>
            obtain ⟨rfl, h', tk, c', rfl, hS', hc', hk'⟩ := hr₂
            repeat (any_goals (first | assumption | wp_step))
            exact h _ _ _ hS' hc' hk'
          | _ => exact hr₂.elim
    | _ => exact hr.elim
end
section
variable {X : Cx}
def rSetI (K : PySem.W.Frag) (w : World) : List V → Hp → VK → Prop := fun xs H Q => ∃ (l : Addr) (ns : List Int), xs = [.ref l] ∧ (SqL K H l (ns.map V.int) ∨ SqT K H l (ns.map V.int)) ∧ ns.length < 62 ∧
  ∀ p c, H p = none → c ≤ ns.length → Q (.ref p) (upd H p (SetO w p (fun j => decide (j ∈ ns)) c))
theorem cr_setI (hc : X.calm = true) : CallR X (.type "set") (rSetI X.K X.w) := by
  intro pins s σ H xs us Q I r h
  obtain ⟨l, ns, rfl, hq, hl, q⟩ := h
  have hd := I.ok.hd hc
  rw [Vals.ref1 r]
  rcases hq with hq | hq
  · obtain ⟨its, rv, pt, hz⟩ := I.list hq
    have hi : IntsAre its.toArray.toList ns := ints_of_vals rv
    refine call_set_lstI ns hd (show s.heap.IsList l its.toArray from pt.isList) hi (by unfold scanBound; omega) fun h' tk c R1 hcn k => ?_
    exact ⟨.ref _, upd H s.heap.objs.size (SetO X.w s.heap.objs.size (fun j => decide (j ∈ ns)) c), I.laid (t' := tk) k (Nat.le_refl _) (setO_new R1), rfl, q _ c (I.hok.fresh (Nat.le_refl _)) hcn⟩
  · obtain ⟨its, rv, pt, hz⟩ := I.tuple hq
    have hi : IntsAre its.toArray.toList ns := ints_of_vals rv
    refine call_set_tupI ns hd (show s.heap.IsTuple l its.toArray from pt) hi (by unfold scanBound; omega) fun h' tk c R1 hcn k => ?_
    exact ⟨.ref _, upd H s.heap.objs.size (SetO X.w s.heap.objs.size (fun j => decide (j ∈ ns)) c), I.laid (t' := tk) k (Nat.le_refl _) (setO_new R1), rfl, q _ c (I.hok.fresh (Nat.le_refl _)) hcn⟩
end
/-- sorted(set(x)) -/
def ssSh : Scope → Expr → Option (List Expr) := fun sc e => match e with
  | .Call (.Name y _) [.Call (.Name z _) [a] [] _] [] _ => if (decide (y = ("sorted" : Str)) && (decide (z = ("set" : Str)) && (glB sc y && (glB sc z && notStar a)))) = true then some [a] else none
  | _ => none
def sSortS (o : Bool) : List D → Sto → PostE → Prop := fun ds S Q => ∃ (d : D) (ns : List Int), ds = [d] ∧ seqS S d = some (ns.map D.int) ∧ ns.length < 62 ∧ ∀ ms : List Int, ms.Pairwise (· < ·) → (∀ k, k ∈ ms ↔ k ∈ ns) → newL o (ms.map D.int) S Q
theorem ss_ok (o : Bool) (X : Cx) (e : Expr) (es : List Expr) (ts : List TE) (A : Amb X) (h : ssSh X.env.scope e = some es) (p : PEs X es ts) : PE X e (tNd X.K (sSortS o) 0 ts) := by
  unfold ssSh at h
  split at h
  · split at h
    · rename_i c
      simp only [Bool.and_eq_true, decide_eq_true_eq] at c
      obtain ⟨rfl, rfl, g1, g2, na⟩ := c
      cases h
      cases p with
      | cons n m p1 p =>
        cases p
        refine (pe_callB (cr_sortedSet A.calm) (glB_ok g1) (A.fr _ (by decide +kernel)) (by decide +kernel) (pa_cons (pe_callTy (cr_setI A.calm) (glB_ok g2) (A.fr _ (by decide +kernel)) PyProof.Rows.boot_set (PEs.cons n m p1 .nil).pa (by decide +kernel) (by decide +kernel) (star_cons n) rfl) pa_nil rfl) (by decide +kernel) (by decide +kernel) rfl rfl).of fun σ H Q q => ?_
        refine m _ _ _ _ (fun v H1 q => ?_) q
        obtain ⟨pv, ds, S, Hd, M, Qd, rl, sr, hc, w, fin⟩ := q
        obtain ⟨d, ns, rfl, hl, few, w⟩ := w
        obtain ⟨v', ev, r⟩ := rl.one
        cases ev
        obtain ⟨a, us, rfl, rl', st⟩ := seq_any sr r hl
        rw [rl'.ints] at st
        refine ⟨a, ns, rfl, st, few, fun p c hp hcn => ⟨p, fun j => decide (j ∈ ns), c, rfl, upd_same, by omega, fun ms p2 pw mem ln hp2 => ?_⟩⟩
        have mv : Mv pv Hd H1 Hd (upd H1 p (SetO X.w p (fun j => decide (j ∈ ns)) c)) := .newH sr hp
        exact fin_lst (fun d S' Hd' H' v m2 => fin d S' Hd' H' v (mv.trans m2)) (sr.junk hp) (.of_ints ms) (w ms pw fun k => (mem k).trans decide_eq_true_iff) hp2
    · cases h
  · cases h
theorem ss_pl (sc : Scope) (e : Expr) (es : List Expr) (h : ssSh sc e = some es) : plainE e = true := by
  unfold ssSh at h
  split at h
  · rfl
  · cases h
def nSortSet (o : Bool) : Node := .plain ssSh (sSortS o) ss_pl (ss_ok o)
section
variable {S : Sto} {Q : PostE} {ns ms : List Int}
theorem lt_same : ∀ {a b : List Int}, a.Pairwise (· < ·) → b.Pairwise (· < ·) → (∀ x, x ∈ a ↔ x ∈ b) → a = b := fun {a b} ha hb h => by
  have na : a.Nodup := ha.imp fun h => by omega
  have nb : b.Nodup := hb.imp fun h => by omega
  have pm : a.Perm b := (List.perm_ext_iff_of_nodup na nb).mpr h
  exact pm.eq_of_pairwise (le := (· < ·)) (fun x y _ _ h1 h2 => by omega) ha hb
/-- sorted(set(x)) is the one rising list -/
theorem sort_set {d : D} (h : seqS S d = some (ns.map D.int)) (few : ns.length < 62) (pw : ms.Pairwise (· < ·)) (mem : ∀ k, k ∈ ms ↔ k ∈ ns) : (nSortSet false).sem [d] S Q = Q (lstI ms) S := by
  refine propext ⟨fun ⟨d', ns', e, h', _, w⟩ => ?_, fun q => ⟨d, ns, rfl, h, few, fun ms' pw' mem' => ?_⟩⟩
  · cases e
    rw [h] at h'
    have e : ns = ns' := (List.map_inj_right fun a b h => by cases h; rfl).mp (Option.some.inj h')
    subst e
    exact w ms pw mem
  · have e : ms' = ms := lt_same pw' pw fun x => (mem' x).trans (mem x).symm
    subst e
    exact q
end
end
open PySem PySem.Spec L2
local macro_rules
  | `(tactic| simp_arith! [$ls,*]) => `(tactic| simp (maxSteps := 1000000) (disch := first | omega | assumption | (simp only [Sto.put_dk, Sto.del_dk]; assumption) | (simp only [List.length_map, List.length_append, List.length_cons, List.length_nil, List.length_zip, List.length_range, List.length_set, List.length_replicate, List.length_take, List.length_drop]; omega)) only [↓hv0, ↓hb0, ↓hl0, ↓ht0, ↓hv1, ↓hb1, ↓hl1, ↓ht1, ↓hv2, ↓hb2, ↓hl2, ↓ht2, ↓hv3, ↓hb3, ↓hl3, ↓ht3, ↓hv4, ↓hb4, ↓hl4, ↓ht4, ↓hv5, ↓hb5, ↓hl5, ↓ht5, ↓hv6, ↓hb6, ↓hl6, ↓ht6, ↓hv7, ↓hb7, ↓hl7, ↓ht7, ↓hv8, ↓hb8, ↓hl8, ↓ht8, ↓hv9, ↓hb9, ↓hl9, ↓ht9, ↓hv10, ↓hb10, ↓hl10, ↓ht10, ↓hv11, ↓hb11, ↓hl11, ↓ht11, ↓hv12, ↓hb12, ↓hl12, ↓ht12, ↓hv13, ↓hb13, ↓hl13, ↓ht13, ↓hv14, ↓hb14, ↓hl14, ↓ht14, ↓hv15, ↓hb15, ↓hl15, ↓ht15, ↓hv16, ↓hb16, ↓hl16, ↓ht16, ↓hv17, ↓hb17, ↓hl17, ↓ht17, ↓hv18, ↓hb18, ↓hl18, ↓ht18, ↓hv19, ↓hb19, ↓hl19, ↓ht19, ↓hv20, ↓hb20, ↓hl20, ↓ht20, ↓hv21, ↓hb21, ↓hl21, ↓ht21, ↓hv22, ↓hb22, ↓hl22, ↓ht22, ↓hv23, ↓hb23, ↓hl23, ↓ht23, ↓h_nd, ↓h_call, ↓h_glb, ↓h_kix, ↓h_mth, ↓h_cmp, ↓hT_cmp, ↓h_xn, ↓hT_xn, ↓hT_nd, ↓hT_call, ↓hT_not, ↓h_ite, ↓h_es0, ↓h_es, ↓h_asg, ↓h_expr, ↓h_ret, ↓h_retN, ↓h_ifs, ↓h_ss0, ↓h_ss, ↓h_exb, ↓h_trb, ↓h_tri, ↓hc_lt, ↓hc_le, ↓hc_gt, ↓hc_ge, ↓hc_eqI, ↓hc_neI, ↓hc_eqS, ↓hc_neS, ↓hc_eqB, ↓hc_neB, ↓hix_l0, ↓hix_t0, ↓hix_l1, ↓hix_t1, ↓hix_l2, ↓hix_t2, ↓hix_l3, ↓hix_t3, ↓hix_l4, ↓hix_t4, ↓htp0, ↓hls0, ↓htp1, ↓hls1, ↓htp2, ↓hls2, ↓htp3, ↓hls3, ↓htp4, ↓hls4, ↓htp5, ↓hls5, ↓sem_int, ↓sem_str, ↓sem_bl, ↓sem_non, ↓sem_sub, ↓sem_add, ↓sem_neg, ↓sem_tyInt, ↓sem_tyBool, ↓sem_tyTuple, ↓sem_tyList, ↓sem_tyStr, ↓sem_tyDict, ↓xpost_om, ↓xchk_om, ↓xend_om, ↓isI_thing, ↓true_and, wipeE, List.map_cons, List.map_nil, wSs, wS, wE, wEs, wAnd, wOr, wT, wAndT, wOrT, wTs, eI, Bool.false_eq_true, Bool.not_true, Bool.not_false, if_true, if_false, decide_true, decide_false, true_and, and_true, and_self, and_self_left, exists_const, exists_and_left, D.loc.injEq, O.lst.injEq, set_mapE, ixN_ok, Sto.put_same, put_del, put_put, const_eq, ite_self, tr_bl, tr_int, tr_tup, tr_lst, List.getElem?_cons_zero, List.getElem?_cons_succ,
    Option.some.injEq, exists_eq_left', exists_eq_left, D.bl.injEq, D.int.injEq, D.str.injEq, List.set_cons_zero, List.set_cons_succ, List.length_cons, List.length_nil, List.length_map, List.length_zip, List.length_range, List.length_range', List.replicate_succ, List.replicate_zero, List.cons_append, List.nil_append, List.append_nil, Nat.reduceAdd, Nat.reduceSub, Nat.add_one_sub_one, Nat.sub_self, Nat.zero_add, Nat.add_zero, decide_eq_true_eq,
    sem_tyInt, sem_tyBool, sem_tyTuple, sem_tyList, sem_tyStr, sem_tyDict, sem_int, sem_str, sem_bl, sem_non, sem_dic0, sem_isi, sem_sub, sem_mod, sem_fdiv, sem_neg, sem_add, sem_addT, sem_addL, sem_mul, sem_ix, sem_len, sem_tuple, sem_lst, sem_tup, sem_lstO, sem_intI, sem_intB, sem_listL, sem_listO, sem_lzip, sem_allM, sem_anyM, sem_sumM,
    cs_lt, cs_le, cs_gt, cs_ge, cs_eqI, cs_eqB, cs_eqS, cs_neI, cs_neB, cs_neS, cs_isB, cs_isNotB, cs_eqT0, cs_neT0, cs_isN, cs_isNN, cs_isIN, cs_isTN, cs_isLN, cs_notNN, cs_notIN, cs_notTN, cs_notLN,
    seqS_tup, seqS_lst, lstS_lst, lenS_tup, lenS_lst, stay_tup, stay_lst, sle, mul_ok1, mul_ok2, div_ok, newL_f, bind_nm, bind_tup, bind_unl, binds_nil, binds_cons, it_seqE, it_enumE, it_zipE, it_zip0T, it_zip0L, it_zip3E, it_rg1E, it_rg2E, isTup_tup, isTup_lst, seq_rowD, seq_tupI, seq_lstI, seq_rwsL, seq_rwsT, seq_lstE, seq_tupE, seq_prD, lst_lstI, lst_rwsL, lst_lstE, len_rowD, len_tupI, len_lstI, len_rwsL, len_rwsT, len_lstE, len_tupE, stay_rowD, stay_tupI, stay_lstI, stay_rwsL, stay_rwsT, stay_lstE, stay_tupE, stay_prD, ty_rowD, ty_tupI, ty_rwsT, ty_tupE, ty_lstI, ty_rwsL, ty_lstE, ty_prD, bind_prD, row_fold, row_fold1, row_fold2, pr_fold, tupI_fold, tupI_fold2, lstI_fold, lstI_fold2, rwsL_fold, rwsL_fold2, rwsT_fold, rwsT_fold2, sem_sumI, it_zipRR, it_zipTT, zipD_map, zip3D_map, enumD_map, rgD_nat, rgD_two, at0, at1, at2, atI_map,
    get_chk, get_sem, dsp_one, dsp_two, fld_prime, fld_count, fld_lot, isI_thing, isiD_thing, isiD_int, xchk_om, xchk_eq, xchk_ne, xchk_len, xchk_str, xend_om, xend_eq2, xend_ne2, xend_len1, xend_str1, xpost_om, xpost_eqb, xpost_neb, xpost_leni, xpost_strs, xpostT_om, xpostT_eqb, xpostT_neb, it_enumM, lcRun_map, lcRun2_map, lcT_pure, lcT_filter, lcT_filterP, mem_int, mem_bool, mem_str, mem_tuple, mem_list, ty_int, ty_tup, ty_lst, ty_bl, ty_str, ty_non, isT_ii, isT_ib, isT_tt, isT_ss, isT_bb, isT_ll, startE_eq, $ls,*])
  | `(tactic| simp_arith! [$ls,*] at $h:ident) => `(tactic| simp (maxSteps := 1000000) (disch := first | omega | assumption | (simp only [Sto.put_dk, Sto.del_dk]; assumption) | (simp only [List.length_map, List.length_append, List.length_cons, List.length_nil, List.length_zip, List.length_range, List.length_set, List.length_replicate, List.length_take, List.length_drop]; omega)) only [↓hv0, ↓hb0, ↓hl0, ↓ht0, ↓hv1, ↓hb1, ↓hl1, ↓ht1, ↓hv2, ↓hb2, ↓hl2, ↓ht2, ↓hv3, ↓hb3, ↓hl3, ↓ht3, ↓hv4, ↓hb4, ↓hl4, ↓ht4, ↓hv5, ↓hb5, ↓hl5, ↓ht5, ↓hv6, ↓hb6, ↓hl6, ↓ht6, ↓hv7, ↓hb7, ↓hl7, ↓ht7, ↓hv8, ↓hb8, ↓hl8, ↓ht8, ↓hv9, ↓hb9, ↓hl9, ↓ht9, ↓hv10, ↓hb10, ↓hl10, ↓ht10, ↓hv11, ↓hb11, ↓hl11, ↓ht11, ↓hv12, ↓hb12, ↓hl12, ↓ht12, ↓hv13, ↓hb13, ↓hl13, ↓ht13, ↓hv14, ↓hb14, ↓hl14, ↓ht14, ↓hv15, ↓hb15, ↓hl15, ↓ht15, ↓hv16, ↓hb16, ↓hl16, ↓ht16, ↓hv17, ↓hb17, ↓hl17, ↓ht17, ↓hv18, ↓hb18, ↓hl18, ↓ht18, ↓hv19, ↓hb19, ↓hl19, ↓ht19, ↓hv20, ↓hb20, ↓hl20, ↓ht20, ↓hv21, ↓hb21, ↓hl21, ↓ht21, ↓hv22, ↓hb22, ↓hl22, ↓ht22, ↓hv23, ↓hb23, ↓hl23, ↓ht23, ↓h_nd, ↓h_call, ↓h_glb, ↓h_kix, ↓h_mth, ↓h_cmp, ↓hT_cmp, ↓h_xn, ↓hT_xn, ↓hT_nd, ↓hT_call, ↓hT_not, ↓h_ite, ↓h_es0, ↓h_es, ↓h_asg, ↓h_expr, ↓h_ret, ↓h_retN, ↓h_ifs, ↓h_ss0, ↓h_ss, ↓h_exb, ↓h_trb, ↓h_tri, ↓hc_lt, ↓hc_le, ↓hc_gt, ↓hc_ge, ↓hc_eqI, ↓hc_neI, ↓hc_eqS, ↓hc_neS, ↓hc_eqB, ↓hc_neB, ↓hix_l0, ↓hix_t0, ↓hix_l1, ↓hix_t1, ↓hix_l2, ↓hix_t2, ↓hix_l3, ↓hix_t3, ↓hix_l4, ↓hix_t4, ↓htp0, ↓hls0, ↓htp1, ↓hls1, ↓htp2, ↓hls2, ↓htp3, ↓hls3, ↓htp4, ↓hls4, ↓htp5, ↓hls5, ↓sem_int, ↓sem_str, ↓sem_bl, ↓sem_non, ↓sem_sub, ↓sem_add, ↓sem_neg, ↓sem_tyInt, ↓sem_tyBool, ↓sem_tyTuple, ↓sem_tyList, ↓sem_tyStr, ↓sem_tyDict, ↓xpost_om, ↓xchk_om, ↓xend_om, ↓isI_thing, ↓true_and, wipeE, List.map_cons, List.map_nil, wSs, wS, wE, wEs, wAnd, wOr, wT, wAndT, wOrT, wTs, eI, Bool.false_eq_true, Bool.not_true, Bool.not_false, if_true, if_false, decide_true, decide_false, true_and, and_true, and_self, and_self_left, exists_const, exists_and_left, D.loc.injEq, O.lst.injEq, set_mapE, ixN_ok, Sto.put_same, put_del, put_put, const_eq, ite_self, tr_bl, tr_int, tr_tup, tr_lst, List.getElem?_cons_zero, List.getElem?_cons_succ,
    Option.some.injEq, exists_eq_left', exists_eq_left, D.bl.injEq, D.int.injEq, D.str.injEq, List.set_cons_zero, List.set_cons_succ, List.length_cons, List.length_nil, List.length_map, List.length_zip, List.length_range, List.length_range', List.replicate_succ, List.replicate_zero, List.cons_append, List.nil_append, List.append_nil, Nat.reduceAdd, Nat.reduceSub, Nat.add_one_sub_one, Nat.sub_self, Nat.zero_add, Nat.add_zero, decide_eq_true_eq,
    sem_tyInt, sem_tyBool, sem_tyTuple, sem_tyList, sem_tyStr, sem_tyDict, sem_int, sem_str, sem_bl, sem_non, sem_dic0, sem_isi, sem_sub, sem_mod, sem_fdiv, sem_neg, sem_add, sem_addT, sem_addL, sem_mul, sem_ix, sem_len, sem_tuple, sem_lst, sem_tup, sem_lstO, sem_intI, sem_intB, sem_listL, sem_listO, sem_lzip, sem_allM, sem_anyM, sem_sumM,
    cs_lt, cs_le, cs_gt, cs_ge, cs_eqI, cs_eqB, cs_eqS, cs_neI, cs_neB, cs_neS, cs_isB, cs_isNotB, cs_eqT0, cs_neT0, cs_isN, cs_isNN, cs_isIN, cs_isTN, cs_isLN, cs_notNN, cs_notIN, cs_notTN, cs_notLN,
    seqS_tup, seqS_lst, lstS_lst, lenS_tup, lenS_lst, stay_tup, stay_lst, sle, mul_ok1, mul_ok2, div_ok, newL_f, bind_nm, bind_tup, bind_unl, binds_nil, binds_cons, it_seqE, it_enumE, it_zipE, it_zip0T, it_zip0L, it_zip3E, it_rg1E, it_rg2E, isTup_tup, isTup_lst, seq_rowD, seq_tupI, seq_lstI, seq_rwsL, seq_rwsT, seq_lstE, seq_tupE, seq_prD, lst_lstI, lst_rwsL, lst_lstE, len_rowD, len_tupI, len_lstI, len_rwsL, len_rwsT, len_lstE, len_tupE, stay_rowD, stay_tupI, stay_lstI, stay_rwsL, stay_rwsT, stay_lstE, stay_tupE, stay_prD, ty_rowD, ty_tupI, ty_rwsT, ty_tupE, ty_lstI, ty_rwsL, ty_lstE, ty_prD, bind_prD, row_fold, row_fold1, row_fold2, pr_fold, tupI_fold, tupI_fold2, lstI_fold, lstI_fold2, rwsL_fold, rwsL_fold2, rwsT_fold, rwsT_fold2, sem_sumI, it_zipRR, it_zipTT, zipD_map, zip3D_map, enumD_map, rgD_nat, rgD_two, at0, at1, at2, atI_map,
    get_chk, get_sem, dsp_one, dsp_two, fld_prime, fld_count, fld_lot, isI_thing, isiD_thing, isiD_int, xchk_om, xchk_eq, xchk_ne, xchk_len, xchk_str, xend_om, xend_eq2, xend_ne2, xend_len1, xend_str1, xpost_om, xpost_eqb, xpost_neb, xpost_leni, xpost_strs, xpostT_om, xpostT_eqb, xpostT_neb, it_enumM, lcRun_map, lcRun2_map, lcT_pure, lcT_filter, lcT_filterP, mem_int, mem_bool, mem_str, mem_tuple, mem_list, ty_int, ty_tup, ty_lst, ty_bl, ty_str, ty_non, isT_ii, isT_ib, isT_tt, isT_ss, isT_bb, isT_ll, startE_eq, $ls,*] at $h:ident)
open PySem PySem.Spec L2
local macro_rules
  | `(tactic| simp_arith! [$ls,*]) => `(tactic| simp (maxSteps := 1000000) (disch := first | omega | assumption | (simp only [Sto.put_dk, Sto.del_dk]; assumption) | (simp only [List.length_map, List.length_append, List.length_cons, List.length_nil, List.length_zip, List.length_range, List.length_set, List.length_replicate, List.length_take, List.length_drop]; omega)) only [wipeE, List.map_cons, List.map_nil, wSs, wS, wE, wEs, wAnd, wOr, wT, wAndT, wOrT, wTs, eI, Bool.false_eq_true, Bool.not_true, Bool.not_false, if_true, if_false, decide_true, decide_false, true_and, and_true, and_self, and_self_left, exists_const, exists_and_left, D.loc.injEq, O.lst.injEq, set_mapE, ixN_ok, Sto.put_same, put_del, put_put, const_eq, ite_self, tr_bl, tr_int, tr_tup, tr_lst, List.getElem?_cons_zero, List.getElem?_cons_succ,
    Option.some.injEq, exists_eq_left', exists_eq_left, D.bl.injEq, D.int.injEq, D.str.injEq, List.set_cons_zero, List.set_cons_succ, List.length_cons, List.length_nil, List.length_map, List.length_zip, List.length_range, List.length_range', List.replicate_succ, List.replicate_zero, List.cons_append, List.nil_append, List.append_nil, Nat.reduceAdd, Nat.reduceSub, Nat.add_one_sub_one, Nat.sub_self, Nat.zero_add, Nat.add_zero, decide_eq_true_eq,
    sem_tyInt, sem_tyBool, sem_tyTuple, sem_tyList, sem_tyStr, sem_tyDict, sem_int, sem_str, sem_bl, sem_non, sem_dic0, sem_isi, sem_sub, sem_mod, sem_fdiv, sem_neg, sem_add, sem_addT, sem_addL, sem_mul, sem_ix, sem_len, sem_tuple, sem_lst, sem_tup, sem_lstO, sem_intI, sem_intB, sem_listL, sem_listO, sem_lzip, sem_allM, sem_anyM, sem_sumM,
    cs_lt, cs_le, cs_gt, cs_ge, cs_eqI, cs_eqB, cs_eqS, cs_neI, cs_neB, cs_neS, cs_isB, cs_isNotB, cs_eqT0, cs_neT0, cs_isN, cs_isNN, cs_isIN, cs_isTN, cs_isLN, cs_notNN, cs_notIN, cs_notTN, cs_notLN,
    seqS_tup, seqS_lst, lstS_lst, lenS_tup, lenS_lst, stay_tup, stay_lst, sle, mul_ok1, mul_ok2, div_ok, newL_f, bind_nm, bind_tup, bind_unl, binds_nil, binds_cons, it_seqE, it_enumE, it_zipE, it_zip0T, it_zip0L, it_zip3E, it_rg1E, it_rg2E, isTup_tup, isTup_lst, seq_rowD, seq_tupI, seq_lstI, seq_rwsL, seq_rwsT, seq_lstE, seq_tupE, seq_prD, lst_lstI, lst_rwsL, lst_lstE, len_rowD, len_tupI, len_lstI, len_rwsL, len_rwsT, len_lstE, len_tupE, stay_rowD, stay_tupI, stay_lstI, stay_rwsL, stay_rwsT, stay_lstE, stay_tupE, stay_prD, ty_rowD, ty_tupI, ty_rwsT, ty_tupE, ty_lstI, ty_rwsL, ty_lstE, ty_prD, bind_prD, row_fold, row_fold1, row_fold2, pr_fold, tupI_fold, tupI_fold2, lstI_fold, lstI_fold2, rwsL_fold, rwsL_fold2, rwsT_fold, rwsT_fold2, sem_sumI, it_zipRR, it_zipTT, zipD_map, zip3D_map, enumD_map, rgD_nat, rgD_two, at0, at1, at2, atI_map,
    lcRun_map, lcRun2_map, lcT_pure, lcT_filter, lcT_filterP, mem_int, mem_bool, mem_str, mem_tuple, mem_list, ty_int, ty_tup, ty_lst, ty_bl, ty_str, ty_non, isT_ii, isT_ib, isT_tt, isT_ss, isT_bb, isT_ll, startE_eq, $ls,*])
  | `(tactic| simp_arith! [$ls,*] at $h:ident) => `(tactic| simp (maxSteps := 1000000) (disch := first | omega | assumption | (simp only [Sto.put_dk, Sto.del_dk]; assumption) | (simp only [List.length_map, List.length_append, List.length_cons, List.length_nil, List.length_zip, List.length_range, List.length_set, List.length_replicate, List.length_take, List.length_drop]; omega)) only [wipeE, List.map_cons, List.map_nil, wSs, wS, wE, wEs, wAnd, wOr, wT, wAndT, wOrT, wTs, eI, Bool.false_eq_true, Bool.not_true, Bool.not_false, if_true, if_false, decide_true, decide_false, true_and, and_true, and_self, and_self_left, exists_const, exists_and_left, D.loc.injEq, O.lst.injEq, set_mapE, ixN_ok, Sto.put_same, put_del, put_put, const_eq, ite_self, tr_bl, tr_int, tr_tup, tr_lst, List.getElem?_cons_zero, List.getElem?_cons_succ,
    Option.some.injEq, exists_eq_left', exists_eq_left, D.bl.injEq, D.int.injEq, D.str.injEq, List.set_cons_zero, List.set_cons_succ, List.length_cons, List.length_nil, List.length_map, List.length_zip, List.length_range, List.length_range', List.replicate_succ, List.replicate_zero, List.cons_append, List.nil_append, List.append_nil, Nat.reduceAdd, Nat.reduceSub, Nat.add_one_sub_one, Nat.sub_self, Nat.zero_add, Nat.add_zero, decide_eq_true_eq,
    sem_tyInt, sem_tyBool, sem_tyTuple, sem_tyList, sem_tyStr, sem_tyDict, sem_int, sem_str, sem_bl, sem_non, sem_dic0, sem_isi, sem_sub, sem_mod, sem_fdiv, sem_neg, sem_add, sem_addT, sem_addL, sem_mul, sem_ix, sem_len, sem_tuple, sem_lst, sem_tup, sem_lstO, sem_intI, sem_intB, sem_listL, sem_listO, sem_lzip, sem_allM, sem_anyM, sem_sumM,
    cs_lt, cs_le, cs_gt, cs_ge, cs_eqI, cs_eqB, cs_eqS, cs_neI, cs_neB, cs_neS, cs_isB, cs_isNotB, cs_eqT0, cs_neT0, cs_isN, cs_isNN, cs_isIN, cs_isTN, cs_isLN, cs_notNN, cs_notIN, cs_notTN, cs_notLN,
    seqS_tup, seqS_lst, lstS_lst, lenS_tup, lenS_lst, stay_tup, stay_lst, sle, mul_ok1, mul_ok2, div_ok, newL_f, bind_nm, bind_tup, bind_unl, binds_nil, binds_cons, it_seqE, it_enumE, it_zipE, it_zip0T, it_zip0L, it_zip3E, it_rg1E, it_rg2E, isTup_tup, isTup_lst, seq_rowD, seq_tupI, seq_lstI, seq_rwsL, seq_rwsT, seq_lstE, seq_tupE, seq_prD, lst_lstI, lst_rwsL, lst_lstE, len_rowD, len_tupI, len_lstI, len_rwsL, len_rwsT, len_lstE, len_tupE, stay_rowD, stay_tupI, stay_lstI, stay_rwsL, stay_rwsT, stay_lstE, stay_tupE, stay_prD, ty_rowD, ty_tupI, ty_rwsT, ty_tupE, ty_lstI, ty_rwsL, ty_lstE, ty_prD, bind_prD, row_fold, row_fold1, row_fold2, pr_fold, tupI_fold, tupI_fold2, lstI_fold, lstI_fold2, rwsL_fold, rwsL_fold2, rwsT_fold, rwsT_fold2, sem_sumI, it_zipRR, it_zipTT, zipD_map, zip3D_map, enumD_map, rgD_nat, rgD_two, at0, at1, at2, atI_map,
    lcRun_map, lcRun2_map, lcT_pure, lcT_filter, lcT_filterP, mem_int, mem_bool, mem_str, mem_tuple, mem_list, ty_int, ty_tup, ty_lst, ty_bl, ty_str, ty_non, isT_ii, isT_ib, isT_tt, isT_ss, isT_bb, isT_ll, startE_eq, $ls,*] at $h:ident)
section
open PySem PySem.Spec L2
section
variable {T : Nat → Option FDef} {x : Nat → Nat} {k f : Nat} {S : Sto} {Q : PostE} {p : Int} {n m : Nat} {A B : List (Nat × Rw)} {r : Rw}
theorem mirrorO_at {rs : List Rw} {dr : D} (H : Has_mirrorO T x) (hp : isPr p) (hn : n ≤ 100) (hl : rs.length ≤ 1000) (hr : ∀ r ∈ rs, VR p n r) (hd : seqS S dr = some (rs.map rowD)) (hs : stayS dr (rs.map rowD) S) (q : ∀ l, S.m l = none → Q (.loc l) (S.put l (.lst ((mirR p n rs).map rowD)))) : wC T (k + 6) (x 21) [.int p, .int (n : Nat), dr] S Q := by
  have hb := isPr_b hp
  have h0 : 0 < p := by omega
  obtain ⟨H, Hf, Hl, Hn, Hp, Hr⟩ := H
  have vf := vflip h0 hr
  obtain ⟨P, srt, sp⟩ := plB_ok hp vf
  have lB := P.length
  have go : wSs (wC T (k + 5)) (y_mirrorO x) { nx := fun _ S' => Q .non S', rt := Q } [some (.int p), some (.int (n : Nat)), some dr, none, none, none, none, none, none, none] S := by
    have e1 : ∀ (S : Sto) (Q : PostE), wC T (k + 5) (x 17) [.int p, .int (n : Nat), rwsL (rs.map (flipR p))] S Q = ∀ l, S.m l = none → Q (.loc l) (S.put l (.lst (((plB p (rs.map (flipR p))).map (·.2)).map rowD))) := fun S Q => by
      rw [plainO_eq Hp hp hn (by simpa using hl) vf seq_rwsL (of_eq_true stay_rwsL), plainR_plB]
    simp_arith! [y_mirrorO, hd, hs]
    rw [lcT_eq (f := fun r => rowD (flipR p r)) fun r hr' S k => by
      have := (hr r hr').len
      simp_arith! [flipped_eq Hl h0]]
    simp_arith! [e1]
    refine ⟨hs, ?_⟩
    intro lp hlp
    rw [put_del hlp]
    unfold mirR at q
    generalize plB p (rs.map (flipR p)) = B at P srt sp lB e1 q ⊢
    rw [lcT_eq (f := fun r => .tup [optD (fstP r), rowD r]) fun r hr' S k => by
      obtain ⟨t, ht, rfl⟩ := List.mem_map.mp hr'
      have := (P.vr t ht).len
      simp_arith! [firstPlace_eq Hf]]
    have eB : ((B.map (·.2)).map fun r => D.tup [optD (fstP r), rowD r]) = B.map frD := by
      rw [List.map_map]
      refine List.map_congr_left fun t ht => ?_
      simp only [Function.comp_def, fstP_pl P ht]
      rfl
    have eB2 : D.lst (B.map frD) = lstE frD B := rfl
    have eF : B.map (fun a => (a.1 : Int)) = (B.map (·.1)).map fun i : Nat => (i : Int) := by rw [List.map_map]; rfl
    simp_arith! [eB, eB2, y_mirrorO_1, frD, y_mirrorO_2, newL_t]
    intro lf hf
    simp_arith! [y_mirrorO_3]
    have er : rgD 0 (2 * (n : Int)) = (List.range (2 * n)).map fun i => D.int (i : Nat) := rgD_nat (n := 2 * n)
    rw [er]
    refine for_list (fun ys ρ S' => ∃ (fs : List Nat) (u6 u7 u8 u9 : Option D), (∀ y ∈ ys, y < 2 * n) ∧ fs ++ ys.filter (fun f => decide (f ∉ B.map (·.1))) = free (2 * n) B ∧ S' = S.put lf (.lst (fs.map fun f => rowD (kr p n B f))) ∧
      ρ = [some (.int p), some (.int (n : Nat)), some dr, some (lstE frD B), some (lstI (B.map fun a => (a.1 : Int))), some (.loc lf), u6, u7, u8, u9]) (fun _ _ _ _ => trivial) ?_ ?_ ⟨[], _, _, _, _, fun y hy => List.mem_range.mp hy, rfl, rfl, rfl⟩
    · rintro f ys ρ S' kk ⟨fs, u6, u7, u8, u9, hlt, efs, rfl, rfl⟩ hk
      have hf2 : f < 2 * n := hlt f (by simp)
      have lfs : fs.length ≤ 2 * n := by
        have h1 := congrArg List.length efs
        have h2 : (free (2 * n) B).length ≤ (List.range (2 * n)).length := List.length_filter_le ..
        simp at h1 h2
        omega
      have hin : ((f : Int) ∈ B.map fun a => (a.1 : Int)) ↔ f ∈ B.map (·.1) := by
        simp only [List.mem_map]
        exact ⟨fun ⟨t, ht, e⟩ => ⟨t, ht, by omega⟩, fun ⟨t, ht, e⟩ => ⟨t, ht, by omega⟩⟩
      simp_arith! [y_mirrorO_3b, not_inI, hin]
      by_cases c : f ∈ B.map (·.1)
      · rw [List.filter_cons, if_neg (by simp [c])] at efs
        simp_arith! [c, not_true_eq_false]
        exact hk _ _ ⟨fs, _, _, _, _, fun y hy => hlt y (by simp [hy]), efs, rfl, rfl⟩
      · rw [List.filter_cons, if_pos (by simpa using c)] at efs
        have eu : ((List.range (2 * n)).map fun a : Nat => D.int (if (a : Int) = (f : Int) then 1 else 0)) = (unitN (2 * n) f).map D.int := by
          unfold unitN
          rw [List.map_map]
          refine List.map_congr_left fun a _ => ?_
          show D.int (if (a : Int) = (f : Int) then 1 else 0) = D.int (if a = f then 1 else 0)
          by_cases c : a = f
          · simp [c]
          · have : ¬ (a : Int) = (f : Int) := by omega
            simp [c, this]
        simp_arith! [c, not_false_eq_true, y_mirrorO_3b_0t, newL_t, er]
        rw [eu]
        intro ln hln
        generalize hX : S.put lf (.lst (fs.map fun f => rowD (kr p n B f))) = X at hln ⊢
        have hXf : X.m lf = some (.lst (fs.map fun f => rowD (kr p n B f))) := by rw [← hX]; exact Sto.put_same
        have hne : ln ≠ lf := fun q => by rw [q, hXf] at hln; cases hln
        simp_arith! [y_mirrorO_3b_0t_1]
        refine for_list (fun ys ρ S' => ∃ (ns : List Int) (u7 u9 : Option D), (∀ y ∈ ys, y ∈ B) ∧ ns.length = 2 * n ∧ ys.foldl (fun ns t => ns.set t.1 ((0 - co t.2 f) % p)) ns = kerN p (2 * n) B f ∧ S' = X.put ln (.lst (ns.map D.int)) ∧
          ρ = [some (.int p), some (.int (n : Nat)), some dr, some (lstE frD B), some (lstI (B.map fun a => (a.1 : Int))), some (.loc lf), some (.int (f : Nat)), u7, some (.loc ln), u9]) (fun _ _ _ _ => by first | exact of_eq_true stay_lstE | rfl) ?_ ?_ ⟨_, _, _, fun y hy => hy, unitN_len, rfl, rfl, rfl⟩
        · rintro t ys ρ S' k2 ⟨ns, u7, u9, hB, hl2, e2, rfl, rfl⟩ hk2
          have ht := hB t (by simp)
          have vt := P.vr t ht
          have lt := vt.len
          have pt := P.pl t ht
          simp_arith! [frD, y_mirrorO_3b_0t_1b, numbersOf_eq Hn, flat_at (r := t.2) (i := f) (by omega)]
          exact ⟨h0, hk2 _ _ ⟨ns.set t.1 ((0 - co t.2 f) % p), _, _, fun y hy => hB y (by simp [hy]), by rw [List.length_set]; exact hl2, e2, rfl, rfl⟩⟩
        · rintro ρ S' ⟨ns, u7, u9, _, hl2, e2, rfl, rfl⟩
          rw [List.foldl_nil] at e2
          subst e2
          have chk : mApp.chk (.loc lf) (X.put ln (.lst ((kerN p (2 * n) B f).map D.int))) := ⟨lf, _, rfl, by rw [Sto.put_ne hne.symm]; exact hXf⟩
          simp_arith! [y_mirrorO_3b_0t_2, chk, rowOf_eq Hr]
          rw [← hX]
          have ek : rowD (prs (kerN p (2 * n) B f)) = rowD (kr p n B f) := rfl
          simp_arith! [app_put, lt_sz, ek]
          exact hk _ _ ⟨fs ++ [f], _, _, _, _, fun y hy => hlt y (by simp [hy]), by rw [List.append_assoc]; exact efs, by simp, rfl⟩
    · rintro ρ S' ⟨fs, u6, u7, u8, u9, _, efs, rfl, rfl⟩
      rw [List.filter_nil, List.append_nil] at efs
      subst efs
      have ek : ((free (2 * n) B).map fun f => rowD (kr p n B f)) = ((kers p n B).map (·.2)).map rowD := by
        unfold kers
        simp only [List.map_map, Function.comp_def]
      have lk : ((kers p n B).map (·.2)).length ≤ 1000 := by
        have h2 : (free (2 * n) B).length ≤ (List.range (2 * n)).length := List.length_filter_le ..
        simp [kers] at h2 ⊢
        omega
      rw [ek]
      have e3 : ∀ (S : Sto) (Q : PostE), wC T (k + 5) (x 17) [.int p, .int (n : Nat), rwsL ((kers p n B).map (·.2))] S Q = ∀ l, S.m l = none → Q (.loc l) (S.put l (.lst ((plainR p ((kers p n B).map (·.2))).map rowD))) := fun S Q => plainO_eq Hp hp hn lk (kers_ky (n := n) (B := B) hb.1).vA seq_rwsL (of_eq_true stay_rwsL)
      simp_arith! [y_mirrorO_4, e3]
      exact q
  rw [wC_eq H rfl]
  simp_arith! [yn_mirrorO, fd_mirrorO]
  exact go
end
end
end FP
namespace FP.Law
open PySem PySem.Spec L2
abbrev prg : PySem.Program := PySem.Challenge.pw_fairposts_k15_mirrors
def top (i : Nat) : Stmt := prg.main.body.getD i (.Pass ⟨0, 0, 0, 0⟩)
def mth (i j : Nat) : Stmt := (clsBody (top i)).getD j (.Pass ⟨0, 0, 0, 0⟩)
def ixs : List Nat := [0, 0, 0, 0, 0, 1, 2, 0, 0, 0, 0, 3, 4, 5, 6, 8, 7, 9, 0, 0, 10, 11, 0, 0, 0, 0, 13, 14, 15, 16, 17, 18, 19, 20, 21, 22, 23, 0, 0, 0, 24, 0, 0, 25]
def ix : Nat → Nat := fun i => ixs.getD i 0
def b__law_are_plain_5 : List RS := (.ret (.cmp cEq (.var 3) (.nd (nSortSet false) [.var 3]))) :: []
def b__law_are_plain_4b_0t : List RS := (.ret (.nd (nBl false) [])) :: []
def b__law_are_plain_4b : List RS := (.ifs (.cmp cNeL0 (.lc false (.var 9) (.nm 9) iSeq [.var 3] [.and [.cmp cNe (.var 9) (.var 6), .cmp cNe (.nd nIx [.call (ix 34) [.var 4], .var 9]) (eI 0)]] [("_law_other", 9)]) (.nd (nLst false) [])) b__law_are_plain_4b_0t []) :: []
def b__law_are_plain_4 : List RS := (.for_ (.tup [.nm 4, .nm 6]) iZipM [.var 2, .var 3] b__law_are_plain_4b) :: b__law_are_plain_5
def b__law_are_plain_3b_2 : List RS := (.expr (.mth mApp (.var 3) [.nd nIx [.var 5, eI 0]])) :: []
def b__law_are_plain_3b_1t : List RS := (.ret (.nd (nBl false) [])) :: []
def b__law_are_plain_3b_1 : List RS := (.ifs (.or [.cmp cEqL0 (.var 5) (.nd (nLst false) []), .cmp cNe (.nd nIx [.call (ix 34) [.var 4], .nd nIx [.var 5, eI 0]]) (eI 1)]) b__law_are_plain_3b_1t []) :: b__law_are_plain_3b_2
def b__law_are_plain_3b : List RS := (.asgL 5 (.lc false (.var 7) (.tup [.nm 7, .nm 8]) iEnumM [.call (ix 34) [.var 4]] [.cmp cNe (.var 8) (eI 0)] [("_law_place", 7), ("_law_number", 8)])) :: b__law_are_plain_3b_1
def b__law_are_plain_3 : List RS := (.for_ (.nm 4) iSeq [.var 2] b__law_are_plain_3b) :: b__law_are_plain_4
def b__law_are_plain_2 : List RS := (.asg (.nm 3) (.nd (nLst true) [])) :: b__law_are_plain_3
def b__law_are_plain_1t : List RS := (.ret (.nd (nBl false) [])) :: []
def b__law_are_plain_1 : List RS := (.ifs (.cmp cNeL0 (.lc false (.var 4) (.nm 4) iSeq [.var 2] [.not (.call (ix 43) [.var 0, .var 1, .var 4])] [("_law_row_here", 4)]) (.nd (nLst false) [])) b__law_are_plain_1t []) :: b__law_are_plain_2
def b__law_are_plain_0t : List RS := (.ret (.nd (nBl false) [])) :: []
def b__law_are_plain : List RS := (.ifs (.not (.nd nIsi [.var 2, .nd tyList []])) b__law_are_plain_0t []) :: b__law_are_plain_1
def n__law_are_plain : List Str := ["_law_p", "_law_posts", "_law_thing", "_law_begins", "_law_row_here", "_law_places", "_law_begin", "_law_place", "_law_number", "_law_other"]
def b_law_2 : List RS := (.ret (.nd (nBl true) [])) :: []
def b_law_1b_11t : List RS := (.ret (.nd (nBl false) [])) :: []
def b_law_1b_11 : List RS := (.ifs (.or [.cmp cNe (.nd nReprX [.frz (.call (ix 21) [.var 3, .var 4, .var 5])]) (.var 8), .cmp cNe (.nd nReprX [.var 5]) (.var 6)]) b_law_1b_11t []) :: []
def b_law_1b_10 : List RS := (.expr (.mth mApp (.var 7) [.nd (nStr "X") []])) :: b_law_1b_11
def b_law_1b_9 : List RS := (.asg (.nm 8) (.nd nReprX [.var 7])) :: b_law_1b_10
def b_law_1b_8t : List RS := (.ret (.nd (nBl false) [])) :: []
def b_law_1b_8 : List RS := (.ifs (.or [.cmp cNe (.nd nReprX [.frz (.call (ix 21) [.var 3, .var 4, .var 7])]) (.nd nReprX [.var 10]), .cmp cNe (.nd nLen [.frz (.call (ix 21) [.var 3, .var 4, .nd nTup []])]) (.nd (nMul false) [eI 2, .var 4])]) b_law_1b_8t []) :: b_law_1b_9
def b_law_1b_7t : List RS := (.ret (.nd (nBl false) [])) :: []
def b_law_1b_7 : List RS := (.ifs (.cmp cNeL0 (.lc false (eI 1) (.nm 11) iSeq [.var 5] [.cmp cNeL0 (.lc false (.var 12) (.nm 12) iSeq [.var 7] [.cmp cNe (.call (ix 40) [.var 3, .var 12, .var 11]) (eI 0)] [("_law_one", 12)]) (.nd (nLst false) [])] [("_law_row_here", 11)]) (.nd (nLst false) [])) b_law_1b_7t []) :: b_law_1b_8
def b_law_1b_6t : List RS := (.ret (.nd (nBl false) [])) :: []
def b_law_1b_6 : List RS := (.ifs (.or [.not (.call 26 [.var 3, .var 4, .var 7]), .cmp cNe (.nd (nAdd false) [.nd nLen [.var 7], .nd nLen [.var 10]]) (.nd (nMul false) [eI 2, .var 4])]) b_law_1b_6t []) :: b_law_1b_7
def b_law_1b_5 : List RS := (.asg (.nm 7) (.call (ix 21) [.var 3, .var 4, .nd nIx [.nd (nLst false) [.var 5, .nd nTuple [.var 5]], .call (ix 26) [.var 1, eI 2]]])) :: b_law_1b_6
def b_law_1b_4 : List RS := (.asg (.nm 6) (.nd nReprX [.var 5])) :: b_law_1b_5
def b_law_1b_3 : List RS := (.asg (.nm 5) (.call (ix 36) [.var 1, .var 3, .var 4, .var 10])) :: b_law_1b_4
def b_law_1b_2 : List RS := (.asg (.unl [.nm 9, .nm 10]) (.call (ix 35) [.var 1, .var 3, .var 4, eI 20])) :: b_law_1b_3
def b_law_1b_1 : List RS := (.asg (.nm 4) (.call (ix 26) [.var 1, eI 11])) :: b_law_1b_2
def b_law_1b : List RS := (.asg (.nm 3) (.call (ix 27) [.var 1])) :: b_law_1b_1
def b_law_1 : List RS := (.for_ (.nm 2) iRg1 [eI 3] b_law_1b) :: b_law_2
def b_law : List RS := (.asg (.nm 1) (.call 12 [.var 0])) :: b_law_1
def n_law : List Str := ["_law_script", "_law_deck_here", "_law_turn", "_law_p", "_law_posts", "_law_rows", "_law_ahead", "_law_found", "_law_shown", "_law_places", "_law_some", "_law_row_here", "_law_one"]
def tab : List FDef := [
  (fd_inverse ix),
  (fd_added ix),
  (fd_times ix),
  (fd_numbers_of ix),
  (fd_row_of ix),
  (fd_first_place ix),
  (fd_cleared ix),
  (fd_weighed ix),
  (fd_lessened ix),
  (fd_plainO ix),
  (fd_flipped ix),
  (fd_mirrorO ix),
  fdDeck,
  fdNext,
  (fd_lprime ix),
  (fd_lnumbers ix),
  (fd_lrow ix),
  (fd_ladded ix),
  (fd_ltimes ix),
  (fd_lsum ix),
  (fd_lstirred ix),
  (fd_lflat ix),
  (fd_lplain_set ix),
  (fd_lspanning ix),
  (fd_lmeet ix),
  (fd_lis_row ix),
  ⟨"_law_are_plain", ["_law_p", "_law_posts", "_law_thing"], n__law_are_plain, b__law_are_plain, none, 0⟩,
  ⟨"law", ["_law_script"], n_law, b_law, none, 0⟩]
/-- with the law's own names -/
def tabx : List FDef := [
  ⟨"inverse", ["p", "number"], ["p", "number", "one"], (y_inverse ix), none, 0⟩,
  ⟨"added", ["p", "one", "other"], ["p", "one", "other", "x", "y", "right", "down"], (y_added ix), none, 0⟩,
  ⟨"times", ["p", "number", "row"], ["p", "number", "row", "x", "y"], (y_times ix), none, 0⟩,
  ⟨"numbers_of", ["row"], ["row", "pair", "number"], (y_numbers_of ix), none, 0⟩,
  ⟨"row_of", ["numbers"], ["numbers"], (y_row_of ix), none, 0⟩,
  ⟨"first_place", ["row"], ["row", "place", "number"], (y_first_place ix), none, 0⟩,
  ⟨"cleared", ["p", "row", "other", "place"], ["p", "row", "other", "place"], (y_cleared ix), none, 0⟩,
  ⟨"weighed", ["p", "rows"], ["p", "rows", "found", "row", "numbers", "first", "place", "other", "others", "by", "one", "own", "number"], (y_weighed ix), none, 0⟩,
  ⟨"lessened", ["p", "one", "other"], ["p", "one", "other", "by", "place", "row", "numbers", "first", "more", "others", "own", "k"], (y_lessened ix), none, 0⟩,
  ⟨"plain", ["p", "posts", "rows"], ["p", "posts", "rows", "place", "row", "numbers"], (y_plainO ix), none, 0⟩,
  ⟨"flipped", ["p", "row"], ["p", "row", "x", "y"], (y_flipped ix), none, 0⟩,
  ⟨"mirror", ["p", "posts", "rows"], ["p", "posts", "rows", "bound", "firsts", "found", "free", "row", "numbers", "place"], (y_mirrorO ix), none, 0⟩,
  fdDeck,
  fdNext,
  ⟨"_law_prime", ["_law_deck_here"], ["_law_deck_here"], (y_lprime ix), none, 0⟩,
  ⟨"_law_numbers", ["_law_deck_here", "_law_p", "_law_many"], ["_law_deck_here", "_law_p", "_law_many", "_law_k"], (y_lnumbers ix), none, 0⟩,
  ⟨"_law_row", ["_law_deck_here", "_law_p", "_law_posts"], ["_law_deck_here", "_law_p", "_law_posts", "_law_k"], (y_lrow ix), none, 0⟩,
  ⟨"_law_added", ["_law_p", "_law_one", "_law_other"], ["_law_p", "_law_one", "_law_other", "_law_x", "_law_y", "_law_right", "_law_down"], (y_ladded ix), none, 0⟩,
  ⟨"_law_times", ["_law_p", "_law_number", "_law_row_here"], ["_law_p", "_law_number", "_law_row_here", "_law_x", "_law_y"], (y_ltimes ix), none, 0⟩,
  ⟨"_law_sum", ["_law_p", "_law_posts", "_law_numbers_here", "_law_rows"], ["_law_p", "_law_posts", "_law_numbers_here", "_law_rows", "_law_found", "_law_number", "_law_row_here"], (y_lsum ix), none, 0⟩,
  ⟨"_law_stirred", ["_law_deck_here", "_law_p", "_law_posts", "_law_rows"], ["_law_deck_here", "_law_p", "_law_posts", "_law_rows", "_law_found", "_law_turn", "_law_k", "_law_j"], (y_lstirred ix), none, 0⟩,
  ⟨"_law_flat", ["_law_row_here"], ["_law_row_here", "_law_found", "_law_pair"], (y_lflat ix), none, 0⟩,
  ⟨"_law_plain_set", ["_law_deck_here", "_law_p", "_law_posts", "_law_most"], ["_law_deck_here", "_law_p", "_law_posts", "_law_most", "_law_pool", "_law_many", "_law_places", "_law_found", "_law_place", "_law_numbers_here", "_law_other", "_law_k"], (y_lplain_set ix), none, 0⟩,
  ⟨"_law_spanning", ["_law_deck_here", "_law_p", "_law_posts", "_law_rows"], ["_law_deck_here", "_law_p", "_law_posts", "_law_rows", "_law_found", "_law_turn", "_law_more"], (y_lspanning ix), none, 0⟩,
  ⟨"_law_meet", ["_law_p", "_law_one", "_law_other"], ["_law_p", "_law_one", "_law_other", "_law_x", "_law_y", "_law_right", "_law_down"], (y_lmeet ix), none, 0⟩,
  ⟨"_law_is_row", ["_law_p", "_law_posts", "_law_thing"], ["_law_p", "_law_posts", "_law_thing", "_law_pair", "_law_one"], (y_lis_row ix), none, 0⟩,
  ⟨"_law_are_plain", ["_law_p", "_law_posts", "_law_thing"], n__law_are_plain, b__law_are_plain, none, 0⟩,
  ⟨"law", ["_law_script"], n_law, b_law, none, 0⟩]
def ctab : List FDef := []
def gcs : List (Str × D) := []
def T : Nat → Option FDef := mkT tab ctab
def Tx : Nat → Option FDef := mkT tabx ctab
theorem eqv : EqvL2 tabx tab := ⟨⟨rfl, rfl, rfl, rfl, rfl, rfl⟩, ⟨rfl, rfl, rfl, rfl, rfl, rfl⟩, ⟨rfl, rfl, rfl, rfl, rfl, rfl⟩, ⟨rfl, rfl, rfl, rfl, rfl, rfl⟩, ⟨rfl, rfl, rfl, rfl, rfl, rfl⟩, ⟨rfl, rfl, rfl, rfl, rfl, rfl⟩, ⟨rfl, rfl, rfl, rfl, rfl, rfl⟩, ⟨rfl, rfl, rfl, rfl, rfl, rfl⟩, ⟨rfl, rfl, rfl, rfl, rfl, rfl⟩, ⟨rfl, rfl, rfl, rfl, rfl, rfl⟩, ⟨rfl, rfl, rfl, rfl, rfl, rfl⟩, ⟨rfl, rfl, rfl, rfl, rfl, rfl⟩, ⟨rfl, rfl, rfl, rfl, rfl, rfl⟩, ⟨rfl, rfl, rfl, rfl, rfl, rfl⟩, ⟨rfl, rfl, rfl, rfl, rfl, rfl⟩, ⟨rfl, rfl, rfl, rfl, rfl, rfl⟩, ⟨rfl, rfl, rfl, rfl, rfl, rfl⟩, ⟨rfl, rfl, rfl, rfl, rfl, rfl⟩, ⟨rfl, rfl, rfl, rfl, rfl, rfl⟩, ⟨rfl, rfl, rfl, rfl, rfl, rfl⟩, ⟨rfl, rfl, rfl, rfl, rfl, rfl⟩, ⟨rfl, rfl, rfl, rfl, rfl, rfl⟩, ⟨rfl, rfl, rfl, rfl, rfl, rfl⟩, ⟨rfl, rfl, rfl, rfl, rfl, rfl⟩, ⟨rfl, rfl, rfl, rfl, rfl, rfl⟩, ⟨rfl, rfl, rfl, rfl, rfl, rfl⟩, ⟨rfl, rfl, rfl, rfl, rfl, rfl⟩, ⟨rfl, rfl, rfl, rfl, rfl, rfl⟩, trivial⟩
abbrev dep : Nat := 7
theorem has_inverse : Has_inverse T ix := rfl
theorem has_added : Has_added T ix := rfl
theorem has_times : Has_times T ix := rfl
theorem has_numbers_of : Has_numbers_of T ix := rfl
theorem has_row_of : Has_row_of T ix := rfl
theorem has_first_place : Has_first_place T ix := ⟨rfl, has_numbers_of⟩
theorem has_cleared : Has_cleared T ix := ⟨rfl, has_added, has_numbers_of, has_times⟩
theorem has_lessened : Has_lessened T ix := ⟨rfl, has_cleared, has_numbers_of⟩
theorem has_weighed : Has_weighed T ix := ⟨rfl, has_cleared, has_first_place, has_inverse, has_lessened, has_numbers_of, has_times⟩
theorem has_plainO : Has_plainO T ix := ⟨rfl, has_weighed⟩
theorem has_flipped : Has_flipped T ix := rfl
theorem has_mirrorO : Has_mirrorO T ix := ⟨rfl, has_first_place, has_flipped, has_numbers_of, has_plainO, has_row_of⟩
theorem has_lprime : Has_lprime T ix := ⟨rfl, rfl⟩
theorem has_lnumbers : Has_lnumbers T ix := ⟨rfl, rfl⟩
theorem has_ladded : Has_ladded T ix := rfl
theorem has_ltimes : Has_ltimes T ix := rfl
theorem has_lsum : Has_lsum T ix := ⟨rfl, has_ladded, has_ltimes⟩
theorem has_lstirred : Has_lstirred T ix := ⟨rfl, has_ladded, rfl, has_ltimes⟩
theorem has_lflat : Has_lflat T ix := rfl
theorem has_lplain_set : Has_lplain_set T ix := ⟨rfl, rfl, has_lnumbers⟩
theorem has_lspanning : Has_lspanning T ix := ⟨rfl, rfl, has_lnumbers, has_lstirred, has_lsum⟩
theorem has_lmeet : Has_lmeet T ix := rfl
theorem has_lis_row : Has_lis_row T ix := rfl
def dfs : List He.DefD := [
  ⟨("inverse", none), "inverse", "inverse", defArgs (top 1), defBody (top 1), defScope (top 1), [], []⟩,
  ⟨("added", none), "added", "added", defArgs (top 3), defBody (top 3), defScope (top 3), [], []⟩,
  ⟨("times", none), "times", "times", defArgs (top 4), defBody (top 4), defScope (top 4), [], []⟩,
  ⟨("numbers_of", none), "numbers_of", "numbers_of", defArgs (top 6), defBody (top 6), defScope (top 6), [], []⟩,
  ⟨("row_of", none), "row_of", "row_of", defArgs (top 7), defBody (top 7), defScope (top 7), [], []⟩,
  ⟨("first_place", none), "first_place", "first_place", defArgs (top 8), defBody (top 8), defScope (top 8), [], []⟩,
  ⟨("cleared", none), "cleared", "cleared", defArgs (top 9), defBody (top 9), defScope (top 9), [], []⟩,
  ⟨("weighed", none), "weighed", "weighed", defArgs (top 10), defBody (top 10), defScope (top 10), [], []⟩,
  ⟨("lessened", none), "lessened", "lessened", defArgs (top 11), defBody (top 11), defScope (top 11), [], []⟩,
  ⟨("plain", none), "plain", "plain", defArgs (top 12), defBody (top 12), defScope (top 12), [], []⟩,
  ⟨("flipped", none), "flipped", "flipped", defArgs (top 13), defBody (top 13), defScope (top 13), [], []⟩,
  ⟨("mirror", none), "mirror", "mirror", defArgs (top 14), defBody (top 14), defScope (top 14), [], []⟩,
  ⟨("_law_deck", none), "_law_deck", "_law_deck", defArgs (top 16), defBody (top 16), defScope (top 16), [], []⟩,
  ⟨("_law_next", none), "_law_next", "_law_next", defArgs (top 17), defBody (top 17), defScope (top 17), [], []⟩,
  ⟨("_law_prime", none), "_law_prime", "_law_prime", defArgs (top 18), defBody (top 18), defScope (top 18), [], []⟩,
  ⟨("_law_numbers", none), "_law_numbers", "_law_numbers", defArgs (top 19), defBody (top 19), defScope (top 19), [], []⟩,
  ⟨("_law_row", none), "_law_row", "_law_row", defArgs (top 20), defBody (top 20), defScope (top 20), [], []⟩,
  ⟨("_law_added", none), "_law_added", "_law_added", defArgs (top 21), defBody (top 21), defScope (top 21), [], []⟩,
  ⟨("_law_times", none), "_law_times", "_law_times", defArgs (top 22), defBody (top 22), defScope (top 22), [], []⟩,
  ⟨("_law_sum", none), "_law_sum", "_law_sum", defArgs (top 23), defBody (top 23), defScope (top 23), [], []⟩,
  ⟨("_law_stirred", none), "_law_stirred", "_law_stirred", defArgs (top 24), defBody (top 24), defScope (top 24), [], []⟩,
  ⟨("_law_flat", none), "_law_flat", "_law_flat", defArgs (top 25), defBody (top 25), defScope (top 25), [], []⟩,
  ⟨("_law_plain_set", none), "_law_plain_set", "_law_plain_set", defArgs (top 26), defBody (top 26), defScope (top 26), [], []⟩,
  ⟨("_law_spanning", none), "_law_spanning", "_law_spanning", defArgs (top 27), defBody (top 27), defScope (top 27), [], []⟩,
  ⟨("_law_meet", none), "_law_meet", "_law_meet", defArgs (top 28), defBody (top 28), defScope (top 28), [], []⟩,
  ⟨("_law_is_row", none), "_law_is_row", "_law_is_row", defArgs (top 29), defBody (top 29), defScope (top 29), [], []⟩,
  ⟨("_law_are_plain", none), "_law_are_plain", "_law_are_plain", defArgs (top 30), defBody (top 30), defScope (top 30), [], []⟩,
  ⟨("law", none), "law", "law", defArgs (top 31), defBody (top 31), defScope (top 31), [], []⟩]
def fas : List He.Fa := [.glo "inverse", .glo "added", .glo "times", .glo "numbers_of", .glo "row_of", .glo "first_place", .glo "cleared", .glo "weighed", .glo "lessened", .glo "plain", .glo "flipped", .glo "mirror", .glo "_law_deck", .glo "_law_next", .glo "_law_prime", .glo "_law_numbers", .glo "_law_row", .glo "_law_added", .glo "_law_times", .glo "_law_sum", .glo "_law_stirred", .glo "_law_flat", .glo "_law_plain_set", .glo "_law_spanning", .glo "_law_meet", .glo "_law_is_row", .glo "_law_are_plain", .glo "law"] ++ bNames.map He.Fa.free
theorem m_0 : ∀ k < dep, mSs (fnm Tx) (cF Tx k) ["p", "number", "one"] (y_inverse ix) (defScope (top 1)) (defBody (top 1)) = true := by decide +kernel
theorem a_0 {K : PySem.W.Frag} {h : Heap} {mg : Str → Option Value} (X : K.In h) (G : h.Ns mainGlobals mg) (c : SaysC fas dfs gcs K) : ∃ a fd, FAt K mg (⟨"inverse", ["p", "number"], ["p", "number", "one"], (y_inverse ix), none, 0⟩ : FDef) a fd (defArgs (top 1)) (defBody (top 1)) (defScope (top 1)) :=
  fAt_of X G c 0 rfl rfl ⟨rfl, rfl, rfl, by decide +kernel, rfl, by decide +kernel, by decide +kernel⟩ (by decide +kernel) fun _ _ _ _ _ _ us hl => match us, hl with | [_, _], _ => rfl
theorem m_1 : ∀ k < dep, mSs (fnm Tx) (cF Tx k) ["p", "one", "other", "x", "y", "right", "down"] (y_added ix) (defScope (top 3)) (defBody (top 3)) = true := by decide +kernel
theorem a_1 {K : PySem.W.Frag} {h : Heap} {mg : Str → Option Value} (X : K.In h) (G : h.Ns mainGlobals mg) (c : SaysC fas dfs gcs K) : ∃ a fd, FAt K mg (⟨"added", ["p", "one", "other"], ["p", "one", "other", "x", "y", "right", "down"], (y_added ix), none, 0⟩ : FDef) a fd (defArgs (top 3)) (defBody (top 3)) (defScope (top 3)) :=
  fAt_of X G c 1 rfl rfl ⟨rfl, rfl, rfl, by decide +kernel, rfl, by decide +kernel, by decide +kernel⟩ (by decide +kernel) fun _ _ _ _ _ _ us hl => match us, hl with | [_, _, _], _ => rfl
theorem m_2 : ∀ k < dep, mSs (fnm Tx) (cF Tx k) ["p", "number", "row", "x", "y"] (y_times ix) (defScope (top 4)) (defBody (top 4)) = true := by decide +kernel
theorem a_2 {K : PySem.W.Frag} {h : Heap} {mg : Str → Option Value} (X : K.In h) (G : h.Ns mainGlobals mg) (c : SaysC fas dfs gcs K) : ∃ a fd, FAt K mg (⟨"times", ["p", "number", "row"], ["p", "number", "row", "x", "y"], (y_times ix), none, 0⟩ : FDef) a fd (defArgs (top 4)) (defBody (top 4)) (defScope (top 4)) :=
  fAt_of X G c 2 rfl rfl ⟨rfl, rfl, rfl, by decide +kernel, rfl, by decide +kernel, by decide +kernel⟩ (by decide +kernel) fun _ _ _ _ _ _ us hl => match us, hl with | [_, _, _], _ => rfl
theorem m_3 : ∀ k < dep, mSs (fnm Tx) (cF Tx k) ["row", "pair", "number"] (y_numbers_of ix) (defScope (top 6)) (defBody (top 6)) = true := by decide +kernel
theorem a_3 {K : PySem.W.Frag} {h : Heap} {mg : Str → Option Value} (X : K.In h) (G : h.Ns mainGlobals mg) (c : SaysC fas dfs gcs K) : ∃ a fd, FAt K mg (⟨"numbers_of", ["row"], ["row", "pair", "number"], (y_numbers_of ix), none, 0⟩ : FDef) a fd (defArgs (top 6)) (defBody (top 6)) (defScope (top 6)) :=
  fAt_of X G c 3 rfl rfl ⟨rfl, rfl, rfl, by decide +kernel, rfl, by decide +kernel, by decide +kernel⟩ (by decide +kernel) fun _ _ _ _ _ _ us hl => match us, hl with | [_], _ => rfl
theorem m_4 : ∀ k < dep, mSs (fnm Tx) (cF Tx k) ["numbers"] (y_row_of ix) (defScope (top 7)) (defBody (top 7)) = true := by decide +kernel
theorem a_4 {K : PySem.W.Frag} {h : Heap} {mg : Str → Option Value} (X : K.In h) (G : h.Ns mainGlobals mg) (c : SaysC fas dfs gcs K) : ∃ a fd, FAt K mg (⟨"row_of", ["numbers"], ["numbers"], (y_row_of ix), none, 0⟩ : FDef) a fd (defArgs (top 7)) (defBody (top 7)) (defScope (top 7)) :=
  fAt_of X G c 4 rfl rfl ⟨rfl, rfl, rfl, by decide +kernel, rfl, by decide +kernel, by decide +kernel⟩ (by decide +kernel) fun _ _ _ _ _ _ us hl => match us, hl with | [_], _ => rfl
theorem m_5 : ∀ k < dep, mSs (fnm Tx) (cF Tx k) ["row", "place", "number"] (y_first_place ix) (defScope (top 8)) (defBody (top 8)) = true := by decide +kernel
theorem a_5 {K : PySem.W.Frag} {h : Heap} {mg : Str → Option Value} (X : K.In h) (G : h.Ns mainGlobals mg) (c : SaysC fas dfs gcs K) : ∃ a fd, FAt K mg (⟨"first_place", ["row"], ["row", "place", "number"], (y_first_place ix), none, 0⟩ : FDef) a fd (defArgs (top 8)) (defBody (top 8)) (defScope (top 8)) :=
  fAt_of X G c 5 rfl rfl ⟨rfl, rfl, rfl, by decide +kernel, rfl, by decide +kernel, by decide +kernel⟩ (by decide +kernel) fun _ _ _ _ _ _ us hl => match us, hl with | [_], _ => rfl
theorem m_6 : ∀ k < dep, mSs (fnm Tx) (cF Tx k) ["p", "row", "other", "place"] (y_cleared ix) (defScope (top 9)) (defBody (top 9)) = true := by decide +kernel
theorem a_6 {K : PySem.W.Frag} {h : Heap} {mg : Str → Option Value} (X : K.In h) (G : h.Ns mainGlobals mg) (c : SaysC fas dfs gcs K) : ∃ a fd, FAt K mg (⟨"cleared", ["p", "row", "other", "place"], ["p", "row", "other", "place"], (y_cleared ix), none, 0⟩ : FDef) a fd (defArgs (top 9)) (defBody (top 9)) (defScope (top 9)) :=
  fAt_of X G c 6 rfl rfl ⟨rfl, rfl, rfl, by decide +kernel, rfl, by decide +kernel, by decide +kernel⟩ (by decide +kernel) fun _ _ _ _ _ _ us hl => match us, hl with | [_, _, _, _], _ => rfl
theorem m_7 : ∀ k < dep, mSs (fnm Tx) (cF Tx k) ["p", "rows", "found", "row", "numbers", "first", "place", "other", "others", "by", "one", "own", "number"] (y_weighed ix) (defScope (top 10)) (defBody (top 10)) = true := by decide +kernel
theorem a_7 {K : PySem.W.Frag} {h : Heap} {mg : Str → Option Value} (X : K.In h) (G : h.Ns mainGlobals mg) (c : SaysC fas dfs gcs K) : ∃ a fd, FAt K mg (⟨"weighed", ["p", "rows"], ["p", "rows", "found", "row", "numbers", "first", "place", "other", "others", "by", "one", "own", "number"], (y_weighed ix), none, 0⟩ : FDef) a fd (defArgs (top 10)) (defBody (top 10)) (defScope (top 10)) :=
  fAt_of X G c 7 rfl rfl ⟨rfl, rfl, rfl, by decide +kernel, rfl, by decide +kernel, by decide +kernel⟩ (by decide +kernel) fun _ _ _ _ _ _ us hl => match us, hl with | [_, _], _ => rfl
theorem m_8 : ∀ k < dep, mSs (fnm Tx) (cF Tx k) ["p", "one", "other", "by", "place", "row", "numbers", "first", "more", "others", "own", "k"] (y_lessened ix) (defScope (top 11)) (defBody (top 11)) = true := by decide +kernel
theorem a_8 {K : PySem.W.Frag} {h : Heap} {mg : Str → Option Value} (X : K.In h) (G : h.Ns mainGlobals mg) (c : SaysC fas dfs gcs K) : ∃ a fd, FAt K mg (⟨"lessened", ["p", "one", "other"], ["p", "one", "other", "by", "place", "row", "numbers", "first", "more", "others", "own", "k"], (y_lessened ix), none, 0⟩ : FDef) a fd (defArgs (top 11)) (defBody (top 11)) (defScope (top 11)) :=
  fAt_of X G c 8 rfl rfl ⟨rfl, rfl, rfl, by decide +kernel, rfl, by decide +kernel, by decide +kernel⟩ (by decide +kernel) fun _ _ _ _ _ _ us hl => match us, hl with | [_, _, _], _ => rfl
theorem m_9 : ∀ k < dep, mSs (fnm Tx) (cF Tx k) ["p", "posts", "rows", "place", "row", "numbers"] (y_plainO ix) (defScope (top 12)) (defBody (top 12)) = true := by decide +kernel
theorem a_9 {K : PySem.W.Frag} {h : Heap} {mg : Str → Option Value} (X : K.In h) (G : h.Ns mainGlobals mg) (c : SaysC fas dfs gcs K) : ∃ a fd, FAt K mg (⟨"plain", ["p", "posts", "rows"], ["p", "posts", "rows", "place", "row", "numbers"], (y_plainO ix), none, 0⟩ : FDef) a fd (defArgs (top 12)) (defBody (top 12)) (defScope (top 12)) :=
  fAt_of X G c 9 rfl rfl ⟨rfl, rfl, rfl, by decide +kernel, rfl, by decide +kernel, by decide +kernel⟩ (by decide +kernel) fun _ _ _ _ _ _ us hl => match us, hl with | [_, _, _], _ => rfl
theorem m_10 : ∀ k < dep, mSs (fnm Tx) (cF Tx k) ["p", "row", "x", "y"] (y_flipped ix) (defScope (top 13)) (defBody (top 13)) = true := by decide +kernel
theorem a_10 {K : PySem.W.Frag} {h : Heap} {mg : Str → Option Value} (X : K.In h) (G : h.Ns mainGlobals mg) (c : SaysC fas dfs gcs K) : ∃ a fd, FAt K mg (⟨"flipped", ["p", "row"], ["p", "row", "x", "y"], (y_flipped ix), none, 0⟩ : FDef) a fd (defArgs (top 13)) (defBody (top 13)) (defScope (top 13)) :=
  fAt_of X G c 10 rfl rfl ⟨rfl, rfl, rfl, by decide +kernel, rfl, by decide +kernel, by decide +kernel⟩ (by decide +kernel) fun _ _ _ _ _ _ us hl => match us, hl with | [_, _], _ => rfl
theorem m_11 : ∀ k < dep, mSs (fnm Tx) (cF Tx k) ["p", "posts", "rows", "bound", "firsts", "found", "free", "row", "numbers", "place"] (y_mirrorO ix) (defScope (top 14)) (defBody (top 14)) = true := by decide +kernel
theorem a_11 {K : PySem.W.Frag} {h : Heap} {mg : Str → Option Value} (X : K.In h) (G : h.Ns mainGlobals mg) (c : SaysC fas dfs gcs K) : ∃ a fd, FAt K mg (⟨"mirror", ["p", "posts", "rows"], ["p", "posts", "rows", "bound", "firsts", "found", "free", "row", "numbers", "place"], (y_mirrorO ix), none, 0⟩ : FDef) a fd (defArgs (top 14)) (defBody (top 14)) (defScope (top 14)) :=
  fAt_of X G c 11 rfl rfl ⟨rfl, rfl, rfl, by decide +kernel, rfl, by decide +kernel, by decide +kernel⟩ (by decide +kernel) fun _ _ _ _ _ _ us hl => match us, hl with | [_, _, _], _ => rfl
theorem a_12 {K : PySem.W.Frag} {h : Heap} {mg : Str → Option Value} (X : K.In h) (G : h.Ns mainGlobals mg) (c : SaysC fas dfs gcs K) : ∃ a fd, FAt K mg fdDeck a fd (defArgs (top 16)) (defBody (top 16)) (defScope (top 16)) :=
  fAt_of X G c 12 rfl rfl ⟨rfl, rfl, rfl, by decide +kernel, rfl, by decide +kernel, by decide +kernel⟩ (by decide +kernel) fun _ _ _ _ _ _ us hl => match us, hl with | [_], _ => rfl
theorem a_13 {K : PySem.W.Frag} {h : Heap} {mg : Str → Option Value} (X : K.In h) (G : h.Ns mainGlobals mg) (c : SaysC fas dfs gcs K) : ∃ a fd, FAt K mg fdNext a fd (defArgs (top 17)) (defBody (top 17)) (defScope (top 17)) :=
  fAt_of X G c 13 rfl rfl ⟨rfl, rfl, rfl, by decide +kernel, rfl, by decide +kernel, by decide +kernel⟩ (by decide +kernel) fun _ _ _ _ _ _ us hl => match us, hl with | [_, _], _ => rfl
theorem m_14 : ∀ k < dep, mSs (fnm Tx) (cF Tx k) ["_law_deck_here"] (y_lprime ix) (defScope (top 18)) (defBody (top 18)) = true := by decide +kernel
theorem a_14 {K : PySem.W.Frag} {h : Heap} {mg : Str → Option Value} (X : K.In h) (G : h.Ns mainGlobals mg) (c : SaysC fas dfs gcs K) : ∃ a fd, FAt K mg (⟨"_law_prime", ["_law_deck_here"], ["_law_deck_here"], (y_lprime ix), none, 0⟩ : FDef) a fd (defArgs (top 18)) (defBody (top 18)) (defScope (top 18)) :=
  fAt_of X G c 14 rfl rfl ⟨rfl, rfl, rfl, by decide +kernel, rfl, by decide +kernel, by decide +kernel⟩ (by decide +kernel) fun _ _ _ _ _ _ us hl => match us, hl with | [_], _ => rfl
theorem m_15 : ∀ k < dep, mSs (fnm Tx) (cF Tx k) ["_law_deck_here", "_law_p", "_law_many", "_law_k"] (y_lnumbers ix) (defScope (top 19)) (defBody (top 19)) = true := by decide +kernel
theorem a_15 {K : PySem.W.Frag} {h : Heap} {mg : Str → Option Value} (X : K.In h) (G : h.Ns mainGlobals mg) (c : SaysC fas dfs gcs K) : ∃ a fd, FAt K mg (⟨"_law_numbers", ["_law_deck_here", "_law_p", "_law_many"], ["_law_deck_here", "_law_p", "_law_many", "_law_k"], (y_lnumbers ix), none, 0⟩ : FDef) a fd (defArgs (top 19)) (defBody (top 19)) (defScope (top 19)) :=
  fAt_of X G c 15 rfl rfl ⟨rfl, rfl, rfl, by decide +kernel, rfl, by decide +kernel, by decide +kernel⟩ (by decide +kernel) fun _ _ _ _ _ _ us hl => match us, hl with | [_, _, _], _ => rfl
theorem m_16 : ∀ k < dep, mSs (fnm Tx) (cF Tx k) ["_law_deck_here", "_law_p", "_law_posts", "_law_k"] (y_lrow ix) (defScope (top 20)) (defBody (top 20)) = true := by decide +kernel
theorem a_16 {K : PySem.W.Frag} {h : Heap} {mg : Str → Option Value} (X : K.In h) (G : h.Ns mainGlobals mg) (c : SaysC fas dfs gcs K) : ∃ a fd, FAt K mg (⟨"_law_row", ["_law_deck_here", "_law_p", "_law_posts"], ["_law_deck_here", "_law_p", "_law_posts", "_law_k"], (y_lrow ix), none, 0⟩ : FDef) a fd (defArgs (top 20)) (defBody (top 20)) (defScope (top 20)) :=
  fAt_of X G c 16 rfl rfl ⟨rfl, rfl, rfl, by decide +kernel, rfl, by decide +kernel, by decide +kernel⟩ (by decide +kernel) fun _ _ _ _ _ _ us hl => match us, hl with | [_, _, _], _ => rfl
theorem m_17 : ∀ k < dep, mSs (fnm Tx) (cF Tx k) ["_law_p", "_law_one", "_law_other", "_law_x", "_law_y", "_law_right", "_law_down"] (y_ladded ix) (defScope (top 21)) (defBody (top 21)) = true := by decide +kernel
theorem a_17 {K : PySem.W.Frag} {h : Heap} {mg : Str → Option Value} (X : K.In h) (G : h.Ns mainGlobals mg) (c : SaysC fas dfs gcs K) : ∃ a fd, FAt K mg (⟨"_law_added", ["_law_p", "_law_one", "_law_other"], ["_law_p", "_law_one", "_law_other", "_law_x", "_law_y", "_law_right", "_law_down"], (y_ladded ix), none, 0⟩ : FDef) a fd (defArgs (top 21)) (defBody (top 21)) (defScope (top 21)) :=
  fAt_of X G c 17 rfl rfl ⟨rfl, rfl, rfl, by decide +kernel, rfl, by decide +kernel, by decide +kernel⟩ (by decide +kernel) fun _ _ _ _ _ _ us hl => match us, hl with | [_, _, _], _ => rfl
theorem m_18 : ∀ k < dep, mSs (fnm Tx) (cF Tx k) ["_law_p", "_law_number", "_law_row_here", "_law_x", "_law_y"] (y_ltimes ix) (defScope (top 22)) (defBody (top 22)) = true := by decide +kernel
theorem a_18 {K : PySem.W.Frag} {h : Heap} {mg : Str → Option Value} (X : K.In h) (G : h.Ns mainGlobals mg) (c : SaysC fas dfs gcs K) : ∃ a fd, FAt K mg (⟨"_law_times", ["_law_p", "_law_number", "_law_row_here"], ["_law_p", "_law_number", "_law_row_here", "_law_x", "_law_y"], (y_ltimes ix), none, 0⟩ : FDef) a fd (defArgs (top 22)) (defBody (top 22)) (defScope (top 22)) :=
  fAt_of X G c 18 rfl rfl ⟨rfl, rfl, rfl, by decide +kernel, rfl, by decide +kernel, by decide +kernel⟩ (by decide +kernel) fun _ _ _ _ _ _ us hl => match us, hl with | [_, _, _], _ => rfl
theorem m_19 : ∀ k < dep, mSs (fnm Tx) (cF Tx k) ["_law_p", "_law_posts", "_law_numbers_here", "_law_rows", "_law_found", "_law_number", "_law_row_here"] (y_lsum ix) (defScope (top 23)) (defBody (top 23)) = true := by decide +kernel
theorem a_19 {K : PySem.W.Frag} {h : Heap} {mg : Str → Option Value} (X : K.In h) (G : h.Ns mainGlobals mg) (c : SaysC fas dfs gcs K) : ∃ a fd, FAt K mg (⟨"_law_sum", ["_law_p", "_law_posts", "_law_numbers_here", "_law_rows"], ["_law_p", "_law_posts", "_law_numbers_here", "_law_rows", "_law_found", "_law_number", "_law_row_here"], (y_lsum ix), none, 0⟩ : FDef) a fd (defArgs (top 23)) (defBody (top 23)) (defScope (top 23)) :=
  fAt_of X G c 19 rfl rfl ⟨rfl, rfl, rfl, by decide +kernel, rfl, by decide +kernel, by decide +kernel⟩ (by decide +kernel) fun _ _ _ _ _ _ us hl => match us, hl with | [_, _, _, _], _ => rfl
theorem m_20 : ∀ k < dep, mSs (fnm Tx) (cF Tx k) ["_law_deck_here", "_law_p", "_law_posts", "_law_rows", "_law_found", "_law_turn", "_law_k", "_law_j"] (y_lstirred ix) (defScope (top 24)) (defBody (top 24)) = true := by decide +kernel
theorem a_20 {K : PySem.W.Frag} {h : Heap} {mg : Str → Option Value} (X : K.In h) (G : h.Ns mainGlobals mg) (c : SaysC fas dfs gcs K) : ∃ a fd, FAt K mg (⟨"_law_stirred", ["_law_deck_here", "_law_p", "_law_posts", "_law_rows"], ["_law_deck_here", "_law_p", "_law_posts", "_law_rows", "_law_found", "_law_turn", "_law_k", "_law_j"], (y_lstirred ix), none, 0⟩ : FDef) a fd (defArgs (top 24)) (defBody (top 24)) (defScope (top 24)) :=
  fAt_of X G c 20 rfl rfl ⟨rfl, rfl, rfl, by decide +kernel, rfl, by decide +kernel, by decide +kernel⟩ (by decide +kernel) fun _ _ _ _ _ _ us hl => match us, hl with | [_, _, _, _], _ => rfl
theorem m_21 : ∀ k < dep, mSs (fnm Tx) (cF Tx k) ["_law_row_here", "_law_found", "_law_pair"] (y_lflat ix) (defScope (top 25)) (defBody (top 25)) = true := by decide +kernel
theorem a_21 {K : PySem.W.Frag} {h : Heap} {mg : Str → Option Value} (X : K.In h) (G : h.Ns mainGlobals mg) (c : SaysC fas dfs gcs K) : ∃ a fd, FAt K mg (⟨"_law_flat", ["_law_row_here"], ["_law_row_here", "_law_found", "_law_pair"], (y_lflat ix), none, 0⟩ : FDef) a fd (defArgs (top 25)) (defBody (top 25)) (defScope (top 25)) :=
  fAt_of X G c 21 rfl rfl ⟨rfl, rfl, rfl, by decide +kernel, rfl, by decide +kernel, by decide +kernel⟩ (by decide +kernel) fun _ _ _ _ _ _ us hl => match us, hl with | [_], _ => rfl
theorem m_22 : ∀ k < dep, mSs (fnm Tx) (cF Tx k) ["_law_deck_here", "_law_p", "_law_posts", "_law_most", "_law_pool", "_law_many", "_law_places", "_law_found", "_law_place", "_law_numbers_here", "_law_other", "_law_k"] (y_lplain_set ix) (defScope (top 26)) (defBody (top 26)) = true := by decide +kernel
theorem a_22 {K : PySem.W.Frag} {h : Heap} {mg : Str → Option Value} (X : K.In h) (G : h.Ns mainGlobals mg) (c : SaysC fas dfs gcs K) : ∃ a fd, FAt K mg (⟨"_law_plain_set", ["_law_deck_here", "_law_p", "_law_posts", "_law_most"], ["_law_deck_here", "_law_p", "_law_posts", "_law_most", "_law_pool", "_law_many", "_law_places", "_law_found", "_law_place", "_law_numbers_here", "_law_other", "_law_k"], (y_lplain_set ix), none, 0⟩ : FDef) a fd (defArgs (top 26)) (defBody (top 26)) (defScope (top 26)) :=
  fAt_of X G c 22 rfl rfl ⟨rfl, rfl, rfl, by decide +kernel, rfl, by decide +kernel, by decide +kernel⟩ (by decide +kernel) fun _ _ _ _ _ _ us hl => match us, hl with | [_, _, _, _], _ => rfl
theorem m_23 : ∀ k < dep, mSs (fnm Tx) (cF Tx k) ["_law_deck_here", "_law_p", "_law_posts", "_law_rows", "_law_found", "_law_turn", "_law_more"] (y_lspanning ix) (defScope (top 27)) (defBody (top 27)) = true := by decide +kernel
theorem a_23 {K : PySem.W.Frag} {h : Heap} {mg : Str → Option Value} (X : K.In h) (G : h.Ns mainGlobals mg) (c : SaysC fas dfs gcs K) : ∃ a fd, FAt K mg (⟨"_law_spanning", ["_law_deck_here", "_law_p", "_law_posts", "_law_rows"], ["_law_deck_here", "_law_p", "_law_posts", "_law_rows", "_law_found", "_law_turn", "_law_more"], (y_lspanning ix), none, 0⟩ : FDef) a fd (defArgs (top 27)) (defBody (top 27)) (defScope (top 27)) :=
  fAt_of X G c 23 rfl rfl ⟨rfl, rfl, rfl, by decide +kernel, rfl, by decide +kernel, by decide +kernel⟩ (by decide +kernel) fun _ _ _ _ _ _ us hl => match us, hl with | [_, _, _, _], _ => rfl
theorem m_24 : ∀ k < dep, mSs (fnm Tx) (cF Tx k) ["_law_p", "_law_one", "_law_other", "_law_x", "_law_y", "_law_right", "_law_down"] (y_lmeet ix) (defScope (top 28)) (defBody (top 28)) = true := by decide +kernel
theorem a_24 {K : PySem.W.Frag} {h : Heap} {mg : Str → Option Value} (X : K.In h) (G : h.Ns mainGlobals mg) (c : SaysC fas dfs gcs K) : ∃ a fd, FAt K mg (⟨"_law_meet", ["_law_p", "_law_one", "_law_other"], ["_law_p", "_law_one", "_law_other", "_law_x", "_law_y", "_law_right", "_law_down"], (y_lmeet ix), none, 0⟩ : FDef) a fd (defArgs (top 28)) (defBody (top 28)) (defScope (top 28)) :=
  fAt_of X G c 24 rfl rfl ⟨rfl, rfl, rfl, by decide +kernel, rfl, by decide +kernel, by decide +kernel⟩ (by decide +kernel) fun _ _ _ _ _ _ us hl => match us, hl with | [_, _, _], _ => rfl
theorem m_25 : ∀ k < dep, mSs (fnm Tx) (cF Tx k) ["_law_p", "_law_posts", "_law_thing", "_law_pair", "_law_one"] (y_lis_row ix) (defScope (top 29)) (defBody (top 29)) = true := by decide +kernel
theorem a_25 {K : PySem.W.Frag} {h : Heap} {mg : Str → Option Value} (X : K.In h) (G : h.Ns mainGlobals mg) (c : SaysC fas dfs gcs K) : ∃ a fd, FAt K mg (⟨"_law_is_row", ["_law_p", "_law_posts", "_law_thing"], ["_law_p", "_law_posts", "_law_thing", "_law_pair", "_law_one"], (y_lis_row ix), none, 0⟩ : FDef) a fd (defArgs (top 29)) (defBody (top 29)) (defScope (top 29)) :=
  fAt_of X G c 25 rfl rfl ⟨rfl, rfl, rfl, by decide +kernel, rfl, by decide +kernel, by decide +kernel⟩ (by decide +kernel) fun _ _ _ _ _ _ us hl => match us, hl with | [_, _, _], _ => rfl
theorem m_26 : ∀ k < dep, mSs (fnm Tx) (cF Tx k) n__law_are_plain b__law_are_plain (defScope (top 30)) (defBody (top 30)) = true := by decide +kernel
theorem a_26 {K : PySem.W.Frag} {h : Heap} {mg : Str → Option Value} (X : K.In h) (G : h.Ns mainGlobals mg) (c : SaysC fas dfs gcs K) : ∃ a fd, FAt K mg (⟨"_law_are_plain", ["_law_p", "_law_posts", "_law_thing"], n__law_are_plain, b__law_are_plain, none, 0⟩ : FDef) a fd (defArgs (top 30)) (defBody (top 30)) (defScope (top 30)) :=
  fAt_of X G c 26 rfl rfl ⟨rfl, rfl, rfl, by decide +kernel, rfl, by decide +kernel, by decide +kernel⟩ (by decide +kernel) fun _ _ _ _ _ _ us hl => match us, hl with | [_, _, _], _ => rfl
theorem m_27 : ∀ k < dep, mSs (fnm Tx) (cF Tx k) n_law b_law (defScope (top 31)) (defBody (top 31)) = true := by decide +kernel
theorem a_27 {K : PySem.W.Frag} {h : Heap} {mg : Str → Option Value} (X : K.In h) (G : h.Ns mainGlobals mg) (c : SaysC fas dfs gcs K) : ∃ a fd, FAt K mg (⟨"law", ["_law_script"], n_law, b_law, none, 0⟩ : FDef) a fd (defArgs (top 31)) (defBody (top 31)) (defScope (top 31)) :=
  fAt_of X G c 27 rfl rfl ⟨rfl, rfl, rfl, by decide +kernel, rfl, by decide +kernel, by decide +kernel⟩ (by decide +kernel) fun _ _ _ _ _ _ us hl => match us, hl with | [_], _ => rfl
theorem tabs {P : Program} {w : World} {K : PySem.W.Frag} {mg : Str → Option Value} {h base : Heap} (X : K.In h) (G : h.Ns mainGlobals mg) (c : SaysC fas dfs gcs K) (fr : ∀ x ∈ bNames, mg x = none) (sm : SysD K) : TabOk P w K mg base Tx dep := by
  refine tabOk_of fr sm (fun i d h2 => ?_) fun f d hf h2 => ?_
  · match i, h2 with
    | n + 0, h2 => cases h2
  · match f, h2 with
    | 0, h2 =>
      cases Option.some.inj h2
      obtain ⟨a, fd, q⟩ := a_0 X G c
      exact .inr ⟨a, fd, _, _, _, q, .inl ⟨rfl, m_0⟩⟩
    | 1, h2 =>
      cases Option.some.inj h2
      obtain ⟨a, fd, q⟩ := a_1 X G c
      exact .inr ⟨a, fd, _, _, _, q, .inl ⟨rfl, m_1⟩⟩
    | 2, h2 =>
      cases Option.some.inj h2
      obtain ⟨a, fd, q⟩ := a_2 X G c
      exact .inr ⟨a, fd, _, _, _, q, .inl ⟨rfl, m_2⟩⟩
    | 3, h2 =>
      cases Option.some.inj h2
      obtain ⟨a, fd, q⟩ := a_3 X G c
      exact .inr ⟨a, fd, _, _, _, q, .inl ⟨rfl, m_3⟩⟩
    | 4, h2 =>
      cases Option.some.inj h2
      obtain ⟨a, fd, q⟩ := a_4 X G c
      exact .inr ⟨a, fd, _, _, _, q, .inl ⟨rfl, m_4⟩⟩
    | 5, h2 =>
      cases Option.some.inj h2
      obtain ⟨a, fd, q⟩ := a_5 X G c
      exact .inr ⟨a, fd, _, _, _, q, .inl ⟨rfl, m_5⟩⟩
    | 6, h2 =>
      cases Option.some.inj h2
      obtain ⟨a, fd, q⟩ := a_6 X G c
      exact .inr ⟨a, fd, _, _, _, q, .inl ⟨rfl, m_6⟩⟩
    | 7, h2 =>
      cases Option.some.inj h2
      obtain ⟨a, fd, q⟩ := a_7 X G c
      exact .inr ⟨a, fd, _, _, _, q, .inl ⟨rfl, m_7⟩⟩
    | 8, h2 =>
      cases Option.some.inj h2
      obtain ⟨a, fd, q⟩ := a_8 X G c
      exact .inr ⟨a, fd, _, _, _, q, .inl ⟨rfl, m_8⟩⟩
    | 9, h2 =>
      cases Option.some.inj h2
      obtain ⟨a, fd, q⟩ := a_9 X G c
      exact .inr ⟨a, fd, _, _, _, q, .inl ⟨rfl, m_9⟩⟩
    | 10, h2 =>
      cases Option.some.inj h2
      obtain ⟨a, fd, q⟩ := a_10 X G c
      exact .inr ⟨a, fd, _, _, _, q, .inl ⟨rfl, m_10⟩⟩
    | 11, h2 =>
      cases Option.some.inj h2
      obtain ⟨a, fd, q⟩ := a_11 X G c
      exact .inr ⟨a, fd, _, _, _, q, .inl ⟨rfl, m_11⟩⟩
    | 12, h2 =>
      cases Option.some.inj h2
      obtain ⟨a, fd, q⟩ := a_12 X G c
      exact .inr ⟨a, fd, _, _, _, q, .inr ⟨pDeck, rfl, deck_ok fr sm q (by decide +kernel)⟩⟩
    | 13, h2 =>
      cases Option.some.inj h2
      obtain ⟨a, fd, q⟩ := a_13 X G c
      exact .inr ⟨a, fd, _, _, _, q, .inr ⟨pNext, rfl, next_ok fr sm q (by decide +kernel)⟩⟩
    | 14, h2 =>
      cases Option.some.inj h2
      obtain ⟨a, fd, q⟩ := a_14 X G c
      exact .inr ⟨a, fd, _, _, _, q, .inl ⟨rfl, m_14⟩⟩
    | 15, h2 =>
      cases Option.some.inj h2
      obtain ⟨a, fd, q⟩ := a_15 X G c
      exact .inr ⟨a, fd, _, _, _, q, .inl ⟨rfl, m_15⟩⟩
    | 16, h2 =>
      cases Option.some.inj h2
      obtain ⟨a, fd, q⟩ := a_16 X G c
      exact .inr ⟨a, fd, _, _, _, q, .inl ⟨rfl, m_16⟩⟩
    | 17, h2 =>
      cases Option.some.inj h2
      obtain ⟨a, fd, q⟩ := a_17 X G c
      exact .inr ⟨a, fd, _, _, _, q, .inl ⟨rfl, m_17⟩⟩
    | 18, h2 =>
      cases Option.some.inj h2
      obtain ⟨a, fd, q⟩ := a_18 X G c
      exact .inr ⟨a, fd, _, _, _, q, .inl ⟨rfl, m_18⟩⟩
    | 19, h2 =>
      cases Option.some.inj h2
      obtain ⟨a, fd, q⟩ := a_19 X G c
      exact .inr ⟨a, fd, _, _, _, q, .inl ⟨rfl, m_19⟩⟩
    | 20, h2 =>
      cases Option.some.inj h2
      obtain ⟨a, fd, q⟩ := a_20 X G c
      exact .inr ⟨a, fd, _, _, _, q, .inl ⟨rfl, m_20⟩⟩
    | 21, h2 =>
      cases Option.some.inj h2
      obtain ⟨a, fd, q⟩ := a_21 X G c
      exact .inr ⟨a, fd, _, _, _, q, .inl ⟨rfl, m_21⟩⟩
    | 22, h2 =>
      cases Option.some.inj h2
      obtain ⟨a, fd, q⟩ := a_22 X G c
      exact .inr ⟨a, fd, _, _, _, q, .inl ⟨rfl, m_22⟩⟩
    | 23, h2 =>
      cases Option.some.inj h2
      obtain ⟨a, fd, q⟩ := a_23 X G c
      exact .inr ⟨a, fd, _, _, _, q, .inl ⟨rfl, m_23⟩⟩
    | 24, h2 =>
      cases Option.some.inj h2
      obtain ⟨a, fd, q⟩ := a_24 X G c
      exact .inr ⟨a, fd, _, _, _, q, .inl ⟨rfl, m_24⟩⟩
    | 25, h2 =>
      cases Option.some.inj h2
      obtain ⟨a, fd, q⟩ := a_25 X G c
      exact .inr ⟨a, fd, _, _, _, q, .inl ⟨rfl, m_25⟩⟩
    | 26, h2 =>
      cases Option.some.inj h2
      obtain ⟨a, fd, q⟩ := a_26 X G c
      exact .inr ⟨a, fd, _, _, _, q, .inl ⟨rfl, m_26⟩⟩
    | 27, h2 =>
      cases Option.some.inj h2
      obtain ⟨a, fd, q⟩ := a_27 X G c
      exact .inr ⟨a, fd, _, _, _, q, .inl ⟨rfl, m_27⟩⟩
    | n + 28, h2 => cases h2
abbrev R : PySem.W.OpenRow := PySem.W.OpenLaw.row PySem.Challenge.rw_fairposts_k15_mirrors
abbrev hk : PySem.W.Hook := hookC 4 fas dfs gcs
def ob (s : PySem.W.SharedT) : AlC := obsCG 4 fas dfs gcs (HandSHeadRun.getT s)
theorem ob_eq (s : PySem.W.SharedT) : ob s = hk.obs s.abs := obsCG_eq (HandSHeadRun.getT_eq s)
def loose : List Str := (["inverse", "added", "times", "numbers_of", "row_of", "first_place", "cleared", "weighed", "lessened", "plain", "flipped", "mirror", "_law_deck", "_law_next", "_law_prime", "_law_numbers", "_law_row", "_law_added", "_law_times", "_law_sum", "_law_stirred", "_law_flat", "_law_plain_set", "_law_spanning", "_law_meet", "_law_is_row", "_law_are_plain"] : List Str)
theorem run (w : World) : HandSHeadRun.RunEq R (PySem.W.view R.prog [31]) hk ob 1380 loose w := by
  intro os
  kernel_rfl
end FP.Law
namespace FP.Law
open PySem PySem.Spec L2
local macro_rules
  | `(tactic| simp_arith! [$ls,*]) => `(tactic| simp (maxSteps := 1000000) (disch := first | omega | assumption | (simp only [Sto.put_dk, Sto.del_dk]; assumption) | (simp only [List.length_map, List.length_append, List.length_cons, List.length_nil, List.length_zip, List.length_range, List.length_set, List.length_replicate, List.length_take, List.length_drop]; omega)) only [↓hv0, ↓hb0, ↓hl0, ↓ht0, ↓hv1, ↓hb1, ↓hl1, ↓ht1, ↓hv2, ↓hb2, ↓hl2, ↓ht2, ↓hv3, ↓hb3, ↓hl3, ↓ht3, ↓hv4, ↓hb4, ↓hl4, ↓ht4, ↓hv5, ↓hb5, ↓hl5, ↓ht5, ↓hv6, ↓hb6, ↓hl6, ↓ht6, ↓hv7, ↓hb7, ↓hl7, ↓ht7, ↓hv8, ↓hb8, ↓hl8, ↓ht8, ↓hv9, ↓hb9, ↓hl9, ↓ht9, ↓hv10, ↓hb10, ↓hl10, ↓ht10, ↓hv11, ↓hb11, ↓hl11, ↓ht11, ↓hv12, ↓hb12, ↓hl12, ↓ht12, ↓hv13, ↓hb13, ↓hl13, ↓ht13, ↓hv14, ↓hb14, ↓hl14, ↓ht14, ↓hv15, ↓hb15, ↓hl15, ↓ht15, ↓hv16, ↓hb16, ↓hl16, ↓ht16, ↓hv17, ↓hb17, ↓hl17, ↓ht17, ↓hv18, ↓hb18, ↓hl18, ↓ht18, ↓hv19, ↓hb19, ↓hl19, ↓ht19, ↓hv20, ↓hb20, ↓hl20, ↓ht20, ↓hv21, ↓hb21, ↓hl21, ↓ht21, ↓hv22, ↓hb22, ↓hl22, ↓ht22, ↓hv23, ↓hb23, ↓hl23, ↓ht23, ↓h_nd, ↓h_call, ↓h_glb, ↓h_kix, ↓h_mth, ↓h_cmp, ↓hT_cmp, ↓h_xn, ↓hT_xn, ↓hT_nd, ↓hT_call, ↓hT_not, ↓h_ite, ↓h_es0, ↓h_es, ↓h_asg, ↓h_expr, ↓h_ret, ↓h_retN, ↓h_ifs, ↓h_ss0, ↓h_ss, ↓h_exb, ↓h_trb, ↓h_tri, ↓hc_lt, ↓hc_le, ↓hc_gt, ↓hc_ge, ↓hc_eqI, ↓hc_neI, ↓hc_eqS, ↓hc_neS, ↓hc_eqB, ↓hc_neB, ↓hix_l0, ↓hix_t0, ↓hix_l1, ↓hix_t1, ↓hix_l2, ↓hix_t2, ↓hix_l3, ↓hix_t3, ↓hix_l4, ↓hix_t4, ↓htp0, ↓hls0, ↓htp1, ↓hls1, ↓htp2, ↓hls2, ↓htp3, ↓hls3, ↓htp4, ↓hls4, ↓htp5, ↓hls5, ↓sem_int, ↓sem_str, ↓sem_bl, ↓sem_non, ↓sem_sub, ↓sem_add, ↓sem_neg, ↓sem_tyInt, ↓sem_tyBool, ↓sem_tyTuple, ↓sem_tyList, ↓sem_tyStr, ↓sem_tyDict, ↓xpost_om, ↓xchk_om, ↓xend_om, ↓isI_thing, ↓true_and, wipeE, List.map_cons, List.map_nil, wSs, wS, wE, wEs, wAnd, wOr, wT, wAndT, wOrT, wTs, eI, Bool.false_eq_true, Bool.not_true, Bool.not_false, if_true, if_false, decide_true, decide_false, true_and, and_true, and_self, and_self_left, exists_const, exists_and_left, D.loc.injEq, O.lst.injEq, set_mapE, ixN_ok, Sto.put_same, put_del, put_put, const_eq, ite_self, tr_bl, tr_int, tr_tup, tr_lst, List.getElem?_cons_zero, List.getElem?_cons_succ,
    Option.some.injEq, exists_eq_left', exists_eq_left, D.bl.injEq, D.int.injEq, D.str.injEq, List.set_cons_zero, List.set_cons_succ, List.length_cons, List.length_nil, List.length_map, List.length_zip, List.length_range, List.length_range', List.replicate_succ, List.replicate_zero, List.cons_append, List.nil_append, List.append_nil, Nat.reduceAdd, Nat.reduceSub, Nat.add_one_sub_one, Nat.sub_self, Nat.zero_add, Nat.add_zero, decide_eq_true_eq,
    sem_tyInt, sem_tyBool, sem_tyTuple, sem_tyList, sem_tyStr, sem_tyDict, sem_int, sem_str, sem_bl, sem_non, sem_dic0, sem_isi, sem_sub, sem_mod, sem_fdiv, sem_neg, sem_add, sem_addT, sem_addL, sem_mul, sem_ix, sem_len, sem_tuple, sem_lst, sem_tup, sem_lstO, sem_intI, sem_intB, sem_listL, sem_listO, sem_lzip, sem_allM, sem_anyM, sem_sumM,
    cs_lt, cs_le, cs_gt, cs_ge, cs_eqI, cs_eqB, cs_eqS, cs_neI, cs_neB, cs_neS, cs_isB, cs_isNotB, cs_eqT0, cs_neT0, cs_isN, cs_isNN, cs_isIN, cs_isTN, cs_isLN, cs_notNN, cs_notIN, cs_notTN, cs_notLN,
    seqS_tup, seqS_lst, lstS_lst, lenS_tup, lenS_lst, stay_tup, stay_lst, sle, mul_ok1, mul_ok2, div_ok, newL_f, bind_nm, bind_tup, bind_unl, binds_nil, binds_cons, it_seqE, it_enumE, it_zipE, it_zip0T, it_zip0L, it_zip3E, it_rg1E, it_rg2E, isTup_tup, isTup_lst, seq_rowD, seq_tupI, seq_lstI, seq_rwsL, seq_rwsT, seq_lstE, seq_tupE, seq_prD, lst_lstI, lst_rwsL, lst_lstE, len_rowD, len_tupI, len_lstI, len_rwsL, len_rwsT, len_lstE, len_tupE, stay_rowD, stay_tupI, stay_lstI, stay_rwsL, stay_rwsT, stay_lstE, stay_tupE, stay_prD, ty_rowD, ty_tupI, ty_rwsT, ty_tupE, ty_lstI, ty_rwsL, ty_lstE, ty_prD, bind_prD, row_fold, row_fold1, row_fold2, pr_fold, tupI_fold, tupI_fold2, lstI_fold, lstI_fold2, rwsL_fold, rwsL_fold2, rwsT_fold, rwsT_fold2, sem_sumI, it_zipRR, it_zipTT, zipD_map, zip3D_map, enumD_map, rgD_nat, rgD_two, at0, at1, at2, atI_map,
    get_chk, get_sem, dsp_one, dsp_two, fld_prime, fld_count, fld_lot, isI_thing, isiD_thing, isiD_int, xchk_om, xchk_eq, xchk_ne, xchk_len, xchk_str, xend_om, xend_eq2, xend_ne2, xend_len1, xend_str1, xpost_om, xpost_eqb, xpost_neb, xpost_leni, xpost_strs, xpostT_om, xpostT_eqb, xpostT_neb, it_enumM, lcRun_map, lcRun2_map, lcT_pure, lcT_filter, lcT_filterP, mem_int, mem_bool, mem_str, mem_tuple, mem_list, ty_int, ty_tup, ty_lst, ty_bl, ty_str, ty_non, isT_ii, isT_ib, isT_tt, isT_ss, isT_bb, isT_ll, startE_eq, $ls,*])
  | `(tactic| simp_arith! [$ls,*] at $h:ident) => `(tactic| simp (maxSteps := 1000000) (disch := first | omega | assumption | (simp only [Sto.put_dk, Sto.del_dk]; assumption) | (simp only [List.length_map, List.length_append, List.length_cons, List.length_nil, List.length_zip, List.length_range, List.length_set, List.length_replicate, List.length_take, List.length_drop]; omega)) only [↓hv0, ↓hb0, ↓hl0, ↓ht0, ↓hv1, ↓hb1, ↓hl1, ↓ht1, ↓hv2, ↓hb2, ↓hl2, ↓ht2, ↓hv3, ↓hb3, ↓hl3, ↓ht3, ↓hv4, ↓hb4, ↓hl4, ↓ht4, ↓hv5, ↓hb5, ↓hl5, ↓ht5, ↓hv6, ↓hb6, ↓hl6, ↓ht6, ↓hv7, ↓hb7, ↓hl7, ↓ht7, ↓hv8, ↓hb8, ↓hl8, ↓ht8, ↓hv9, ↓hb9, ↓hl9, ↓ht9, ↓hv10, ↓hb10, ↓hl10, ↓ht10, ↓hv11, ↓hb11, ↓hl11, ↓ht11, ↓hv12, ↓hb12, ↓hl12, ↓ht12, ↓hv13, ↓hb13, ↓hl13, ↓ht13, ↓hv14, ↓hb14, ↓hl14, ↓ht14, ↓hv15, ↓hb15, ↓hl15, ↓ht15, ↓hv16, ↓hb16, ↓hl16, ↓ht16, ↓hv17, ↓hb17, ↓hl17, ↓ht17, ↓hv18, ↓hb18, ↓hl18, ↓ht18, ↓hv19, ↓hb19, ↓hl19, ↓ht19, ↓hv20, ↓hb20, ↓hl20, ↓ht20, ↓hv21, ↓hb21, ↓hl21, ↓ht21, ↓hv22, ↓hb22, ↓hl22, ↓ht22, ↓hv23, ↓hb23, ↓hl23, ↓ht23, ↓h_nd, ↓h_call, ↓h_glb, ↓h_kix, ↓h_mth, ↓h_cmp, ↓hT_cmp, ↓h_xn, ↓hT_xn, ↓hT_nd, ↓hT_call, ↓hT_not, ↓h_ite, ↓h_es0, ↓h_es, ↓h_asg, ↓h_expr, ↓h_ret, ↓h_retN, ↓h_ifs, ↓h_ss0, ↓h_ss, ↓h_exb, ↓h_trb, ↓h_tri, ↓hc_lt, ↓hc_le, ↓hc_gt, ↓hc_ge, ↓hc_eqI, ↓hc_neI, ↓hc_eqS, ↓hc_neS, ↓hc_eqB, ↓hc_neB, ↓hix_l0, ↓hix_t0, ↓hix_l1, ↓hix_t1, ↓hix_l2, ↓hix_t2, ↓hix_l3, ↓hix_t3, ↓hix_l4, ↓hix_t4, ↓htp0, ↓hls0, ↓htp1, ↓hls1, ↓htp2, ↓hls2, ↓htp3, ↓hls3, ↓htp4, ↓hls4, ↓htp5, ↓hls5, ↓sem_int, ↓sem_str, ↓sem_bl, ↓sem_non, ↓sem_sub, ↓sem_add, ↓sem_neg, ↓sem_tyInt, ↓sem_tyBool, ↓sem_tyTuple, ↓sem_tyList, ↓sem_tyStr, ↓sem_tyDict, ↓xpost_om, ↓xchk_om, ↓xend_om, ↓isI_thing, ↓true_and, wipeE, List.map_cons, List.map_nil, wSs, wS, wE, wEs, wAnd, wOr, wT, wAndT, wOrT, wTs, eI, Bool.false_eq_true, Bool.not_true, Bool.not_false, if_true, if_false, decide_true, decide_false, true_and, and_true, and_self, and_self_left, exists_const, exists_and_left, D.loc.injEq, O.lst.injEq, set_mapE, ixN_ok, Sto.put_same, put_del, put_put, const_eq, ite_self, tr_bl, tr_int, tr_tup, tr_lst, List.getElem?_cons_zero, List.getElem?_cons_succ,
    Option.some.injEq, exists_eq_left', exists_eq_left, D.bl.injEq, D.int.injEq, D.str.injEq, List.set_cons_zero, List.set_cons_succ, List.length_cons, List.length_nil, List.length_map, List.length_zip, List.length_range, List.length_range', List.replicate_succ, List.replicate_zero, List.cons_append, List.nil_append, List.append_nil, Nat.reduceAdd, Nat.reduceSub, Nat.add_one_sub_one, Nat.sub_self, Nat.zero_add, Nat.add_zero, decide_eq_true_eq,
    sem_tyInt, sem_tyBool, sem_tyTuple, sem_tyList, sem_tyStr, sem_tyDict, sem_int, sem_str, sem_bl, sem_non, sem_dic0, sem_isi, sem_sub, sem_mod, sem_fdiv, sem_neg, sem_add, sem_addT, sem_addL, sem_mul, sem_ix, sem_len, sem_tuple, sem_lst, sem_tup, sem_lstO, sem_intI, sem_intB, sem_listL, sem_listO, sem_lzip, sem_allM, sem_anyM, sem_sumM,
    cs_lt, cs_le, cs_gt, cs_ge, cs_eqI, cs_eqB, cs_eqS, cs_neI, cs_neB, cs_neS, cs_isB, cs_isNotB, cs_eqT0, cs_neT0, cs_isN, cs_isNN, cs_isIN, cs_isTN, cs_isLN, cs_notNN, cs_notIN, cs_notTN, cs_notLN,
    seqS_tup, seqS_lst, lstS_lst, lenS_tup, lenS_lst, stay_tup, stay_lst, sle, mul_ok1, mul_ok2, div_ok, newL_f, bind_nm, bind_tup, bind_unl, binds_nil, binds_cons, it_seqE, it_enumE, it_zipE, it_zip0T, it_zip0L, it_zip3E, it_rg1E, it_rg2E, isTup_tup, isTup_lst, seq_rowD, seq_tupI, seq_lstI, seq_rwsL, seq_rwsT, seq_lstE, seq_tupE, seq_prD, lst_lstI, lst_rwsL, lst_lstE, len_rowD, len_tupI, len_lstI, len_rwsL, len_rwsT, len_lstE, len_tupE, stay_rowD, stay_tupI, stay_lstI, stay_rwsL, stay_rwsT, stay_lstE, stay_tupE, stay_prD, ty_rowD, ty_tupI, ty_rwsT, ty_tupE, ty_lstI, ty_rwsL, ty_lstE, ty_prD, bind_prD, row_fold, row_fold1, row_fold2, pr_fold, tupI_fold, tupI_fold2, lstI_fold, lstI_fold2, rwsL_fold, rwsL_fold2, rwsT_fold, rwsT_fold2, sem_sumI, it_zipRR, it_zipTT, zipD_map, zip3D_map, enumD_map, rgD_nat, rgD_two, at0, at1, at2, atI_map,
    get_chk, get_sem, dsp_one, dsp_two, fld_prime, fld_count, fld_lot, isI_thing, isiD_thing, isiD_int, xchk_om, xchk_eq, xchk_ne, xchk_len, xchk_str, xend_om, xend_eq2, xend_ne2, xend_len1, xend_str1, xpost_om, xpost_eqb, xpost_neb, xpost_leni, xpost_strs, xpostT_om, xpostT_eqb, xpostT_neb, it_enumM, lcRun_map, lcRun2_map, lcT_pure, lcT_filter, lcT_filterP, mem_int, mem_bool, mem_str, mem_tuple, mem_list, ty_int, ty_tup, ty_lst, ty_bl, ty_str, ty_non, isT_ii, isT_ib, isT_tt, isT_ss, isT_bb, isT_ll, startE_eq, $ls,*] at $h:ident)
section
variable {S : Sto} {Q : PostE} {p c : Int} {n m : Nat} {rs : List Rw} {k : Nat}
theorem lisRow_at {r : Rw} (hn : n ≤ 100) (p1 : p ≤ 1000) (v : VR p n r) (q : Q (.bl true) S) : wC T (k + 1) (ix 43) [.int p, .int (n : Nat), rowD r] S Q := by
  rw [wC_eq has_lis_row rfl]
  have ln := v.len
  have sz : r.length ≤ sizeLine := Nat.le_trans (show r.length ≤ 1000 by omega) (by decide)
  simp_arith! [y_lis_row, yn_lis_row, fd_lis_row, ln, y_lis_row_1, sz]
  refine for_any (fun ρ S' => S' = S ∧ ∃ u3 u4, ρ = [some (.int p), some (.int (n : Nat)), some (rowD r), u3, u4]) (fun _ _ _ => of_eq_true stay_rowD) ?_ ?_ ⟨rfl, _, _, rfl⟩
  · rintro z hz ρ S' kk ⟨rfl, u3, u4, rfl⟩ hk
    obtain ⟨z0, z1, z2, z3⟩ := v.inn z hz
    have len2 : lenS S' (prD z) = some 2 := rfl
    simp_arith! [y_lis_row_1b, len2, y_lis_row_1b_1, lcRun, z0, z1, z2, z3, cs_neL0, List.isEmpty_nil]
    exact hk _ _ ⟨rfl, _, _, rfl⟩
  · rintro ρ S' ⟨rfl, u3, u4, rfl⟩
    simp_arith! [y_lis_row_2]
    exact q
theorem lflat_len {r : Rw} (h : r.length = n) : (flat r).length = 2 * n := by
  have : ∀ r : Rw, (flat r).length = 2 * r.length := fun r => by
    induction r with
    | nil => rfl
    | cons a l ih => simp [flat] at ih ⊢; omega
  rw [this, h]
/-- the places at which a row isn't 0 begin with its first -/
theorem firsts_of : ∀ (fl : List Int) (i b : Nat), i < fl.length → fl.getD i 0 ≠ 0 → (∀ j < i, fl.getD j 0 = 0) → ∃ rest, ((fl.zipIdx b).filter fun q => decide (q.1 ≠ 0)).map (·.2) = (b + i) :: rest
  | [], i, b, h, _, _ => by simp at h
  | a :: fl, 0, b, _, h, _ => by
    have h' : a ≠ 0 := by simpa using h
    exact ⟨_, by simp [List.zipIdx_cons, h']; rfl⟩
  | a :: fl, i + 1, b, hl, h, z => by
    have h0 : a = 0 := by simpa using z 0 (by omega)
    obtain ⟨rest, e⟩ := firsts_of fl i (b + 1) (by simpa using hl) (by simpa using h) fun j hj => by simpa using z (j + 1) (by omega)
    refine ⟨rest, ?_⟩
    rw [List.zipIdx_cons, List.filter_cons_of_neg (by simp [h0]), e]
    congr 1
    omega
theorem cs_eqLoc {l : Addr} {ns ms : List Int} (h : S.m l = some (.lst (ns.map D.int))) : cEq.cs (.loc l) (lstI ms) S = some (decide (ns = ms)) := by
  rw [← cs_eqLI (S := S)]
  show (match pyS S (.loc l), pyS S (lstI ms) with
    | some a, some b => if (SeqAt.shaped a && SeqAt.shaped b) = true then some (xor false (PyData.eqv a b)) else none
    | _, _ => none) = (match pyS S (lstI ns), pyS S (lstI ms) with
    | some a, some b => if (SeqAt.shaped a && SeqAt.shaped b) = true then some (xor false (PyData.eqv a b)) else none
    | _, _ => none)
  have e : pyS S (.loc l) = pyS S (lstI ns) := by
    show (match S.m l with
      | some (.lst xs) => (pyL xs).map PyData.list
      | _ => none) = _
    rw [h]
    rfl
  rw [e]
theorem ixA {ns : List Int} {i : Nat} (h : i < ns.length) : atI (ns.map D.int) ((i : Nat) : Int) = some (.int (ns.getD i 0)) := atI_nat (by rw [List.getElem?_map, List.getD_eq_getElem?_getD, List.getElem?_eq_getElem h]; rfl)
/-- a plain set's own list is told to be plain -/
theorem arePlain_at {A : List (Nat × Rw)} {l : Addr} (hp : isPr p) (hn : n ≤ 20) (P : Pl p n A) (srt : A.Pairwise fun a b => a.1 ≤ b.1) (hS : S.m l = some (.lst ((A.map (·.2)).map rowD))) (q : ∀ S', Ext S S' → Q (.bl true) S') :
    wC T (k + 2) 26 [.int p, .int (n : Nat), .loc l] S Q := by
  have hT : T 26 = some ⟨"_law_are_plain", ["_law_p", "_law_posts", "_law_thing"], n__law_are_plain, b__law_are_plain, none, 0⟩ := rfl
  have hb := isPr_b hp
  have h0 : 0 < p := by omega
  have lA := P.length
  rw [wC_eq hT rfl]
  have ty : tyN S (.loc l) = some "list" := by simp only [tyN, hS]
  have sqg : ∀ S', Ext S S' → seqS S' (.loc l) = some (A.map fun t => rowD t.2) := fun S' x => by
    have : seqS S' (.loc l) = some ((A.map (·.2)).map rowD) := seq_loc (x.m _ _ hS)
    rw [this, List.map_map]
    rfl
  have sq := sqg S (.refl S)
  have szA : A.length ≤ sizeLine := Nat.le_trans (show A.length ≤ 1000 by omega) (by decide)
  have lfl : ∀ t ∈ A, (flat t.2).length = 2 * n := fun t ht => lflat_len (P.vr t ht).len
  simp_arith! [b__law_are_plain, n__law_are_plain, ty, b__law_are_plain_1, sq, szA]
  refine lcT_toF (f := fun t : Nat × Rw => rowD t.2) (p := fun _ => false) sq (fun t ht kk hk => ?_) ?_
  · refine lisRow_at (by omega) (by omega) (P.vr t ht) ?_
    exact ⟨_, rfl, by simpa using hk⟩
  have f1 : (A.filter fun _ => false) = [] := by simp
  rw [f1]
  simp_arith! [cs_neL0, List.isEmpty_nil, b__law_are_plain_2, sem_lstO]
  intro l2 hl2
  have n12 : l ≠ l2 := fun e => by subst e; rw [hS] at hl2; cases hl2
  have sq2 : ∀ o, seqS (S.put l2 o) (.loc l) = some (A.map fun t => rowD t.2) := fun o => sqg _ ((Ext.refl S).put hl2)
  simp_arith! [b__law_are_plain_3, sq2, szA]
  refine for_list (fun ys ρ S' => ∃ (done : List (Nat × Rw)) (u4 u5 : Option D), A = done ++ ys ∧ S' = S.put l2 (.lst ((done.map (·.1)).map natD)) ∧ ρ = [some (.int p), some (.int (n : Nat)), some (.loc l), some (.loc l2), u4, u5, none, none, none, none]) (fun _ ρ S' h => by obtain ⟨_, _, _, _, rfl, _⟩ := h; exact sq2 _) ?_ ?_ ⟨[], none, none, rfl, rfl, rfl⟩
  · rintro t ys ρ S' kk ⟨done, u4, u5, eA, rfl, rfl⟩ hk
    have ht : t ∈ A := by rw [eA]; simp
    have lt := (P.vr t ht).len
    have pt := P.pl t ht
    obtain ⟨rest, er⟩ := firsts_of (flat t.2) t.1 0 (by rw [lfl t ht]; exact pt) (by
      have : co t.2 t.1 = 1 := P.one t ht
      show co t.2 t.1 ≠ 0
      omega) fun j hj => P.lead t ht j hj
    rw [Nat.zero_add] at er
    have szf : (flat t.2).length ≤ sizeLine := by rw [lfl t ht]; exact Nat.le_trans (show 2 * n ≤ 1000 by omega) (by decide)
    have ld : done.length ≤ 1000 := by
      have := congrArg List.length eA
      simp at this; omega
    simp_arith! [b__law_are_plain_3b, lflat_eq has_lflat (show t.2.length ≤ 1000 by omega), szf]
    refine ⟨by rw [List.length_zipIdx]; exact szf, ?_⟩
    have el : lstI (((flat t.2).zipIdx.filter fun a => !decide (a.1 = 0)).map fun a => (a.2 : Int)) = lstI ((t.1 : Int) :: rest.map fun j : Nat => (j : Int)) := by
      have := congrArg (List.map fun j : Nat => (j : Int)) er
      have := congrArg lstI this
      simpa [List.map_map, Function.comp_def] using this
    rw [el]
    have ix0 : ∀ l : List D, atI (.int (t.1 : Nat) :: l) 0 = some (.int (t.1 : Nat)) := fun l => atI_nat (k := 0) rfl
    have ixf : atI ((flat t.2).map D.int) ((t.1 : Nat) : Int) = some (.int 1) := by
      have : (flat t.2).getD t.1 0 = 1 := P.one t ht
      rw [← this]
      exact ixA (by rw [lfl t ht]; exact pt)
    simp_arith! [b__law_are_plain_3b_1, cs_eqL0I, lflat_eq has_lflat (show t.2.length ≤ 1000 by omega), ix0, ixf, b__law_are_plain_3b_2, app_chk]
    rw [app_put]
    have e4 : (done.map (·.1)).map natD ++ [.int (t.1 : Nat)] = ((done ++ [t]).map (·.1)).map natD := by simp [natD]
    rw [e4]
    have c1 : ¬ (((t.1 : Nat) : Int) :: rest.map fun j : Nat => (j : Int)).isEmpty = true := by simp
    rw [if_neg c1]
    exact ⟨of_eq_true (lt_sz (by simp; omega)), hk _ _ ⟨done ++ [t], _, _, by rw [eA]; simp, rfl, rfl⟩⟩
  · rintro ρ S' ⟨done, u4, u5, eA, rfl, rfl⟩
    rw [List.append_nil] at eA
    subst eA
    have sqA : seqS (S.put l2 (.lst ((A.map (·.1)).map natD))) (.loc l) = some (A.map fun t => rowD t.2) := sq2 _
    have sqB : seqS (S.put l2 (.lst ((A.map (·.1)).map natD))) (.loc l2) = some ((A.map (·.1)).map natD) := seq_loc Sto.put_same
    simp_arith! [b__law_are_plain_4]
    refine ⟨_, sqA, _, sqB, by rw [List.length_map]; exact szA, ?_⟩
    have ez : zipD (A.map fun t => rowD t.2) ((A.map (·.1)).map natD) = A.map fun t => .tup [rowD t.2, natD t.1] := by
      unfold zipD
      clear sqA sqB sq2 sq sqg hS lA szA lfl P srt ty f1
      induction A with
      | nil => rfl
      | cons a A ih => simp [ih]
    rw [ez]
    refine for_any (fun ρ S' => S' = S.put l2 (.lst ((A.map (·.1)).map natD)) ∧ ∃ u4 u5 u6, ρ = [some (.int p), some (.int (n : Nat)), some (.loc l), some (.loc l2), u4, u5, u6, none, none, none]) (fun _ S' h => by obtain ⟨rfl, _⟩ := h; exact ⟨sqA, sqB⟩) ?_ ?_ ⟨rfl, u4, u5, none, rfl⟩
    · rintro t ht ρ S' kk ⟨rfl, u4, u5, u6, rfl⟩ hk
      have lt := (P.vr t ht).len
      simp_arith! [b__law_are_plain_4b, sqB, szA]
      refine lcT_toF (f := natD) (p := fun _ => false) sqB (fun b hb kk2 hk2 => ?_) ?_
      · obtain ⟨s, hs, rfl⟩ := List.mem_map.mp hb
        have hk3 : kk2 none (S.put l2 (.lst ((A.map (·.1)).map natD))) := by simpa using hk2
        by_cases c : s.1 = t.1
        · simp_arith! [natD, c]
          exact hk3
        · have c' : ¬ ((s.1 : Nat) : Int) = (t.1 : Nat) := by omega
          have ixf : atI ((flat t.2).map D.int) ((s.1 : Nat) : Int) = some (.int 0) := by
            have : (flat t.2).getD s.1 0 = 0 := P.zer s hs t ht (Ne.symm c)
            rw [← this]
            exact ixA (by rw [lfl t ht]; exact P.pl s hs)
          simp_arith! [natD, c', lflat_eq has_lflat (show t.2.length ≤ 1000 by omega), ixf]
          exact hk3
      · have f1 : ((A.map (·.1)).filter fun _ => false) = [] := by simp
        rw [f1]
        simp_arith! [cs_neL0, List.isEmpty_nil]
        exact hk _ _ ⟨rfl, _, _, _, rfl⟩
    · rintro ρ S' ⟨rfl, u4, u5, u6, rfl⟩
      simp_arith! [b__law_are_plain_5]
      have e5 : (A.map (·.1)).map natD = ((A.map (·.1)).map fun j : Nat => (j : Int)).map D.int := by simp [natD, Function.comp_def]
      have pw : ((A.map (·.1)).map fun j : Nat => (j : Int)).Pairwise (· < ·) := by
        have h1 : (A.map (·.1)).Pairwise (· ≤ ·) := List.pairwise_map.mpr srt
        have h2 := h1.and P.nod
        refine List.pairwise_map.mpr (h2.imp fun h => ?_)
        omega
      have h5 := sqB.trans (congrArg some e5)
      have h6 : (S.put l2 (.lst ((A.map (·.1)).map natD))).m l2 = some (.lst (((A.map (·.1)).map fun j : Nat => (j : Int)).map D.int)) := Sto.put_same.trans (by rw [e5])
      rw [sort_set h5 (ms := (A.map (·.1)).map fun j : Nat => (j : Int)) (by simp; omega) pw (fun _ => Iff.rfl)]
      refine ⟨_, cs_eqLoc h6, ?_⟩
      rw [decide_eq_true (rfl : ((A.map (·.1)).map fun j : Nat => (j : Int)) = _)]
      exact q _ ((Ext.refl S).put hl2)
end
theorem reprX_loc {c h : Nat} {S : Sto} {Q : PostE} {l : Addr} {xs : List D} (hS : S.m l = some (.lst xs)) (n : Xc c h (.lst xs)) (hc : c ≤ 200000) (hh : h ≤ 50) : nReprX.sem [.loc l] S Q = Q (.str (shw (.lst xs))) S := by
  have e : xS S (.loc l) = some (toX (.lst xs)) := by
    have h := (xok_all n.ok).1
    show (match S.m l with
      | some (.lst ys) => (xL ys).map PyData.list
      | _ => none) = _
    rw [hS]
    exact h
  refine propext ⟨fun ⟨d', q, e', h1, _, h2⟩ => ?_, fun q => ?_⟩
  · cases e'
    rw [e] at h1
    cases h1
    exact h2
  · have := do_reprX (S := S) (Q := fun d _ => Q d S) n hc hh q
    obtain ⟨d', pp, e', h1, h2, h3⟩ := this
    cases e'
    rw [xS_eq n] at h1
    cases h1
    exact ⟨_, _, rfl, e, h2, h3⟩
theorem tail_at {ns : List Int} {a l : Addr} {D0 : WEnds} {S2 : Sto} {p : Int} {n : Nat} {A B : List (Nat × Rw)} {rs : List Rw} {u2 u8 u9 : Option D} (hp : isPr p) (i4 : n ≤ 10) (vb : ∀ r ∈ rs, VR p n r) (lr : rs.length ≤ 110)
    (r1 : ∀ (S : Sto) (Q : PostE), nReprX.sem [rwsL rs] S Q = Q (.str (shw (rwsL rs))) S) (r2 : ∀ (S : Sto) (Q : PostE), nReprX.sem [rwsL (A.map (·.2))] S Q = Q (.str (shw (rwsL (A.map (·.2))))) S)
    (r3 : ∀ (S : Sto) (Q : PostE), nReprX.sem [.lst ((B.map (·.2)).map rowD)] S Q = Q (.str (shw (.lst ((B.map (·.2)).map rowD)))) S)
    (vM : ∀ r ∈ B.map (·.2), VR p n r) (mz : ∀ t ∈ B, ∀ r ∈ rs, meetI t.2 r % p = 0) (mMir : mirR p n (B.map (·.2)) = A.map (·.2)) (PB : Pl p n B) (hm2 : S2.m l = some (.lst ((B.map (·.2)).map rowD))) (eM : mirR p n rs = B.map (·.2)) (xm : Xc 5000 3 (.lst ((B.map (·.2)).map rowD)))
    (q : ∀ (u8 : Option D) o, D0.nx [some (.scr ns), some (.loc a), u2, some (.int p), some (.int (n : Nat)), some (rwsL rs), some (.str (shw (rwsL rs))), some (.loc l), u8, u9, some (rwsL (A.map (·.2))), none, none] (S2.put l o)) :
    wSs (wC T 6) b_law_1b_7 D0 [some (.scr ns), some (.loc a), u2, some (.int p), some (.int (n : Nat)), some (rwsL rs), some (.str (shw (rwsL rs))), some (.loc l), u8, u9, some (rwsL (A.map (·.2))), none, none] S2 := by
  have hpb := isPr_b hp
  have h0 : 0 < p := by omega
  have lB := PB.length
  have sqM : seqS S2 (.loc l) = some (B.map fun t => rowD t.2) := by
    have := seq_loc hm2
    rw [List.map_map] at this
    exact this
  have szM : B.length ≤ sizeLine := Nat.le_trans (show B.length ≤ 1000 by omega) (by decide)
  have szR : rs.length ≤ sizeLine := Nat.le_trans (show rs.length ≤ 1000 by omega) (by decide)
  have r2' : ∀ (S : Sto) (Q : PostE), nReprX.sem [.lst ((A.map (·.2)).map rowD)] S Q = Q (.str (shw (rwsL (A.map (·.2))))) S := r2
  simp_arith! [b_law_1b_7, szR]
  refine lcT_toF (f := fun _ => .int 1) (p := fun _ => false) (of_eq_true stay_rwsL) (fun r hr k2 hk2 => ?_) ?_
  · have hk3 : k2 none S2 := by simpa using hk2
    have vr := vb r hr
    simp_arith! [sqM, szM]
    refine lcT_toF (f := fun t : Nat × Rw => rowD t.2) (p := fun _ => false) sqM (fun t ht k4 hk4 => ?_) ?_
    · have hk5 : k4 none S2 := by simpa using hk4
      have vt := PB.vr t ht
      have mz := mz t ht r hr
      have lt := vt.len
      simp_arith! [lmeet_eq (b := p) has_lmeet h0 (show p ≤ 1000000 by omega) vt.inn vr.inn, mz]
      exact hk5
    · have f1 : (B.filter fun _ => false) = [] := by simp
      rw [f1]
      simp_arith! [cs_neL0, List.isEmpty_nil]
      exact hk3
  · have f1 : (rs.filter fun _ => false) = [] := by simp
    rw [f1]
    simp_arith! [cs_neL0, List.isEmpty_nil, b_law_1b_8]
    refine mirrorO_at (k := 0) has_mirrorO hp (by omega) (by simp; omega) vM (seq_loc hm2) (seq_loc hm2) fun l3 hl3 => ?_
    rw [mMir]
    simp_arith! [put_del hl3, r2', r2]
    refine mirrorO_at (k := 0) (rs := []) has_mirrorO hp (by omega) (by simp) (by simp) rfl (by rfl) fun l4 hl4 => ?_
    have m0 : (mirR p n []).length = 2 * n := by
      have := mir_len (p := p) (n := n) (rs := []) hp (by simp)
      rw [plainR_nil hp] at this
      simpa using this
    have c3 : (((2 * n : Nat) : Int) = 2 * (n : Nat)) = True := eq_true (by omega)
    simp_arith! [put_del hl4, m0, c3, b_law_1b_9]
    rw [reprX_loc hm2 xm (by omega) (by omega)]
    have ck : mApp.chk (.loc l) S2 = True := eq_true ⟨l, _, rfl, hm2⟩
    simp_arith! [b_law_1b_10, ck]
    rw [app_gen hm2]
    refine ⟨of_eq_true (lt_sz (by simp; omega)), ?_⟩
    simp_arith! [b_law_1b_11]
    refine mirrorO_at (k := 0) has_mirrorO hp (by omega) (by omega) vb seq_rwsL (of_eq_true stay_rwsL) fun l5 hl5 => ?_
    rw [eM]
    have r3' : ∀ (S : Sto) (Q : PostE), nReprX.sem [rwsL (B.map (·.2))] S Q = Q (.str (shw (rwsL (B.map (·.2))))) S := r3
    simp_arith! [put_del hl5, r3', r3, r1]
    exact q _ _
theorem law_ok (ns : List Int) (hl : ns.length ≤ 63) (hb : ∀ z ∈ ns, Builtin.Int.intBits z ≤ 1048576) : wC T dep 27 [.scr ns] S00 fun d _ => d = .bl true := by
  refine wC_body rfl rfl ⟨rfl, ?_⟩
  show wSs _ b_law _ [some (.scr ns), none, none, none, none, none, none, none, none, none, none, none, none] S00
  simp_arith! [b_law]
  refine deck_at (T := T) rfl hl hb rfl fun a S _ hd => ?_
  simp_arith! [b_law_1]
  have e3 : rgD 0 3 = (List.range 3).map fun i => D.int (i : Nat) := rgD_nat (n := 3)
  rw [e3]
  refine for_any (fun ρ S' => S'.dk = some a ∧ ∃ u2 u3 u4 u5 u6 u7 u8 u9 u10, ρ = [some (.scr ns), some (.loc a), u2, u3, u4, u5, u6, u7, u8, u9, u10, none, none]) (fun _ _ _ => trivial) ?_ ?_ ⟨hd, none, none, none, none, none, none, none, none, none, rfl⟩
  · rintro t ht ρ S' kk ⟨hd, u2, u3, u4, u5, u6, u7, u8, u9, u10, rfl⟩ hk
    simp_arith! [b_law_1b]
    refine lprime_at has_lprime hd fun p hp => ?_
    have hpb := isPr_b hp
    have h0 : 0 < p := by omega
    have hnx : T (ix 26) = some fdNext := rfl
    simp_arith! [b_law_1b_1, next_eq hnx]
    intro i i0 i1
    have ei : i = ((i.toNat : Nat) : Int) := by omega
    have i4 : i.toNat ≤ 10 := by omega
    rw [ei]
    generalize i.toNat = n at i4 ⊢
    simp_arith! [b_law_1b_2]
    refine lplain_set_at has_lplain_set hd hp (by omega) (by omega) (by omega) fun A S1 x1 P srt l1 l2 => ?_
    have hd1 : S1.dk = some a := x1.dk.trans hd
    have vA : ∀ r ∈ A.map (·.2), VR p n r := fun r hr => by
      obtain ⟨t, ht, rfl⟩ := List.mem_map.mp hr
      exact P.vr t ht
    have lA : (A.map (·.2)).length ≤ 20 := by simp; omega
    simp_arith! [b_law_1b_3]
    refine lspanning_at has_lspanning hd1 hp (by omega) (by omega) vA (.inl rfl) fun rs lr E => ?_
    have hpl : plainR p rs = A.map (·.2) := by
      refine plainR_unique hp E.vb P srt (fun r hr => (E.to r hr).incl fun b hb => ?_) fun t ht => E.back _ (List.mem_map.mpr ⟨t, ht, rfl⟩)
      obtain ⟨t, ht, rfl⟩ := List.mem_map.mp hb
      exact ⟨t, ht, rfl⟩
    have xr : Xc 5000 3 (rwsL rs) := (xc_rwsL E.vb (by omega)).mono (Nat.le_trans (Nat.mul_le_mul (show 3 * n + 1 ≤ 31 by omega) lr) (by decide)) (Nat.le_refl _)
    have r1 : ∀ (S : Sto) (Q : PostE), nReprX.sem [rwsL rs] S Q = Q (.str (shw (rwsL rs))) S := fun S Q => reprX_eq xr (by omega) (by omega)
    have xa : Xc 5000 3 (rwsL (A.map (·.2))) := (xc_rwsL vA (by omega)).mono (Nat.le_trans (Nat.mul_le_mul (show 3 * n + 1 ≤ 31 by omega) lA) (by decide)) (Nat.le_refl _)
    have r2 : ∀ (S : Sto) (Q : PostE), nReprX.sem [rwsL (A.map (·.2))] S Q = Q (.str (shw (rwsL (A.map (·.2))))) S := fun S Q => reprX_eq xa (by omega) (by omega)
    have r2' : ∀ (S : Sto) (Q : PostE), nReprX.sem [.lst ((A.map (·.2)).map rowD)] S Q = Q (.str (shw (rwsL (A.map (·.2))))) S := r2
    -- the mirror
    have vM := mir_vr (n := n) (rs := rs) hp
    have mLen := mir_len hp E.vb
    have mSpn := fun v (vv : VR p n v) => mir_spn hp E.vb vv
    have mMir := mir_mir hp E.vb
    obtain ⟨PB, srtB, spB⟩ := plB_ok (n := n) (rows := (kers p n (plB p (rs.map (flipR p)))).map (·.2)) hp (mirV hp n rs)
    have eM : mirR p n rs = (plB p ((kers p n (plB p (rs.map (flipR p)))).map (·.2))).map (·.2) := plainR_plB
    generalize plB p ((kers p n (plB p (rs.map (flipR p)))).map (·.2)) = B at PB srtB spB eM
    have lB := PB.length
    rw [hpl] at mLen mMir
    have mir : ∀ (k : Nat) (S : Sto) (Q : PostE) (dr : D), seqS S dr = some (rs.map rowD) → stayS dr (rs.map rowD) S → (∀ l, S.m l = none → Q (.loc l) (S.put l (.lst ((B.map (·.2)).map rowD)))) → wC T (k + 6) (ix 21) [.int p, .int (n : Nat), dr] S Q := fun k S Q dr h1 h2 q => by
      refine mirrorO_at has_mirrorO hp (by omega) (by omega) E.vb h1 h2 ?_
      rw [eM]; exact q
    rw [eM] at vM mLen mMir mSpn
    have lM : (B.map (·.2)).length ≤ 20 := by simp; omega
    have xm : Xc 5000 3 (.lst ((B.map (·.2)).map rowD)) := (xc_rwsL vM (by omega)).mono (Nat.le_trans (Nat.mul_le_mul (show 3 * n + 1 ≤ 31 by omega) lM) (by decide)) (Nat.le_refl _)
    have r3 : ∀ (S : Sto) (Q : PostE), nReprX.sem [.lst ((B.map (·.2)).map rowD)] S Q = Q (.str (shw (.lst ((B.map (·.2)).map rowD)))) S := fun S Q => reprX_eq xm (by omega) (by omega)
    simp_arith! [b_law_1b_4, r1, b_law_1b_5, next_eq hnx]
    intro i i0 i1
    obtain ⟨dr, hdr, hor⟩ : ∃ dr, atI [rwsL rs, rwsT rs] i = some dr ∧ (dr = rwsL rs ∨ dr = rwsT rs) := by
      have : i = 0 ∨ i = 1 := by omega
      rcases this with rfl | rfl
      · exact ⟨_, at0, .inl rfl⟩
      · exact ⟨_, at1, .inr rfl⟩
    have sq : ∀ S, seqS S dr = some (rs.map rowD) := fun S => by rcases hor with rfl | rfl <;> rfl
    have sy : ∀ S, stayS dr (rs.map rowD) S := fun S => by rcases hor with rfl | rfl <;> rfl
    have fold : D.tup (rs.map rowD) = rwsT rs := rfl
    simp_arith! [fold, hdr]
    refine mir 0 _ _ _ (sq _) (sy _) fun l hl0 => ?_
    simp_arith! [b_law_1b_6]
    refine arePlain_at (k := 4) hp (by omega) PB srtB Sto.put_same fun S2 x2 => ?_
    have hm2 := x2.m _ _ (Sto.put_same (S := S1) (a := l) (o := .lst ((B.map (·.2)).map rowD)))
    have ln2 : lenS S2 (.loc l) = some (B.map (·.2)).length := by
      show (seqS S2 (.loc l)).map List.length = _
      rw [seq_loc hm2]; simp
    have cL : ((B.length : Nat) : Int) + (A.length : Nat) = 2 * (n : Nat) := by
      simp at mLen; omega
    have sqM : seqS S2 (.loc l) = some (B.map fun t => rowD t.2) := by
      have := seq_loc hm2
      rw [List.map_map] at this
      exact this
    have szM : B.length ≤ sizeLine := Nat.le_trans (show B.length ≤ 1000 by omega) (by decide)
    have szR : rs.length ≤ sizeLine := Nat.le_trans (show rs.length ≤ 1000 by omega) (by decide)
    simp_arith! [ln2, cL]
    exact tail_at hp i4 E.vb lr r1 r2 r3 vM (fun t ht r hr => (mSpn t.2 (PB.vr t ht)).mp (.of h0 vM (List.mem_map.mpr ⟨t, ht, rfl⟩)) r hr) mMir PB hm2 eM xm fun _ _ => hk _ _ ⟨x2.dk.trans hd1, _, _, _, _, _, _, _, _, _, rfl⟩
  · rintro ρ S' ⟨hd, u2, u3, u4, u5, u6, u7, u8, u9, u10, rfl⟩
    simp_arith! [b_law_2]
end FP.Law
open PySem PySem.W PySem.Calls PyProof.Rows
theorem PySem.Challenge.cw_fairposts_k15_mirrors_holds : PySem.Challenge.rw_fairposts_k15_mirrors.Holds := by
  w_on; o_law
  refine HandSHeadRun.head_any (r := OpenLaw.row PySem.Challenge.rw_fairposts_k15_mirrors) (q := view (OpenLaw.row PySem.Challenge.rw_fairposts_k15_mirrors).prog [31]) (H := FP.Law.hk) (ob := FP.Law.ob) (M := 1380) (loose := FP.Law.loose) (d := HandSHeadRun.topDef (OpenLaw.row PySem.Challenge.rw_fairposts_k15_mirrors).prog 31) (kwd := []) FP.Law.ob_eq
    (by kernel_rfl) (fun s => by kernel_rfl) FP.Law.run (by kernel_rfl) (by kernel_rfl) (by kernel_rfl) (by rfl) (by first | assumption | decide +kernel) (by decide +kernel) ⟨rfl, rfl, rfl, rfl, rfl, by decide +kernel⟩ ?hw ?hc
  case hw => w_witness2
  case hc =>
    exact FP.law_all (l := PySem.Challenge.rw_fairposts_k15_mirrors) (m := 4) (fa := FP.Law.fas) (fn := FP.Law.dfs) (gs := FP.Law.gcs) FP.Law.Tx FP.Law.dep 27 ⟨"law", ["_law_script"], FP.Law.n_law, FP.Law.b_law, none, 0⟩ rfl (by kernel_rfl) ⟨rfl, by decide, by decide⟩ (by kernel_rfl) rfl (by decide) rfl (fun x hx => List.mem_append_right _ (List.mem_map_of_mem hx)) (fun _ _ _ _ _ X G c fr sm => FP.Law.tabs X G c fr sm) (by decide +kernel) rfl (by decide +kernel) (fun ns h1 h2 => (FP.wC_alpha2 FP.Law.eqv).mpr (FP.Law.law_ok ns h1 h2))
