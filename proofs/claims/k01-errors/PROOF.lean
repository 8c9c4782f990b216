import PyProof.Rows.All
import Wide.All
import OpenK.AllK
import Wide.FinOn
import HandS.ForMost
import HandS.Exc
import HandS.TryOnly
import HandS.ExcOwn
import HandS.WordsExc
import HandS.CallSlots
import HandS.IsInst
import HandS.OwnEq
import HandS.Wide
import HandS.Style
import HandS.Lambda
import HandS.EndTab
import HandS.Zip
import HandS.ExcBuiltin
import KE.KExcSuper
import HandS.FStr
import HandS.TupAny
import KE.KOpsOwn
import KE.KCallOwn
import HandS.Defaults
import PyProof.TwoTypes
import HandS.Deep
import HandS.MakeKwOnly
import HandS.Dict
import HandS.Iter
import HandS.Conv
import HandS.TupLen
import KE.KDictKeyed
import KE.SortData
import HandS.SortKw
import HandS.NoneIn
import KE.GoesZip
import KE.GoesMore
import KE.GoesEnum
import KE.KEqNest
import PyProof.NeKinds
import HandS.TupMul
import KE.KDictOf
import KE.KDictCopyH
import KE.KDictDisplayH
import HandS.More
import HandS.ExcValue
import KE.KExcIs
import HandS.SetFor
import KE.KIntText
import HandS.Codes
import PySem.Challenge.RW_everylist_k01_errors
set_option Elab.async false
set_option linter.all false
set_option maxRecDepth 100000
set_option maxHeartbeats 8000000
namespace DL
open PySem L2

/-- data: what a value is, by itself -/
inductive D where
  | non
  | bl (b : Bool)
  | int (i : Int)
  | str (s : Str)
  | lst (xs : List D)
  | tup (xs : List D)
  | dK (ks : List Key) (xs : List D)
  | dT (ks : List (List Key)) (xs : List D)
  | obj (c : Nat) (xs : List D)
  | scr (ns : List Int)
  | exc (c : Nat) (xs : List D)

/-- what the program's own classes and errors are -/
structure Pm where
  C : Nat → Addr
  nm : Nat → List Str
  xc : Nat → Value
  xf : Nat → Str
  K : PySem.W.Frag
  T : List (Addr × Str)

/-- an error's object, held as a value; its dict at d -/
def exH (cls : Value) (d : Option Addr) (a : Addr) : HO := .ext fun h => ∃ (oe : Obj) (fv : Array Value), h.get? a = some oe ∧ Zc cls d oe ∧ oe.data = .fields fv
def xdAt (F : Hp) (d : Option Addr) (f : Str) (vs : List V) : Prop := match d, vs with
  | none, [] => True
  | some p, [v] => F p = some (.xd [(f, v)])
  | _, _ => False
mutual
def Is (P : Pm) (F : Hp) : D → V → Prop
  | .non, v => v = .non
  | .bl b, v => v = .bl b
  | .int i, v => v = .int i
  | .str s, v => v = .str s
  | .lst xs, v => ∃ a vs, v = .ref a ∧ Rd F a (.lst vs) ∧ IsL P F xs vs
  | .tup xs, v => ∃ a vs, v = .ref a ∧ F a = some (.tup vs) ∧ IsL P F xs vs
  | .dK ks xs, v => ∃ a o vs, v = .ref a ∧ F a = some (.frz o (.dK (ks.zip vs))) ∧ ks.length = vs.length ∧ IsL P F xs vs
  | .dT ks xs, v => ∃ a o vs, v = .ref a ∧ F a = some (.frz o (.dT (ks.zip vs))) ∧ ks.length = vs.length ∧ IsL P F xs vs
  | .obj c xs, v => ∃ a dx vs, v = .ref a ∧ F a = some (.ins (P.C c) dx ((P.nm c).zip vs)) ∧ vs.length ≤ (P.nm c).length ∧ IsL P F xs vs
  | .scr ns, v => ∃ a, v = .ref a ∧ SqL P.K F a (ns.map V.int)
  | .exc c xs, v => ∃ a d vs, v = .ref a ∧ F a = some (exH (P.xc c) d a) ∧ xdAt F d (P.xf c) vs ∧ IsL P F xs vs
def IsL (P : Pm) (F : Hp) : List D → List V → Prop
  | [], vs => vs = []
  | d :: ds, vs => ∃ v r, vs = v :: r ∧ Is P F d v ∧ IsL P F ds r
end

/-- the heap has grown -/
def Ex (H H' : Hp) : Prop := ∀ a o, H a = some o → H' a = some o
theorem Ex.refl (H : Hp) : Ex H H := fun _ _ h => h
theorem Ex.trans {H H1 H2 : Hp} (a : Ex H H1) (b : Ex H1 H2) : Ex H H2 := fun x o h => b x o (a x o h)
theorem Ex.new {H : Hp} {p : Addr} {o : HO} (h : H p = none) : Ex H (upd H p o) := fun a u e => by
  rw [upd_ne (ne_of_none e h)]
  exact e
theorem Ex.back {H H' : Hp} {p : Addr} (e : Ex H H') (h : H' p = none) : H p = none := by
  cases h1 : H p with
  | none => rfl
  | some o =>
    rw [e p o h1] at h
    cases h
theorem Ex.rd {H H' : Hp} {a : Addr} {u : HO} (e : Ex H H') (h : Rd H a u) : Rd H' a u := by
  rcases h with h | ⟨o, h⟩
  · exact Or.inl (e a _ h)
  · exact Or.inr ⟨o, e a _ h⟩
theorem Ex.sq {H H' : Hp} {K : PySem.W.Frag} {a : Addr} {xs : List V} (e : Ex H H') (h : SqL K H a xs) : SqL K H' a xs := by
  rcases h with h | h
  · exact Or.inl (e.rd h)
  · exact Or.inr h
/-- an object of data: no table of code, no outer fact -/
def isD : HO → Bool
  | .tbl _ => false
  | .ext _ => false
  | _ => true
def isT : HO → Bool
  | .tbl _ => true
  | _ => false
theorem isD_T {o : HO} (h : isD o = true) : isT o = false := by
  cases o <;> first | rfl | cases h
/-- all stays but what the tables hold -/
structure ExT (H H' : Hp) : Prop where
  at_ : ∀ a o, H a = some o → isT o = false → H' a = some o
theorem ExT.refl (H : Hp) : ExT H H := ⟨fun _ _ h _ => h⟩
theorem ExT.trans {H H1 H2 : Hp} (a : ExT H H1) (b : ExT H1 H2) : ExT H H2 := ⟨fun x o h n => b.at_ x o (a.at_ x o h n) n⟩
theorem Ex.t {H H' : Hp} (e : Ex H H') : ExT H H' := ⟨fun a o h _ => e a o h⟩
theorem ExT.new {H : Hp} {p : Addr} {o : HO} (h : H p = none) : ExT H (upd H p o) := (Ex.new h).t
/-- nothing of data stands at p -/
def NoD (H : Hp) (p : Addr) : Prop := ∀ o, H p = some o → isT o = true
theorem NoD.of {H : Hp} {p : Addr} (h : H p = none) : NoD H p := fun o e => by
  rw [h] at e
  cases e
theorem NoD.no {H : Hp} {p : Addr} {o : HO} (n : NoD H p) (e : H p = some o) (h : isT o = false) : False := by
  rw [n o e] at h
  cases h
theorem NoD.ne {H : Hp} {a p : Addr} {o : HO} (n : NoD H p) (e : H a = some o) (h : isT o = false) : a ≠ p := fun z => by
  subst z
  exact n.no e h
theorem ExT.backN {H H' : Hp} {p : Addr} (e : ExT H H') (h : NoD H' p) : NoD H p := fun o e1 => by
  cases q : isT o with
  | true => rfl
  | false => exact (h.no (e.at_ p o e1 q) q).elim
theorem ExT.back {H H' : Hp} {p : Addr} (e : ExT H H') (h : H' p = none) : NoD H p := e.backN (.of h)
theorem ExT.dat {H H' : Hp} {a : Addr} {u : HO} (e : ExT H H') (h : H a = some u) (hn : isT u = false := by rfl) : H' a = some u := e.at_ a u h hn
theorem ExT.rd {H H' : Hp} {a : Addr} {u : HO} (e : ExT H H') (h : Rd H a u) (hn : isT u = false := by rfl) : Rd H' a u := by
  rcases h with h | ⟨o, h⟩
  · exact Or.inl (e.at_ a _ h hn)
  · exact Or.inr ⟨o, e.at_ a _ h rfl⟩
theorem ExT.sq {H H' : Hp} {K : PySem.W.Frag} {a : Addr} {xs : List V} (e : ExT H H') (h : SqL K H a xs) : SqL K H' a xs := by
  rcases h with h | h
  · exact Or.inl (e.rd h)
  · exact Or.inr h
/-- F is a part of H, of data alone; H's tables are in order -/
structure Sb (P : Pm) (F H : Hp) : Prop where
  ex : Ex F H
  nt : ∀ a o, F a = some o → isT o = false
  tabs : LamX.Tabs P.T H
theorem Sb.back {P : Pm} {F H : Hp} {p : Addr} (s : Sb P F H) (h : H p = none) : F p = none := s.ex.back h
theorem Sb.rd {P : Pm} {F H : Hp} {a : Addr} {u : HO} (s : Sb P F H) (h : Rd F a u) : Rd H a u := s.ex.rd h
theorem Sb.sq {P : Pm} {F H : Hp} {K : PySem.W.Frag} {a : Addr} {xs : List V} (s : Sb P F H) (h : SqL K F a xs) : SqL K H a xs := s.ex.sq h
/-- the heap grew, wholly -/
theorem Sb.ext {P : Pm} {F H H' : Hp} (s : Sb P F H) (e : Ex H H') : Sb P F H' := ⟨s.ex.trans e, s.nt, s.tabs.ext e⟩
/-- the tables grew -/
theorem Sb.ext' {P : Pm} {F H H' : Hp} (s : Sb P F H) (e : ExT H H') (t : LamX.Tabs P.T H') : Sb P F H' := ⟨fun a o h => e.at_ a o (s.ex a o h) (s.nt a o h), s.nt, t⟩
/-- less is frozen -/
theorem Sb.sub {P : Pm} {F F1 H : Hp} (s : Sb P F1 H) (e : Ex F F1) : Sb P F H := ⟨e.trans s.ex, fun a o h => s.nt a o (e a o h), s.tabs⟩
theorem Tabs.upd {T : List (Addr × Str)} {H : Hp} {a : Addr} {u o : HO} (t : LamX.Tabs T H) (h : H a = some u) (hd : isD u = true) : LamX.Tabs T (upd H a o) := fun p hp => by
  obtain ⟨ps, h1, h2, h3⟩ := t p hp
  have n1 : p.1 ≠ a := fun z => by
    rw [z, h] at h1
    cases h1
    cases hd
  refine ⟨ps, by rw [upd_ne n1]; exact h1, h2, fun pos cv hc => ?_⟩
  obtain ⟨c, e1, e2⟩ := h3 pos cv hc
  refine ⟨c, e1, ?_⟩
  rw [upd_ne]
  · exact e2
  · intro z
    rw [z, h] at e2
    have e2 : u = LamX.CodeO a p.2 := Option.some.inj e2
    rw [e2] at hd
    cases hd

theorem xdAt.mono {F F' : Hp} {d : Option Addr} {f : Str} {vs : List V} (e : Ex F F') (h : xdAt F d f vs) : xdAt F' d f vs := by
  unfold xdAt at *
  split at h
  · exact h
  · exact e _ _ h
  · exact h.elim
section
variable {P : Pm} {F F' : Hp}
mutual
theorem Is.mono (e : Ex F F') : ∀ (d : D) {v : V}, Is P F d v → Is P F' d v
  | .non, _, h => by simpa [Is] using h
  | .bl b, _, h => by simpa [Is] using h
  | .int i, _, h => by simpa [Is] using h
  | .str s, _, h => by simpa [Is] using h
  | .lst xs, _, h => by
    rw [Is] at h ⊢
    obtain ⟨a, vs, h1, h2, h3⟩ := h
    exact ⟨a, vs, h1, e.rd h2, IsL.mono e xs h3⟩
  | .tup xs, _, h => by
    rw [Is] at h ⊢
    obtain ⟨a, vs, h1, h2, h3⟩ := h
    exact ⟨a, vs, h1, e _ _ h2, IsL.mono e xs h3⟩
  | .dK ks xs, _, h => by
    rw [Is] at h ⊢
    obtain ⟨a, o, vs, h1, h2, h3, h4⟩ := h
    exact ⟨a, o, vs, h1, e _ _ h2, h3, IsL.mono e xs h4⟩
  | .dT ks xs, _, h => by
    rw [Is] at h ⊢
    obtain ⟨a, o, vs, h1, h2, h3, h4⟩ := h
    exact ⟨a, o, vs, h1, e _ _ h2, h3, IsL.mono e xs h4⟩
  | .obj c xs, _, h => by
    rw [Is] at h ⊢
    obtain ⟨a, dx, vs, h1, h2, h3, h4⟩ := h
    exact ⟨a, dx, vs, h1, e _ _ h2, h3, IsL.mono e xs h4⟩
  | .scr ns, _, h => by
    rw [Is] at h ⊢
    obtain ⟨a, h1, h2⟩ := h
    exact ⟨a, h1, e.sq h2⟩
  | .exc c xs, _, h => by
    rw [Is] at h ⊢
    obtain ⟨a, d, vs, h1, h2, h3, h4⟩ := h
    exact ⟨a, d, vs, h1, e _ _ h2, xdAt.mono e h3, IsL.mono e xs h4⟩
theorem IsL.mono (e : Ex F F') : ∀ (ds : List D) {vs : List V}, IsL P F ds vs → IsL P F' ds vs
  | [], _, h => by simpa [IsL] using h
  | d :: ds, _, h => by
    rw [IsL] at h ⊢
    obtain ⟨v, r, h1, h2, h3⟩ := h
    exact ⟨v, r, h1, Is.mono e d h2, IsL.mono e ds h3⟩
end
theorem IsL.nil : IsL P F [] [] := by rw [IsL]
theorem IsL.cons {d : D} {ds : List D} {v : V} {vs : List V} (h : Is P F d v) (t : IsL P F ds vs) : IsL P F (d :: ds) (v :: vs) := by
  rw [IsL]
  exact ⟨v, vs, rfl, h, t⟩
theorem IsL.length : ∀ {ds : List D} {vs : List V}, IsL P F ds vs → ds.length = vs.length
  | [], _, h => by
    rw [IsL] at h
    subst h
    rfl
  | d :: ds, _, h => by
    rw [IsL] at h
    obtain ⟨v, r, rfl, _, h3⟩ := h
    simp [IsL.length h3]
theorem IsL.get : ∀ {ds : List D} {vs : List V} {i : Nat} {d : D}, IsL P F ds vs → ds[i]? = some d → ∃ v, vs[i]? = some v ∧ Is P F d v
  | [], _, _, _, _, e => by simp at e
  | d :: ds, _, i, x, h, e => by
    rw [IsL] at h
    obtain ⟨v, r, rfl, h2, h3⟩ := h
    cases i with
    | zero =>
      simp at e
      subst e
      exact ⟨v, by simp, h2⟩
    | succ i =>
      simp at e
      obtain ⟨v', h4, h5⟩ := IsL.get h3 e
      exact ⟨v', by simpa using h4, h5⟩
theorem IsL.get' : ∀ {ds : List D} {vs : List V} {i : Nat} {v : V}, IsL P F ds vs → vs[i]? = some v → ∃ d, ds[i]? = some d ∧ Is P F d v := by
  intro ds vs i v h e
  have hl := h.length
  have hi : i < vs.length := by
    rcases Nat.lt_or_ge i vs.length with q | q
    · exact q
    · rw [List.getElem?_eq_none q] at e
      cases e
  obtain ⟨d, hd⟩ : ∃ d, ds[i]? = some d := ⟨ds[i]'(by omega), List.getElem?_eq_getElem (by omega)⟩
  obtain ⟨v', h1, h2⟩ := h.get hd
  rw [e] at h1
  cases h1
  exact ⟨d, hd, h2⟩
theorem IsL.append : ∀ {ds es : List D} {vs ws : List V}, IsL P F ds vs → IsL P F es ws → IsL P F (ds ++ es) (vs ++ ws)
  | [], _, _, _, h, t => by
    rw [IsL] at h
    subst h
    exact t
  | d :: ds, _, _, _, h, t => by
    rw [IsL] at h
    obtain ⟨v, r, rfl, h2, h3⟩ := h
    exact .cons h2 (IsL.append h3 t)
theorem IsL.drop : ∀ (n : Nat) {ds : List D} {vs : List V}, IsL P F ds vs → IsL P F (ds.drop n) (vs.drop n)
  | 0, _, _, h => h
  | n + 1, [], _, h => by
    rw [IsL] at h
    subst h
    exact .nil
  | n + 1, d :: ds, _, h => by
    rw [IsL] at h
    obtain ⟨v, r, rfl, h2, h3⟩ := h
    exact IsL.drop n h3
theorem IsL.take : ∀ (n : Nat) {ds : List D} {vs : List V}, IsL P F ds vs → IsL P F (ds.take n) (vs.take n)
  | 0, _, _, h => .nil
  | n + 1, [], _, h => by
    rw [IsL] at h
    subst h
    exact .nil
  | n + 1, d :: ds, _, h => by
    rw [IsL] at h
    obtain ⟨v, r, rfl, h2, h3⟩ := h
    exact .cons h2 (IsL.take n h3)
theorem IsL.set : ∀ (i : Nat) {ds : List D} {vs : List V} {d : D} {v : V}, IsL P F ds vs → Is P F d v → IsL P F (ds.set i d) (vs.set i v)
  | i, [], _, _, _, h, _ => by
    rw [IsL] at h
    subst h
    exact .nil
  | 0, d :: ds, _, _, _, h, q => by
    rw [IsL] at h
    obtain ⟨v, r, rfl, h2, h3⟩ := h
    exact .cons q h3
  | i + 1, d :: ds, _, _, _, h, q => by
    rw [IsL] at h
    obtain ⟨v, r, rfl, h2, h3⟩ := h
    exact .cons h2 (IsL.set i h3 q)
end

/-- F is the part that stands still, H all; from (F, H) to (F', H') objects only came, F' took none of those that H had beside F -/
structure Grow (P : Pm) (F H F' H' : Hp) : Prop where
  f : Ex F F'
  h : ExT H H'
  s : Sb P F' H'
  n : ∀ a o, F' a = some o → F a = some o ∨ NoD H a ∨ ∃ xs, o = .tup xs
section
variable {P : Pm}
theorem Grow.refl {F H : Hp} (s : Sb P F H) : Grow P F H F H := ⟨.refl F, .refl H, s, fun _ _ e => .inl e⟩
theorem Grow.trans {F H F1 H1 F2 H2 : Hp} (a : Grow P F H F1 H1) (b : Grow P F1 H1 F2 H2) : Grow P F H F2 H2 :=
  ⟨a.f.trans b.f, a.h.trans b.h, b.s, fun x o e => by
    rcases b.n x o e with q | q | q
    · exact a.n x o q
    · exact .inr (.inl (a.h.backN q))
    · exact .inr (.inr q)⟩
/-- a new object, kept still -/
theorem Grow.new {F H : Hp} {p : Addr} {o : HO} (s : Sb P F H) (h : H p = none) (ho : isT o = false := by rfl) : Grow P F H (upd F p o) (upd H p o) :=
  ⟨.new (s.back h), .new h, ⟨fun a u e => by
    by_cases q : a = p
    · subst q
      rw [upd_same] at e
      rw [upd_same]
      exact e
    · rw [upd_ne q] at e
      rw [upd_ne q]
      exact s.ex a u e, fun a u e => by
    by_cases q : a = p
    · subst q
      rw [upd_same] at e
      cases e
      exact ho
    · rw [upd_ne q] at e
      exact s.nt a u e, s.tabs.ext (Ex.new h)⟩, fun a u e => by
    by_cases q : a = p
    · subst q
      exact .inr (.inl (.of h))
    · rw [upd_ne q] at e
      exact .inl e⟩
/-- a new object that nobody keeps -/
theorem Grow.junk {F H H' : Hp} (s : Sb P F H) (e : Ex H H') : Grow P F H F H' := ⟨.refl F, e.t, s.ext e, fun _ _ e => .inl e⟩
end

/-! ### results -/
inductive Res (α : Type) where
  | ok (a : α)
  | err (c : Nat) (p : Option D)
  | bad
instance : Monad Res where
  pure := Res.ok
  bind r k := match r with
    | .ok a => k a
    | .err c p => .err c p
    | .bad => .bad
theorem Res.bind_ok {α β : Type} (a : α) (k : α → Res β) : ((Res.ok a : Res α) >>= k) = k a := rfl
theorem Res.bind_err {α β : Type} (c : Nat) (p : Option D) (k : α → Res β) : ((Res.err c p : Res α) >>= k) = Res.err c p := rfl
theorem Res.bind_bad {α β : Type} (k : α → Res β) : ((Res.bad : Res α) >>= k) = Res.bad := rfl
theorem Res.pure_eq {α : Type} (a : α) : (pure a : Res α) = .ok a := rfl

/-- an error of the program lies in the heap -/
def ErrAt (P : Pm) (F H : Hp) (c : Nat) : Option D → Option Addr → Prop
  | none, x => x = none
  | some d, x => ∃ a v, x = some a ∧ H a = some (.xd [(P.xf c, v)]) ∧ Is P F d v

/-! ### names -/
inductive B where
  | sh (d : D)
  | ow (d : D)
  | bw (d : D)
abbrev Env := List (Option B)
/-- an object of one's own: its content -/
def Own (P : Pm) (F H : Hp) (a : Addr) : D → Prop
  | .lst xs => ∃ vs, H a = some (.lst vs) ∧ IsL P F xs vs
  | .dK ks xs => ∃ vs, H a = some (.dK (ks.zip vs)) ∧ ks.length = vs.length ∧ IsL P F xs vs
  | .dT ks xs => ∃ vs, H a = some (.dT (ks.zip vs)) ∧ ks.length = vs.length ∧ IsL P F xs vs
  | .obj c xs => ∃ dx vs, H a = some (.ins (P.C c) dx ((P.nm c).zip vs)) ∧ vs.length ≤ (P.nm c).length ∧ IsL P F xs vs
  | _ => False
theorem Own.mono {P : Pm} {F F' H H' : Hp} {a : Addr} (e : Ex F F') (g : ExT H H') : ∀ {d : D}, Own P F H a d → Own P F' H' a d
  | .lst xs, ⟨vs, h1, h2⟩ => ⟨vs, g.dat h1, h2.mono e xs⟩
  | .dK ks xs, ⟨vs, h1, h2, h3⟩ => ⟨vs, g.dat h1, h2, h3.mono e xs⟩
  | .dT ks xs, ⟨vs, h1, h2, h3⟩ => ⟨vs, g.dat h1, h2, h3.mono e xs⟩
  | .obj c xs, ⟨dx, vs, h1, h2, h3⟩ => ⟨dx, vs, g.dat h1, h2, h3.mono e xs⟩
  | .non, h => h.elim
  | .bl _, h => h.elim
  | .int _, h => h.elim
  | .str _, h => h.elim
  | .tup _, h => h.elim
  | .scr _, h => h.elim
  | .exc _ _, h => h.elim

/-- a def's entry: what stood still, and self of an __init__ -/
structure Fz where
  F : Hp
  S : Option Addr
/-- the names' values by data. F0, H0: the def's entry -/
structure ER (P : Pm) (F0 : Fz) (H0 F : Hp) (ρ : Env) (σ : St) (H : Hp) : Prop where
  g : Grow P F0.F H0 F H
  self : ∀ x, F0.S = some x → σ[0]? = some (some (.ref x))
  len : ρ.length = σ.length
  sh : ∀ (i : Nat) d, ρ[i]? = some (some (.sh d)) → ∃ v, σ[i]? = some (some v) ∧ Is P F d v
  bw : ∀ (i : Nat) d, ρ[i]? = some (some (.bw d)) → ∃ v, σ[i]? = some (some v) ∧ Is P H0 d v
  ow : ∀ (i : Nat) d, ρ[i]? = some (some (.ow d)) → ∃ a, σ[i]? = some (some (.ref a)) ∧ NoD H0 a ∧ F a = none ∧ Own P F H a d
  nd : ∀ (i j : Nat) d e a, ρ[i]? = some (some (.ow d)) → ρ[j]? = some (some (.ow e)) → σ[i]? = some (some (.ref a)) → σ[j]? = some (some (.ref a)) → i = j
section
variable {P : Pm} {F0 : Fz} {H0 F F' H H' : Hp} {ρ : Env} {σ : St}
theorem Own.there {a : Addr} : ∀ {d : D}, Own P F H a d → ∃ o, H a = some o ∧ isD o = true
  | .lst xs, ⟨vs, h1, h2⟩ => ⟨_, h1, rfl⟩
  | .dK ks xs, ⟨vs, h1, h2, h3⟩ => ⟨_, h1, rfl⟩
  | .dT ks xs, ⟨vs, h1, h2, h3⟩ => ⟨_, h1, rfl⟩
  | .obj c xs, ⟨dx, vs, h1, h2, h3⟩ => ⟨_, h1, rfl⟩
  | .non, h => h.elim
  | .bl _, h => h.elim
  | .int _, h => h.elim
  | .str _, h => h.elim
  | .tup _, h => h.elim
  | .scr _, h => h.elim
  | .exc _ _, h => h.elim
theorem Own.notup {a : Addr} {H' : Hp} {o : HO} {xs : List V} (g : ExT H H') (e : H' a = some o) (z : o = .tup xs) : ∀ {d : D}, Own P F H a d → False
  | .lst _, ⟨vs, h1, h2⟩ => by
    have := g.dat h1
    rw [e, z] at this
    cases this
  | .dK _ _, ⟨vs, h1, h2, h3⟩ => by
    have := g.dat h1
    rw [e, z] at this
    cases this
  | .dT _ _, ⟨vs, h1, h2, h3⟩ => by
    have := g.dat h1
    rw [e, z] at this
    cases this
  | .obj _ _, ⟨dx, vs, h1, h2, h3⟩ => by
    have := g.dat h1
    rw [e, z] at this
    cases this
  | .non, h => h.elim
  | .bl _, h => h.elim
  | .int _, h => h.elim
  | .str _, h => h.elim
  | .tup _, h => h.elim
  | .scr _, h => h.elim
  | .exc _ _, h => h.elim
theorem ER.grow (r : ER P F0 H0 F ρ σ H) (g : Grow P F H F' H') : ER P F0 H0 F' ρ σ H' where
  g := r.g.trans g
  self := r.self
  len := r.len
  sh := fun i d e => by
    obtain ⟨v, h1, h2⟩ := r.sh i d e
    exact ⟨v, h1, h2.mono g.f d⟩
  bw := r.bw
  ow := fun i d e => by
    obtain ⟨a, h1, h2, h3, h4⟩ := r.ow i d e
    refine ⟨a, h1, h2, ?_, h4.mono g.f g.h⟩
    cases q : F' a with
    | none => rfl
    | some o =>
      rcases g.n a o q with z | z | ⟨xs, z⟩
      · rw [h3] at z
        cases z
      · obtain ⟨o', ho, hd⟩ := h4.there
        exact (z.no ho (isD_T hd)).elim
      · exact (h4.notup (g.h) (g.s.ex _ _ q) z).elim
  nd := r.nd
theorem get_set_self {α : Type} {l : List α} {i : Nat} {x : α} (h : i < l.length) : (l.set i x)[i]? = some x := by simp [h]
/-- a name gets a value -/
theorem ER.put (r : ER P F0 H0 F ρ σ H) (i : Nat) {d : D} {v : V} (h : Is P F d v) (hi0 : F0.S = none ∨ i ≠ 0) : ER P F0 H0 F (ρ.set i (some (.sh d))) (σ.set i (some v)) H where
  g := r.g
  self := fun x hx => by
    rcases hi0 with q | q
    · rw [q] at hx
      cases hx
    · rw [List.getElem?_set_ne q]
      exact r.self x hx
  len := by simp [r.len]
  sh := fun j e q => by
    by_cases hj : i = j
    · subst hj
      have hl : i < ρ.length := by
        rcases Nat.lt_or_ge i ρ.length with z | z
        · exact z
        · rw [List.getElem?_eq_none (by simpa using z)] at q
          cases q
      rw [get_set_self hl] at q
      cases q
      exact ⟨v, get_set_self (r.len ▸ hl), h⟩
    · rw [List.getElem?_set_ne hj] at q
      rw [List.getElem?_set_ne hj]
      exact r.sh j e q
  bw := fun j e q => by
    by_cases hj : i = j
    · subst hj
      have hl : i < ρ.length := by
        rcases Nat.lt_or_ge i ρ.length with z | z
        · exact z
        · rw [List.getElem?_eq_none (by simpa using z)] at q
          cases q
      rw [get_set_self hl] at q
      cases q
    · rw [List.getElem?_set_ne hj] at q
      rw [List.getElem?_set_ne hj]
      exact r.bw j e q
  ow := fun j e q => by
    by_cases hj : i = j
    · subst hj
      have hl : i < ρ.length := by
        rcases Nat.lt_or_ge i ρ.length with z | z
        · exact z
        · rw [List.getElem?_eq_none (by simpa using z)] at q
          cases q
      rw [get_set_self hl] at q
      cases q
    · rw [List.getElem?_set_ne hj] at q
      rw [List.getElem?_set_ne hj]
      exact r.ow j e q
  nd := fun j k d' e' a q1 q2 q3 q4 => by
    by_cases hj : i = j
    · subst hj
      have hl : i < ρ.length := by
        rcases Nat.lt_or_ge i ρ.length with z | z
        · exact z
        · rw [List.getElem?_eq_none (by simpa using z)] at q1
          cases q1
      rw [get_set_self hl] at q1
      cases q1
    · by_cases hk : i = k
      · subst hk
        have hl : i < ρ.length := by
          rcases Nat.lt_or_ge i ρ.length with z | z
          · exact z
          · rw [List.getElem?_eq_none (by simpa using z)] at q2
            cases q2
        rw [get_set_self hl] at q2
        cases q2
      · rw [List.getElem?_set_ne hj] at q1 q3
        rw [List.getElem?_set_ne hk] at q2 q4
        exact r.nd j k d' e' a q1 q2 q3 q4
/-- a name gets a borrowed value -/
theorem ER.putB (r : ER P F0 H0 F ρ σ H) (i : Nat) {d : D} {v : V} (h : Is P H0 d v) (hi0 : F0.S = none ∨ i ≠ 0) : ER P F0 H0 F (ρ.set i (some (.bw d))) (σ.set i (some v)) H where
  g := r.g
  self := fun x hx => by
    rcases hi0 with q | q
    · rw [q] at hx
      cases hx
    · rw [List.getElem?_set_ne q]
      exact r.self x hx
  len := by simp [r.len]
  sh := fun j e q => by
    by_cases hj : i = j
    · subst hj
      have hl : i < ρ.length := by
        rcases Nat.lt_or_ge i ρ.length with z | z
        · exact z
        · rw [List.getElem?_eq_none (by simpa using z)] at q
          cases q
      rw [get_set_self hl] at q
      cases q
    · rw [List.getElem?_set_ne hj] at q
      rw [List.getElem?_set_ne hj]
      exact r.sh j e q
  bw := fun j e q => by
    by_cases hj : i = j
    · subst hj
      have hl : i < ρ.length := by
        rcases Nat.lt_or_ge i ρ.length with z | z
        · exact z
        · rw [List.getElem?_eq_none (by simpa using z)] at q
          cases q
      rw [get_set_self hl] at q
      cases q
      exact ⟨v, get_set_self (r.len ▸ hl), h⟩
    · rw [List.getElem?_set_ne hj] at q
      rw [List.getElem?_set_ne hj]
      exact r.bw j e q
  ow := fun j e q => by
    by_cases hj : i = j
    · subst hj
      have hl : i < ρ.length := by
        rcases Nat.lt_or_ge i ρ.length with z | z
        · exact z
        · rw [List.getElem?_eq_none (by simpa using z)] at q
          cases q
      rw [get_set_self hl] at q
      cases q
    · rw [List.getElem?_set_ne hj] at q
      rw [List.getElem?_set_ne hj]
      exact r.ow j e q
  nd := fun j k d' e' a q1 q2 q3 q4 => by
    by_cases hj : i = j
    · subst hj
      have hl : i < ρ.length := by
        rcases Nat.lt_or_ge i ρ.length with z | z
        · exact z
        · rw [List.getElem?_eq_none (by simpa using z)] at q1
          cases q1
      rw [get_set_self hl] at q1
      cases q1
    · by_cases hk : i = k
      · subst hk
        have hl : i < ρ.length := by
          rcases Nat.lt_or_ge i ρ.length with z | z
          · exact z
          · rw [List.getElem?_eq_none (by simpa using z)] at q2
            cases q2
        rw [get_set_self hl] at q2
        cases q2
      · rw [List.getElem?_set_ne hj] at q1 q3
        rw [List.getElem?_set_ne hk] at q2 q4
        exact r.nd j k d' e' a q1 q2 q3 q4
end
end DL
namespace DL
open PySem L2

/-- a container as it stands in H, its items in F -/
def Vw (P : Pm) (F H : Hp) : D → V → Prop
  | .lst xs, v => ∃ a vs, v = .ref a ∧ Rd H a (.lst vs) ∧ IsL P F xs vs
  | .tup xs, v => ∃ a vs, v = .ref a ∧ F a = some (.tup vs) ∧ Rd H a (.tup vs) ∧ IsL P F xs vs
  | .dK ks xs, v => ∃ a vs, v = .ref a ∧ Rd H a (.dK (ks.zip vs)) ∧ ks.length = vs.length ∧ IsL P F xs vs
  | .dT ks xs, v => ∃ a vs, v = .ref a ∧ Rd H a (.dT (ks.zip vs)) ∧ ks.length = vs.length ∧ IsL P F xs vs
  | .obj c xs, v => ∃ a dx vs, v = .ref a ∧ H a = some (.ins (P.C c) dx ((P.nm c).zip vs)) ∧ vs.length ≤ (P.nm c).length ∧ IsL P F xs vs
  | .scr ns, v => ∃ a, v = .ref a ∧ SqL P.K H a (ns.map V.int)
  | .exc c xs, v => Is P F (.exc c xs) v
  | .non, v => v = .non
  | .bl b, v => v = .bl b
  | .int i, v => v = .int i
  | .str s, v => v = .str s
section
variable {P : Pm} {F F' H H' : Hp}
theorem Is.vw (e : Sb P F H) : ∀ (d : D) {v : V}, Is P F d v → Vw P F H d v
  | .non, _, h => by rw [Is] at h; exact h
  | .bl b, _, h => by rw [Is] at h; exact h
  | .int i, _, h => by rw [Is] at h; exact h
  | .str s, _, h => by rw [Is] at h; exact h
  | .lst xs, _, h => by
    rw [Is] at h
    obtain ⟨a, vs, h1, h2, h3⟩ := h
    exact ⟨a, vs, h1, e.rd h2, h3⟩
  | .tup xs, _, h => by
    rw [Is] at h
    obtain ⟨a, vs, h1, h2, h3⟩ := h
    exact ⟨a, vs, h1, h2, .inl (e.ex _ _ h2), h3⟩
  | .dK ks xs, _, h => by
    rw [Is] at h
    obtain ⟨a, o, vs, h1, h2, h3, h4⟩ := h
    exact ⟨a, vs, h1, .inr ⟨o, e.ex _ _ h2⟩, h3, h4⟩
  | .dT ks xs, _, h => by
    rw [Is] at h
    obtain ⟨a, o, vs, h1, h2, h3, h4⟩ := h
    exact ⟨a, vs, h1, .inr ⟨o, e.ex _ _ h2⟩, h3, h4⟩
  | .obj c xs, _, h => by
    rw [Is] at h
    obtain ⟨a, dx, vs, h1, h2, h3, h4⟩ := h
    exact ⟨a, dx, vs, h1, e.ex _ _ h2, h3, h4⟩
  | .scr ns, _, h => by
    rw [Is] at h
    obtain ⟨a, h1, h2⟩ := h
    exact ⟨a, h1, e.sq h2⟩
  | .exc c xs, _, h => h
theorem Own.vw {a : Addr} : ∀ {d : D}, Own P F H a d → Vw P F H d (.ref a)
  | .lst xs, ⟨vs, h1, h2⟩ => ⟨a, vs, rfl, .inl h1, h2⟩
  | .dK ks xs, ⟨vs, h1, h2, h3⟩ => ⟨a, vs, rfl, .inl h1, h2, h3⟩
  | .dT ks xs, ⟨vs, h1, h2, h3⟩ => ⟨a, vs, rfl, .inl h1, h2, h3⟩
  | .obj c xs, ⟨dx, vs, h1, h2, h3⟩ => ⟨a, dx, vs, rfl, h1, h2, h3⟩
  | .non, h => h.elim
  | .bl _, h => h.elim
  | .int _, h => h.elim
  | .str _, h => h.elim
  | .tup _, h => h.elim
  | .scr _, h => h.elim
  | .exc _ _, h => h.elim
theorem Vw.mono (e : Ex F F') (g : ExT H H') : ∀ (d : D) {v : V}, Vw P F H d v → Vw P F' H' d v
  | .non, _, h => h
  | .bl b, _, h => h
  | .int i, _, h => h
  | .str s, _, h => h
  | .lst xs, _, ⟨a, vs, h1, h2, h3⟩ => ⟨a, vs, h1, g.rd h2, h3.mono e xs⟩
  | .tup xs, _, ⟨a, vs, h1, h0, h2, h3⟩ => ⟨a, vs, h1, e _ _ h0, g.rd h2, h3.mono e xs⟩
  | .dK ks xs, _, ⟨a, vs, h1, h2, h3, h4⟩ => ⟨a, vs, h1, g.rd h2, h3, h4.mono e xs⟩
  | .dT ks xs, _, ⟨a, vs, h1, h2, h3, h4⟩ => ⟨a, vs, h1, g.rd h2, h3, h4.mono e xs⟩
  | .obj c xs, _, ⟨a, dx, vs, h1, h2, h3, h4⟩ => ⟨a, dx, vs, h1, g.dat h2, h3, h4.mono e xs⟩
  | .scr ns, _, ⟨a, h1, h2⟩ => ⟨a, h1, g.sq h2⟩
  | .exc c xs, _, h => Is.mono e (.exc c xs) h
end

/-! ### what is wanted behind a result -/
abbrev Rel (α β : Type) := Hp → Hp → α → β → Prop
def PostG {α β : Type} (P : Pm) (W : WX) (rel : Rel α β) (r : Res α) (F : Hp) (σ : St) (H : Hp) (Q : β → Hp → Prop) : Prop :=
  match r with
  | .ok a => ∀ v F' H', Grow P F H F' H' → rel F' H' a v → Q v H'
  | .err c p => ∀ F' H' x, Grow P F H F' H' → ErrAt P F' H' c p x → W (P.xc c) x σ H'
  | .bad => False
section
variable {α β γ δ : Type} {P : Pm} {W : WX} {rel : Rel α β} {rel' : Rel γ δ} {F0 : Fz} {F F1 H H1 H0 : Hp} {σ : St}
theorem PostG.shift {r : Res α} {Q : β → Hp → Prop} (h : PostG P W rel r F σ H Q) (g : Grow P F H F1 H1) : PostG P W rel r F1 σ H1 Q := by
  cases r with
  | ok a => exact fun v F' H' g' q => h v F' H' (g.trans g') q
  | err c p => exact fun F' H' x g' q => h F' H' x (g.trans g') q
  | bad => exact h
theorem PostG.bind {r : Res α} {k : α → Res γ} {Q : δ → Hp → Prop} (h : PostG P W rel' (r >>= k) F σ H Q) :
    PostG P W rel r F σ H (fun v H1 => ∃ F1 a, Grow P F H F1 H1 ∧ rel F1 H1 a v ∧ PostG P W rel' (k a) F1 σ H1 Q) := by
  cases r with
  | ok a => exact fun v F' H' g' q => ⟨F', a, g', q, PostG.shift (r := k a) h g'⟩
  | err c p => exact h
  | bad => exact h
theorem PostG.imp {r : Res α} {Q Q' : β → Hp → Prop} (h : PostG P W rel r F σ H Q) (q : ∀ v H', Q v H' → Q' v H') : PostG P W rel r F σ H Q' := by
  cases r with
  | ok a => exact fun v F' H' g' z => q _ _ (h v F' H' g' z)
  | err c p => exact h
  | bad => exact h
theorem PostG.here {a : α} {Q : β → Hp → Prop} {v : β} (h : PostG P W rel (.ok a) F σ H Q) (s : Sb P F H) (q : rel F H a v) : Q v H := h v F H (.refl s) q
end
/-- readings by data -/
def tG {α β : Type} (P : Pm) (F0 : Fz) (H0 : Hp) (W : WX) (rel : Rel α β) (f : Env → Res α) : St → Hp → (β → Hp → Prop) → Prop :=
  fun σ H Q => ∃ F ρ, ER P F0 H0 F ρ σ H ∧ PostG P W rel (f ρ) F σ H Q
abbrev rIs (P : Pm) : Rel D V := fun F _ d v => Is P F d v
abbrev rVw (P : Pm) : Rel D V := fun F H d v => Vw P F H d v
abbrev rLs (P : Pm) : Rel (List D) (List V) := fun F _ d v => IsL P F d v
abbrev rBo : Rel Bool Bool := fun _ _ d v => v = d
abbrev tE (P : Pm) (F0 : Fz) (H0 : Hp) (W : WX) (f : Env → Res D) : TE := tG P F0 H0 W (rIs P) f
abbrev tV (P : Pm) (F0 : Fz) (H0 : Hp) (W : WX) (f : Env → Res D) : TE := tG P F0 H0 W (rVw P) f
abbrev tL (P : Pm) (F0 : Fz) (H0 : Hp) (W : WX) (f : Env → Res (List D)) : TA := tG P F0 H0 W (rLs P) f
abbrev tT (P : Pm) (F0 : Fz) (H0 : Hp) (W : WX) (f : Env → Res Bool) : TT := tG P F0 H0 W rBo f
theorem tG.bind {α β γ δ : Type} {P : Pm} {F0 : Fz} {H0 : Hp} {W : WX} {rel : Rel α β} {rel' : Rel γ δ} {f : Env → Res α} {k : Env → α → Res γ} {σ : St} {H : Hp} {Q : δ → Hp → Prop}
    (h : tG P F0 H0 W rel' (fun ρ => f ρ >>= k ρ) σ H Q) :
    tG P F0 H0 W rel f σ H (fun v H1 => ∃ F1 ρ a, ER P F0 H0 F1 ρ σ H1 ∧ rel F1 H1 a v ∧ PostG P W rel' (k ρ a) F1 σ H1 Q) := by
  obtain ⟨F, ρ, er, h⟩ := h
  exact ⟨F, ρ, er, (PostG.bind (rel := rel) h).imp fun v H1 ⟨F1, a, g, q, z⟩ => ⟨F1, ρ, a, er.grow g, q, z⟩⟩
theorem ER.s {P : Pm} {F0 : Fz} {H0 F H : Hp} {ρ : Env} {σ : St} (r : ER P F0 H0 F ρ σ H) : Sb P F H := r.g.s

/-! ### rules -/
theorem _root_.L2.PE.imp {X : Cx} {e : Expr} {t t' : TE} (h : PE X e t) (q : ∀ σ H Q, t' σ H Q → t σ H Q) : PE X e t' := ⟨fun pins s σ H Q I z => h.run pins s σ H Q I (q σ H Q z)⟩
theorem _root_.L2.PT.imp {X : Cx} {e : Expr} {t t' : TT} (h : PT X e t) (q : ∀ σ H Q, t' σ H Q → t σ H Q) : PT X e t' := ⟨fun pins s σ H Q I z => h.run pins s σ H Q I (q σ H Q z)⟩
theorem _root_.L2.PW.imp {X : Cx} {e : Expr} {t t' : TT} (h : PW X e t) (q : ∀ σ H Q, t' σ H Q → t σ H Q) : PW X e t' := ⟨fun w pins s σ H Q I z => h.run w pins s σ H Q I (q σ H Q z)⟩
theorem _root_.L2.PA.imp {X : Cx} {e : List Expr} {t t' : TA} (h : PA X e t) (q : ∀ σ H Q, t' σ H Q → t σ H Q) : PA X e t' := ⟨fun p pins s σ H Q I z => h.run p pins s σ H Q I (q σ H Q z)⟩
theorem _root_.L2.PS.imp {X : Cx} {e : Stmt} {t t' : TS} (h : PS X e t) (q : ∀ D σ H, t' D σ H → t D σ H) : PS X e t' := ⟨fun pins s σ H Q I z => h.run pins s σ H Q I (q Q σ H z)⟩
theorem _root_.L2.PSs.imp {X : Cx} {e : List Stmt} {t t' : TS} (h : PSs X e t) (q : ∀ D σ H, t' D σ H → t D σ H) : PSs X e t' := ⟨fun pins s σ H Q I z => h.run pins s σ H Q I (q Q σ H z)⟩

section
variable {X : Cx} {P : Pm} {F0 : Fz} {H0 : Hp} {W : WX} {a b c e : Expr} {es : List Expr} {fa fb fc : Env → Res D} {pos : Pos}
/-- a value may be looked at -/
theorem toV (h : PE X a (tE P F0 H0 W fa)) : PE X a (tV P F0 H0 W fa) := h.imp fun σ H Q ⟨F, ρ, er, z⟩ => ⟨F, ρ, er, by
  cases q : fa ρ with
  | ok d =>
    rw [q] at z
    exact fun v F' H' g i => z v F' H' g (i.vw g.s d)
  | err c p =>
    rw [q] at z
    exact z
  | bad =>
    rw [q] at z
    exact z⟩
def look (i : Nat) : Env → Res D := fun ρ => match ρ[i]? with
  | some (some (.sh d)) => .ok d
  | _ => .bad
def peek (i : Nat) : Env → Res D := fun ρ => match ρ[i]? with
  | some (some (.sh d)) => .ok d
  | some (some (.ow d)) => .ok d
  | _ => .bad
theorem pd_name (i : Nat) {x : Str} (hN : X.N[i]? = some x := by rfl) (hv : Vis X.env.scope x := by first | exact Or.inl rfl | exact Or.inr (Or.inl rfl) | exact Or.inr (Or.inr rfl)) (hd : (x == ("__debug__" : Str)) = false := by decide)
    (hcd : (x == ("__classdict__" : Str)) = false := by decide) : PE X (.Name x pos) (tE P F0 H0 W (look i)) := (pe_var hN hv hd hcd).imp fun σ H Q ⟨F, ρ, er, z⟩ => by
  unfold look at z
  split at z
  · rename_i d q
    obtain ⟨v, h1, h2⟩ := er.sh i d q
    exact ⟨v, h1, z.here er.s h2⟩
  · exact z.elim
theorem pd_peek (i : Nat) {x : Str} (hN : X.N[i]? = some x := by rfl) (hv : Vis X.env.scope x := by first | exact Or.inl rfl | exact Or.inr (Or.inl rfl) | exact Or.inr (Or.inr rfl)) (hd : (x == ("__debug__" : Str)) = false := by decide)
    (hcd : (x == ("__classdict__" : Str)) = false := by decide) : PE X (.Name x pos) (tV P F0 H0 W (peek i)) := (pe_var hN hv hd hcd).imp fun σ H Q ⟨F, ρ, er, z⟩ => by
  unfold peek at z
  split at z
  · rename_i d q
    obtain ⟨v, h1, h2⟩ := er.sh i d q
    exact ⟨v, h1, z.here er.s (h2.vw er.s d)⟩
  · rename_i d q
    obtain ⟨a, h1, _, _, h2⟩ := er.ow i d q
    exact ⟨.ref a, h1, z.here er.s h2.vw⟩
  · exact z.elim
theorem pd_const {v : V} {d : D} (h : PE X e (tC v)) (q : ∀ F, Is P F d v) : PE X e (tE P F0 H0 W (fun _ => .ok d)) := h.imp fun σ H Q ⟨F, ρ, er, z⟩ => z.here er.s (q F)
theorem pd_int {i j} : PE X (.Constant (.int i) j pos) (tE P F0 H0 W (fun _ => .ok (.int i))) := pd_const pe_int fun F => by rw [Is]
theorem pd_bl {i j} : PE X (.Constant (.bool i) j pos) (tE P F0 H0 W (fun _ => .ok (.bl i))) := pd_const pe_bl fun F => by rw [Is]
theorem pd_non {j} : PE X (.Constant .none j pos) (tE P F0 H0 W (fun _ => .ok .non)) := pd_const pe_non fun F => by rw [Is]
theorem pd_str {i j} : PE X (.Constant (.str i) j pos) (tE P F0 H0 W (fun _ => .ok (.str i))) := pd_const pe_str fun F => by rw [Is]

/-- a two-place operation by data -/
def OpD (X : Cx) (P : Pm) (W : WX) (f : Value → Value → Sem Value) (r : D → D → Res D) : Prop :=
  ∀ (pins : List (Addr × Obj)) (s : Shared) (σ : St) (F H : Hp) (x y : V) (u v : Value) (dx dy : D) (Q : VK), Inv X pins σ H s → RelV x u → RelV y v → Sb P F H → Vw P F H dx x → Vw P F H dy y → PostG P W (rIs P) (r dx dy) F σ H Q →
    wpAny (model X.prog X.w) X.A (f u v) (EP X pins σ Q) X.xe s
def UnD (X : Cx) (P : Pm) (W : WX) (f : Value → Sem Value) (r : D → Res D) : Prop :=
  ∀ (pins : List (Addr × Obj)) (s : Shared) (σ : St) (F H : Hp) (x : V) (u : Value) (dx : D) (Q : VK), Inv X pins σ H s → RelV x u → Sb P F H → Vw P F H dx x → PostG P W (rIs P) (r dx) F σ H Q →
    wpAny (model X.prog X.w) X.A (f u) (EP X pins σ Q) X.xe s
def CallD (X : Cx) (P : Pm) (W : WX) (f : Value) (r : List D → Res D) : Prop :=
  ∀ (pins : List (Addr × Obj)) (s : Shared) (σ : St) (F H : Hp) (xs : List V) (us : List Value) (ds : List D) (Q : VK), Inv X pins σ H s → Vals xs us → Sb P F H → IsL P F ds xs → PostG P W (rIs P) (r ds) F σ H Q →
    wpAny (model X.prog X.w) X.A (call f us) (EP X pins σ Q) X.xe s
variable {op : Operator} {cop : CmpOp} {r : D → D → Res D}
/-- what two operands ask -/
theorem two_of {k : D → D → Res D} {σ : St} {H : Hp} {Q : VK} (h : tE P F0 H0 W (fun ρ => do let x ← fa ρ; let y ← fb ρ; k x y) σ H Q) :
    tV P F0 H0 W fa σ H fun x H1 => tV P F0 H0 W fb σ H1 fun y H2 => ∃ F dx dy, Sb P F H2 ∧ Vw P F H2 dx x ∧ Vw P F H2 dy y ∧ PostG P W (rIs P) (k dx dy) F σ H2 Q := by
  obtain ⟨F, ρ, er, z⟩ := h
  refine ⟨F, ρ, er, (PostG.bind (rel := rVw P) z).imp ?_⟩
  rintro x H1 ⟨F1, dx, g1, i1, z1⟩
  refine ⟨F1, ρ, er.grow g1, (PostG.bind (rel := rVw P) z1).imp ?_⟩
  rintro y H2 ⟨F2, dy, g2, i2, z2⟩
  exact ⟨F2, dx, dy, g2.s, i1.mono g2.f g2.h dx, i2, z2⟩
theorem pd_op (ho : OpD X P W (binaryOp op) r) (ha : PE X a (tV P F0 H0 W fa)) (hb : PE X b (tV P F0 H0 W fb)) : PE X (.BinOp a op b pos) (tE P F0 H0 W (fun ρ => do let x ← fa ρ; let y ← fb ρ; r x y)) := by
  refine ⟨fun pins s σ H Q I h => ?_⟩
  exact wpAny_BinOp (binT ha hb I (two_of h) fun v u s2 x y H2 I2 rx ry ⟨F, dx, dy, e, i1, i2, q⟩ => ho pins s2 σ F H2 x y v u dx dy Q I2 rx ry e i1 i2 q)
theorem pd_un {op : UnaryOp} {r : D → Res D} (ho : UnD X P W (unaryOp op) r) (ha : PE X a (tV P F0 H0 W fa)) : PE X (.UnaryOp op a pos) (tE P F0 H0 W (fun ρ => do let x ← fa ρ; r x)) := by
  refine ⟨fun pins s σ H Q I h => ?_⟩
  exact PyProof.Rows.UnaryOp_ (thn (ha.run pins s σ H _ I (tG.bind (rel := rVw P) (f := fa) (k := fun _ x => r x) h)) fun v s1 ⟨x, H1, I1, r1, F1, ρ, d, er, i1, q1⟩ => ho pins s1 σ F1 H1 x v d Q I1 r1 er.s i1 q1)
/-- the same of a comparison -/
theorem pd_cmp (ho : OpD X P W (compareOp cop) r) (ha : PE X a (tV P F0 H0 W fa)) (hb : PE X b (tV P F0 H0 W fb)) (hm : behindInMarks cop b = false) : PE X (.Compare a [cop] [b] pos) (tE P F0 H0 W (fun ρ => do let x ← fa ρ; let y ← fb ρ; r x y)) := by
  refine pe_cmp (t := tE P F0 H0 W (fun ρ => do let x ← fa ρ; let y ← fb ρ; r x y)) ⟨fun pins s σ H Q I h => ?_⟩ hm
  exact binT ha hb I (two_of h) fun v u s2 x y H2 I2 rx ry ⟨F, dx, dy, e, i1, i2, q⟩ => ho pins s2 σ F H2 x y v u dx dy Q I2 rx ry e i1 i2 q
end
end DL
namespace DL
open PySem L2

def bo : D → Res Bool
  | .bl b => .ok b
  | _ => .bad
def opt {α : Type} : Option α → Res α
  | some a => .ok a
  | none => .bad
section
variable {X : Cx} {P : Pm} {F0 : Fz} {H0 : Hp} {W : WX} {a b c e : Expr} {es : List Expr} {fa fb fc : Env → Res D} {ga gb gc : Env → Res Bool} {pos : Pos} {σ : St} {H F : Hp}
theorem bo_of {x : D} {v : V} {Q : Bool → Hp → Prop} (s : Sb P F H) (i : Is P F x v) (h : PostG P W rBo (bo x) F σ H Q) : ∃ k, v = .bl k ∧ Q k H := by
  cases x with
  | bl k =>
    rw [Is] at i
    exact ⟨k, i, h.here s rfl⟩
  | _ => exact h.elim
/-! ### tests -/
theorem tB_of {f : Env → Res D} {Q : Bool → Hp → Prop} (h : tT P F0 H0 W (fun ρ => f ρ >>= bo) σ H Q) : tB (tE P F0 H0 W f) σ H Q := by
  obtain ⟨F, ρ, er, z⟩ := h
  refine ⟨F, ρ, er, (PostG.bind (rel := rIs P) z).imp ?_⟩
  rintro v H1 ⟨F1, d, g, i, q⟩
  exact bo_of g.s i q
theorem td_val (h : PE X e (tE P F0 H0 W fa)) (he : ∀ whole, isTrue e X.env whole = (do let v ← whole; standAt e.pos; holding [v] (truthy v)) := by intro _; rfl) : PT X e (tT P F0 H0 W (fun ρ => fa ρ >>= bo)) :=
  (pt_val h he).imp fun _ _ _ z => tB_of z
theorem pd_pc {cop : CmpOp} {r : D → D → Res D} (ho : OpD X P W (compareOp cop) r) (ha : PE X a (tV P F0 H0 W fa)) (hb : PE X b (tV P F0 H0 W fb)) : PC X cop a b (tE P F0 H0 W (fun ρ => do let x ← fa ρ; let y ← fb ρ; r x y)) :=
  ⟨fun pins s σ H Q I h => binT ha hb I (two_of h) fun v u s2 x y H2 I2 rx ry ⟨F, dx, dy, e, i1, i2, q⟩ => ho pins s2 σ F H2 x y v u dx dy Q I2 rx ry e i1 i2 q⟩
theorem td_cmp {cop : CmpOp} {r : D → D → Res D} (ho : OpD X P W (compareOp cop) r) (ha : PE X a (tV P F0 H0 W fa)) (hb : PE X b (tV P F0 H0 W fb)) (hm : behindInMarks cop b = false) :
    PT X (.Compare a [cop] [b] pos) (tT P F0 H0 W (fun ρ => (do let x ← fa ρ; let y ← fb ρ; r x y) >>= bo)) := (pt_cmp (pd_pc ho ha hb) hm).imp fun _ _ _ z => tB_of z
theorem td_not (h : PT X a (tT P F0 H0 W ga)) : PT X (.UnaryOp .Not a pos) (tT P F0 H0 W (fun ρ => do let x ← ga ρ; .ok (!x))) := (pt_not h).imp fun σ H Q ⟨F, ρ, er, z⟩ => by
  refine ⟨F, ρ, er, (PostG.bind (rel := rBo) z).imp ?_⟩
  rintro v H1 ⟨F1, d, g, i, q⟩
  subst i
  exact q.here g.s rfl
theorem td_and1 (h : PT X a (tT P F0 H0 W ga)) : PW X (.BoolOp .And [a] pos) (tT P F0 H0 W ga) := pw_and1 h
theorem td_or1 (h : PT X a (tT P F0 H0 W ga)) : PW X (.BoolOp .Or [a] pos) (tT P F0 H0 W ga) := pw_or1 h
theorem td_and {rest : List Expr} (ha : PT X a (tT P F0 H0 W ga)) (hb : PW X (.BoolOp .And (b :: rest) pos) (tT P F0 H0 W gb)) : PW X (.BoolOp .And (a :: b :: rest) pos) (tT P F0 H0 W (fun ρ => do let x ← ga ρ; if x = true then gb ρ else .ok false)) :=
  (pw_and ha hb).imp fun σ H Q ⟨F, ρ, er, z⟩ => by
  refine ⟨F, ρ, er, (PostG.bind (rel := rBo) z).imp ?_⟩
  rintro v H1 ⟨F1, d, g, i, q⟩
  subst i
  split
  · rename_i hv
    rw [if_pos hv] at q
    exact ⟨F1, ρ, er.grow g, q⟩
  · rename_i hv
    rw [if_neg hv] at q
    exact q.here g.s rfl
theorem td_or {rest : List Expr} (ha : PT X a (tT P F0 H0 W ga)) (hb : PW X (.BoolOp .Or (b :: rest) pos) (tT P F0 H0 W gb)) : PW X (.BoolOp .Or (a :: b :: rest) pos) (tT P F0 H0 W (fun ρ => do let x ← ga ρ; if x = true then .ok true else gb ρ)) :=
  (pw_or ha hb).imp fun σ H Q ⟨F, ρ, er, z⟩ => by
  refine ⟨F, ρ, er, (PostG.bind (rel := rBo) z).imp ?_⟩
  rintro v H1 ⟨F1, d, g, i, q⟩
  subst i
  split
  · rename_i hv
    rw [if_pos hv] at q
    exact q.here g.s rfl
  · rename_i hv
    rw [if_neg hv] at q
    exact ⟨F1, ρ, er.grow g, q⟩
/-! ### and, or, not as values (bools), a if t else b -/
theorem pd_one {op} (h : PE X a (tE P F0 H0 W fa)) : PE X (.BoolOp op [a] pos) (tE P F0 H0 W fa) := pe_one h
theorem pd_and {rest : List Expr} (ha : PE X a (tE P F0 H0 W fa)) (hb : PE X (.BoolOp .And (b :: rest) pos) (tE P F0 H0 W fb)) : PE X (.BoolOp .And (a :: b :: rest) pos) (tE P F0 H0 W (fun ρ => do let x ← fa ρ; let k ← bo x; if k = true then fb ρ else .ok (.bl false))) :=
  (pe_and ha hb).imp fun σ H Q ⟨F, ρ, er, z⟩ => by
  refine ⟨F, ρ, er, (PostG.bind (rel := rIs P) z).imp ?_⟩
  rintro v H1 ⟨F1, d, g, i, q⟩
  obtain ⟨k, hk, F2, k', g2, e2, q⟩ := bo_of g.s i (PostG.bind (rel := rBo) q)
  subst e2
  refine ⟨k, hk, ?_⟩
  split
  · rename_i hv
    rw [if_pos hv] at q
    exact ⟨F2, ρ, (er.grow g).grow g2, q⟩
  · rename_i hv
    rw [if_neg hv] at q
    exact q.here g2.s (by show Is P F2 (.bl false) _; rw [Is])
theorem pd_or {rest : List Expr} (ha : PE X a (tE P F0 H0 W fa)) (hb : PE X (.BoolOp .Or (b :: rest) pos) (tE P F0 H0 W fb)) : PE X (.BoolOp .Or (a :: b :: rest) pos) (tE P F0 H0 W (fun ρ => do let x ← fa ρ; let k ← bo x; if k = true then .ok (.bl true) else fb ρ)) :=
  (pe_or ha hb).imp fun σ H Q ⟨F, ρ, er, z⟩ => by
  refine ⟨F, ρ, er, (PostG.bind (rel := rIs P) z).imp ?_⟩
  rintro v H1 ⟨F1, d, g, i, q⟩
  obtain ⟨k, hk, F2, k', g2, e2, q⟩ := bo_of g.s i (PostG.bind (rel := rBo) q)
  subst e2
  refine ⟨k, hk, ?_⟩
  split
  · rename_i hv
    rw [if_pos hv] at q
    exact q.here g2.s (by show Is P F2 (.bl true) _; rw [Is])
  · rename_i hv
    rw [if_neg hv] at q
    exact ⟨F2, ρ, (er.grow g).grow g2, q⟩
theorem pd_not (ha : PE X a (tE P F0 H0 W fa)) : PE X (.UnaryOp .Not a pos) (tE P F0 H0 W (fun ρ => do let x ← fa ρ; let k ← bo x; .ok (.bl (!k)))) :=
  (pe_not ha).imp fun σ H Q ⟨F, ρ, er, z⟩ => by
  refine ⟨F, ρ, er, (PostG.bind (rel := rIs P) z).imp ?_⟩
  rintro v H1 ⟨F1, d, g, i, q⟩
  obtain ⟨k, hk, F2, k', g2, e2, q⟩ := bo_of g.s i (PostG.bind (rel := rBo) q)
  subst e2
  exact ⟨k, hk, q.here g2.s (by show Is P F2 (.bl _) _; rw [Is])⟩
theorem pd_if (hc : PT X c (tT P F0 H0 W gc)) (ha : PE X a (tE P F0 H0 W fa)) (hb : PE X b (tE P F0 H0 W fb)) : PE X (.IfExp c a b pos) (tE P F0 H0 W (fun ρ => do let k ← gc ρ; if k = true then fa ρ else fb ρ)) :=
  (pe_ifExp hc ha hb).imp fun σ H Q ⟨F, ρ, er, z⟩ => by
  refine ⟨F, ρ, er, (PostG.bind (rel := rBo) z).imp ?_⟩
  rintro v H1 ⟨F1, d, g, i, q⟩
  subst i
  split
  · rename_i hv
    rw [if_pos hv] at q
    exact ⟨F1, ρ, er.grow g, q⟩
  · rename_i hv
    rw [if_neg hv] at q
    exact ⟨F1, ρ, er.grow g, q⟩
end

/-! ### argument lists -/
def VwL (P : Pm) (F H : Hp) : List D → List V → Prop
  | [], vs => vs = []
  | d :: ds, vs => ∃ v r, vs = v :: r ∧ Vw P F H d v ∧ VwL P F H ds r
abbrev rVs (P : Pm) : Rel (List D) (List V) := fun F H d v => VwL P F H d v
abbrev tW (P : Pm) (F0 : Fz) (H0 : Hp) (W : WX) (f : Env → Res (List D)) : TA := tG P F0 H0 W (rVs P) f
theorem VwL.mono {P : Pm} {F F' H H' : Hp} (e : Ex F F') (g : ExT H H') : ∀ (ds : List D) {vs : List V}, VwL P F H ds vs → VwL P F' H' ds vs
  | [], _, h => h
  | d :: ds, _, ⟨v, r, h1, h2, h3⟩ => ⟨v, r, h1, h2.mono e g d, VwL.mono e g ds h3⟩
theorem IsL.vw {P : Pm} {F H : Hp} (e : Sb P F H) : ∀ (ds : List D) {vs : List V}, IsL P F ds vs → VwL P F H ds vs
  | [], _, h => by rw [IsL] at h; exact h
  | d :: ds, _, h => by
    rw [IsL] at h
    obtain ⟨v, r, h1, h2, h3⟩ := h
    exact ⟨v, r, h1, h2.vw e d, IsL.vw e ds h3⟩
section
variable {X : Cx} {P : Pm} {F0 : Fz} {H0 : Hp} {W : WX} {a b c e : Expr} {es : List Expr} {fa fb fc : Env → Res D} {fs : Env → Res (List D)} {pos p : Pos} {σ : St} {H F : Hp}
theorem ad_nil : PA X [] (tL P F0 H0 W (fun _ => .ok [])) := pa_nil.imp fun σ H Q ⟨F, ρ, er, z⟩ => z.here er.s .nil
theorem ad_cons (ha : PE X e (tE P F0 H0 W fa)) (hr : PA X es (tL P F0 H0 W fs)) (hs : starEach (e :: es) X.env = (false, eval e X.env) :: starEach es X.env := by rfl) :
    PA X (e :: es) (tL P F0 H0 W (fun ρ => do let x ← fa ρ; let xs ← fs ρ; .ok (x :: xs))) := (pa_cons ha hr hs).imp fun σ H Q ⟨F, ρ, er, z⟩ => by
  refine ⟨F, ρ, er, (PostG.bind (rel := rIs P) z).imp ?_⟩
  rintro v H1 ⟨F1, d, g, i, q⟩
  refine ⟨F1, ρ, er.grow g, (PostG.bind (rel := rLs P) q).imp ?_⟩
  rintro vs H2 ⟨F2, ds, g2, i2, q2⟩
  exact q2.here g2.s (.cons (i.mono g2.f d) i2)
theorem av_nil : PA X [] (tW P F0 H0 W (fun _ => .ok [])) := pa_nil.imp fun σ H Q ⟨F, ρ, er, z⟩ => z.here er.s rfl
theorem av_cons (ha : PE X e (tV P F0 H0 W fa)) (hr : PA X es (tW P F0 H0 W fs)) (hs : starEach (e :: es) X.env = (false, eval e X.env) :: starEach es X.env := by rfl) :
    PA X (e :: es) (tW P F0 H0 W (fun ρ => do let x ← fa ρ; let xs ← fs ρ; .ok (x :: xs))) := (pa_cons ha hr hs).imp fun σ H Q ⟨F, ρ, er, z⟩ => by
  refine ⟨F, ρ, er, (PostG.bind (rel := rVw P) z).imp ?_⟩
  rintro v H1 ⟨F1, d, g, i, q⟩
  refine ⟨F1, ρ, er.grow g, (PostG.bind (rel := rVs P) q).imp ?_⟩
  rintro vs H2 ⟨F2, ds, g2, i2, q2⟩
  exact q2.here g2.s ⟨_, _, rfl, i.mono g2.f g2.h d, i2⟩

/-! ### new containers -/
/-- a new object at p, nobody's yet -/
def rNw (P : Pm) (H : Hp) : Rel D V := fun F' H' d v => ∃ p, v = .ref p ∧ NoD H p ∧ F' p = none ∧ Own P F' H' p d
def tN (P : Pm) (F0 : Fz) (H0 : Hp) (W : WX) (f : Env → Res D) : TE := fun σ H Q => ∃ F ρ, ER P F0 H0 F ρ σ H ∧ PostG P W (rNw P H) (f ρ) F σ H Q
def notDict : D → Bool
  | .dK _ _ => false
  | .dT _ _ => false
  | _ => true
/-- an object of one's own is kept still from now on -/
theorem Sb.keep {P : Pm} {F H : Hp} {p : Addr} {o : HO} (s : Sb P F H) (h0 : F p = none) (h1 : H p = some o) (ho : isT o = false) : Sb P (upd F p o) H := ⟨fun a u e => by
    by_cases q : a = p
    · subst q; rw [upd_same] at e; cases e; exact h1
    · rw [upd_ne q] at e; exact s.ex a u e, fun a u e => by
    by_cases q : a = p
    · subst q; rw [upd_same] at e; cases e; exact ho
    · rw [upd_ne q] at e; exact s.nt a u e, s.tabs⟩
theorem upd_or {F : Hp} {p : Addr} {o : HO} : ∀ a u, upd F p o a = some u → F a = some u ∨ a = p := fun a u e => by
  by_cases q : a = p
  · exact .inr q
  · rw [upd_ne q] at e; exact .inl e
theorem Own.still {P : Pm} {F H : Hp} {p : Addr} (s : Sb P F H) (h0 : F p = none) : ∀ {d : D}, notDict d = true → Own P F H p d → ∃ F', Ex F F' ∧ Sb P F' H ∧ Is P F' d (.ref p) ∧ ∀ a o, F' a = some o → F a = some o ∨ a = p
  | .lst xs, _, ⟨vs, h1, h2⟩ => ⟨upd F p (.lst vs), .new h0, s.keep h0 h1 rfl, by rw [Is]; exact ⟨p, vs, rfl, .inl upd_same, h2.mono (.new h0) xs⟩, upd_or⟩
  | .obj c xs, _, ⟨dx, vs, h1, h2, h3⟩ => ⟨upd F p (.ins (P.C c) dx ((P.nm c).zip vs)), .new h0, s.keep h0 h1 rfl, by rw [Is]; exact ⟨p, dx, vs, rfl, upd_same, h2, h3.mono (.new h0) xs⟩, upd_or⟩
  | .dK _ _, z, _ => by cases z
  | .dT _ _, z, _ => by cases z
  | .non, _, h => h.elim
  | .bl _, _, h => h.elim
  | .int _, _, h => h.elim
  | .str _, _, h => h.elim
  | .tup _, _, h => h.elim
  | .scr _, _, h => h.elim
  | .exc _ _, _, h => h.elim
theorem Sb.lock {P : Pm} {F H : Hp} {p : Addr} {u : HO} {od : Obj} (s : Sb P F H) (h0 : F p = none) (h1 : H p = some u) (hu : isD u = true) : Sb P (upd F p (.frz od u)) (upd H p (.frz od u)) := ⟨fun a v e => by
    by_cases q : a = p
    · subst q; rw [upd_same] at e; rw [upd_same]; exact e
    · rw [upd_ne q] at e; rw [upd_ne q]; exact s.ex a v e, fun a v e => by
    by_cases q : a = p
    · subst q; rw [upd_same] at e; cases e; rfl
    · rw [upd_ne q] at e; exact s.nt a v e, Tabs.upd s.tabs h1 hu⟩
/-- the same with the heap's reading: a dict is locked -/
theorem Own.stillI {X : Cx} {pins : List (Addr × Obj)} {σ : St} {s : Shared} {P : Pm} {F H : Hp} {p : Addr} (I : Inv X pins σ H s) (sb : Sb P F H) (h0 : F p = none) : ∀ {d : D}, Own P F H p d → ∃ F' H', Inv X pins σ H' s ∧ Ex F F' ∧ Sb P F' H' ∧ Is P F' d (.ref p) ∧ (∀ a o, F' a = some o → F a = some o ∨ a = p) ∧ ∀ b, b ≠ p → H' b = H b
  | .lst xs, h => by
    obtain ⟨F', a1, a2, a3, a4⟩ := h.still sb h0 rfl
    exact ⟨F', H, I, a1, a2, a3, a4, fun _ _ => rfl⟩
  | .obj c xs, h => by
    obtain ⟨F', a1, a2, a3, a4⟩ := h.still sb h0 rfl
    exact ⟨F', H, I, a1, a2, a3, a4, fun _ _ => rfl⟩
  | .dK ks xs, ⟨vs, h1, h2, h3⟩ => by
    obtain ⟨od, I2⟩ := I.lock h1 True.intro
    exact ⟨_, _, I2, .new h0, sb.lock h0 h1 rfl, by rw [Is]; exact ⟨p, od, vs, rfl, upd_same, h2, h3.mono (.new h0) xs⟩, upd_or, fun b hb => upd_ne hb⟩
  | .dT ks xs, ⟨vs, h1, h2, h3⟩ => by
    obtain ⟨od, I2⟩ := I.lock h1 True.intro
    exact ⟨_, _, I2, .new h0, sb.lock h0 h1 rfl, by rw [Is]; exact ⟨p, od, vs, rfl, upd_same, h2, h3.mono (.new h0) xs⟩, upd_or, fun b hb => upd_ne hb⟩
  | .non, h => h.elim
  | .bl _, h => h.elim
  | .int _, h => h.elim
  | .str _, h => h.elim
  | .tup _, h => h.elim
  | .scr _, h => h.elim
  | .exc _ _, h => h.elim
theorem Grow.still {P : Pm} {F H F1 H1 F2 H2 : Hp} {p : Addr} (g : Grow P F H F1 H1) (hp : NoD H p) (e1 : Ex F1 F2) (e2 : Sb P F2 H2) (n : ∀ a o, F2 a = some o → F1 a = some o ∨ a = p) (off : ∀ b, b ≠ p → H2 b = H1 b) : Grow P F H F2 H2 :=
  ⟨g.f.trans e1, ⟨fun a o h hn => by rw [off a (hp.ne h hn)]; exact g.h.at_ a o h hn⟩, e2, fun a o ha => by
    rcases n a o ha with y | y
    · exact g.n a o y
    · exact .inr (.inl (y ▸ hp))⟩
theorem n2e (h : PE X e (tN P F0 H0 W fa)) : PE X e (tE P F0 H0 W fa) := by
  refine ⟨fun pins s σ H Q I h0 => ?_⟩
  obtain ⟨F, ρ, er, z⟩ := h0
  refine thn (h.run pins s σ H (fun v H1 => ∃ F1 d, fa ρ = .ok d ∧ Grow P F H F1 H1 ∧ rNw P H F1 H1 d v) I ⟨F, ρ, er, ?_⟩) ?_
  · cases q : fa ρ with
    | ok d => exact fun v F' H' g r => ⟨F', d, rfl, g, r⟩
    | err c p =>
      rw [q] at z
      exact z
    | bad =>
      rw [q] at z
      exact z
  · rintro u s1 ⟨v, H1, I1, r, F1, d, hf, g, p, rfl, hp, hF, ho⟩
    obtain ⟨F2, H2, I2, a1, a2, a3, a4, a5⟩ := ho.stillI I1 g.s hF
    replace z : PostG P W (rIs P) (fa ρ) F σ H Q := z
    rw [hf] at z
    exact ⟨_, H2, I2, r, z _ F2 H2 (g.still hp a1 a2 a4 a5) a3⟩
def small (n : Nat) : Bool := decide (n ≤ 1000000)
theorem small_le {n : Nat} (h : small n = true) : n ≤ sizeLine := Nat.le_trans (of_decide_eq_true h) (by decide)
theorem small_lt {n : Nat} (h : small n = true) : n < sizeLine := Nat.lt_of_le_of_lt (of_decide_eq_true h) (by decide)
def mkL (xs : List D) : Res D := if small xs.length = true then .ok (.lst xs) else .bad
def mkT (xs : List D) : Res D := if small xs.length = true then .ok (.tup xs) else .bad
theorem nd_lst (h : PA X es (tL P F0 H0 W fs)) : PE X (.List es pos) (tN P F0 H0 W (fun ρ => fs ρ >>= mkL)) := (pe_lst h).imp fun σ H Q ⟨F, ρ, er, z⟩ => by
  refine ⟨F, ρ, er, (PostG.bind (rel := rLs P) z).imp ?_⟩
  rintro vs H1 ⟨F1, ds, g, i, q⟩
  unfold mkL at q
  split at q
  · rename_i hz
    refine ⟨by rw [← i.length]; exact small_le hz, fun p hp => ?_⟩
    exact q _ F1 _ (.junk g.s (.new hp)) ⟨p, rfl, g.h.back hp, g.s.back hp, vs, upd_same, i⟩
  · exact q.elim
theorem pd_lst (h : PA X es (tL P F0 H0 W fs)) : PE X (.List es pos) (tE P F0 H0 W (fun ρ => fs ρ >>= mkL)) := n2e (nd_lst h)
theorem pd_tup {x1} (h : PA X es (tL P F0 H0 W fs)) : PE X (.Tuple es x1 pos) (tE P F0 H0 W (fun ρ => fs ρ >>= mkT)) := (pe_tup h).imp fun σ H Q ⟨F, ρ, er, z⟩ => by
  refine ⟨F, ρ, er, (PostG.bind (rel := rLs P) z).imp ?_⟩
  rintro vs H1 ⟨F1, ds, g, i, q⟩
  unfold mkT at q
  split at q
  · rename_i hz
    refine ⟨by rw [← i.length]; exact small_le hz, fun p hp => ?_⟩
    exact q _ (upd F1 p (.tup vs)) _ (.new g.s hp) (by show Is P _ (.tup ds) _; rw [Is]; exact ⟨p, vs, rfl, upd_same, i.mono (.new (g.s.back hp)) ds⟩)
  · exact q.elim
end
end DL
namespace DL
open PySem L2

/-! ### promises by data -/
def fnG (n : Nat) (G : List D → Res D) (ds : List D) : Res D := if ds.length = n then G ds else .bad
abbrev WE0 (E : XK) : WX := fun cls x _ H => E cls x H
def spD (P : Pm) (n : Nat) (G : List D → Res D) : Sp := fun vs H Q E => ∃ F ds, Sb P F H ∧ IsL P F ds vs ∧ ds.length = n ∧ PostG P (WE0 E) (rIs P) (G ds) F [] H Q
def minus (H : Hp) (x : Addr) : Hp := fun a => if a = x then none else H a
theorem minus_same {H : Hp} {x : Addr} : minus H x x = none := by unfold minus; rw [if_pos rfl]
theorem minus_ne {H : Hp} {x a : Addr} (h : a ≠ x) : minus H x a = H a := by unfold minus; rw [if_neg h]
theorem minus_ex {H : Hp} {x : Addr} : Ex (minus H x) H := fun a o e => by
  by_cases q : a = x
  · subst q
    rw [minus_same] at e
    cases e
  · rw [minus_ne q] at e
    exact e
/-- __init__: the attributes that it sets -/
def spI (P : Pm) (c n : Nat) (G : List D → Res (List D)) : Sp := fun vs H Q E => ∃ x dx args F ds, vs = .ref x :: args ∧ H x = some (.ins (P.C c) dx []) ∧ F x = none ∧ Sb P F H ∧ IsL P F ds args ∧ ds.length = n ∧
  PostG P (WE0 E) (fun F' _ fs v => v = .non ∧ Is P F' (.obj c fs) (.ref x)) (G ds) F [] (minus H x) Q
section
variable {X : Cx} {P : Pm} {F0 : Fz} {H0 : Hp} {W : WX} {a b c e o : Expr} {es : List Expr} {fa fb fc : Env → Res D} {fs : Env → Res (List D)} {pos p apos : Pos} {σ : St} {H F : Hp}
variable {k n : Nat} {f C : Addr} {fd : FuncData} {ps : List Str} {dvs : List V} {dds : List D} {dv : List Value} {x m : Str} {G : List D → Res D} {GI : List D → Res (List D)}
/-- defaults as data -/
def Dfl (P : Pm) (dvs : List V) (dds : List D) : Prop := ∀ F : Hp, IsL P F dds dvs
theorem Dfl.nil : Dfl P [] [] := fun _ => .nil
theorem Dfl.int {i : Int} : Dfl P [.int i] [.int i] := fun _ => .cons (by rw [Is]) .nil
theorem PostG.sig {α β : Type} {rel : Rel α β} {r : Res α} {Q : β → Hp → Prop} (h : PostG P W rel r F σ H Q) : PostG P (WE0 fun cls x H => W cls x σ H) rel r F [] H Q := by
  cases r with
  | ok a => exact h
  | err c p => exact h
  | bad => exact h
theorem fnG_of {ds : List D} {F H : Hp} {Q : VK} {vs : List V} {E : XK} (hd : Dfl P dvs dds) (s : Sb P F H) (i : IsL P F ds vs) (h : PostG P (WE0 E) (rIs P) (fnG n G (ds ++ dds)) F [] H Q) : spD P n G (vs ++ dvs) H Q E := by
  unfold fnG at h
  split at h
  · rename_i hl
    exact ⟨F, ds ++ dds, s, i.append (hd F), hl, h⟩
  · exact h.elim
/-- f(e, ..) -/
theorem pd_call (Fn : FnOk X.prog X.w X.K X.mg X.base (L2.CX X.prog X.w) k f fd ps (spD P n G)) (hr : Room k X.A) (hg : Gl X x) (hm : X.mg x = some (.ref f)) (hk : PySem.W.keepIn X.K (.ref f) = true) (hb : Binds X.K fd ps dv) (hd : Vals dvs dv) (hdd : Dfl P dvs dds)
    (tk : Takes X W) (ha : PA X (e :: es) (tL P F0 H0 W fs)) (hdb : (x == ("__debug__" : Str)) = false := by decide) (he : starEach (e :: es) X.env = (false, eval e X.env) :: starEach es X.env := by rfl) (hpl : (backTo pos (starEach es X.env)).any (·.1) = false := by rfl) :
    PE X (.Call (.Name x p) (e :: es) [] pos) (tE P F0 H0 W (fun ρ => do let xs ← fs ρ; fnG n G (xs ++ dds))) :=
  (pe_callSD (E := WE W) Fn hr hg hm hk hb hd (fun σ => passAt tk σ) ha hdb he hpl).imp fun σ H Q ⟨F, ρ, er, z⟩ => by
  refine ⟨F, ρ, er, (PostG.bind (rel := rLs P) z).imp ?_⟩
  rintro vs H1 ⟨F1, ds, g, i, q⟩
  exact fnG_of hdd g.s i q.sig
/-- f() -/
theorem pd_call0 (Fn : FnOk X.prog X.w X.K X.mg X.base (L2.CX X.prog X.w) k f fd ps (spD P n G)) (hr : Room k X.A) (hg : Gl X x) (hm : X.mg x = some (.ref f)) (hk : PySem.W.keepIn X.K (.ref f) = true) (hb : Binds X.K fd ps dv) (hd : Vals dvs dv) (hdd : Dfl P dvs dds)
    (tk : Takes X W) (hdb : (x == ("__debug__" : Str)) = false := by decide) :
    PE X (.Call (.Name x p) [] [] pos) (tE P F0 H0 W (fun ρ => fnG n G dds)) := by
  refine ⟨fun pins s σ H Q I h => ?_⟩
  refine wpAny_Call_Name_kw (ld_glob I hg hm ?_ hdb)
  obtain ⟨F, ρ, er, z⟩ := h
  refine PySem.W.callWith_K0 I.kIn hk ?_
  exact run_fnSD (vs := []) (us := []) Fn hr hb hd (passAt tk σ) I .nil (fnG_of (ds := []) hdd er.s .nil z.sig)
/-- o.m(e, ..) -/
theorem run_methD {pins : List (Addr × Obj)} {s : Shared} {Q : VK} {us : List Value} {vs : List V} {ds : List D} (Fn : FnOk X.prog X.w X.K X.mg X.base (L2.CX X.prog X.w) k f fd ps (spD P n G)) (hr : Room k X.A) (hb : Binds X.K fd ps dv) (hd : Vals dvs dv) (hdd : Dfl P dvs dds)
    (tk : Takes X W) (I : Inv X pins σ H s) (r : Vals vs us) (sx : Sb P F H) (i : IsL P F ds vs) (z : PostG P W (rIs P) (fnG n G (ds ++ dds)) F σ H Q) : wpAny (model X.prog X.w) X.A (call (.ref f) us) (EP X pins σ Q) X.xe s :=
  run_fnSD (E := WE W) Fn hr hb hd (passAt tk σ) I r (fnG_of hdd sx i z.sig)
theorem obj_of {c : Nat} {xs : List D} {v : V} (i : Is P F (.obj c xs) v) : ∃ a dx vs, v = .ref a ∧ F a = some (.ins (P.C c) dx ((P.nm c).zip vs)) ∧ vs.length ≤ (P.nm c).length ∧ IsL P F xs vs := by
  rw [Is] at i
  exact i
theorem zip_none {β : Type} {m : Str} : ∀ {ks : List Str} {vs : List β}, m ∉ ks → (ks.zip vs).lookup m = none
  | [], _, _ => rfl
  | _ :: _, [], _ => rfl
  | k :: ks, v :: vs, h => by
    have h1 : (m == k) = false := by
      rw [beq_eq_false_iff_ne]
      exact fun q => h (q ▸ List.mem_cons_self)
    show (match m == k with | true => some v | false => (ks.zip vs).lookup m) = none
    rw [h1]
    exact zip_none fun q => h (List.mem_cons_of_mem _ q)
/-- x is an instance of the class number c -/
def isO (c : Nat) (x : D) : Res D := match x with
  | .obj c' ys => if c' = c then .ok x else .bad
  | _ => .bad
theorem isO_of {cn : Nat} {d : D} {v : V} {Q : VK} (s : Sb P F H) (i : Is P F d v) (h : PostG P W (rIs P) (isO cn d) F σ H Q) : ∃ xs a dx fs, d = .obj cn xs ∧ v = .ref a ∧ H a = some (.ins (P.C cn) dx ((P.nm cn).zip fs)) ∧ Q v H := by
  cases d with
  | obj c ys =>
    by_cases q : c = cn
    · subst q
      have e : isO c (.obj c ys) = .ok (.obj c ys) := if_pos rfl
      rw [e] at h
      obtain ⟨a, dx, vs, h1, h2, h3, h4⟩ := obj_of i
      exact ⟨ys, a, dx, vs, rfl, h1, s.ex _ _ h2, h.here s i⟩
    · have e : isO cn (.obj c ys) = .bad := if_neg q
      rw [e] at h
      exact h.elim
  | _ => exact h.elim
theorem pd_meth {cn : Nat} {pl : Sem Bool} (ho : PE X o (tE P F0 H0 W fa)) (cl : Cls X.K (P.C cn)) (hm : Meth X.K (P.C cn) m f) (hno : m ∉ P.nm cn) (Fn : FnOk X.prog X.w X.K X.mg X.base (L2.CX X.prog X.w) k f fd ps (spD P n G)) (hr : Room k X.A) (hb : Binds X.K fd ps dv) (hd : Vals dvs dv) (hdd : Dfl P dvs dds)
    (tk : Takes X W) (ha : PA X (e :: es) (tL P F0 H0 W fs))
    (hst : starEach (e :: es) X.env = (false, eval e X.env) :: starEach es X.env := by rfl) (hpl : (backTo pos (starEach es X.env)).any (·.1) = false := by rfl)
    (ht : eval (.Call (.Attribute o m apos) (e :: es) [] pos) X.env = (do
      let ov ← eval o X.env
      standAt apos.atName
      let (f, first) ← holding [ov] (getMethod ov m pl)
      callWith pos f first (backTo pos (starEach (e :: es) X.env)) (backToKw pos (keywordEach [] X.env))) := by rfl) :
    PE X (.Call (.Attribute o m apos) (e :: es) [] pos) (tE P F0 H0 W (fun ρ => do let x ← fa ρ; let y ← isO cn x; let xs ← fs ρ; fnG n G (y :: xs ++ dds))) := by
  refine ⟨fun pins s σ H Q I h => ?_⟩
  obtain ⟨F, ρ, er, z⟩ := h
  refine PySem.W.methodCall_KW (pl := pl) (thn (ho.run pins s σ H _ I ⟨F, ρ, er, PostG.bind (rel := rIs P) z⟩) ?_) ht
  rintro u s1 ⟨x, H1, I1, rx, F1, d, g1, i1, z1⟩
  obtain ⟨xs, a, dx, fs', rfl, rfl, ha1, F2, d2, g2, i2, z2⟩ := isO_of g1.s i1 (PostG.bind (rel := rIs P) z1)
  obtain rfl : u = Value.ref a := rx
  refine getmeth_ok I1 ha1 cl hm (zip_none hno) ?_
  refine PySem.W.callWith_K (first := [.ref a]) (h₀ := X.base) I.ok.mod.kin hm.kp (thn (ha.run pos pins s1 σ H1 _ I1 ⟨F2, ρ, (er.grow g1).grow g2, PostG.bind (rel := rLs P) z2⟩) ?_) hst hpl
  rintro us s2 ⟨vs, H2, I2, r, F3, ds, g3, i3, z3⟩
  exact ⟨I2.kIn, run_methD (vs := .ref a :: vs) (ds := d2 :: ds) Fn hr hb hd hdd tk I2 (.cons rfl r) g3.s (.cons (i2.mono g3.f _) i3) z3⟩
/-- o.m() -/
theorem pd_meth0 {cn : Nat} {pl : Sem Bool} (ho : PE X o (tE P F0 H0 W fa)) (cl : Cls X.K (P.C cn)) (hm : Meth X.K (P.C cn) m f) (hno : m ∉ P.nm cn) (Fn : FnOk X.prog X.w X.K X.mg X.base (L2.CX X.prog X.w) k f fd ps (spD P n G)) (hr : Room k X.A) (hb : Binds X.K fd ps dv) (hd : Vals dvs dv) (hdd : Dfl P dvs dds)
    (tk : Takes X W)
    (ht : eval (.Call (.Attribute o m apos) [] [] pos) X.env = (do
      let ov ← eval o X.env
      standAt apos.atName
      let (f, first) ← holding [ov] (getMethod ov m pl)
      callWith pos f first (backTo pos (starEach [] X.env)) (backToKw pos (keywordEach [] X.env))) := by rfl) :
    PE X (.Call (.Attribute o m apos) [] [] pos) (tE P F0 H0 W (fun ρ => do let x ← fa ρ; let y ← isO cn x; fnG n G (y :: dds))) := by
  refine ⟨fun pins s σ H Q I h => ?_⟩
  obtain ⟨F, ρ, er, z⟩ := h
  refine PySem.W.methodCall_KW (pl := pl) (thn (ho.run pins s σ H _ I ⟨F, ρ, er, PostG.bind (rel := rIs P) z⟩) ?_) ht
  rintro u s1 ⟨x, H1, I1, rx, F1, d, g1, i1, z1⟩
  obtain ⟨xs, a, dx, fs', rfl, rfl, ha1, F2, d2, g2, i2, z2⟩ := isO_of g1.s i1 (PostG.bind (rel := rIs P) z1)
  obtain rfl : u = Value.ref a := rx
  refine getmeth_ok I1 ha1 cl hm (zip_none hno) ?_
  refine PySem.W.callWith_K0 (first := [.ref a]) I1.kIn hm.kp ?_
  exact run_methD (vs := [.ref a]) (ds := [d2]) (dds := dds) Fn hr hb hd hdd tk I1 (.cons rfl .nil) g2.s (.cons i2 .nil) z2
/-! ### C(e, ..) -/
theorem run_makeS {CX : CXT} {sp : Sp} {E : XK} {pins : List (Addr × Obj)} {s : Shared} {Q : VK} {us : List Value} {vs : List V} (M : Mk X.K C f) (Fn : FnOk X.prog X.w X.K X.mg X.base CX k f fd ps sp) (hr : Room (k + 1) X.A) (hb : Binds X.K fd ps dv) (hd : Vals dvs dv)
    (hx : PassesAt CX X σ E) (I : Inv X pins σ H s) (r : Vals vs us)
    (h : ∀ x dx, H x = none → H dx = none → dx ≠ x → sp (.ref x :: (vs ++ dvs)) (upd (upd H dx (.own x)) x (.ins C dx [])) (fun v H2 => v = .non ∧ Q (.ref x) H2) E) :
    wpAny (model X.prog X.w) X.A (call (.ref C) us) (EP X pins σ Q) X.xe s := by
  have hq := h (s.heap.objs.size + 1) s.heap.objs.size (I.hok.fresh (Nat.le_succ _)) (I.hok.fresh (Nat.le_refl _)) (Nat.ne_of_lt (Nat.lt_succ_self _))
  have I2 := Inv.made (C := C) I
  have r2 : Vals (V.ref (s.heap.objs.size + 1) :: (vs ++ dvs)) (Value.ref (s.heap.objs.size + 1) :: (us ++ dv)) := .cons rfl (r.append hd)
  have hl : (Value.ref (s.heap.objs.size + 1) :: us ++ dv).length = ps.length := by
    have e := r2.length
    rw [Fn.len _ _ _ _ hq] at e
    exact e.symm
  refine wpAny_call (make_map (f := f) I.kIn M.makes M.init (beq_iff_eq.mp M.fn) (codeAny_mono (Fn.run _ X.stack _ _ ⟨Value.ref (s.heap.objs.size + 1) :: us, []⟩ (Value.ref (s.heap.objs.size + 1) :: (us ++ dv)) _ _ E (hr.make C us [])
    (I2.env0.make C us []) (hb _ (Value.ref (s.heap.objs.size + 1) :: us) I2.kIn hl) r2 hq) fun r s' hq' => ?_))
  cases r with
  | error e => exact hx pins _ _ e s' I2 hq'
  | ok fl =>
    cases fl with
    | ret u =>
      obtain ⟨v, H', I3, rv, ev, q3⟩ := I2.after hq'
      subst ev
      exact ⟨rv, ⟨V.ref (s.heap.objs.size + 1), H', I3, rfl, q3⟩⟩
    | next => exact False.elim hq'
    | brk => exact False.elim hq'
    | cont => exact False.elim hq'
def mkG (c n : Nat) (G : List D → Res (List D)) (ds : List D) : Res D := if ds.length = n then (do let fs ← G ds; .ok (.obj c fs)) else .bad
theorem mkG_of {cn : Nat} {ds : List D} {Q : VK} {vs : List V} (hdd : Dfl P dvs dds) (s : Sb P F H) (i : IsL P F ds vs) (h : PostG P W (rIs P) (mkG cn n GI (ds ++ dds)) F σ H Q) :
    ∀ x dx, H x = none → H dx = none → dx ≠ x → spI P cn n GI (.ref x :: (vs ++ dvs)) (upd (upd H dx (.own x)) x (.ins (P.C cn) dx [])) (fun v H2 => v = .non ∧ Q (.ref x) H2) (fun cls d H' => W cls d σ H') := by
  intro x dx hx hdx hne
  unfold mkG at h
  split at h
  · rename_i hl
    have e1 : minus (upd (upd H dx (.own x)) x (.ins (P.C cn) dx [])) x = upd H dx (.own x) := by
      funext a
      by_cases q : a = x
      · subst q
        rw [minus_same, upd_ne (Ne.symm hne), hx]
      · rw [minus_ne q, upd_ne q]
    refine ⟨x, dx, vs ++ dvs, F, ds ++ dds, rfl, upd_same, s.back hx, s.ext ((Ex.new hdx).trans (Ex.new ?_)), i.append (hdd F), hl, ?_⟩
    · rw [upd_ne (Ne.symm hne)]
      exact hx
    · rw [e1]
      have g0 : Grow P F H F (upd H dx (.own x)) := .junk s (.new hdx)
      cases hG : GI (ds ++ dds) with
      | ok fs =>
        rw [hG] at h
        rintro v F' H' g ⟨hv, i'⟩
        exact ⟨hv, h _ F' H' (g0.trans g) i'⟩
      | err c p =>
        rw [hG] at h
        exact fun F' H' y g q => h F' H' y (g0.trans g) q
      | bad =>
        rw [hG] at h
        exact h
  · exact h.elim
theorem pd_make {cn : Nat} (M : Mk X.K (P.C cn) f) (Fn : FnOk X.prog X.w X.K X.mg X.base (L2.CX X.prog X.w) k f fd ps (spI P cn n GI)) (hr : Room (k + 1) X.A) (hg : Gl X x) (hm : X.mg x = some (.ref (P.C cn))) (hb : Binds X.K fd ps dv) (hd : Vals dvs dv) (hdd : Dfl P dvs dds)
    (tk : Takes X W) (ha : PA X (e :: es) (tL P F0 H0 W fs)) (hdb : (x == ("__debug__" : Str)) = false := by decide) (he : starEach (e :: es) X.env = (false, eval e X.env) :: starEach es X.env := by rfl) (hpl : (backTo pos (starEach es X.env)).any (·.1) = false := by rfl) :
    PE X (.Call (.Name x p) (e :: es) [] pos) (tE P F0 H0 W (fun ρ => do let xs ← fs ρ; mkG cn n GI (xs ++ dds))) := by
  refine ⟨fun pins s σ H Q I h => ?_⟩
  obtain ⟨F, ρ, er, z⟩ := h
  refine wpAny_Call_Name_kw (ld_glob I hg hm ?_ hdb)
  refine PySem.W.callWith_K (h₀ := X.base) I.ok.mod.kin M.kp (thn (ha.run pos pins s σ H _ I ⟨F, ρ, er, PostG.bind (rel := rLs P) z⟩) ?_) he hpl
  rintro us s1 ⟨vs, H1, I1, r, F1, ds, g, i, q⟩
  exact ⟨I1.kIn, run_makeS (E := WE W σ) M Fn hr hb hd (passAt tk σ) I1 r (mkG_of hdd g.s i q)⟩
end
end DL
namespace DL
open PySem L2

/-! ### operations that raise nothing: D in, Option D out -/
/-- what is wanted of a value that comes out -/
abbrev Out (P : Pm) (F H : Hp) (d : D) (Q : VK) : Prop := ∀ v F' H', Grow P F H F' H' → Is P F' d v → Q v H'
def r2O (P : Pm) (r : D → D → Option D) : R2 := fun x y H Q => ∃ F dx dy d, Sb P F H ∧ Vw P F H dx x ∧ Vw P F H dy y ∧ r dx dy = some d ∧ Out P F H d Q
def r1O (P : Pm) (r : D → Option D) : V → Hp → VK → Prop := fun x H Q => ∃ F dx d, Sb P F H ∧ Vw P F H dx x ∧ r dx = some d ∧ Out P F H d Q
def rcO (P : Pm) (r : List D → Option D) : List V → Hp → VK → Prop := fun xs H Q => ∃ F ds d, Sb P F H ∧ VwL P F H ds xs ∧ r ds = some d ∧ Out P F H d Q
section
variable {X : Cx} {P : Pm} {F0 : Fz} {H0 : Hp} {W : WX} {a b c e o : Expr} {es : List Expr} {fa fb fc : Env → Res D} {fs : Env → Res (List D)} {pos p apos : Pos} {σ : St} {H F : Hp}
variable {f : Value → Value → Sem Value} {r : D → D → Option D} {x : Str} {id T : String}
theorem opt_of {α β : Type} {rel : Rel α β} {y : Option α} {Q : β → Hp → Prop} (h : PostG P W rel (opt y) F σ H Q) : ∃ d, y = some d ∧ ∀ v F' H', Grow P F H F' H' → rel F' H' d v → Q v H' := by
  cases y with
  | none => exact h.elim
  | some d => exact ⟨d, rfl, h⟩
theorem od_of (h : OpR X f (r2O P r)) : OpD X P W f (fun x y => opt (r x y)) := fun pins s σ F H x y u v dx dy Q I rx ry e i1 i2 z => by
  obtain ⟨d, hd, q⟩ := opt_of z
  exact h pins s σ H x y u v Q I rx ry ⟨F, dx, dy, d, e, i1, i2, hd, q⟩
theorem ud_of {f : Value → Sem Value} {r : D → Option D} (h : UnR X f (r1O P r)) : UnD X P W f (fun x => opt (r x)) := fun pins s σ F H x u dx Q I rx e i1 z => by
  obtain ⟨d, hd, q⟩ := opt_of z
  exact h pins s σ H x u Q I rx ⟨F, dx, d, e, i1, hd, q⟩
theorem Out.here {d : D} {Q : VK} {v : V} (q : Out P F H d Q) (s : Sb P F H) (i : Is P F d v) : Q v H := q v F H (.refl s) i
theorem Out.int {i : Int} {Q : VK} (q : Out P F H (.int i) Q) (s : Sb P F H) : Q (.int i) H := q.here s (by rw [Is])
theorem Out.bl {i : Bool} {Q : VK} (q : Out P F H (.bl i) Q) (s : Sb P F H) : Q (.bl i) H := q.here s (by rw [Is])
theorem Out.str {i : Str} {Q : VK} (q : Out P F H (.str i) Q) (s : Sb P F H) : Q (.str i) H := q.here s (by rw [Is])
theorem Out.lst {ds : List D} {vs : List V} {Q : VK} (q : Out P F H (.lst ds) Q) (s : Sb P F H) (i : IsL P F ds vs) : ∀ p, H p = none → Q (.ref p) (upd H p (.lst vs)) := fun p hp =>
  q _ (upd F p (.lst vs)) _ (.new s hp) (by rw [Is]; exact ⟨p, vs, rfl, .inl upd_same, i.mono (.new (s.back hp)) ds⟩)
theorem Out.tup {ds : List D} {vs : List V} {Q : VK} (q : Out P F H (.tup ds) Q) (s : Sb P F H) (i : IsL P F ds vs) : ∀ p, H p = none → Q (.ref p) (upd H p (.tup vs)) := fun p hp =>
  q _ (upd F p (.tup vs)) _ (.new s hp) (by rw [Is]; exact ⟨p, vs, rfl, upd_same, i.mono (.new (s.back hp)) ds⟩)

/-! ### ints -/
def int2 (g : Int → Int → Option D) : D → D → Option D
  | .int i, .int j => g i j
  | _, _ => none
theorem int2_of {g : Int → Int → Option D} {dx dy d : D} (h : int2 g dx dy = some d) : ∃ i j, dx = .int i ∧ dy = .int j ∧ g i j = some d := by
  unfold int2 at h
  split at h
  · exact ⟨_, _, rfl, rfl, h⟩
  · cases h
theorem op_int2 {g : Int → Int → Option D} {r' : R2} (h : OpR X f r') (hr : ∀ i j d H Q, g i j = some d → (∀ v, (∀ F, Is P F d v) → Q v H) → r' (.int i) (.int j) H Q) : OpR X f (r2O P (int2 g)) := fun pins s σ H x y u v Q I rx ry ⟨F, dx, dy, d, e, i1, i2, hd, q⟩ => by
  obtain ⟨i, j, rfl, rfl, hg⟩ := int2_of hd
  have e1 : x = .int i := i1
  have e2 : y = .int j := i2
  subst e1 e2
  exact h pins s σ H _ _ u v Q I rx ry (hr i j d H Q hg fun v hv => q.here e (hv F))
theorem is_int {F : Hp} {i : Int} : Is P F (.int i) (.int i) := by rw [Is]
theorem is_bl {F : Hp} {i : Bool} : Is P F (.bl i) (.bl i) := by rw [Is]
theorem is_str {F : Hp} {i : Str} : Is P F (.str i) (.str i) := by rw [Is]
theorem is_non {F : Hp} : Is P F .non .non := by rw [Is]
theorem io_add : OpR X (binaryOp .Add) (r2O P (int2 fun i j => some (.int (i + j)))) := op_int2 op_add fun i j d H Q hg q => ⟨i, j, rfl, rfl, q _ fun F => by cases hg; exact is_int⟩
theorem io_sub : OpR X (binaryOp .Sub) (r2O P (int2 fun i j => some (.int (i - j)))) := op_int2 op_sub fun i j d H Q hg q => ⟨i, j, rfl, rfl, q _ fun F => by cases hg; exact is_int⟩
def mulC (i j : Int) : Option D := if i.natAbs.log2 + j.natAbs.log2 < 1000000 then some (.int (i * j)) else none
theorem io_mul : OpR X (binaryOp .Mult) (r2O P (int2 mulC)) := op_int2 op_mulW fun i j d H Q hg q => by
  unfold mulC at hg
  split at hg
  · rename_i hc
    cases hg
    exact ⟨i, j, rfl, rfl, hc, q _ fun F => is_int⟩
  · cases hg
def modC (i j : Int) : Option D := if j = 0 then none else some (.int (i.fmod j))
theorem io_mod : OpR X (binaryOp .Mod) (r2O P (int2 modC)) := op_int2 op_modN fun i j d H Q hg q => by
  unfold modC at hg
  split at hg
  · cases hg
  · rename_i hc
    cases hg
    exact ⟨i, j, rfl, rfl, hc, q _ fun F => is_int⟩
def powC (i j : Int) : Option D := if 0 ≤ j ∧ j ≤ 1000000 ∧ i.natAbs < 2 ^ 64 then some (.int (i ^ j.toNat)) else none
theorem io_pow : OpR X (binaryOp .Pow) (r2O P (int2 powC)) := op_int2 op_pow fun i j d H Q hg q => by
  unfold powC at hg
  split at hg
  · rename_i hc
    cases hg
    exact ⟨i, j, rfl, rfl, hc, q _ fun F => is_int⟩
  · cases hg
theorem io_lt : OpR X (compareOp .Lt) (r2O P (int2 fun i j => some (.bl (decide (i < j))))) := op_int2 op_lt fun i j d H Q hg q => ⟨i, j, rfl, rfl, q _ fun F => by cases hg; exact is_bl⟩
theorem io_le : OpR X (compareOp .LtE) (r2O P (int2 fun i j => some (.bl (decide (i ≤ j))))) := op_int2 op_le fun i j d H Q hg q => ⟨i, j, rfl, rfl, q _ fun F => by cases hg; exact is_bl⟩
theorem io_gt : OpR X (compareOp .Gt) (r2O P (int2 fun i j => some (.bl (decide (j < i))))) := op_int2 op_gt fun i j d H Q hg q => ⟨i, j, rfl, rfl, q _ fun F => by cases hg; exact is_bl⟩
theorem io_ge : OpR X (compareOp .GtE) (r2O P (int2 fun i j => some (.bl (decide (j ≤ i))))) := op_int2 op_ge fun i j d H Q hg q => ⟨i, j, rfl, rfl, q _ fun F => by cases hg; exact is_bl⟩
def negC : D → Option D
  | .int i => some (.int (-i))
  | _ => none
theorem io_neg : UnR X (unaryOp .USub) (r1O P negC) := fun pins s σ H x u Q I rx ⟨F, dx, d, e, i1, hd, q⟩ => by
  cases dx with
  | int i =>
    have e1 : x = .int i := i1
    subst e1
    cases hd
    exact un_neg pins s σ H _ u Q I rx ⟨i, rfl, q.int e⟩
  | _ => cases hd
/-! ### a[b] of lists, tuples, texts -/
def itemD : D → D → Option D
  | .lst xs, .int i => atI xs i
  | .tup xs, .int i => atI xs i
  | .str z, .int i => if z.length ≤ 1000000 then (atI z.cps.toList i).map fun c => .str ⟨#[c]⟩ else none
  | _, _ => none
theorem IsL.atI {ds : List D} {vs : List V} {i : Int} {d : D} (h : IsL P F ds vs) (e : atI ds i = some d) : ∃ v, L2.atI vs i = some v ∧ Is P F d v := by
  unfold L2.atI at e ⊢
  rw [h.length] at e
  cases q : ixN vs.length i with
  | none =>
    rw [q] at e
    cases e
  | some j =>
    rw [q] at e
    exact h.get e
theorem pd_ix (ha : PE X a (tV P F0 H0 W fa)) (hb : PE X b (tV P F0 H0 W fb)) (hs : PlainIx b) : PE X (.Subscript a b pos) (tE P F0 H0 W (fun ρ => do let x ← fa ρ; let y ← fb ρ; opt (itemD x y))) :=
  (pe_ix ix_seq ha hb hs).imp fun σ H Q z => by
  obtain ⟨F, ρ, er, z⟩ := two_of z
  refine ⟨F, ρ, er, z.imp fun x H1 ⟨F1, ρ1, er1, z1⟩ => ⟨F1, ρ1, er1, z1.imp ?_⟩⟩
  rintro y H2 ⟨F2, dx, dy, s2, i1, i2, z2⟩
  obtain ⟨d, hd, q⟩ := opt_of z2
  unfold itemD at hd
  split at hd
  · obtain ⟨p, vs, rfl, h1, h2⟩ := i1
    obtain ⟨v, h3, h4⟩ := h2.atI hd
    exact .inl ⟨p, vs, _, v, rfl, i2, .inl h1, h3, Out.here q s2 h4⟩
  · obtain ⟨p, vs, rfl, h0, h1, h2⟩ := i1
    obtain ⟨v, h3, h4⟩ := h2.atI hd
    exact .inr (.inl ⟨p, vs, _, v, rfl, i2, .inl h1, h3, Out.here q s2 h4⟩)
  · rename_i z i
    split at hd
    · rename_i hl
      cases hc : atI z.cps.toList i with
      | none =>
        rw [hc] at hd
        cases hd
      | some ch =>
        rw [hc] at hd
        cases hd
        exact .inr (.inr ⟨z, i, ch, i1, i2, Nat.le_trans hl (by decide), hc, Out.str q s2⟩)
    · cases hd
  · cases hd
/-! ### o.f -/
def fldD (nm : Nat → List Str) (f : Str) : D → Option D
  | .obj c xs => ((nm c).zip xs).lookup f
  | _ => none
theorem IsL.lookup {f : Str} {d : D} : ∀ {ks : List Str} {ds : List D} {vs : List V}, IsL P F ds vs → (ks.zip ds).lookup f = some d → ∃ v, (ks.zip vs).lookup f = some v ∧ Is P F d v
  | [], _, _, _, e => by simp at e
  | _ :: _, [], _, _, e => by simp at e
  | k :: ks, d0 :: ds, _, h, e => by
    rw [IsL] at h
    obtain ⟨v, r, rfl, h2, h3⟩ := h
    have e' : (match f == k with | true => some d0 | false => (ks.zip ds).lookup f) = some d := e
    show ∃ v', (match f == k with | true => some v | false => (ks.zip r).lookup f) = some v' ∧ _
    cases q : f == k with
    | true =>
      rw [q] at e'
      cases e'
      exact ⟨v, rfl, h2⟩
    | false =>
      rw [q] at e'
      exact IsL.lookup h3 e'
theorem pd_fld {fl : Str} (ha : PE X a (tV P F0 H0 W fa)) (hcl : ∀ c d, ((P.nm c).zip d).lookup fl ≠ (none : Option D) → Cls X.K (P.C c) ∧ NoAttr X.K (P.C c) fl) (hb : attributeBase a fl X.env (eval a X.env) = eval a X.env := by rfl) :
    PE X (.Attribute a fl pos) (tE P F0 H0 W (fun ρ => do let x ← fa ρ; opt (fldD P.nm fl x))) := (pe_fld ha hb).imp fun σ H Q ⟨F, ρ, er, z⟩ => by
  refine ⟨F, ρ, er, (PostG.bind (rel := rVw P) z).imp ?_⟩
  rintro v H1 ⟨F1, d, g, i, q⟩
  obtain ⟨d', hd, q'⟩ := opt_of q
  cases d with
  | obj c xs =>
    have hd' : ((P.nm c).zip xs).lookup fl = some d' := hd
    obtain ⟨p, dx, vs, rfl, h1, h2, h3⟩ := i
    obtain ⟨v, h4, h5⟩ := h3.lookup hd'
    obtain ⟨k1, k2⟩ := hcl c xs (by rw [hd']; simp)
    exact ⟨p, _, dx, _, v, rfl, h1, k1, k2, h4, Out.here q' g.s h5⟩
  | _ => cases hd
/-! ### calls of built-ins -/
variable {rc : List D → Option D}
theorem pd_callB (hc : CallR X (.builtin id) (rcO P rc)) (hg : Gl X x) (hm : X.mg x = none) (hv : bootBuiltins x = some (.builtin id)) (ha : PA X (e :: es) (tW P F0 H0 W fs)) (hn : x ≠ "__name__" := by decide) (hdb : (x == ("__debug__" : Str)) = false := by decide)
    (he : starEach (e :: es) X.env = (false, eval e X.env) :: starEach es X.env := by rfl) (hpl : (backTo pos (starEach es X.env)).any (·.1) = false := by rfl) : PE X (.Call (.Name x p) (e :: es) [] pos) (tE P F0 H0 W (fun ρ => do let xs ← fs ρ; opt (rc xs))) :=
  (pe_callB hc hg hm hv ha hn hdb he hpl).imp fun σ H Q ⟨F, ρ, er, z⟩ => by
  refine ⟨F, ρ, er, (PostG.bind (rel := rVs P) z).imp ?_⟩
  rintro vs H1 ⟨F1, ds, g, i, q⟩
  obtain ⟨d, hd, q⟩ := opt_of q
  exact ⟨F1, ds, d, g.s, i, hd, q⟩
theorem pd_callTy (hc : CallR X (.type T) (rcO P rc)) (hg : Gl X x) (hm : X.mg x = none) (hv : bootBuiltins x = some (.type T)) (ha : PA X (e :: es) (tW P F0 H0 W fs)) (hn : x ≠ "__name__" := by decide) (hdb : (x == ("__debug__" : Str)) = false := by decide)
    (he : starEach (e :: es) X.env = (false, eval e X.env) :: starEach es X.env := by rfl) (hpl : (backTo pos (starEach es X.env)).any (·.1) = false := by rfl) : PE X (.Call (.Name x p) (e :: es) [] pos) (tE P F0 H0 W (fun ρ => do let xs ← fs ρ; opt (rc xs))) :=
  (pe_callTy hc hg hm hv ha hn hdb he hpl).imp fun σ H Q ⟨F, ρ, er, z⟩ => by
  refine ⟨F, ρ, er, (PostG.bind (rel := rVs P) z).imp ?_⟩
  rintro vs H1 ⟨F1, ds, g, i, q⟩
  obtain ⟨d, hd, q⟩ := opt_of q
  exact ⟨F1, ds, d, g.s, i, hd, q⟩
end
end DL
namespace DL
open PySem L2

/-! ### statements -/
inductive RS where
  | nx (ρ : Env) | rt (d : D) | ro (d : D) | bk (ρ : Env) | ct (ρ : Env) | err (c : Nat) (p : Option D) (ρ : Env) | bad
def PostS (P : Pm) (F0 : Fz) (H0 : Hp) (W : WX) (F : Hp) (r : RS) (N : Ends) : Prop :=
  match r with
  | .nx ρ => ∀ σ F' H', ER P F0 H0 F' ρ σ H' → Ex F F' → N.nx σ H'
  | .rt d => ∀ v F' H', Grow P F0.F H0 F' H' → Ex F F' → Is P F' d v → N.rt v H'
  | .ro d => ∀ a F' H', Grow P F0.F H0 F' H' → Ex F F' → NoD H0 a → F' a = none → Own P F' H' a d → N.rt (.ref a) H'
  | .bk ρ => ∀ σ F' H', ER P F0 H0 F' ρ σ H' → Ex F F' → N.bk σ H'
  | .ct ρ => ∀ σ F' H', ER P F0 H0 F' ρ σ H' → Ex F F' → N.ct σ H'
  | .err c p ρ => ∀ σ F' H' x, ER P F0 H0 F' ρ σ H' → Ex F F' → ErrAt P F' H' c p x → W (P.xc c) x σ H'
  | .bad => False
def tS (P : Pm) (F0 : Fz) (H0 : Hp) (W : WX) (g : Env → RS) : TS := fun N σ H => ∃ F ρ, ER P F0 H0 F ρ σ H ∧ PostS P F0 H0 W F (g ρ) N
def bindS {α : Type} (r : Res α) (ρ : Env) (k : α → RS) : RS := match r with
  | .ok a => k a
  | .err c p => .err c p ρ
  | .bad => .bad
def seqS (r : RS) (k : Env → RS) : RS := match r with
  | .nx ρ => k ρ
  | r => r
section
variable {P : Pm} {F0 : Fz} {H0 F F1 H H1 : Hp} {W : WX} {σ : St} {ρ : Env} {N : Ends}
theorem PostS.shift {r : RS} (h : PostS P F0 H0 W F r N) (e : Ex F F1) : PostS P F0 H0 W F1 r N := by
  cases r with
  | nx ρ => exact fun σ F' H' er x => h σ F' H' er (e.trans x)
  | rt d => exact fun v F' H' g x i => h v F' H' g (e.trans x) i
  | ro d => exact fun v F' H' g x i j k => h v F' H' g (e.trans x) i j k
  | bk ρ => exact fun σ F' H' er x => h σ F' H' er (e.trans x)
  | ct ρ => exact fun σ F' H' er x => h σ F' H' er (e.trans x)
  | err c p ρ => exact fun σ F' H' y er x q => h σ F' H' y er (e.trans x) q
  | bad => exact h
theorem PostS.bind {α β : Type} {rel : Rel α β} {r : Res α} {k : α → RS} (er : ER P F0 H0 F ρ σ H) (h : PostS P F0 H0 W F (bindS r ρ k) N) :
    PostG P W rel r F σ H (fun v H1 => ∃ F1 a, Grow P F H F1 H1 ∧ rel F1 H1 a v ∧ PostS P F0 H0 W F1 (k a) N) := by
  cases r with
  | ok a => exact fun v F' H' g q => ⟨F', a, g, q, PostS.shift (r := k a) h g.f⟩
  | err c p => exact fun F' H' x g q => h σ F' H' x (er.grow g) g.f q
  | bad => exact h
end
section
variable {X : Cx} {P : Pm} {F0 : Fz} {H0 : Hp} {W : WX} {a b c e o : Expr} {es : List Expr} {fa fb fc : Env → Res D} {gc : Env → Res Bool} {fs : Env → Res (List D)} {pos p apos : Pos} {st : Stmt} {sts tts : List Stmt} {g g1 g2 : Env → RS}
theorem sd_nil : PSs X [] (tS P F0 H0 W .nx) := pss_nil.imp fun N σ H ⟨F, ρ, er, z⟩ => z σ F H er (.refl F)
theorem PostS.seq {F : Hp} {r : RS} {N : Ends} (z : PostS P F0 H0 W F (seqS r g2) N) : PostS P F0 H0 W F r { N with nx := tS P F0 H0 W g2 N } := by
  cases r with
  | nx ρ' => exact fun σ' F' H' er' x => ⟨F', ρ', er', PostS.shift (r := g2 ρ') z x⟩
  | rt d => exact z
  | ro d => exact z
  | bk ρ' => exact z
  | ct ρ' => exact z
  | err c p ρ' => exact z
  | bad => exact z
theorem sd_cons (h1 : PS X st (tS P F0 H0 W g1)) (h2 : PSs X sts (tS P F0 H0 W g2)) : PSs X (st :: sts) (tS P F0 H0 W (fun ρ => seqS (g1 ρ) g2)) := (pss_cons h1 h2).imp fun N σ H ⟨F, ρ, er, z⟩ =>
  ⟨F, ρ, er, PostS.seq (r := g1 ρ) z⟩
theorem sd_one (h1 : PS X st (tS P F0 H0 W g1)) : PSs X [st] (tS P F0 H0 W g1) := pss_one h1
theorem sd_pass : PS X (.Pass pos) (tS P F0 H0 W .nx) := ps_pass.imp fun N σ H ⟨F, ρ, er, z⟩ => z σ F H er (.refl F)
theorem sd_break : PS X (.Break pos) (tS P F0 H0 W .bk) := ps_break.imp fun N σ H ⟨F, ρ, er, z⟩ => z σ F H er (.refl F)
theorem sd_cont : PS X (.Continue pos) (tS P F0 H0 W .ct) := ps_continue.imp fun N σ H ⟨F, ρ, er, z⟩ => z σ F H er (.refl F)
theorem sd_ret (h : PE X e (tE P F0 H0 W fa)) : PS X (.Return (some e) pos) (tS P F0 H0 W (fun ρ => bindS (fa ρ) ρ .rt)) := (ps_ret h).imp fun N σ H ⟨F, ρ, er, z⟩ => by
  refine ⟨F, ρ, er, (PostS.bind (rel := rIs P) er z).imp ?_⟩
  rintro v H1 ⟨F1, d, g, i, q⟩
  exact q v F1 H1 (er.g.trans g) (.refl F1) i
/-- return x, x one's own: it stays so -/
def retO (i : Nat) (ρ : Env) : RS := match ρ[i]? with
  | some (some (.ow d)) => .ro d
  | _ => .bad
theorem sd_retO (i : Nat) {x : Str} (hN : X.N[i]? = some x := by rfl) (hv : Vis X.env.scope x := by first | exact Or.inl rfl | exact Or.inr (Or.inl rfl) | exact Or.inr (Or.inr rfl)) (hd : (x == ("__debug__" : Str)) = false := by decide)
    (hcd : (x == ("__classdict__" : Str)) = false := by decide) : PS X (.Return (some (.Name x p)) pos) (tS P F0 H0 W (retO i)) := (ps_ret (pe_var hN hv hd hcd)).imp fun N σ H ⟨F, ρ, er, z⟩ => by
  unfold retO at z
  split at z
  · rename_i d q
    obtain ⟨a, h1, h2, h3, h4⟩ := er.ow i d q
    exact ⟨.ref a, h1, z a F H er.g (.refl F) h2 h3 h4⟩
  · exact z.elim
theorem sd_expr (h : PE X e (tE P F0 H0 W fa)) (hs : swapsWith e none pos.line X.env = pure false := by rfl) : PS X (.Expr e pos) (tS P F0 H0 W (fun ρ => bindS (fa ρ) ρ fun _ => .nx ρ)) := (ps_expr h hs).imp fun N σ H ⟨F, ρ, er, z⟩ => by
  refine ⟨F, ρ, er, (PostS.bind (rel := rIs P) er z).imp ?_⟩
  rintro v H1 ⟨F1, d, g, i, q⟩
  exact q σ F1 H1 (er.grow g) (.refl F1)
theorem sd_if (hc : PT X c (tT P F0 H0 W gc)) (h1 : PSs X sts (tS P F0 H0 W g1)) (h2 : PSs X tts (tS P F0 H0 W g2)) : PS X (.If c sts tts pos) (tS P F0 H0 W (fun ρ => bindS (gc ρ) ρ fun k => if k = true then g1 ρ else g2 ρ)) :=
  (ps_if hc h1 h2).imp fun N σ H ⟨F, ρ, er, z⟩ => by
  refine ⟨F, ρ, er, (PostS.bind (rel := rBo) er z).imp ?_⟩
  rintro v H1 ⟨F1, d, g, i, q⟩
  subst i
  split
  · rename_i hv
    rw [if_pos hv] at q
    exact ⟨F1, ρ, er.grow g, q⟩
  · rename_i hv
    rw [if_neg hv] at q
    exact ⟨F1, ρ, er.grow g, q⟩
theorem sd_set {i : Nat} {x : Str} {pos' : Pos} (hN : X.N.Nodup) (hi : X.N[i]? = some x) (hx : Loc X.env.scope x) (he : PE X e (tE P F0 H0 W fa)) (hs : swapsWith e (some (.Name x pos')) pos.line X.env = pure false := by rfl) (hi0 : F0.S = none ∨ i ≠ 0 := by first | exact Or.inl rfl | exact Or.inr (by decide)) (hf : X.fn x = true ∨ X.env.scope.names.lookup x = some .local := by first | exact .inl rfl | exact .inr rfl | assumption) :
    PS X (.Assign [.Name x pos'] e pos) (tS P F0 H0 W (fun ρ => bindS (fa ρ) ρ fun d => .nx (ρ.set i (some (.sh d))))) := (ps_set hN hi hx he hs hf).imp fun N σ H ⟨F, ρ, er, z⟩ => by
  refine ⟨F, ρ, er, (PostS.bind (rel := rIs P) er z).imp ?_⟩
  rintro v H1 ⟨F1, d, g, j, q⟩
  exact q _ F1 H1 ((er.grow g).put i j hi0) (.refl F1)
/-! ### while -/
/-- a turn has ended -/
def loopK (r : RS) (k : Env → RS) : RS := match r with
  | .nx ρ => k ρ
  | .ct ρ => k ρ
  | .bk ρ => .nx ρ
  | r => r
def whileD (gc : Env → Res Bool) (gb : Env → RS) : Nat → Env → RS
  | 0, _ => .bad
  | n + 1, ρ => bindS (gc ρ) ρ fun k => if k = true then loopK (gb ρ) (whileD gc gb n) else .nx ρ
theorem PostS.loop {F : Hp} {r : RS} {k : Env → RS} {N : Ends} (z : PostS P F0 H0 W F (loopK r k) N) :
    PostS P F0 H0 W F r { N with nx := fun σ H => ∃ F' ρ, ER P F0 H0 F' ρ σ H ∧ Ex F F' ∧ PostS P F0 H0 W F' (k ρ) N, ct := fun σ H => ∃ F' ρ, ER P F0 H0 F' ρ σ H ∧ Ex F F' ∧ PostS P F0 H0 W F' (k ρ) N, bk := N.nx } := by
  cases r with
  | nx ρ' => exact fun σ' F' H' er' x => ⟨F', ρ', er', x, PostS.shift (r := k ρ') z x⟩
  | rt d => exact z
  | ro d => exact z
  | bk ρ' => exact z
  | ct ρ' => exact fun σ' F' H' er' x => ⟨F', ρ', er', x, PostS.shift (r := k ρ') z x⟩
  | err c p ρ' => exact z
  | bad => exact z
theorem sd_while (n : Nat) (hp : PassesOwn (model X.prog X.w) X.A X.env X.xe) (hc : PT X c (tT P F0 H0 W gc)) (hb : PSs X sts (tS P F0 H0 W g)) : PS X (.While c sts [] pos) (tS P F0 H0 W (whileD gc g n)) :=
  (ps_while hp hc hb).imp fun N σ H h => by
  refine ⟨fun m σ H => ∃ F ρ, ER P F0 H0 F ρ σ H ∧ PostS P F0 H0 W F (whileD gc g m ρ) N, ⟨n, h⟩, ?_⟩
  rintro m σ H ⟨F, ρ, er, z⟩
  cases m with
  | zero => exact z.elim
  | succ m =>
    refine ⟨F, ρ, er, (PostS.bind (rel := rBo) er z).imp ?_⟩
    rintro v H1 ⟨F1, d, gr, i, q⟩
    subst i
    split
    · rename_i hv
      rw [if_pos hv] at q
      refine ⟨fun σ H => ∃ F ρ, ER P F0 H0 F ρ σ H ∧ Ex F1 F ∧ PostS P F0 H0 W F (whileD gc g m ρ) N, fun σ' H' ⟨F', ρ', er', _, n'⟩ => ⟨m, Nat.lt_succ_self m, F', ρ', er', n'⟩, F1, ρ, er.grow gr, ?_⟩
      exact PostS.loop q
    · rename_i hv
      rw [if_neg hv] at q
      exact q σ F1 H1 (er.grow gr) (.refl F1)
/-! ### targets -/
def tGt (P : Pm) (F0 : Fz) (H0 : Hp) (vs : List Nat) (h : D → Env → Option Env) : TG := fun v σ H Q => ∃ F ρ d ρ', ER P F0 H0 F ρ σ H ∧ Is P F d v ∧ h d ρ = some ρ' ∧ ∀ σ', ER P F0 H0 F ρ' σ' H → wipe σ' vs = wipe σ vs → Q σ' H
def tGts (P : Pm) (F0 : Fz) (H0 : Hp) (us : List Nat) (h : List D → Env → Option Env) : TGs := fun vs σ H Q => ∃ F ρ ds ρ', ER P F0 H0 F ρ σ H ∧ IsL P F ds vs ∧ h ds ρ = some ρ' ∧ ∀ σ', ER P F0 H0 F ρ' σ' H → wipe σ' us = wipe σ us → Q σ' H
def hName (i : Nat) : D → Env → Option Env := fun d ρ => some (ρ.set i (some (.sh d)))
def hNil : List D → Env → Option Env := fun ds ρ => match ds with
  | [] => some ρ
  | _ => none
def hCons (h : D → Env → Option Env) (hs : List D → Env → Option Env) : List D → Env → Option Env := fun ds ρ => match ds with
  | d :: r => (h d ρ).bind (hs r)
  | [] => none
def hTup (hs : List D → Env → Option Env) : D → Env → Option Env := fun d ρ => match d with
  | .tup ds => hs ds ρ
  | _ => none
variable {h : D → Env → Option Env} {hs : List D → Env → Option Env} {us : List Nat}
theorem wipe_set {σ : St} {i : Nat} {v : Option V} : ∀ {us : List Nat}, i ∈ us → wipe (σ.set i v) us = wipe σ us
  | u :: us, h => by
    by_cases q : i ∈ us
    · show (wipe (σ.set i v) us).set u none = (wipe σ us).set u none
      rw [wipe_set q]
    · have e : i = u := by
        rcases List.mem_cons.mp h with z | z
        · exact z
        · exact absurd z q
      subst e
      show (wipe (σ.set i v) us).set i none = (wipe σ us).set i none
      have k : ∀ (us : List Nat), wipe (σ.set i v) us = wipe σ us ∨ wipe (σ.set i v) us = (wipe σ us).set i v := by
        intro us
        induction us with
        | nil => exact .inr rfl
        | cons w ws ih =>
          show (wipe (σ.set i v) ws).set w none = (wipe σ ws).set w none ∨ (wipe (σ.set i v) ws).set w none = ((wipe σ ws).set w none).set i v
          rcases ih with z | z
          · exact .inl (by rw [z])
          · by_cases hw : w = i
            · subst hw
              exact .inl (by rw [z, List.set_set])
            · exact .inr (by rw [z, List.set_comm _ _ (fun q => hw q.symm)])
      rcases k us with z | z
      · rw [z]
      · rw [z, List.set_set]
theorem _root_.L2.PG.imp {t t' : TG} (h : PG X e t) (q : ∀ v σ H Q, t' v σ H Q → t v σ H Q) : PG X e t' := ⟨fun pins s σ H v u Q I r z => h.run pins s σ H v u Q I r (q v σ H Q z)⟩
theorem _root_.L2.PGs.imp {t t' : TGs} (h : PGs X es t) (q : ∀ v σ H Q, t' v σ H Q → t v σ H Q) : PGs X es t' := ⟨fun pins s σ H v u Q I r z => h.run pins s σ H v u Q I r (q v σ H Q z)⟩
theorem gd_name {us : List Nat} {i : Nat} {x : Str} (hN : X.N.Nodup) (hi : X.N[i]? = some x) (hx : Loc X.env.scope x) (hu : i ∈ us := by decide) (hi0 : F0.S = none ∨ i ≠ 0 := by first | exact Or.inl rfl | exact Or.inr (by decide)) (hf : X.fn x = true ∨ X.env.scope.names.lookup x = some .local := by first | exact .inl rfl | exact .inr rfl | assumption) : PG X (.Name x pos) (tGt P F0 H0 us (hName i)) :=
  (pg_name hN hi hx hf).imp fun v σ H Q ⟨F, ρ, d, ρ', er, i1, e, q⟩ => by
  cases e
  exact q _ (er.put i i1 hi0) (wipe_set hu)
theorem gd_nil : PGs X [] (tGts P F0 H0 us hNil) := pgs_nil.imp fun vs σ H Q ⟨F, ρ, ds, ρ', er, i1, e, q⟩ => by
  cases ds with
  | nil =>
    rw [IsL] at i1
    cases e
    exact ⟨i1, q _ er rfl⟩
  | cons d r => cases e
theorem gd_cons (h1 : PG X e (tGt P F0 H0 us h)) (h2 : PGs X es (tGts P F0 H0 us hs)) (hq : (assignEach (e :: es) X.env).map (·.2) = assign e X.env :: (assignEach es X.env).map (·.2) := by rfl) : PGs X (e :: es) (tGts P F0 H0 us (hCons h hs)) :=
  (pgs_cons h1 h2 hq).imp fun vs σ H Q ⟨F, ρ, ds, ρ', er, i1, e, q⟩ => by
  cases ds with
  | nil => cases e
  | cons d r =>
    rw [IsL] at i1
    obtain ⟨v, r', rfl, i2, i3⟩ := i1
    have e' : (h d ρ).bind (hs r) = some ρ' := e
    cases hd : h d ρ with
    | none =>
      rw [hd] at e'
      cases e'
    | some ρ1 =>
      rw [hd] at e'
      exact ⟨v, r', rfl, F, ρ, d, ρ1, er, i2, hd, fun σ' er' w1 => ⟨F, ρ1, r, ρ', er', i3, e', fun σ2 er2 w2 => q σ2 er2 (w2.trans w1)⟩⟩
theorem gd_tup {k n : Nat} (hc : X.calm = true) (h : PGs X es (tGts P F0 H0 us hs)) (hn : (assignEach es X.env).length = n := by rfl) (hst : (assignEach es X.env).findIdx? (·.1) = none := by rfl) :
    PG X (.Tuple es k pos) (tGt P F0 H0 us (hTup fun ds ρ => if ds.length = n then hs ds ρ else none)) := (pg_tup hc h hn hst).imp fun v σ H Q ⟨F, ρ, d, ρ', er, i1, e, q⟩ => by
  cases d with
  | tup ds =>
    have e' : (if ds.length = n then hs ds ρ else none) = some ρ' := e
    split at e'
    · rename_i hl
      rw [Is] at i1
      obtain ⟨a, vs, rfl, h1, h2⟩ := i1
      exact ⟨a, vs, rfl, .inl (.inl (er.s.ex _ _ h1)), by rw [← h2.length]; exact hl, F, ρ, ds, ρ', er, h2, e', q⟩
    · cases e'
  | _ => cases e
/-! ### for -/
def ItD (P : Pm) : Rel (List D) It := fun F _ items J => ∀ i F1 H1, Ex F F1 → Sb P F1 H1 →
  (∀ d, items[i]? = some d → J.go i H1 ∧ ∀ x H2, J.yld i H1 x H2 → ∃ F2, Grow P F1 H1 F2 H2 ∧ Is P F2 d x) ∧ (items.length ≤ i → J.stop i H1)
def tI (P : Pm) (F0 : Fz) (H0 : Hp) (W : WX) (f : Env → Res (List D)) : TI := fun σ H R => ∃ F ρ, ER P F0 H0 F ρ σ H ∧ PostG P W (ItD P) (f ρ) F σ H R
def forD (h : D → Env → Option Env) (gb : Env → RS) : List D → Env → RS
  | [], ρ => .nx ρ
  | d :: r, ρ => match h d ρ with
    | none => .bad
    | some ρ1 => loopK (gb ρ1) (forD h gb r)
theorem sd_for {tg iter : Expr} {fi : Env → Res (List D)} (hp : PassesOwn (model X.prog X.w) X.A X.env X.xe) (hc : X.calm = true) (hi : PI X tg iter (tI P F0 H0 W fi)) (hg : PG X tg (tGt P F0 H0 us h)) (hb : PSs X sts (tS P F0 H0 W g))
    (hs : ∀ x, foldedSetIterable iter X.env x = pure x := by intro _; rfl) : PS X (.For tg iter sts [] pos) (tS P F0 H0 W (fun ρ => bindS (fi ρ) ρ fun items => forD h g items ρ)) :=
  (ps_for hp hc hi hg hb hs).imp fun N σ H ⟨F, ρ, er, z⟩ => by
  refine ⟨F, ρ, er, (PostS.bind (rel := ItD P) er z).imp ?_⟩
  rintro J H1 ⟨FJ, items, gr, hJ, q⟩
  refine ⟨fun i m σ H => m = items.length - i ∧ ∃ F ρ, ER P F0 H0 F ρ σ H ∧ Ex FJ F ∧ PostS P F0 H0 W F (forD h g (items.drop i) ρ) N, ⟨_, rfl, FJ, ρ, er.grow gr, .refl FJ, q⟩, ?_⟩
  rintro i m σ H ⟨rfl, F, ρ, er, ej, q⟩
  obtain ⟨j1, j2⟩ := hJ i F H ej er.s
  rcases Nat.lt_or_ge i items.length with hi | hi
  · obtain ⟨k1, k2⟩ := j1 items[i] (List.getElem?_eq_getElem hi)
    rw [List.drop_eq_getElem_cons hi] at q
    cases hh : h items[i] ρ with
    | none =>
      have q3 : PostS P F0 H0 W F (match h items[i] ρ with | none => .bad | some ρ1 => loopK (g ρ1) (forD h g (items.drop (i + 1)))) N := q
      rw [hh] at q3
      exact q3.elim
    | some ρ1 =>
      have q3 : PostS P F0 H0 W F (match h items[i] ρ with | none => .bad | some ρ1 => loopK (g ρ1) (forD h g (items.drop (i + 1)))) N := q
      rw [hh] at q3
      replace q3 : PostS P F0 H0 W F (loopK (g ρ1) (forD h g (items.drop (i + 1)))) N := q3
      refine .inr ⟨k1, fun σ H => ∃ F2 ρ, ER P F0 H0 F2 ρ σ H ∧ Ex F F2 ∧ PostS P F0 H0 W F2 (forD h g (items.drop (i + 1)) ρ) N, fun σ' H' ⟨F', ρ', er', x, n'⟩ => ⟨items.length - (i + 1), by omega, rfl, F', ρ', er', ej.trans x, n'⟩, ?_⟩
      intro x H2 hy
      obtain ⟨F2, g2, i2⟩ := k2 x H2 hy
      refine ⟨F2, ρ, items[i], ρ1, er.grow g2, i2, hh, fun σ' er' _ => ⟨F2, ρ1, er', ?_⟩⟩
      have q4 := PostS.loop (q3.shift g2.f)
      cases hg : g ρ1 with
      | nx ρ' =>
        rw [hg] at q4
        exact fun σ' F' H' er' y => by
          obtain ⟨F3, ρ3, e3, x3, z3⟩ := q4 σ' F' H' er' y
          exact ⟨F3, ρ3, e3, g2.f.trans x3, z3⟩
      | ct ρ' =>
        rw [hg] at q4
        exact fun σ' F' H' er' y => by
          obtain ⟨F3, ρ3, e3, x3, z3⟩ := q4 σ' F' H' er' y
          exact ⟨F3, ρ3, e3, g2.f.trans x3, z3⟩
      | bk ρ' =>
        rw [hg] at q4
        exact q4
      | rt d =>
        rw [hg] at q4
        exact q4
      | ro d =>
        rw [hg] at q4
        exact q4
      | err c p ρ' =>
        rw [hg] at q4
        exact q4
      | bad =>
        rw [hg] at q4
        exact q4
  · rw [List.drop_eq_nil_of_le hi] at q
    exact .inl ⟨j2 hi, q σ F H er (.refl F)⟩
end
end DL
namespace DL
open PySem L2

/-! ### a def by its body -/
def env0 (n : Nat) (ds : List D) : Env := ds.map (fun d => some (.sh d)) ++ List.replicate (n - ds.length) none
def runB (g : Env → RS) (n : Nat) (ds : List D) : Res D := match g (env0 n ds) with
  | .rt d => .ok d
  | .nx _ => .ok .non
  | .err c p _ => .err c p
  | _ => .bad
section
variable {P : Pm} {F H : Hp} {N : List Str} {ds : List D} {vs : List V}
theorem er_start (s : Sb P F H) (i : IsL P F ds vs) : ER P ⟨F, none⟩ H F (env0 N.length ds) (L2.start N vs) H where
  g := .refl s
  self := fun x hx => by cases hx
  len := by
    unfold env0 L2.start
    simp [i.length]
  sh := fun j d e => by
    unfold env0 at e
    unfold L2.start
    have hj : j < ds.length := by
      rcases Nat.lt_or_ge j ds.length with q | q
      · exact q
      · rw [List.getElem?_append_right (by simpa using q)] at e
        rw [List.getElem?_replicate] at e
        split at e <;> cases e
    rw [List.getElem?_append_left (by simpa using hj), List.getElem?_map] at e
    cases hd : ds[j]? with
    | none =>
      rw [hd] at e
      cases e
    | some d' =>
      rw [hd] at e
      cases e
      obtain ⟨v, h1, h2⟩ := i.get hd
      refine ⟨v, ?_, h2⟩
      rw [List.getElem?_append_left (by simpa [← i.length] using hj), List.getElem?_map, h1]
      rfl
  bw := fun j d e => by
    unfold env0 at e
    exfalso
    rcases Nat.lt_or_ge j ds.length with q | q
    · rw [List.getElem?_append_left (by simpa using q), List.getElem?_map] at e
      cases hd : ds[j]? with
      | none =>
        rw [hd] at e
        cases e
      | some d' =>
        rw [hd] at e
        cases e
    · rw [List.getElem?_append_right (by simpa using q)] at e
      rw [List.getElem?_replicate] at e
      split at e <;> cases e
  ow := fun j d e => by
    unfold env0 at e
    exfalso
    rcases Nat.lt_or_ge j ds.length with q | q
    · rw [List.getElem?_append_left (by simpa using q), List.getElem?_map] at e
      cases hd : ds[j]? with
      | none =>
        rw [hd] at e
        cases e
      | some d' =>
        rw [hd] at e
        cases e
    · rw [List.getElem?_append_right (by simpa using q)] at e
      rw [List.getElem?_replicate] at e
      split at e <;> cases e
  nd := fun j k d e a h1 => by
    unfold env0 at h1
    exfalso
    rcases Nat.lt_or_ge j ds.length with q | q
    · rw [List.getElem?_append_left (by simpa using q), List.getElem?_map] at h1
      cases hd : ds[j]? with
      | none =>
        rw [hd] at h1
        cases h1
      | some d' =>
        rw [hd] at h1
        cases h1
    · rw [List.getElem?_append_right (by simpa using q)] at h1
      rw [List.getElem?_replicate] at h1
      split at h1 <;> cases h1
end
section
variable {prog : Program} {w : World} {K : PySem.W.Frag} {mg : Str → Option Value} {base : Heap} {P : Pm}
theorem fnd {x qual : Str} {st : Stmt} {f : Addr} {fd : FuncData} {N ps : List Str} {k : Nat} {g : Env → RS} (Fu : Fun K x qual st f fd) (S : FnScope N ps (defScope st))
    (hbody : ∀ (cdv : Value) (A : Around) (outer : List PySem.Env) (s : Shared) (H F0 : Hp) (E : XK), Room k (A.deeper (PyProof.Rows.envOfC qual (defScope st) s.heap.objs.size f cdv)) →
      PSs (cxOf (L2.CX prog w) prog w K mg base N qual (defScope st) f cdv A outer s H E) (defBody st) (tS P ⟨F0, none⟩ H (WE0 E) g)) :
    FnOk prog w K mg base (L2.CX prog w) (k + 1) f fd ps (spD P ps.length (runB g N.length)) := by
  refine Fu.okX S (fun vs H Q E ⟨F, ds, _, i, hl, _⟩ => by rw [← i.length]; exact hl) (fun cdv A outer s H vs Q E hr h => ?_)
  obtain ⟨F, ds, sx, i, hl, z⟩ := h
  refine ⟨_, hbody cdv A outer s H F E hr, F, env0 N.length ds, er_start sx i, ?_⟩
  unfold runB at z
  cases hg : g (env0 N.length ds) with
  | nx ρ =>
    rw [hg] at z
    exact fun σ F' H' er _ => z .non F' H' er.g is_non
  | rt d =>
    rw [hg] at z
    exact fun v F' H' gr _ i' => z v F' H' gr i'
  | ro d =>
    rw [hg] at z
    exact z.elim
  | bk ρ =>
    rw [hg] at z
    exact z.elim
  | ct ρ =>
    rw [hg] at z
    exact z.elim
  | err c p ρ =>
    rw [hg] at z
    exact fun σ F' H' y er _ q => z F' H' y er.g q
  | bad =>
    rw [hg] at z
    exact z.elim
/-! ### __init__ by its body: self is one's own -/
def env0I (c n : Nat) (ds : List D) : Env := some (.ow (.obj c [])) :: env0 (n - 1) ds
def selfF (c : Nat) : Env → Res (List D)
  | some (.ow (.obj c' xs)) :: _ => if c' = c then .ok xs else .bad
  | some (.sh (.obj c' xs)) :: _ => if c' = c then .ok xs else .bad
  | _ => .bad
def runI (c : Nat) (g : Env → RS) (n : Nat) (ds : List D) : Res (List D) := match g (env0I c n ds) with
  | .nx ρ => selfF c ρ
  | .err c p _ => .err c p
  | _ => .bad
theorem selfF_of {c : Nat} {ρ : Env} {xs : List D} (h : selfF c ρ = .ok xs) : ρ[0]? = some (some (.ow (.obj c xs))) ∨ ρ[0]? = some (some (.sh (.obj c xs))) := by
  unfold selfF at h
  split at h
  · split at h
    · rename_i q
      cases h
      subst q
      exact .inl rfl
    · cases h
  · split at h
    · rename_i q
      cases h
      subst q
      exact .inr rfl
    · cases h
  · cases h
theorem selfF_noerr {c : Nat} {ρ : Env} {e : Nat} {p : Option D} : selfF c ρ ≠ .err e p := by
  unfold selfF
  split <;> (try split) <;> (intro h; cases h)
theorem env0_nob {n j : Nat} {ds : List D} {d : D} (e : (env0 n ds)[j]? = some (some (.bw d))) : False := by
  unfold env0 at e
  rcases Nat.lt_or_ge j ds.length with q | q
  · rw [List.getElem?_append_left (by simpa using q), List.getElem?_map] at e
    cases hd : ds[j]? with
    | none =>
      rw [hd] at e
      cases e
    | some d' =>
      rw [hd] at e
      cases e
  · rw [List.getElem?_append_right (by simpa using q)] at e
    rw [List.getElem?_replicate] at e
    split at e <;> cases e
theorem er_startI {F H : Hp} {N : List Str} {ds : List D} {vs : List V} {x dx : Addr} {c : Nat} (hN : N ≠ []) (s : Sb P F H) (i : IsL P F ds vs) (hx : H x = some (.ins (P.C c) dx [])) (hf : F x = none) :
    ER P ⟨F, some x⟩ (minus H x) F (env0I c N.length ds) (L2.start N (.ref x :: vs)) H := by
  obtain ⟨n0, N', rfl⟩ : ∃ n0 N', N = n0 :: N' := by
    cases N with
    | nil => exact absurd rfl hN
    | cons a b => exact ⟨a, b, rfl⟩
  have e0 : L2.start (n0 :: N') (.ref x :: vs) = some (V.ref x) :: L2.start N' vs := by
    unfold L2.start
    simp
  have e1 : env0I c (n0 :: N').length ds = some (.ow (.obj c [])) :: env0 N'.length ds := rfl
  have er := er_start (N := N') s i
  rw [e0, e1]
  exact {
    g := ⟨.refl F, minus_ex.t, s, fun _ _ e => .inl e⟩
    self := fun y hy => by cases hy; rfl
    len := by simp [er.len]
    sh := fun j d e => by
      cases j with
      | zero => cases e
      | succ j => exact er.sh j d e
    bw := fun j d e => by
      exfalso
      cases j with
      | zero => cases e
      | succ j => exact env0_nob e
    ow := fun j d e => by
      cases j with
      | zero =>
        cases e
        exact ⟨x, rfl, .of minus_same, hf, dx, [], by simpa using hx, by simp, by rw [IsL]⟩
      | succ j =>
        obtain ⟨a, _, _, _, h4⟩ := er.ow j d e
        exfalso
        have := er.ow j d e
        obtain ⟨a, h1, h2, h3, h4⟩ := this
        obtain ⟨o, ho, hdo⟩ := h4.there
        exact h2.no ho (isD_T hdo)
    nd := fun j k d e a h1 h2 h3 h4 => by
      cases j with
      | zero =>
        cases k with
        | zero => rfl
        | succ k =>
          obtain ⟨a', q1, q2, q3, q4⟩ := er.ow k e h2
          obtain ⟨o, ho, hdo⟩ := q4.there
          exact (q2.no ho (isD_T hdo)).elim
      | succ j =>
        obtain ⟨a', q1, q2, q3, q4⟩ := er.ow j d h1
        obtain ⟨o, ho, hdo⟩ := q4.there
        exact (q2.no ho (isD_T hdo)).elim }
theorem fndI {c : Nat} {x qual : Str} {st : Stmt} {f : Addr} {fd : FuncData} {N ps : List Str} {k : Nat} {g : Env → RS} {n : Nat} (hn : ps.length = n + 1) (hN : N ≠ []) (Fu : Fun K x qual st f fd) (S : FnScope N ps (defScope st))
    (hbody : ∀ (cdv : Value) (A : Around) (outer : List PySem.Env) (s : Shared) (H F0 H0 : Hp) (x : Addr) (E : XK), Room k (A.deeper (PyProof.Rows.envOfC qual (defScope st) s.heap.objs.size f cdv)) →
      PSs (cxOf (L2.CX prog w) prog w K mg base N qual (defScope st) f cdv A outer s H E) (defBody st) (tS P ⟨F0, some x⟩ H0 (WE0 E) g)) :
    FnOk prog w K mg base (L2.CX prog w) (k + 1) f fd ps (spI P c n (runI c g N.length)) := by
  refine Fu.okX S (fun vs H Q E ⟨x, dx, args, F, ds, e, _, _, _, i, hl, _⟩ => by rw [e, List.length_cons, ← i.length, hl, hn]) (fun cdv A outer s H vs Q E hr h => ?_)
  obtain ⟨x, dx, args, F, ds, rfl, hx, hf, sx, i, hl, z⟩ := h
  refine ⟨_, hbody cdv A outer s H F (minus H x) x E hr, F, env0I c N.length ds, er_startI hN sx i hx hf, ?_⟩
  unfold runI at z
  cases hg : g (env0I c N.length ds) with
  | nx ρ =>
    rw [hg] at z
    intro σ F' H' er _
    replace z : PostG P (WE0 E) (fun F' _ fs v => v = .non ∧ Is P F' (.obj c fs) (.ref x)) (selfF c ρ) F [] (minus H x) Q := z
    have hx0 := er.self x rfl
    cases hs : selfF c ρ with
    | bad =>
      rw [hs] at z
      exact z.elim
    | err e p => exact absurd hs selfF_noerr
    | ok xs =>
      rw [hs] at z
      rcases selfF_of hs with q | q
      · obtain ⟨a, h1, h2, h3, h4⟩ := er.ow 0 _ q
        rw [hx0] at h1
        cases h1
        obtain ⟨F2, e1, e2, i2, n2⟩ := h4.still er.s h3 rfl
        refine z .non F2 H' ⟨er.g.f.trans e1, er.g.h, e2, fun b o hb => ?_⟩ ⟨rfl, i2⟩
        rcases n2 b o hb with y | y
        · exact er.g.n b o y
        · exact .inr (.inl (y ▸ .of minus_same))
      · obtain ⟨v, h1, h2⟩ := er.sh 0 _ q
        rw [hx0] at h1
        cases h1
        exact z .non F' H' er.g ⟨rfl, h2⟩
  | rt d =>
    rw [hg] at z
    exact z.elim
  | ro d =>
    rw [hg] at z
    exact z.elim
  | bk ρ =>
    rw [hg] at z
    exact z.elim
  | ct ρ =>
    rw [hg] at z
    exact z.elim
  | err e p ρ =>
    rw [hg] at z
    exact fun σ F' H' y er _ q => z F' H' y er.g q
  | bad =>
    rw [hg] at z
    exact z.elim
end
end DL
namespace DL
open PySem L2

section
variable {P : Pm} {F0 : Fz} {H0 F F' H H' : Hp} {ρ : Env} {σ : St}
theorem Own.at {a : Addr} (e : H' a = H a) : ∀ {d : D}, Own P F H a d → Own P F H' a d
  | .lst xs, ⟨vs, h1, h2⟩ => ⟨vs, e.trans h1, h2⟩
  | .dK ks xs, ⟨vs, h1, h2, h3⟩ => ⟨vs, e.trans h1, h2, h3⟩
  | .dT ks xs, ⟨vs, h1, h2, h3⟩ => ⟨vs, e.trans h1, h2, h3⟩
  | .obj c xs, ⟨dx, vs, h1, h2, h3⟩ => ⟨dx, vs, e.trans h1, h2, h3⟩
  | .non, h => h.elim
  | .bl _, h => h.elim
  | .int _, h => h.elim
  | .str _, h => h.elim
  | .tup _, h => h.elim
  | .scr _, h => h.elim
  | .exc _ _, h => h.elim
theorem lt_of_get {α : Type} {l : List α} {i : Nat} {x : α} (h : l[i]? = some x) : i < l.length := by
  rcases Nat.lt_or_ge i l.length with q | q
  · exact q
  · rw [List.getElem?_eq_none q] at h
    cases h
theorem IsL.unnil {vs : List V} (h : IsL P F [] vs) : vs = [] := by
  rw [IsL] at h
  exact h
theorem IsL.uncons {d : D} {ds : List D} {vs : List V} (h : IsL P F (d :: ds) vs) : ∃ v r, vs = v :: r ∧ Is P F d v ∧ IsL P F ds r := by
  rw [IsL] at h
  exact h
/-- a name gets a new object, one's own -/
theorem ER.putO (r : ER P F0 H0 F ρ σ H) (g : Grow P F H F' H') (i : Nat) {d : D} {p : Addr} (hp : NoD H p) (hf : F' p = none) (ho : Own P F' H' p d) (hi0 : F0.S = none ∨ i ≠ 0) :
    ER P F0 H0 F' (ρ.set i (some (.ow d))) (σ.set i (some (.ref p))) H' := by
  have r' := r.grow g
  exact {
    g := r'.g
    self := fun x hx => by
      rcases hi0 with q | q
      · rw [q] at hx
        cases hx
      · rw [List.getElem?_set_ne q]
        exact r.self x hx
    len := by simp [r.len]
    sh := fun j e q => by
      by_cases hj : i = j
      · subst hj
        have hl : i < ρ.length := by simpa using lt_of_get q
        rw [get_set_self hl] at q
        cases q
      · rw [List.getElem?_set_ne hj] at q
        rw [List.getElem?_set_ne hj]
        exact r'.sh j e q
    bw := fun j e q => by
      by_cases hj : i = j
      · subst hj
        have hl : i < ρ.length := by simpa using lt_of_get q
        rw [get_set_self hl] at q
        cases q
      · rw [List.getElem?_set_ne hj] at q
        rw [List.getElem?_set_ne hj]
        exact r'.bw j e q
    ow := fun j e q => by
      by_cases hj : i = j
      · subst hj
        have hl : i < ρ.length := by simpa using lt_of_get q
        rw [get_set_self hl] at q
        cases q
        exact ⟨p, get_set_self (r.len ▸ hl), r.g.h.backN hp, hf, ho⟩
      · rw [List.getElem?_set_ne hj] at q
        rw [List.getElem?_set_ne hj]
        exact r'.ow j e q
    nd := fun j k d' e' a q1 q2 q3 q4 => by
      by_cases hj : i = j
      · by_cases hk : i = k
        · exact hj.symm.trans hk
        · exfalso
          subst hj
          have hl : i < ρ.length := by simpa using lt_of_get q1
          rw [get_set_self (r.len ▸ hl)] at q3
          cases q3
          rw [List.getElem?_set_ne hk] at q2 q4
          obtain ⟨a', h1, h2, h3, h4⟩ := r.ow k e' q2
          rw [q4] at h1
          cases h1
          obtain ⟨o, h5, hdo⟩ := h4.there
          exact hp.no h5 (isD_T hdo)
      · by_cases hk : i = k
        · exfalso
          subst hk
          have hl : i < ρ.length := by simpa using lt_of_get q2
          rw [get_set_self (r.len ▸ hl)] at q4
          cases q4
          rw [List.getElem?_set_ne hj] at q1 q3
          obtain ⟨a', h1, h2, h3, h4⟩ := r.ow j d' q1
          rw [q3] at h1
          cases h1
          obtain ⟨o, h5, hdo⟩ := h4.there
          exact hp.no h5 (isD_T hdo)
        · rw [List.getElem?_set_ne hj] at q1 q3
          rw [List.getElem?_set_ne hk] at q2 q4
          exact r.nd j k d' e' a q1 q2 q3 q4 }
/-- an object of one's own is changed -/
theorem ER.mut (r : ER P F0 H0 F ρ σ H) {i : Nat} {d d' : D} {a : Addr} {o : HO} (hr : ρ[i]? = some (some (.ow d))) (hs : σ[i]? = some (some (.ref a))) (ho : Own P F (upd H a o) a d') :
    ER P F0 H0 F (ρ.set i (some (.ow d'))) σ (upd H a o) := by
  obtain ⟨a', h1, h2, h3, h4⟩ := r.ow i d hr
  rw [hs] at h1
  cases h1
  have hl := lt_of_get hr
  exact {
    g := by
      obtain ⟨u0, hu0, hd0⟩ := h4.there
      exact ⟨r.g.f, ⟨fun b u e n => by rw [upd_ne (h2.ne e n)]; exact r.g.h.at_ b u e n⟩, ⟨fun b u e => by rw [upd_ne (ne_of_none e h3)]; exact r.g.s.ex b u e, r.g.s.nt, Tabs.upd r.g.s.tabs hu0 hd0⟩, r.g.n⟩
    self := r.self
    len := by simp [r.len]
    sh := fun j e q => by
      by_cases hj : i = j
      · subst hj
        rw [get_set_self hl] at q
        cases q
      · rw [List.getElem?_set_ne hj] at q
        exact r.sh j e q
    bw := fun j e q => by
      by_cases hj : i = j
      · subst hj
        rw [get_set_self hl] at q
        cases q
      · rw [List.getElem?_set_ne hj] at q
        exact r.bw j e q
    ow := fun j e q => by
      by_cases hj : i = j
      · subst hj
        rw [get_set_self hl] at q
        cases q
        exact ⟨a, hs, h2, h3, ho⟩
      · rw [List.getElem?_set_ne hj] at q
        obtain ⟨b, k1, k2, k3, k4⟩ := r.ow j e q
        refine ⟨b, k1, k2, k3, k4.at (upd_ne fun z => ?_)⟩
        subst z
        exact hj (r.nd i j d e b hr q hs k1)
    nd := fun j k d1 e1 b q1 q2 q3 q4 => by
      by_cases hj : i = j
      · by_cases hk : i = k
        · exact hj.symm.trans hk
        · subst hj
          rw [List.getElem?_set_ne hk] at q2
          exact r.nd i k d e1 b hr q2 q3 q4
      · rw [List.getElem?_set_ne hj] at q1
        by_cases hk : i = k
        · subst hk
          exact r.nd j i d1 d b q1 hr q3 q4
        · rw [List.getElem?_set_ne hk] at q2
          exact r.nd j k d1 e1 b q1 q2 q3 q4 }
def frz (i : Nat) (ρ : Env) : Env := match ρ[i]? with
  | some (some (.ow d)) => ρ.set i (some (.sh d))
  | _ => ρ
/-- an object of one's own is kept still from now on -/
theorem ER.freezeI {X : Cx} {pins : List (Addr × Obj)} {s : Shared} (I : Inv X pins σ H s) (r : ER P F0 H0 F ρ σ H) (i : Nat) : ∃ F' H', Inv X pins σ H' s ∧ Ex F F' ∧ ER P F0 H0 F' (frz i ρ) σ H' := by
  unfold frz
  split
  · rename_i d q
    obtain ⟨a, h1, h2, h3, h4⟩ := r.ow i d q
    obtain ⟨F2, H2, I2, e1, e2, i2, n2, off⟩ := h4.stillI I r.s h3
    have hl := lt_of_get q
    refine ⟨F2, H2, I2, e1, ?_⟩
    exact {
      g := r.g.still h2 e1 e2 n2 off
      self := r.self
      len := by simp [r.len]
      sh := fun j e z => by
        by_cases hj : i = j
        · subst hj
          rw [get_set_self hl] at z
          cases z
          exact ⟨.ref a, h1, i2⟩
        · rw [List.getElem?_set_ne hj] at z
          obtain ⟨v, k1, k2⟩ := r.sh j e z
          exact ⟨v, k1, k2.mono e1 e⟩
      bw := fun j e z => by
        by_cases hj : i = j
        · subst hj
          rw [get_set_self hl] at z
          cases z
        · rw [List.getElem?_set_ne hj] at z
          exact r.bw j e z
      ow := fun j e z => by
        by_cases hj : i = j
        · subst hj
          rw [get_set_self hl] at z
          cases z
        · rw [List.getElem?_set_ne hj] at z
          obtain ⟨b, k1, k2, k3, k4⟩ := r.ow j e z
          have hba : b ≠ a := fun y => by
            subst y
            exact absurd (r.nd i j d e b q z h1 k1) hj
          refine ⟨b, k1, k2, ?_, (k4.at (off b hba)).mono e1 (.refl H2)⟩
          cases hb : F2 b with
          | none => rfl
          | some o =>
            rcases n2 b o hb with y | y
            · rw [k3] at y
              cases y
            · exact absurd y hba
      nd := fun j k d1 e1 b q1 q2 q3 q4 => by
        by_cases hj : i = j
        · subst hj
          rw [get_set_self hl] at q1
          cases q1
        · by_cases hk : i = k
          · subst hk
            rw [get_set_self hl] at q2
            cases q2
          · rw [List.getElem?_set_ne hj] at q1
            rw [List.getElem?_set_ne hk] at q2
            exact r.nd j k d1 e1 b q1 q2 q3 q4 }
  · exact ⟨F, H, I, .refl F, r⟩
end
section
variable {X : Cx} {P : Pm} {F0 : Fz} {H0 : Hp} {W : WX} {a b c e o : Expr} {es : List Expr} {fa fb fc : Env → Res D} {gc : Env → Res Bool} {fs : Env → Res (List D)} {pos p apos : Pos} {st : Stmt} {sts tts : List Stmt} {g g1 g2 : Env → RS}
theorem sd_frz (i : Nat) (h : PSs X sts (tS P F0 H0 W g)) : PSs X sts (tS P F0 H0 W (fun ρ => g (frz i ρ))) := ⟨fun pins s σ H N I ⟨F, ρ, er, z⟩ => by
  obtain ⟨F', H', I', e, er'⟩ := er.freezeI I i
  exact h.run pins s σ H' N I' ⟨F', frz i ρ, er', PostS.shift (r := g (frz i ρ)) z e⟩⟩
theorem sd_frz1 (i : Nat) (h : PS X st (tS P F0 H0 W g)) : PS X st (tS P F0 H0 W (fun ρ => g (frz i ρ))) := ⟨fun pins s σ H N I ⟨F, ρ, er, z⟩ => by
  obtain ⟨F', H', I', e, er'⟩ := er.freezeI I i
  exact h.run pins s σ H' N I' ⟨F', frz i ρ, er', PostS.shift (r := g (frz i ρ)) z e⟩⟩
/-- x = a new object, which will be changed by x -/
theorem sd_setN {i : Nat} {x : Str} {pos' : Pos} (hN : X.N.Nodup) (hi : X.N[i]? = some x) (hx : Loc X.env.scope x) (he : PE X e (tN P F0 H0 W fa)) (hs : swapsWith e (some (.Name x pos')) pos.line X.env = pure false := by rfl) (hi0 : F0.S = none ∨ i ≠ 0 := by first | exact Or.inl rfl | exact Or.inr (by decide)) (hf : X.fn x = true ∨ X.env.scope.names.lookup x = some .local := by first | exact .inl rfl | exact .inr rfl | assumption) :
    PS X (.Assign [.Name x pos'] e pos) (tS P F0 H0 W (fun ρ => bindS (fa ρ) ρ fun d => .nx (ρ.set i (some (.ow d))))) := (ps_set hN hi hx he hs hf).imp fun N σ H ⟨F, ρ, er, z⟩ => by
  refine ⟨F, ρ, er, ?_⟩
  refine (PostS.bind (rel := rNw P H) er z).imp ?_
  rintro v H1 ⟨F1, d, g, ⟨q, rfl, h1, h2, h3⟩, z⟩
  exact z _ F1 H1 (er.putO g i h1 h2 h3 hi0) (.refl F1)
/-- x.append(e) -/
def appD (i : Nat) (ρ : Env) (d : D) : RS := match ρ[i]? with
  | some (some (.ow (.lst xs))) => if small (xs.length + 1) = true then .nx (ρ.set i (some (.ow (.lst (xs ++ [d]))))) else .bad
  | _ => .bad
def isOw (i : Nat) (ρ : Env) : Res Unit := match ρ[i]? with
  | some (some (.ow (.lst _))) => .ok ()
  | _ => .bad
theorem isOw_cases (i : Nat) (ρ : Env) : (isOw i ρ = .bad) ∨ ∃ xs, isOw i ρ = .ok () ∧ ρ[i]? = some (some (.ow (.lst xs))) := by
  unfold isOw
  split
  · rename_i xs q
    exact .inr ⟨xs, rfl, q⟩
  · exact .inl rfl
theorem sd_append (i : Nat) {x : Str} {p1 apos cpos : Pos} (he : PE X e (tE P F0 H0 W fa)) (hN : X.N[i]? = some x := by rfl) (hv : Vis X.env.scope x := by first | exact Or.inl rfl | exact Or.inr (Or.inl rfl) | exact Or.inr (Or.inr rfl)) (hd : (x == ("__debug__" : Str)) = false := by decide)
    (hcd : (x == ("__classdict__" : Str)) = false := by decide)
    (hbase : attributeBase (.Name x p1) "append" X.env (eval (.Name x p1) X.env) = eval (.Name x p1) X.env := by rfl)
    (hfew : ((backTo cpos (starEach [e] X.env)).all (fun x => !x.1) && (backToKw cpos (keywordEach [] X.env)).all (fun x => x.1.isSome)
      && decide (([e] : List Expr).length + ([] : List Keyword).length + (if ([] : List Keyword).isEmpty then 0 else 1) < 30)) = true := by rfl)
    (hline : (apos.endLine == cpos.line) = true := by rfl) (hs1 : starEach [e] X.env = (false, eval e X.env) :: starEach [] X.env := by rfl) (hplain : (backTo cpos (starEach [] X.env)).any (·.1) = false := by rfl)
    (hs : swapsWith (.Call (.Attribute (.Name x p1) "append" apos) [e] [] cpos) none pos.line X.env = pure false := by rfl) :
    PS X (.Expr (.Call (.Attribute (.Name x p1) "append" apos) [e] [] cpos) pos) (tS P F0 H0 W (fun ρ => bindS (isOw i ρ) ρ fun _ => bindS (fa ρ) ρ fun d => appD i ρ d)) :=
  (ps_expr (pe_bm PySem.F.plainAttrs_list PySem.F.slot_list_append PySem.F.type_list_append mt_append (pe_var hN hv hd hcd) (pa_cons he pa_nil hs1) hbase hfew hline hs1 hplain) hs).imp fun N σ H ⟨F, ρ, er, z⟩ => by
  have z' : PostS P F0 H0 W F (bindS (isOw i ρ) ρ fun _ => bindS (fa ρ) ρ fun d => appD i ρ d) N := z
  rcases isOw_cases i ρ with hb | ⟨xs, hb, q⟩
  · rw [hb] at z'
    exact z'.elim
  · rw [hb] at z'
    replace z' : PostS P F0 H0 W F (bindS (fa ρ) ρ fun d => appD i ρ d) N := z'
    obtain ⟨a, h1, h2, h3, vs, h4, h5⟩ := er.ow i _ q
    refine ⟨.ref a, h1, .inl ⟨rfl, vs, SqL.of h4⟩, ?_⟩
    refine ⟨F, ρ, er, (PostS.bind (rel := rIs P) er z').imp ?_⟩
    rintro v H1 ⟨F1, d, g, j, z1⟩
    have ea : appD i ρ d = if small (xs.length + 1) = true then .nx (ρ.set i (some (.ow (.lst (xs ++ [d]))))) else .bad := by
      unfold appD
      rw [q]
    rw [ea] at z1
    by_cases hz : small (xs.length + 1) = true
    · rw [if_pos hz] at z1
      refine ⟨a, vs, v, rfl, rfl, g.h.dat h4, by have := small_lt hz; rw [h5.length] at this; omega, ?_⟩
      refine z1 σ F1 _ ((er.grow g).mut q h1 ⟨vs ++ [v], upd_same, ?_⟩) (.refl F1)
      exact (h5.mono g.f xs).append (.cons j .nil)
    · rw [if_neg hz] at z1
      exact z1.elim
/-! ### several names at once -/
def par2 (i j : Nat) (ρ : Env) : List D → RS
  | [d, e] => .nx ((ρ.set i (some (.sh d))).set j (some (.sh e)))
  | _ => .bad
theorem sd_par {i j : Nat} {x y : Str} {px py pt : Pos} {kt k2 pt2} (hc : X.calm = true) (hN : X.N.Nodup) (hi : X.N[i]? = some x) (hj : X.N[j]? = some y) (hij : i ≠ j)
    (hx : X.env.scope.names.lookup x = some .local) (hy : X.env.scope.names.lookup y = some .local) (ha : PA X [a, b] (tL P F0 H0 W fs))
    (hw : swappedStores [.Tuple [.Name x px, .Name y py] kt pt] (.Tuple [a, b] k2 pt2) X.env = pure (some [x, y])) (h0 : F0.S = none := by rfl)
    (hs : swapsWithSole [.Tuple [.Name x px, .Name y py] kt pt] (.Tuple [a, b] k2 pt2) pos.line X.env = pure false := by rfl) :
    PS X (.Assign [.Tuple [.Name x px, .Name y py] kt pt] (.Tuple [a, b] k2 pt2) pos) (tS P F0 H0 W (fun ρ => bindS (fs ρ) ρ (par2 i j ρ))) := (ps_par hc hN hi hj hij hx hy ha hw hs).imp fun N σ H ⟨F, ρ, er, z⟩ => by
  refine ⟨F, ρ, er, (PostS.bind (rel := rLs P) er z).imp ?_⟩
  rintro vs H1 ⟨F1, ds, g, q, z1⟩
  unfold par2 at z1
  split at z1
  · rename_i d e
    obtain ⟨v, r, rfl, q1, q⟩ := q.uncons
    obtain ⟨v2, r2, rfl, q2, q⟩ := q.uncons
    obtain rfl := q.unnil
    exact ⟨v, v2, rfl, z1 _ F1 H1 (((er.grow g).put i q1 (.inl h0)).put j q2 (.inl h0)) (.refl F1)⟩
  · exact z1.elim
def par3 (i j l : Nat) (ρ : Env) : List D → RS
  | [d, e, f] => .nx (((ρ.set i (some (.sh d))).set j (some (.sh e))).set l (some (.sh f)))
  | _ => .bad
theorem sd_par3 {i j l : Nat} {x y z : Str} {px py pz pt pos : Pos} {kt k2 pt2} (hc : X.calm = true) (hN : X.N.Nodup) (hi : X.N[i]? = some x) (hj : X.N[j]? = some y) (hl : X.N[l]? = some z) (hij : i ≠ j) (hil : i ≠ l) (hjl : j ≠ l)
    (hx : X.env.scope.names.lookup x = some .local) (hy : X.env.scope.names.lookup y = some .local) (hz : X.env.scope.names.lookup z = some .local) (ha : PA X [a, b, c] (tL P F0 H0 W fs))
    (hw : swappedStores [.Tuple [.Name x px, .Name y py, .Name z pz] kt pt] (.Tuple [a, b, c] k2 pt2) X.env = pure (some [x, y, z])) (h0 : F0.S = none := by rfl)
    (hs : swapsWithSole [.Tuple [.Name x px, .Name y py, .Name z pz] kt pt] (.Tuple [a, b, c] k2 pt2) pos.line X.env = pure false := by rfl) :
    PS X (.Assign [.Tuple [.Name x px, .Name y py, .Name z pz] kt pt] (.Tuple [a, b, c] k2 pt2) pos) (tS P F0 H0 W (fun ρ => bindS (fs ρ) ρ (par3 i j l ρ))) := (ps_par3 hc hN hi hj hl hij hil hjl hx hy hz ha hw hs).imp fun N σ H ⟨F, ρ, er, z⟩ => by
  refine ⟨F, ρ, er, (PostS.bind (rel := rLs P) er z).imp ?_⟩
  rintro vs H1 ⟨F1, ds, g, q, z1⟩
  unfold par3 at z1
  split at z1
  · rename_i d e f
    obtain ⟨v, r, rfl, q1, q⟩ := q.uncons
    obtain ⟨v2, r2, rfl, q2, q⟩ := q.uncons
    obtain ⟨v3, r3, rfl, q3, q⟩ := q.uncons
    obtain rfl := q.unnil
    exact ⟨v, v2, v3, rfl, z1 _ F1 H1 ((((er.grow g).put i q1 (.inl h0)).put j q2 (.inl h0)).put l q3 (.inl h0)) (.refl F1)⟩
  · exact z1.elim
/-- target = value, any target -/
theorem sd_asg {tg : Expr} {us : List Nat} {h : D → Env → Option Env} (he : PE X e (tE P F0 H0 W fa)) (hg : PG X tg (tGt P F0 H0 us h)) (hs : swapsWithSole [tg] e pos.line X.env = pure false := by rfl) (hw : swappedStores [tg] e X.env = pure none := by rfl)
    (h1 : (assignEach [tg] X.env).map (·.2) = [assign tg X.env] := by rfl) : PS X (.Assign [tg] e pos) (tS P F0 H0 W (fun ρ => bindS (fa ρ) ρ fun d => match h d ρ with | some ρ' => .nx ρ' | none => .bad)) := (ps_asg he hg hs hw h1).imp fun N σ H ⟨F, ρ, er, z⟩ => by
  refine ⟨F, ρ, er, (PostS.bind (rel := rIs P) er z).imp ?_⟩
  rintro v H1 ⟨F1, d, g, q, z1⟩
  cases hh : h d ρ with
  | none =>
    rw [hh] at z1
    exact z1.elim
  | some ρ' =>
    rw [hh] at z1
    exact ⟨F1, ρ, d, ρ', er.grow g, q, hh, fun σ' er' _ => z1 σ' F1 H1 er' (.refl F1)⟩
end
end DL
namespace DL
open PySem L2

/-! ### what is walked -/
section
variable {X : Cx} {P : Pm} {F0 : Fz} {H0 : Hp} {W : WX} {a b c e l tg : Expr} {es : List Expr} {fa fb fc : Env → Res D} {fs : Env → Res (List D)} {pos p : Pos}
theorem _root_.L2.PI.imp {t t' : TI} (h : PI X tg e t) (q : ∀ σ H R, t' σ H R → t σ H R) : PI X tg e t' := ⟨fun pins s σ H R I z => h.run pins s σ H R I (q σ H R z)⟩
def iSeq (K : PySem.W.Frag) (tl : TE) : TI := fun σ H R => tl σ H fun x H1 => (∃ a, x = .ref a ∧ (∃ xs, SqL K H1 a xs) ∧ R (Itl K a) H1) ∨ (∃ a, x = .ref a ∧ (∃ xs, SqT K H1 a xs) ∧ R (Itt K a) H1) ∨ ∃ z, x = .str z ∧ R (Its z) H1
theorem pi_seq {tl : TE} (hl : PE X l tl) : PI X tg l (iSeq X.K tl) := by
  refine ⟨fun pins s σ H R I h => ?_⟩
  refine thn (hl.run pins s σ H _ I h) fun v s1 ⟨x, H1, I1, r1, q1⟩ => ?_
  rcases q1 with ⟨a, e, ⟨xs, hq⟩, q⟩ | ⟨a, e, ⟨xs, hq⟩, q⟩ | ⟨z, e, q⟩
  · subst e
    cases r1
    obtain ⟨its, rv, p, hz⟩ := I1.list hq
    refine wpAny_pyIter_list p.isList ?_
    refine ⟨s1.heap.objs.size, [s1.heap.objs.size], _, _, H1, rfl, I1.kept (t' := s1.toks) fun b o e => Heap.get?_push_of_some _ e, turn_list a _, ⟨_, Heap.get?_push_size _ rfl, rfl, rfl⟩, fun b hb => ?_, q⟩
    have e : b = s1.heap.objs.size := by simpa using hb
    subst e
    exact I1.fpOk (Nat.le_refl _) (I1.hok.fresh (Nat.le_refl _))
  · subst e
    cases r1
    obtain ⟨its, rv, p, hz⟩ := I1.tuple hq
    refine wpAny_pyIter_tuple (show s1.heap.IsTuple a its.toArray from p) ?_
    refine ⟨s1.heap.objs.size, [s1.heap.objs.size], _, _, H1, rfl, I1.kept (t' := s1.toks) fun b o e => Heap.get?_push_of_some _ e, turn_tuple a _, ⟨_, Heap.get?_push_size _ rfl, rfl, rfl⟩, fun b hb => ?_, q⟩
    have e : b = s1.heap.objs.size := by simpa using hb
    subst e
    exact I1.fpOk (Nat.le_refl _) (I1.hok.fresh (Nat.le_refl _))
  · subst e
    obtain ⟨t, rfl⟩ := r1
    cases ha : z.cps.all (· < 128)
    · exact PySem.wpAny_pyIter_wide ha (pi_one (tk := s1.toks) I1 _ (turn_str _ z t "str_iterator" (.inr rfl)) ⟨_, Heap.get?_push_size _ rfl, rfl, rfl⟩ q)
    · exact PySem.wpAny_pyIter_ascii ha (pi_one (tk := s1.toks) I1 _ (turn_str _ z t "str_ascii_iterator" (.inl rfl)) ⟨_, Heap.get?_push_size _ rfl, rfl, rfl⟩ q)
def seqD : D → Res (List D)
  | .lst xs => .ok xs
  | .tup xs => .ok xs
  | .str z => .ok (z.cps.toList.map fun c => .str ⟨#[c]⟩)
  | _ => .bad
theorem un_lst {F : Hp} {xs : List D} {v : V} (h : Is P F (.lst xs) v) : ∃ a vs, v = .ref a ∧ Rd F a (.lst vs) ∧ IsL P F xs vs := by
  rw [Is] at h
  exact h
theorem un_tup {F : Hp} {xs : List D} {v : V} (h : Is P F (.tup xs) v) : ∃ a vs, v = .ref a ∧ Rd F a (.tup vs) ∧ IsL P F xs vs := by
  rw [Is] at h
  obtain ⟨a, vs, h1, h2, h3⟩ := h
  exact ⟨a, vs, h1, .inl h2, h3⟩
theorem un_str {F : Hp} {z : Str} {v : V} (h : Is P F (.str z) v) : v = .str z := by
  rw [Is] at h
  exact h
theorem un_int {F : Hp} {z : Int} {v : V} (h : Is P F (.int z) v) : v = .int z := by
  rw [Is] at h
  exact h
theorem un_bl {F : Hp} {z : Bool} {v : V} (h : Is P F (.bl z) v) : v = .bl z := by
  rw [Is] at h
  exact h
theorem un_non {F : Hp} {v : V} (h : Is P F .non v) : v = .non := by
  rw [Is] at h
  exact h
theorem itl_D {K : PySem.W.Frag} {F H : Hp} {a : Addr} {vs : List V} {ds : List D} (h : Rd F a (.lst vs)) (i : IsL P F ds vs) : ItD P F H ds (Itl K a) := fun j F1 H1 e1 e2 => by
  have hr : SqL K H1 a vs := .inl ((e2.sub e1).rd h)
  refine ⟨fun d hd => ?_, fun hl => ⟨vs, hr, by rw [← i.length]; exact hl⟩⟩
  obtain ⟨v, h1, h2⟩ := i.get hd
  refine ⟨⟨vs, v, hr, h1⟩, ?_⟩
  rintro x H2 ⟨rfl, hx⟩
  have := hx vs hr
  rw [h1] at this
  cases this
  exact ⟨F1, .refl e2, h2.mono e1 d⟩
theorem itt_D {K : PySem.W.Frag} {F H : Hp} {a : Addr} {vs : List V} {ds : List D} (h : Rd F a (.tup vs)) (i : IsL P F ds vs) : ItD P F H ds (Itt K a) := fun j F1 H1 e1 e2 => by
  have hr : SqT K H1 a vs := .inl ((e2.sub e1).rd h)
  refine ⟨fun d hd => ?_, fun hl => ⟨vs, hr, by rw [← i.length]; exact hl⟩⟩
  obtain ⟨v, h1, h2⟩ := i.get hd
  refine ⟨⟨vs, v, hr, h1⟩, ?_⟩
  rintro x H2 ⟨rfl, hx⟩
  have := hx vs hr
  rw [h1] at this
  cases this
  exact ⟨F1, .refl e2, h2.mono e1 d⟩
theorem its_D {F H : Hp} {z : Str} : ItD P F H (z.cps.toList.map fun c => D.str ⟨#[c]⟩) (Its z) := fun j F1 H1 e1 e2 => by
  refine ⟨fun d hd => ?_, fun hl => (by simpa using hl : z.cps.size ≤ j)⟩
  rw [List.getElem?_map] at hd
  cases hc : z.cps.toList[j]? with
  | none =>
    rw [hc] at hd
    cases hd
  | some c =>
    rw [hc] at hd
    cases hd
    have hj := lt_of_get hc
    refine ⟨(by simpa using hj : j < z.cps.size), ?_⟩
    rintro x H2 ⟨rfl, c', hc', rfl⟩
    have : z.cps.toList[j]? = some c' := by simpa using hc'
    rw [hc] at this
    cases this
    exact ⟨F1, .refl e2, is_str⟩
/-- for x in e: a list, a tuple, a text -/
theorem id_seq (h : PE X l (tE P F0 H0 W fa)) : PI X tg l (tI P F0 H0 W (fun ρ => fa ρ >>= seqD)) := (pi_seq h).imp fun σ H R ⟨F, ρ, er, z⟩ => by
  refine ⟨F, ρ, er, (PostG.bind (rel := rIs P) z).imp ?_⟩
  rintro v H1 ⟨F1, d, g, i, q⟩
  unfold seqD at q
  split at q
  · obtain ⟨a, vs, rfl, h1, h2⟩ := un_lst i
    exact .inl ⟨a, rfl, ⟨vs, .inl (g.s.rd h1)⟩, q.here g.s (itl_D h1 h2)⟩
  · obtain ⟨a, vs, rfl, h1, h2⟩ := un_tup i
    exact .inr (.inl ⟨a, rfl, ⟨vs, .inl (g.s.rd h1)⟩, q.here g.s (itt_D h1 h2)⟩)
  · exact .inr (.inr ⟨_, un_str i, q.here g.s its_D⟩)
  · exact q.elim
/-! ### ranges -/
def rngD (lo hi : Int) : List D := (List.range (hi - lo).toNat).map fun k => .int (lo + (k : Nat))
theorem itr_D {F H : Hp} {lo hi : Int} : ItD P F H (rngD lo hi) (Itr lo (hi - lo).toNat) := fun j F1 H1 e1 e2 => by
  refine ⟨fun d hd => ?_, fun hl => (by simp [rngD] at hl; omega : (hi - lo).toNat ≤ j)⟩
  unfold rngD at hd
  rw [List.getElem?_map] at hd
  cases hc : (List.range (hi - lo).toNat)[j]? with
  | none =>
    rw [hc] at hd
    cases hd
  | some c =>
    rw [hc] at hd
    cases hd
    have hj := lt_of_get hc
    rw [List.getElem?_eq_getElem hj] at hc
    simp at hc hj
    subst hc
    refine ⟨(by omega : j < (hi - lo).toNat), ?_⟩
    rintro x H2 ⟨rfl, rfl⟩
    exact ⟨F1, .refl e2, is_int⟩
def rng1 : List D → Res (List D)
  | [.int j] => if -(2 ^ 62) ≤ j ∧ j < 2 ^ 62 then .ok (rngD 0 j) else .bad
  | _ => .bad
def rng2 : List D → Res (List D)
  | [.int i, .int j] => if -(2 ^ 62) ≤ i ∧ i < 2 ^ 62 ∧ -(2 ^ 62) ≤ j ∧ j < 2 ^ 62 then .ok (rngD i j) else .bad
  | _ => .bad
theorem id_range1 (hg : Gl X "range") (hm : X.mg "range" = none) (ha : PA X [a] (tL P F0 H0 W fs)) (hs : starEach [a] X.env = [(false, eval a X.env)] := by rfl) : PI X tg (.Call (.Name "range" p) [a] [] pos) (tI P F0 H0 W (fun ρ => fs ρ >>= rng1)) :=
  (pi_range1 hg hm ha hs).imp fun σ H R ⟨F, ρ, er, z⟩ => by
  refine ⟨F, ρ, er, (PostG.bind (rel := rLs P) z).imp ?_⟩
  rintro vs H1 ⟨F1, ds, g, i, q⟩
  unfold rng1 at q
  split at q
  · rename_i j
    obtain ⟨v, r, rfl, i1, i⟩ := i.uncons
    obtain rfl := i.unnil
    rw [Is] at i1
    subst i1
    split at q
    · rename_i hj
      refine ⟨j, rfl, hj.1, hj.2, ?_⟩
      have := q.here g.s (itr_D (lo := 0) (hi := j))
      simpa using this
    · exact q.elim
  · exact q.elim
theorem id_range2 (hg : Gl X "range") (hm : X.mg "range" = none) (ha : PA X [a, b] (tL P F0 H0 W fs)) (hs : starEach [a, b] X.env = [(false, eval a X.env), (false, eval b X.env)] := by rfl) (hs2 : starEach [b] X.env = [(false, eval b X.env)] := by rfl) : PI X tg (.Call (.Name "range" p) [a, b] [] pos) (tI P F0 H0 W (fun ρ => fs ρ >>= rng2)) :=
  (pi_range2 hg hm ha hs hs2).imp fun σ H R ⟨F, ρ, er, z⟩ => by
  refine ⟨F, ρ, er, (PostG.bind (rel := rLs P) z).imp ?_⟩
  rintro vs H1 ⟨F1, ds, g, i, q⟩
  unfold rng2 at q
  split at q
  · rename_i j k
    obtain ⟨v, r, rfl, i1, i⟩ := i.uncons
    obtain ⟨v2, r2, rfl, i2, i⟩ := i.uncons
    obtain rfl := i.unnil
    rw [Is] at i1 i2
    subst i1 i2
    split at q
    · rename_i hj
      exact ⟨j, k, rfl, hj, q.here g.s itr_D⟩
    · exact q.elim
  · exact q.elim
/-! ### zip, enumerate -/
def zipL (xs ys : List D) : List D := (xs.zip ys).map fun q => .tup [q.1, q.2]
theorem zipL_get {xs ys : List D} {j : Nat} {d : D} (h : (zipL xs ys)[j]? = some d) : ∃ x y, xs[j]? = some x ∧ ys[j]? = some y ∧ d = .tup [x, y] := by
  unfold zipL at h
  rw [List.getElem?_map] at h
  cases hz : (xs.zip ys)[j]? with
  | none =>
    rw [hz] at h
    cases h
  | some q =>
    rw [hz] at h
    cases h
    rw [List.getElem?_zip_eq_some] at hz
    exact ⟨q.1, q.2, hz.1, hz.2, rfl⟩
theorem zipL_len {xs ys : List D} : (zipL xs ys).length = min xs.length ys.length := by simp [zipL]
theorem pair_D {F1 H1 : Hp} {x y : D} {vx vy : V} {T : Addr} (e2 : Sb P F1 H1) (hT : H1 T = none) (hx : Is P F1 x vx) (hy : Is P F1 y vy) : ∃ F2, Grow P F1 H1 F2 (upd H1 T (.tup [vx, vy])) ∧ Is P F2 (.tup [x, y]) (.ref T) :=
  ⟨upd F1 T (.tup [vx, vy]), .new e2 hT, by rw [Is]; exact ⟨T, _, rfl, upd_same, .cons (hx.mono (.new (e2.back hT)) x) (.cons (hy.mono (.new (e2.back hT)) y) .nil)⟩⟩
def zipD : List D → Res (List D)
  | [.lst xs, .lst ys] => .ok (zipL xs ys)
  | [.tup xs, .tup ys] => .ok (zipL xs ys)
  | _ => .bad
theorem id_zip {elts : List Expr} {kk : Nat} {tpos : Pos} (hg : Gl X "zip") (hm : X.mg "zip" = none) (ha : PA X [a, b] (tL P F0 H0 W fs)) (hs : starEach [a, b] X.env = (false, eval a X.env) :: starEach [b] X.env := by rfl) (hpl : (backTo pos (starEach [b] X.env)).any (·.1) = false := by rfl) :
    PI X (.Tuple elts kk tpos) (.Call (.Name "zip" p) [a, b] [] pos) (tI P F0 H0 W (fun ρ => fs ρ >>= zipD)) := (RZ.pi_zipA hg hm ha hs hpl).imp fun σ H R ⟨F, ρ, er, z⟩ => by
  refine ⟨F, ρ, er, (PostG.bind (rel := rLs P) z).imp ?_⟩
  rintro vs H1 ⟨F1, ds, g, i, q⟩
  unfold zipD at q
  split at q
  · rename_i xs ys
    obtain ⟨v, r, rfl, i1, i⟩ := i.uncons
    obtain ⟨v2, r2, rfl, i2, i⟩ := i.uncons
    obtain rfl := i.unnil
    rw [Is] at i1 i2
    obtain ⟨a1, vs1, rfl, h1, j1⟩ := i1
    obtain ⟨a2, vs2, rfl, h2, j2⟩ := i2
    refine ⟨a1, a2, vs1, vs2, rfl, .inl ⟨.inl (g.s.rd h1), .inl (g.s.rd h2), q.here g.s fun j F2 H2 e1 e2 => ?_⟩⟩
    have hr1 : SqL X.K H2 a1 vs1 := .inl ((e2.sub e1).rd h1)
    have hr2 : SqL X.K H2 a2 vs2 := .inl ((e2.sub e1).rd h2)
    refine ⟨fun d hd => ?_, fun hl => ⟨vs1, vs2, hr1, hr2, ?_⟩⟩
    · obtain ⟨x, y, hx, hy, rfl⟩ := zipL_get hd
      obtain ⟨vx, k1, k2⟩ := j1.get hx
      obtain ⟨vy, l1, l2⟩ := j2.get hy
      refine ⟨⟨vs1, vs2, vx, vy, hr1, hr2, k1, l1⟩, ?_⟩
      rintro v H3 ⟨T, x', y', rfl, hT, rfl, hx', hy'⟩
      have e3 := hx' vs1 hr1
      have e4 := hy' vs2 hr2
      rw [k1] at e3
      rw [l1] at e4
      cases e3
      cases e4
      exact pair_D e2 hT (k2.mono e1 x) (l2.mono e1 y)
    · rw [zipL_len, j1.length, j2.length] at hl
      omega
  · rename_i xs ys
    obtain ⟨v, r, rfl, i1, i⟩ := i.uncons
    obtain ⟨v2, r2, rfl, i2, i⟩ := i.uncons
    obtain rfl := i.unnil
    obtain ⟨a1, vs1, rfl, h1, j1⟩ := un_tup i1
    obtain ⟨a2, vs2, rfl, h2, j2⟩ := un_tup i2
    refine ⟨a1, a2, vs1, vs2, rfl, .inr ⟨.inl (g.s.rd h1), .inl (g.s.rd h2), q.here g.s fun j F2 H2 e1 e2 => ?_⟩⟩
    have hr1 : SqT X.K H2 a1 vs1 := .inl ((e2.sub e1).rd h1)
    have hr2 : SqT X.K H2 a2 vs2 := .inl ((e2.sub e1).rd h2)
    refine ⟨fun d hd => ?_, fun hl => ⟨vs1, vs2, hr1, hr2, ?_⟩⟩
    · obtain ⟨x, y, hx, hy, rfl⟩ := zipL_get hd
      obtain ⟨vx, k1, k2⟩ := j1.get hx
      obtain ⟨vy, l1, l2⟩ := j2.get hy
      refine ⟨⟨vs1, vs2, vx, vy, hr1, hr2, k1, l1⟩, ?_⟩
      rintro v H3 ⟨T, x', y', rfl, hT, rfl, hx', hy'⟩
      have e3 := hx' vs1 hr1
      have e4 := hy' vs2 hr2
      rw [k1] at e3
      rw [l1] at e4
      cases e3
      cases e4
      exact pair_D e2 hT (k2.mono e1 x) (l2.mono e1 y)
    · rw [zipL_len, j1.length, j2.length] at hl
      omega
  · exact q.elim
def enuL (xs : List D) : List D := xs.zipIdx.map fun q => .tup [.int (q.2 : Nat), q.1]
def enuD : List D → Res (List D)
  | [.lst xs] => .ok (enuL xs)
  | _ => .bad
theorem id_enum {elts : List Expr} {kk : Nat} {tpos : Pos} (hg : Gl X "enumerate") (hm : X.mg "enumerate" = none) (ha : PA X [a] (tL P F0 H0 W fs)) (hs : starEach [a] X.env = [(false, eval a X.env)] := by rfl) :
    PI X (.Tuple elts kk tpos) (.Call (.Name "enumerate" p) [a] [] pos) (tI P F0 H0 W (fun ρ => fs ρ >>= enuD)) := (pi_enum hg hm ha hs).imp fun σ H R ⟨F, ρ, er, z⟩ => by
  refine ⟨F, ρ, er, (PostG.bind (rel := rLs P) z).imp ?_⟩
  rintro vs H1 ⟨F1, ds, g, i, q⟩
  unfold enuD at q
  split at q
  · rename_i xs
    obtain ⟨v, r, rfl, i1, i⟩ := i.uncons
    obtain rfl := i.unnil
    rw [Is] at i1
    obtain ⟨a1, vs1, rfl, h1, j1⟩ := i1
    refine ⟨a1, vs1, rfl, .inl (g.s.rd h1), q.here g.s fun j F2 H2 e1 e2 => ?_⟩
    have hr1 : SqL X.K H2 a1 vs1 := .inl ((e2.sub e1).rd h1)
    refine ⟨fun d hd => ?_, fun hl => ⟨vs1, hr1, ?_⟩⟩
    · unfold enuL at hd
      rw [List.getElem?_map] at hd
      cases hz : xs.zipIdx[j]? with
      | none =>
        rw [hz] at hd
        cases hd
      | some q =>
        rw [hz] at hd
        cases hd
        rw [List.getElem?_zipIdx] at hz
        cases hx : xs[j]? with
        | none =>
          rw [hx] at hz
          cases hz
        | some x =>
          rw [hx] at hz
          simp at hz
          subst hz
          obtain ⟨vx, k1, k2⟩ := j1.get hx
          refine ⟨⟨vs1, vx, hr1, k1⟩, ?_⟩
          rintro v H3 ⟨T, x', rfl, hT, rfl, hx'⟩
          have e3 := hx' vs1 hr1
          rw [k1] at e3
          cases e3
          exact pair_D e2 hT is_int (k2.mono e1 x)
    · rw [← j1.length]
      simpa [enuL] using hl
  · exact q.elim
end
end DL
namespace DL
open PySem L2

def noErr {α : Type} : Res α → Res α
  | .ok a => .ok a
  | _ => .bad
theorem PostG.noErr {α β : Type} {P : Pm} {W W' : WX} {rel : Rel α β} {r : Res α} {F H : Hp} {σ σ' : St} {Q : β → Hp → Prop} (h : PostG P W rel (DL.noErr r) F σ H Q) : PostG P W' rel r F σ' H Q := by
  cases r with
  | ok a => exact h
  | err c p => exact h.elim
  | bad => exact h.elim
def wipeE (ρ : Env) : List Nat → Env
  | [] => ρ
  | v :: vs => (wipeE ρ vs).set v none
section
variable {P : Pm} {F0 : Fz} {H0 F H : Hp} {ρ : Env} {σ : St}
theorem wipeE_length : ∀ us : List Nat, (wipeE ρ us).length = ρ.length
  | [] => rfl
  | v :: us => by
    show ((wipeE ρ us).set v none).length = _
    rw [List.length_set, wipeE_length us]
theorem wipeE_some {i : Nat} {x : B} : ∀ {us : List Nat}, (wipeE ρ us)[i]? = some (some x) → ρ[i]? = some (some x) ∧ i ∉ us
  | [], h => ⟨h, by simp⟩
  | v :: us, h => by
    have h' : ((wipeE ρ us).set v none)[i]? = some (some x) := h
    by_cases q : v = i
    · subst q
      have hl : v < (wipeE ρ us).length := by simpa using lt_of_get h'
      rw [get_set_self hl] at h'
      cases h'
    · rw [List.getElem?_set_ne q] at h'
      obtain ⟨h1, h2⟩ := wipeE_some h'
      exact ⟨h1, by simp [h2, Ne.symm q]⟩
theorem wipe_keep {i : Nat} : ∀ {us : List Nat}, i ∉ us → (wipe σ us)[i]? = σ[i]?
  | [], _ => rfl
  | v :: us, h => by
    show ((wipe σ us).set v none)[i]? = _
    rw [List.getElem?_set_ne (fun q => h (by simp [q]))]
    exact wipe_keep fun q => h (List.mem_cons_of_mem _ q)
theorem wipe_twice (us : List Nat) : wipe (wipe σ us) us = wipe σ us := by
  apply List.ext_getElem?
  intro i
  by_cases q : i ∈ us
  · have k : ∀ (us : List Nat) (τ : St), i ∈ us → (wipe τ us)[i]? = if i < τ.length then some none else none := by
      intro us
      induction us with
      | nil => intro τ h; cases h
      | cons v vs ih =>
        intro τ h
        show ((wipe τ vs).set v none)[i]? = _
        by_cases e : v = i
        · subst e
          rw [List.getElem?_set]
          simp [wipe_length]
        · rw [List.getElem?_set_ne e]
          exact ih τ (by simpa [Ne.symm e] using h)
    rw [k us _ q, k us _ q, wipe_length]
  · rw [wipe_keep q]
theorem ER.wiped (r : ER P F0 H0 F ρ σ H) (us : List Nat) (h0 : F0.S = none ∨ 0 ∉ us) : ER P F0 H0 F (wipeE ρ us) (wipe σ us) H where
  g := r.g
  self := fun x hx => by
    rcases h0 with q | q
    · rw [q] at hx
      cases hx
    · rw [wipe_keep q]
      exact r.self x hx
  len := by rw [wipeE_length, wipe_length, r.len]
  sh := fun i d e => by
    obtain ⟨h1, h2⟩ := wipeE_some e
    rw [wipe_keep h2]
    exact r.sh i d h1
  bw := fun i d e => by
    obtain ⟨h1, h2⟩ := wipeE_some e
    rw [wipe_keep h2]
    exact r.bw i d h1
  ow := fun i d e => by
    obtain ⟨h1, h2⟩ := wipeE_some e
    rw [wipe_keep h2]
    exact r.ow i d h1
  nd := fun i j d e a q1 q2 q3 q4 => by
    obtain ⟨h1, h2⟩ := wipeE_some q1
    obtain ⟨h3, h4⟩ := wipeE_some q2
    rw [wipe_keep h2] at q3
    rw [wipe_keep h4] at q4
    exact r.nd i j d e a h1 h3 q3 q4
theorem Tabs.put {T : List (Addr × Str)} {H : Hp} {a : Addr} {o : HO} (t : LamX.Tabs T H) (h : H a = none ∨ ∃ u, H a = some u ∧ isD u = true) : LamX.Tabs T (L2.upd H a o) := by
  rcases h with h | ⟨u, h, hd⟩
  · exact t.ext (Ex.new h)
  · exact Tabs.upd t h hd
theorem Grow.put {H1 F1 F' H' : Hp} {p : Addr} {o : HO} (gg : Grow P F1 H1 F' H') (hD : NoD H1 p) (f4 : F' p = none) (hu : H' p = none ∨ ∃ u, H' p = some u ∧ isD u = true) : Grow P F1 H1 F' (upd H' p o) :=
  ⟨gg.f, ⟨fun b u e n => by rw [upd_ne (hD.ne e n)]; exact gg.h.at_ b u e n⟩, ⟨fun b u e => by rw [upd_ne (ne_of_none e f4)]; exact gg.s.ex b u e, gg.s.nt, Tabs.put gg.s.tabs hu⟩, gg.n⟩
/-- an object that is nobody's by name is changed -/
theorem ER.other (r : ER P F0 H0 F ρ σ H) {p : Addr} {o : HO} (hu : H p = none ∨ ∃ u, H p = some u ∧ isD u = true) (h0 : NoD H0 p) (hf : F p = none) (hn : ∀ (i : Nat) (d : D), ρ[i]? = some (some (B.ow d)) → σ[i]? ≠ some (some (V.ref p))) : ER P F0 H0 F ρ σ (upd H p o) where
  g := r.g.put h0 hf hu
  self := r.self
  len := r.len
  sh := r.sh
  bw := r.bw
  ow := fun i d e => by
    obtain ⟨a, h1, h2, h3, h4⟩ := r.ow i d e
    exact ⟨a, h1, h2, h3, h4.at (upd_ne fun z => hn i d e (by rw [h1, z]))⟩
  nd := r.nd
end
/-- the items of a comprehension -/
def lcD (h : D → Env → Option Env) (gt : Env → Res Bool) (fe : Env → Res D) (ρ : Env) : List D → Res (List D)
  | [] => .ok []
  | d :: r => match h d ρ with
    | none => .bad
    | some ρ1 => do
      let k ← noErr (gt ρ1)
      if k = true then (do let y ← noErr (fe ρ1); let ys ← lcD h gt fe ρ r; .ok (y :: ys)) else lcD h gt fe ρ r
section
variable {X : Cx} {P : Pm} {F0 : Fz} {H0 : Hp} {W : WX} {elt tg iter : Expr} {ifs : List Expr} {scope : Scope} {own : List (Str × Nat)} {pos : Pos} {fi : Env → Res (List D)} {h : D → Env → Option Env} {gt : Env → Res Bool} {fe : Env → Res D}
abbrev W0 : WX := fun _ _ _ _ => False
theorem Res.bind_eq_ok {α β : Type} {r : Res α} {k : α → Res β} {b : β} (h : (r >>= k) = .ok b) : ∃ a, r = .ok a ∧ k a = .ok b := by
  cases r with
  | ok a => exact ⟨a, rfl, h⟩
  | err c p => cases h
  | bad => cases h
theorem lc_of {F H : Hp} {ρ : Env} {σ : St} {Q : VK} {us : List Nat} (h0 : F0.S = none ∨ 0 ∉ us) (er : ER P F0 H0 F ρ σ H)
    (z : PostG P W (rNw P H) (do let items ← fi ρ; let ys ← lcD h gt fe (wipeE ρ us) items; mkL ys) F σ H Q) :
    tLc (tI P F0 H0 W fi) (tGt P F0 H0 us h) (tT P F0 H0 W0 gt) (tE P F0 H0 W0 fe) us σ H Q := by
  refine ⟨F, ρ, er, (PostG.bind (rel := ItD P) z).imp ?_⟩
  rintro J H1 ⟨FJ, items, gr, hJ, z1⟩
  intro Dn hD
  have erJ := er.grow gr
  cases hy : lcD h gt fe (wipeE ρ us) items with
  | bad =>
    rw [hy] at z1
    exact z1.elim
  | err c p =>
    exfalso
    revert hy
    clear z1 hJ
    suffices ∀ items, lcD h gt fe (wipeE ρ us) items ≠ .err c p from this items
    intro items
    induction items with
    | nil => intro q; cases q
    | cons d r ih =>
      intro q
      have q' : (match h d (wipeE ρ us) with
        | none => Res.bad
        | some ρ1 => do
          let k ← noErr (gt ρ1)
          if k = true then (do let y ← noErr (fe ρ1); let ys ← lcD h gt fe (wipeE ρ us) r; .ok (y :: ys)) else lcD h gt fe (wipeE ρ us) r) = .err c p := q
      cases hh : h d (wipeE ρ us) with
      | none =>
        rw [hh] at q'
        cases q'
      | some ρ1 =>
        rw [hh] at q'
        cases hg : gt ρ1 with
        | ok k =>
          have q2 : (if k = true then (do let y ← noErr (fe ρ1); let ys ← lcD h gt fe (wipeE ρ us) r; .ok (y :: ys)) else lcD h gt fe (wipeE ρ us) r) = .err c p := by
            have := q'
            simp only [hg] at this
            exact this
          split at q2
          · cases hf : fe ρ1 with
            | ok y =>
              rw [hf] at q2
              cases hr : lcD h gt fe (wipeE ρ us) r with
              | ok ys =>
                rw [hr] at q2
                cases q2
              | err c' p' =>
                rw [hr] at q2
                cases q2
                exact ih hr
              | bad =>
                rw [hr] at q2
                cases q2
            | err c' p' =>
              rw [hf] at q2
              cases q2
            | bad =>
              rw [hf] at q2
              cases q2
          · exact ih q2
        | err c' p' =>
          simp only [hg] at q'
          cases q'
        | bad =>
          simp only [hg] at q'
          cases q'
  | ok ys =>
    rw [hy] at z1
    replace z1 : PostG P W (rNw P H) (mkL ys) FJ σ H1 Q := z1
    unfold mkL at z1
    by_cases hsm : small ys.length = true
    case neg =>
      rw [if_neg hsm] at z1
      exact z1.elim
    rw [if_pos hsm] at z1
    have hne : ∀ (i : Nat) (d : D), (wipeE ρ us)[i]? = some (some (B.ow d)) → (wipe σ us)[i]? ≠ some (some (V.ref Dn)) := fun i d e q => by
      obtain ⟨a, k1, k2, k3, k4⟩ := (erJ.wiped us h0).ow i d e
      rw [q] at k1
      cases k1
      obtain ⟨o, ho, _⟩ := k4.there
      rw [hD] at ho
      cases ho
    have hFD : FJ Dn = none := gr.s.back hD
    have h0D : NoD H0 Dn := erJ.g.h.back hD
    refine ⟨fun i m H' => m = items.length - i ∧ ∃ F' accD acc rest, Grow P FJ H1 F' H' ∧ ER P F0 H0 F' (wipeE ρ us) (wipe σ us) H' ∧ F' Dn = none ∧ H' Dn = some (.lst acc) ∧ IsL P F' accD acc ∧ lcD h gt fe (wipeE ρ us) (items.drop i) = .ok rest ∧ accD ++ rest = ys, ⟨_, rfl, FJ, [], [], ys, .junk gr.s (.new hD), (erJ.wiped us h0).other (.inl hD) h0D hFD hne, hFD, upd_same, .nil, hy, rfl⟩, ?_⟩
    rintro i m H' ⟨rfl, F', accD, acc, rest, g1, er1, f1, d1, i1, l1, e1⟩
    obtain ⟨j1, j2⟩ := hJ i F' H' g1.f g1.s
    rcases Nat.lt_or_ge i items.length with hi | hi
    · obtain ⟨k1, k2⟩ := j1 items[i] (List.getElem?_eq_getElem hi)
      rw [List.drop_eq_getElem_cons hi] at l1
      have l2 : (match h items[i] (wipeE ρ us) with
        | none => Res.bad
        | some ρ1 => do
          let k ← noErr (gt ρ1)
          if k = true then (do let y ← noErr (fe ρ1); let ys ← lcD h gt fe (wipeE ρ us) (items.drop (i + 1)); .ok (y :: ys)) else lcD h gt fe (wipeE ρ us) (items.drop (i + 1))) = .ok rest := l1
      cases hh : h items[i] (wipeE ρ us) with
      | none =>
        rw [hh] at l2
        cases l2
      | some ρ1 =>
        rw [hh] at l2
        obtain ⟨k, hk, l3⟩ := Res.bind_eq_ok (r := noErr (gt ρ1)) l2
        refine .inr ⟨k1, fun H' => ∃ F' accD acc rest, Grow P FJ H1 F' H' ∧ ER P F0 H0 F' (wipeE ρ us) (wipe σ us) H' ∧ F' Dn = none ∧ H' Dn = some (.lst acc) ∧ IsL P F' accD acc ∧ lcD h gt fe (wipeE ρ us) (items.drop (i + 1)) = .ok rest ∧ accD ++ rest = ys, fun H' n' => ⟨_, by omega, rfl, n'⟩, ?_⟩
        intro x H2 hyl
        obtain ⟨F2, g2, i2⟩ := k2 x H2 hyl
        refine ⟨F2, wipeE ρ us, items[i], ρ1, er1.grow g2, i2, hh, fun σ2 er2 w2 => ⟨w2.trans (wipe_twice us), ?_⟩⟩
        refine ⟨F2, ρ1, er2, ?_⟩
        have hgt : gt ρ1 = .ok k := by
          cases hg : gt ρ1 with
          | ok k' =>
            rw [hg] at hk
            exact hk
          | err c p =>
            rw [hg] at hk
            cases hk
          | bad =>
            rw [hg] at hk
            cases hk
        rw [hgt]
        intro b F3 H3 g3 hb
        subst hb
        have er3 := (er1.grow g2).grow g3
        have fd3 : ∀ {Fa Ha Fb Hb : Hp}, Grow P Fa Ha Fb Hb → Fa Dn = none → (∃ ys, Ha Dn = some (.lst ys)) → Fb Dn = none := fun {Fa Ha Fb Hb} g q1 q2 => by
          cases q : Fb Dn with
          | none => rfl
          | some o =>
            obtain ⟨ys, q2⟩ := q2
            rcases g.n Dn o q with y | y | ⟨zs, y⟩
            · rw [q1] at y
              cases y
            · exact (y.no q2 rfl).elim
            · have k1 := g.s.ex _ _ q
              rw [g.h.dat q2, y] at k1
              cases k1
        have n0 : ∃ ys, H' Dn = some (.lst ys) := ⟨_, d1⟩
        have f2 := fd3 g2 f1 n0
        have d2 : H2 Dn = some (.lst acc) := g2.h.dat d1
        have n2 : ∃ ys, H2 Dn = some (.lst ys) := ⟨_, d2⟩
        have f3 := fd3 g3 f2 n2
        have d3 : H3 Dn = some (.lst acc) := g3.h.dat d2
        have n3 : ∃ ys, H3 Dn = some (.lst ys) := ⟨_, d3⟩
        have hir := i1.mono (g2.f.trans g3.f) accD
        by_cases hb : b = true
        · rw [if_pos hb]
          rw [if_pos hb] at l3
          obtain ⟨y, hy1, l4⟩ := Res.bind_eq_ok (r := noErr (fe ρ1)) l3
          obtain ⟨ys', hy2, l5⟩ := Res.bind_eq_ok (r := lcD h gt fe (wipeE ρ us) (items.drop (i + 1))) l4
          cases l5
          have hfe : fe ρ1 = .ok y := by
            cases hg : fe ρ1 with
            | ok k' =>
              rw [hg] at hy1
              exact hy1
            | err c p =>
              rw [hg] at hy1
              cases hy1
            | bad =>
              rw [hg] at hy1
              cases hy1
          refine ⟨F3, ρ1, er2.grow g3, ?_⟩
          rw [hfe]
          intro v F4 H4 g4 i4
          have f4 := fd3 g4 f3 n3
          have d4 : H4 Dn = some (.lst acc) := g4.h.dat d3
          refine ⟨acc, d4, ?_, F4, accD ++ [y], acc ++ [v], ys', ?_, (er3.grow g4).other (.inr ⟨_, d4, rfl⟩) h0D f4 hne, f4, upd_same, (hir.mono g4.f accD).append (.cons i4 .nil), hy2, by rw [← e1]; simp⟩
          · have hlen : acc.length ≤ ys.length := by
              rw [← e1, ← i1.length]
              simp
            exact Nat.lt_of_le_of_lt hlen (small_lt hsm)
          · have gg := ((g1.trans g2).trans g3).trans g4
            exact gg.put (.of hD) f4 (.inr ⟨_, d4, rfl⟩)
        · rw [if_neg hb]
          rw [if_neg hb] at l3
          exact ⟨F3, accD, acc, rest, (g1.trans g2).trans g3, er3, f3, d3, hir, l3, e1⟩
    · rw [List.drop_eq_nil_of_le hi] at l1
      cases l1
      rw [List.append_nil] at e1
      subst e1
      exact .inl ⟨j2 hi, z1 _ F' H' g1 ⟨Dn, rfl, gr.h.back hD, f1, acc, d1, i1⟩⟩
theorem nd_lc {us : List Nat} (hc : X.calm = true) (hN : X.N.Nodup) (hi : PI X tg iter (tI P F0 H0 W fi)) (ok : BlkOk X.N X.env.scope scope own) (hu : own.map (·.2) = us)
    (hg : ∀ (s : Shared) (H : Hp) (C : Addr) (cl : List (Str × Addr)) (fp : List Addr), PG (X.blk s H scope (PySem.compEnvC scope cl C X.env) fp) tg (tGt P F0 H0 us h))
    (ht : ∀ (s : Shared) (H : Hp) (C : Addr) (cl : List (Str × Addr)) (fp : List Addr), PTs (X.blk s H scope (PySem.compEnvC scope cl C X.env) fp) ifs (tT P F0 H0 W0 gt))
    (he : ∀ (s : Shared) (H : Hp) (C : Addr) (cl : List (Str × Addr)) (fp : List Addr), PE (X.blk s H scope (PySem.compEnvC scope cl C X.env) fp) elt (tE P F0 H0 W0 fe)) (h0 : F0.S = none ∨ 0 ∉ us := by first | exact Or.inl rfl | exact Or.inr (by decide))
    (hs : ∀ x, foldedSetIterable iter X.env x = pure x := by intro _; rfl) :
    PE X (.ListComp elt [⟨tg, iter, ifs, 0⟩] scope pos) (tN P F0 H0 W (fun ρ => do let items ← fi ρ; let ys ← lcD h gt fe (wipeE ρ us) items; mkL ys)) :=
  (pe_lc hc hN hi ok hg ht he hs).imp fun σ H Q ⟨F, ρ, er, z⟩ => by
  rw [hu]
  exact lc_of h0 er z
end
end DL
namespace DL
open PySem L2

/-! ### == of data -/
mutual
def toPD : D → Option PyData
  | .non => some .none
  | .bl b => some (.bool b)
  | .int i => some (.int i)
  | .str s => some (.str s)
  | .lst xs => (toPDs xs).map .list
  | .tup xs => (toPDs xs).map .tuple
  | .dK _ _ => none
  | .dT _ _ => none
  | .obj _ _ => none
  | .scr _ => none
  | .exc _ _ => none
def toPDs : List D → Option (List PyData)
  | [] => some []
  | d :: ds => (toPD d).bind fun x => (toPDs ds).map fun xs => x :: xs
end
section
variable {P : Pm} {F H : Hp} {K : PySem.W.Frag}
mutual
theorem Is.dp (e : Sb P F H) : ∀ (d : D) {v : V} {pd : PyData}, Is P F d v → toPD d = some pd → Dp K H v pd
  | .non, _, _, h, q => by rw [Is] at h; rw [toPD] at q; cases q; rw [h]; exact .non
  | .bl b, _, _, h, q => by rw [Is] at h; rw [toPD] at q; cases q; rw [h]; exact .bl b
  | .int i, _, _, h, q => by rw [Is] at h; rw [toPD] at q; cases q; rw [h]; exact .int i
  | .str s, _, _, h, q => by rw [Is] at h; rw [toPD] at q; cases q; rw [h]; exact .str s
  | .lst xs, _, _, h, q => by
    rw [Is] at h
    obtain ⟨a, vs, rfl, h2, h3⟩ := h
    rw [toPD] at q
    cases hx : toPDs xs with
    | none => rw [hx] at q; cases q
    | some ys =>
      rw [hx] at q
      cases q
      exact .lst (.inl (e.rd h2)) (IsL.dp e xs h3 hx)
  | .tup xs, _, _, h, q => by
    rw [Is] at h
    obtain ⟨a, vs, rfl, h2, h3⟩ := h
    rw [toPD] at q
    cases hx : toPDs xs with
    | none => rw [hx] at q; cases q
    | some ys =>
      rw [hx] at q
      cases q
      exact .tup (.inl (.inl (e.ex _ _ h2))) (IsL.dp e xs h3 hx)
  | .dK ks xs, _, _, h, q => by rw [toPD] at q; cases q
  | .dT ks xs, _, _, h, q => by rw [toPD] at q; cases q
  | .obj c xs, _, _, h, q => by rw [toPD] at q; cases q
  | .scr ns, _, _, h, q => by rw [toPD] at q; cases q
  | .exc _ _, _, _, h, q => by rw [toPD] at q; cases q
theorem IsL.dp (e : Sb P F H) : ∀ (ds : List D) {vs : List V} {ps : List PyData}, IsL P F ds vs → toPDs ds = some ps → DpAll K H vs ps
  | [], _, _, h, q => by rw [IsL] at h; rw [toPDs] at q; cases q; rw [h]; exact .nil
  | d :: ds, _, _, h, q => by
    rw [IsL] at h
    obtain ⟨v, r, rfl, h2, h3⟩ := h
    rw [toPDs] at q
    cases hd : toPD d with
    | none => rw [hd] at q; cases q
    | some x =>
      cases hx : toPDs ds with
      | none => rw [hd, hx] at q; cases q
      | some xs =>
        rw [hd, hx] at q
        cases q
        exact .cons (Is.dp e d h2 hd) (IsL.dp e ds h3 hx)
end
theorem Vw.dp (e : Sb P F H) : ∀ (d : D) {v : V} {pd : PyData}, Vw P F H d v → toPD d = some pd → Dp K H v pd
  | .non, _, _, h, q => by rw [toPD] at q; cases q; rw [show _ = V.non from h]; exact .non
  | .bl b, _, _, h, q => by rw [toPD] at q; cases q; rw [show _ = V.bl b from h]; exact .bl b
  | .int i, _, _, h, q => by rw [toPD] at q; cases q; rw [show _ = V.int i from h]; exact .int i
  | .str s, _, _, h, q => by rw [toPD] at q; cases q; rw [show _ = V.str s from h]; exact .str s
  | .lst xs, _, _, ⟨a, vs, h1, h2, h3⟩, q => by
    subst h1
    rw [toPD] at q
    cases hx : toPDs xs with
    | none => rw [hx] at q; cases q
    | some ys =>
      rw [hx] at q
      cases q
      exact .lst (.inl h2) (IsL.dp e xs h3 hx)
  | .tup xs, _, _, ⟨a, vs, h1, h0, h2, h3⟩, q => by
    subst h1
    rw [toPD] at q
    cases hx : toPDs xs with
    | none => rw [hx] at q; cases q
    | some ys =>
      rw [hx] at q
      cases q
      exact .tup (.inl h2) (IsL.dp e xs h3 hx)
  | .dK ks xs, _, _, h, q => by rw [toPD] at q; cases q
  | .dT ks xs, _, _, h, q => by rw [toPD] at q; cases q
  | .obj c xs, _, _, h, q => by rw [toPD] at q; cases q
  | .scr ns, _, _, h, q => by rw [toPD] at q; cases q
  | .exc _ _, _, _, h, q => by rw [toPD] at q; cases q
end
def eqP (x y : D) : Option Bool := (toPD x).bind fun a => (toPD y).bind fun b => if SeqAt.shaped a = true ∧ SeqAt.shaped b = true then some (PyData.eqv a b) else none
def eqD (x y : D) : Option D := (eqP x y).map .bl
def neD (x y : D) : Option D := (eqP x y).map fun b => .bl (!b)
section
variable {X : Cx} {P : Pm} {F0 : Fz} {H0 : Hp} {W : WX} {a b c e o : Expr} {es : List Expr} {fa fb fc : Env → Res D} {fs : Env → Res (List D)} {pos p apos : Pos} {σ : St} {H F : Hp}
theorem eqP_of {x y : D} {b : Bool} (h : eqP x y = some b) : ∃ p q, toPD x = some p ∧ toPD y = some q ∧ SeqAt.shaped p = true ∧ SeqAt.shaped q = true ∧ PyData.eqv p q = b := by
  unfold eqP at h
  cases hx : toPD x with
  | none => rw [hx] at h; cases h
  | some p =>
    cases hy : toPD y with
    | none => rw [hx, hy] at h; cases h
    | some q =>
      rw [hx, hy] at h
      have h' : (if SeqAt.shaped p = true ∧ SeqAt.shaped q = true then some (PyData.eqv p q) else none) = some b := h
      split at h'
      · rename_i hs
        cases h'
        exact ⟨p, q, rfl, rfl, hs.1, hs.2, rfl⟩
      · cases h'
theorem io_eq (hu : X.A.units + 64 < cLine) : OpR X (compareOp .Eq) (r2O P eqD) := fun pins s σ H x y u v Q I rx ry ⟨F, dx, dy, d, e, i1, i2, hd, q⟩ => by
  unfold eqD at hd
  cases hb : eqP dx dy with
  | none => rw [hb] at hd; cases hd
  | some b =>
    rw [hb] at hd
    cases hd
    obtain ⟨p1, p2, h1, h2, h3, h4, rfl⟩ := eqP_of hb
    exact op_eqD hu pins s σ H x y u v Q I rx ry ⟨p1, p2, i1.dp e dx h1, i2.dp e dy h2, h3, h4, q.bl e⟩
theorem io_ne (hu : X.A.units + 64 < cLine) : OpR X (compareOp .NotEq) (r2O P neD) := fun pins s σ H x y u v Q I rx ry ⟨F, dx, dy, d, e, i1, i2, hd, q⟩ => by
  unfold neD at hd
  cases hb : eqP dx dy with
  | none => rw [hb] at hd; cases hd
  | some b =>
    rw [hb] at hd
    cases hd
    obtain ⟨p1, p2, h1, h2, h3, h4, rfl⟩ := eqP_of hb
    exact op_neD hu pins s σ H x y u v Q I rx ry ⟨p1, p2, i1.dp e dx h1, i2.dp e dy h2, h3, h4, q.bl e⟩
/-! ### // -/
def fdivC (i j : Int) : Option D := if j ≠ 0 ∧ j.natAbs.log2 < 9000 then some (.int (i.fdiv j)) else none
theorem op_fdivNW : OpR X (binaryOp .FloorDiv) (rI (fun _ j => j ≠ 0 ∧ j.natAbs.log2 < 9000) fun i j => .int (i.fdiv j)) := opI fun _ _ _ _ _ _ _ hc q => PyProof.Rows.floordiv_int hc.1 q (.inl (PyProof.noPylong_of_log2 hc.2))
theorem io_fdiv : OpR X (binaryOp .FloorDiv) (r2O P (int2 fdivC)) := op_int2 op_fdivNW fun i j d H Q hg q => by
  unfold fdivC at hg
  split at hg
  · rename_i hc
    cases hg
    exact ⟨i, j, rfl, rfl, hc, q _ fun F => is_int⟩
  · cases hg
/-! ### is None -/
def isNone : D → Bool
  | .non => true
  | _ => false
theorem Vw.non {d : D} {v : V} (h : Vw P F H d v) : decide (v = .non) = isNone d := by
  cases d with
  | non => rw [show v = .non from h]; rfl
  | bl b => rw [show v = .bl b from h]; rfl
  | int b => rw [show v = .int b from h]; rfl
  | str b => rw [show v = .str b from h]; rfl
  | lst xs => obtain ⟨a, vs, rfl, _⟩ := h; rfl
  | tup xs => obtain ⟨a, vs, rfl, _⟩ := h; rfl
  | dK ks xs => obtain ⟨a, vs, rfl, _⟩ := h; rfl
  | dT ks xs => obtain ⟨a, vs, rfl, _⟩ := h; rfl
  | obj ks xs => obtain ⟨a, dx, vs, rfl, _⟩ := h; rfl
  | scr ns => obtain ⟨a, rfl, _⟩ := h; rfl
  | exc c xs =>
    have h : Is P F (.exc c xs) v := h
    rw [Is] at h
    obtain ⟨a, d, vs, rfl, _⟩ := h
    rfl
theorem pd_isN {j pos'} (ha : PE X a (tV P F0 H0 W fa)) : PC X .Is a (.Constant .none j pos') (tE P F0 H0 W (fun ρ => do let x ← fa ρ; .ok (.bl (isNone x)))) := ⟨fun pins s σ H Q I h => (pc_isN ha).run pins s σ H Q I (by
  obtain ⟨F, ρ, er, z⟩ := h
  refine ⟨F, ρ, er, (PostG.bind (rel := rVw P) z).imp ?_⟩
  rintro v H1 ⟨F1, d, g, i, q⟩
  have e : decide (v = .non) = isNone d := Vw.non i
  rw [e]
  exact q.here g.s is_bl)⟩
theorem pd_notN {j pos'} (ha : PE X a (tV P F0 H0 W fa)) : PC X .IsNot a (.Constant .none j pos') (tE P F0 H0 W (fun ρ => do let x ← fa ρ; .ok (.bl (!isNone x)))) := ⟨fun pins s σ H Q I h => (pc_notN ha).run pins s σ H Q I (by
  obtain ⟨F, ρ, er, z⟩ := h
  refine ⟨F, ρ, er, (PostG.bind (rel := rVw P) z).imp ?_⟩
  rintro v H1 ⟨F1, d, g, i, q⟩
  have e : decide (v = .non) = isNone d := Vw.non i
  rw [e]
  exact q.here g.s is_bl)⟩
/-! ### built-ins -/
theorem VwL.uncons {d : D} {ds : List D} {vs : List V} (h : VwL P F H (d :: ds) vs) : ∃ v r, vs = v :: r ∧ Vw P F H d v ∧ VwL P F H ds r := h
theorem VwL.unnil {vs : List V} (h : VwL P F H [] vs) : vs = [] := h
def cAbs : List D → Option D
  | [.int i] => some (.int (if i < 0 then -i else i))
  | _ => none
theorem ic_abs : CallR X (.builtin "abs") (rcO P cAbs) := fun pins s σ H xs us Q I rx ⟨F, ds, d, e, i, hd, q⟩ => by
  unfold cAbs at hd
  split at hd
  · cases hd
    obtain ⟨v, r, rfl, i1, i⟩ := i.uncons
    obtain rfl := i.unnil
    exact call_abs pins s σ H _ us Q I rx ⟨_, by rw [show v = V.int _ from i1], q.int e⟩
  · cases hd
def cInt : List D → Option D
  | [.int i] => some (.int i)
  | [.bl b] => some (.int (if b then 1 else 0))
  | _ => none
theorem ic_int : CallR X (.type "int") (rcO P cInt) := fun pins s σ H xs us Q I rx ⟨F, ds, d, e, i, hd, q⟩ => by
  unfold cInt at hd
  split at hd
  · cases hd
    obtain ⟨v, r, rfl, i1, i⟩ := i.uncons
    obtain rfl := i.unnil
    exact call_int1 pins s σ H _ us Q I rx (.inl ⟨_, by rw [show v = V.int _ from i1], q.int e⟩)
  · cases hd
    obtain ⟨v, r, rfl, i1, i⟩ := i.uncons
    obtain rfl := i.unnil
    exact call_int1 pins s σ H _ us Q I rx (.inr ⟨_, by rw [show v = V.bl _ from i1], q.int e⟩)
  · cases hd
def cLen : List D → Option D
  | [.lst xs] => some (.int (xs.length : Nat))
  | [.tup xs] => some (.int (xs.length : Nat))
  | [.str z] => if z.length ≤ 1000000 then some (.int (z.length : Nat)) else none
  | _ => none
theorem ic_len : CallR X (.builtin "len") (rcO P cLen) := fun pins s σ H xs us Q I rx ⟨F, ds, d, e, i, hd, q⟩ => by
  unfold cLen at hd
  split at hd
  · cases hd
    obtain ⟨v, r, rfl, i1, i⟩ := i.uncons
    obtain rfl := i.unnil
    obtain ⟨a, vs, rfl, h1, h2⟩ := i1
    exact call_len_seq pins s σ H _ us Q I rx ⟨a, vs, rfl, .inl (.inl h1), by rw [← h2.length]; exact q.int e⟩
  · cases hd
    obtain ⟨v, r, rfl, i1, i⟩ := i.uncons
    obtain rfl := i.unnil
    obtain ⟨a, vs, rfl, h0, h1, h2⟩ := i1
    exact call_len_seq pins s σ H _ us Q I rx ⟨a, vs, rfl, .inr (.inl h1), by rw [← h2.length]; exact q.int e⟩
  · split at hd
    · rename_i hl
      cases hd
      obtain ⟨v, r, rfl, i1, i⟩ := i.uncons
      obtain rfl := i.unnil
      exact call_len_str pins s σ H _ us Q I rx ⟨_, by rw [show v = V.str _ from i1], Nat.le_trans hl (by decide), q.int e⟩
    · cases hd
  · cases hd
/-- bools -/
def bls : List D → Option (List Bool)
  | [] => some []
  | .bl b :: r => (bls r).map fun bs => b :: bs
  | _ => none
theorem bls_of : ∀ {ds : List D} {bs : List Bool} {vs : List V}, bls ds = some bs → IsL P F ds vs → vs = bs.map V.bl
  | [], bs, vs, h, i => by
    cases h
    exact i.unnil
  | d :: r, bs, vs, h, i => by
    obtain ⟨v, r', rfl, i1, i2⟩ := i.uncons
    cases d with
    | bl b =>
      have h' : (bls r).map (fun bs => b :: bs) = some bs := h
      cases hr : bls r with
      | none => rw [hr] at h'; cases h'
      | some bs' =>
        rw [hr] at h'
        cases h'
        rw [un_bl i1, bls_of hr i2]
        rfl
    | _ => cases h
def cAny : List D → Option D
  | [.lst xs] => (bls xs).map fun bs => .bl (bs.any id)
  | _ => none
def cAll : List D → Option D
  | [.lst xs] => (bls xs).map fun bs => .bl (bs.all id)
  | _ => none
theorem ic_any (hc : X.calm = true) : CallR X (.builtin "any") (rcO P cAny) := fun pins s σ H xs us Q I rx ⟨F, ds, d, e, i, hd, q⟩ => by
  unfold cAny at hd
  split at hd
  · rename_i ys
    cases hb : bls ys with
    | none => rw [hb] at hd; cases hd
    | some bs =>
      rw [hb] at hd
      cases hd
      obtain ⟨v, r, rfl, i1, i⟩ := i.uncons
      obtain rfl := i.unnil
      obtain ⟨a, vs, rfl, h1, h2⟩ := i1
      exact cr_any hc pins s σ H _ us Q I rx ⟨a, bs, rfl, by rw [← bls_of hb h2]; exact .inl h1, q.bl e⟩
  · cases hd
theorem ic_all (hc : X.calm = true) : CallR X (.builtin "all") (rcO P cAll) := fun pins s σ H xs us Q I rx ⟨F, ds, d, e, i, hd, q⟩ => by
  unfold cAll at hd
  split at hd
  · rename_i ys
    cases hb : bls ys with
    | none => rw [hb] at hd; cases hd
    | some bs =>
      rw [hb] at hd
      cases hd
      obtain ⟨v, r, rfl, i1, i⟩ := i.uncons
      obtain rfl := i.unnil
      obtain ⟨a, vs, rfl, h1, h2⟩ := i1
      exact cr_all hc pins s σ H _ us Q I rx ⟨a, bs, rfl, by rw [← bls_of hb h2]; exact .inl h1, q.bl e⟩
  · cases hd
/-! ### isinstance -/
/-- what the text says of an own class, for isinstance -/
structure IsiC (K : PySem.W.Frag) (C : Addr) : Prop where
  cl : Cls K C
  ha : PySem.W.findIn K (.ref C) "__class__" = some (some (.builtin "object.__class__"))
  hn : PySem.W.specialIn K (.builtin "object.__class__") "__get__" = some (some (.builtin "getset_descriptor.__get__"))
  htk : PySem.W.takesIn K (.builtin "object.__class__") = some true
  hm : PySem.W.mroIn K C (.type "object") = some true
/-- the type of data -/
def tyD (P : Pm) : D → Value
  | .non => .type "NoneType"
  | .bl _ => .type "bool"
  | .int _ => .type "int"
  | .str _ => .type "str"
  | .lst _ => .type "list"
  | .tup _ => .type "tuple"
  | .dK _ _ => .type "dict"
  | .dT _ _ => .type "dict"
  | .obj c _ => .ref (P.C c)
  | .scr _ => .type "list"
  | .exc c _ => P.xc c
theorem Vw.ty {K : PySem.W.Frag} (hI : ∀ c, IsiC K (P.C c)) {d : D} {v : V} (h : Vw P F H d v) (hs : ∀ ns, d ≠ .scr ns) (hT : ∀ ks xs, d ≠ .dT ks xs) (hE : ∀ c xs, d ≠ .exc c xs) : TyX K H v (tyD P d) := by
  cases d with
  | non => rw [show v = .non from h]; exact .base .non
  | bl b => rw [show v = .bl b from h]; exact .base (.bl b)
  | int b => rw [show v = .int b from h]; exact .base (.int b)
  | str b => rw [show v = .str b from h]; exact .base (.str b)
  | lst xs =>
    obtain ⟨a, vs, rfl, h1 | ⟨o, h1⟩, _⟩ := h
    · exact .base (.lst h1)
    · exact .base (.frz h1)
  | tup xs =>
    obtain ⟨a, vs, rfl, _, h1 | ⟨o, h1⟩, _⟩ := h
    · exact .base (.tup h1)
    · exact .fTuple h1
  | dK ks xs =>
    obtain ⟨a, vs, rfl, h1 | ⟨o, h1⟩, _⟩ := h
    · exact .base (.dK h1)
    · exact .fDict h1
  | dT ks xs => exact absurd rfl (hT ks xs)
  | obj c xs =>
    obtain ⟨a, dx, vs, rfl, h1, _⟩ := h
    exact .base (.ins h1 (hI c).cl (hI c).ha (hI c).hn (hI c).htk (hI c).hm)
  | scr ns => exact absurd rfl (hs ns)
  | exc c xs => exact absurd rfl (hE c xs)
end
end DL
namespace PySem
namespace ErrX
open PySem.W PySem.Calls PyProof.Rows PySem.HandSPX
/-! ### an own error over ListError over ValueError: super().__init__('..'); self.f = v -/
abbrev iArgs (f : Str) (p1 p2 : Pos) : Arguments := { posonlyargs := [], args := [{ arg := "self", annotation := none, pos := p1 }, { arg := f, annotation := none, pos := p2 }], vararg := none, kwonlyargs := [], kw_defaults := [], kwarg := none, defaults := [] }
abbrev iSuper (msg : Str) (j : Nat) (q0 q1 q2 q3 q4 q5 : Pos) : Stmt := .Expr (.Call (.Attribute (.Call (.Name "super" q0) [] [] q1) "__init__" q2) [.Constant (.str msg) j q3] [] q4) q5
abbrev iSet (f : Str) (r1 r2 r3 r4 : Pos) : Stmt := .Assign [.Attribute (.Name "self" r1) f r2] (.Name f r3) r4
abbrev iSc (f : Str) : Scope := { kind := .function, names := [(PySem.Str.ofString "self", .local), (f, .local), (PySem.Str.ofString "__class__", .free), (PySem.Str.ofString "super", .globalImplicit)], isGenerator := false, isCoroutine := false, more := [] }
/-- what the text of __init__ shows by itself (rfl, each) -/
structure ErrEv (fd : FuncData) (fI : Addr) (f msg : Str) (j : Nat) (q0 q1 q2 q3 q4 q5 r1 r2 r3 r4 : Pos) : Prop where
  he : ∃ pl : Sem Bool, ∀ L : Addr, eval (.Call (.Attribute (.Call (.Name "super" q0) [] [] q1) "__init__" q2) [.Constant (.str msg) j q3] [] q4) (callEnv fd L fI) = (do
      let ov ← attributeBase (.Call (.Name "super" q0) [] [] q1) "__init__" (callEnv fd L fI) (eval (.Call (.Name "super" q0) [] [] q1) (callEnv fd L fI))
      standAt q2.atName
      let (f, first) ← holding [ov] (getMethod ov "__init__" pl)
      callWith q4 f first (backTo q4 (starEach [.Constant (.str msg) j q3] (callEnv fd L fI))) [])
  hi : ∀ L : Addr, interactive (callEnv fd L fI) = false
  hs : ∀ L : Addr, swapsWith (.Call (.Attribute (.Call (.Name "super" q0) [] [] q1) "__init__" q2) [.Constant (.str msg) j q3] [] q4) none q5.line (callEnv fd L fI) = pure false
  hs2 : ∀ L : Addr, swapsWith (.Name f r3) (some (.Attribute (.Name "self" r1) f r2)) r4.line (callEnv fd L fI) = pure false
  st : ∀ L : Addr, starEach [.Constant (.str msg) j q3] (callEnv fd L fI) = (false, eval (.Constant (.str msg) j q3) (callEnv fd L fI)) :: starEach [] (callEnv fd L fI)
  bind : ∀ u v : Value, bindArgs fd ⟨[u, v], []⟩ = pure [(("self" : Str), u), (f, v)]
/-- what the text says of such a class at C: f its field, msg its message, x its name -/
structure ErrTxt (prog : Program) (K : Frag) (mg : Str → Option Value) (x f : Str) (C fI : Addr) : Prop where
  gC : mg x = some (.ref C)
  cls : ∃ nm q N bs bm sn sub ab col dd k0 k1 k2 k3 k5, K.lookup C = some (excClassObj nm q C N bs bm true sn sub ab col dd k0 k1 k2 k3 k5 "ValueError.__new__") ∧ refsVE bm = true
  sa : findIn K (.ref C) "__setattr__" = some (some (.builtin "object.__setattr__"))
  ga : findIn K (.ref C) "__getattribute__" = some (some (.builtin "BaseException.__getattribute__"))
  gg : findIn K (.ref C) "__getattr__" = some none
  noN : findIn K (.ref C) f = some none
  iC : findIn K (.ref C) "__init__" = some (some (.ref fI))
  tC : typeIn K (.ref fI) = some (.type "function")
  kC : keepIn K (.ref C) = true
  exC : subIn K (.ref C) (.type "BaseException") = some true
  veC : subIn K (.ref C) (.type "ValueError") = some true
  tyC : typeIn K (.ref C) = some (.type "type")
  hdC : hasDictIn K C = true
  mro : mroIn K C (.ref C) = some true
  sup : ks_superIn K C C "__init__" = some (some (.builtin "ValueError.__init__"))
  opq : nsIn K cStatics "thirdparty.any" = some none
  hsup : mg "super" = none
  htop : (prog.main.scope.names.lookup ("super" : Str)).isSome = false
  fn : ∃ (oc : Value) (od : Option Addr) (q msg : Str) (j : Nat) (doc pm : Value) (an : Option Addr) (ct : Value) (osl : Array (Option Value)) (cc cda : Addr) (p1 p2 q0 q1 q2 q3 q4 q5 r1 r2 r3 r4 : Pos) (ccl cl : Value) (cdd cld : Option Addr) (vs : Array Value) (ccs csl : Array (Option Value)) (file : Str) (tf : Tok),
    K.lookup fI = some ⟨oc, od, .func (ksFn "__init__" q (iArgs f p1 p2) [iSuper msg j q0 q1 q2 q3 q4 q5, iSet f r1 r2 r3 r4] (iSc f) .none .none doc pm an (.ref cda) ct cc), osl⟩ ∧ codeIn K (.ref cda) q = true ∧
    K.lookup cda = some ⟨ccl, cdd, .fields vs, ccs⟩ ∧ vs[2]? = some (.str file tf) ∧ ((prog.main.file : Str) == file) = true ∧ K.lookup cc = some ⟨cl, cld, .cell (some (.ref C)), csl⟩ ∧
    ErrEv (ksFn "__init__" q (iArgs f p1 p2) [iSuper msg j q0 q1 q2 q3 q4 q5, iSet f r1 r2 r3 r4] (iSc f) .none .none doc pm an (.ref cda) ct cc) fI f msg j q0 q1 q2 q3 q4 q5 r1 r2 r3 r4
/-- what __init__ leaves of a fresh exception at x -/
structure InitEnd (h h' : Heap) (x C dx t1 : Addr) (f : Str) (v : Value) : Prop where
  keep : ∀ b o, b ≠ x → h.get? b = some o → h'.get? b = some o
  obj : h'.get? x = some { cls := .ref C, dict := some dx, data := .fields #[.ref t1, .none, .none, .none, .bool false, .none] }
  dbig : h.objs.size ≤ dx
  dne : dx ≠ x
  ns : h'.Ns1 dx (fun y => if y = f then some v else none)
/-- a made error -/
structure OwnMade (h h' : Heap) (e C d : Addr) (f : Str) (v : Value) : Prop where
  keep : ∀ b o, h.get? b = some o → h'.get? b = some o
  new : h.objs.size ≤ e
  obj : ∃ oe vs, h'.get? e = some oe ∧ oe.cls = .ref C ∧ oe.dict = some d ∧ oe.data = .fields vs ∧ vs[1]? = some .none
  dbig : h.objs.size ≤ d
  dne : d ≠ e
  ns : h'.Ns1 d (fun y => if y = f then some v else none)
section
variable {prog : Program} {w : World} {A : Around} {E : Value → Shared → Prop} {h : Heap} {g : Array GenState} {d : Drawn} {t : Nat} {os : OsState}
variable {nm q : Str} {C N : Addr} {bs bm : List Value} {hdct : Bool} {sn : List Str} {sub : List Value} {ab : Bool} {col : Option Bool} {dd : Option Addr} {k0 k1 k2 k3 k5 : Option Value}
/-- the bound ValueError.__init__ is called -/
theorem call_mw {u e t0 : Addr} {rest : List Value} {Q : Value → Shared → Prop}
    (hC : h.get? C = some (excClassObj nm q C N bs bm hdct sn sub ab col dd k0 k1 k2 k3 k5 "ValueError.__new__")) (he : h.get? e = some (excO C t0)) (hu : h.get? u = some (kxs_mw "ValueError.__init__" e)) (hrest : rest.length ≤ sizeLine)
    (hq : ∀ h' t1, (∀ b o, b ≠ e → h.get? b = some o → h'.get? b = some o) → h'.get? e = some (excO C t1) → Q .none ⟨h', g, d, t, os⟩) :
    wpAny (model prog w) A (call (.ref u) rest) Q E ⟨h, g, d, t, os⟩ := by
  refine wpAny_call (codeAny_of_tree ?_)
  show wpAny _ A.in1 (callAny (.ref u) ⟨rest, []⟩) _ _ _
  simp only [callAny]
  refine wpAny_bind (wpAny_load hu ?_)
  simp only [kxs_mw, show (Value.type "method-wrapper" == Value.type "method" || Value.type "method-wrapper" == Value.type "builtin_function_or_method" || Value.type "method-wrapper" == Value.type "method-wrapper") = true by decide, if_true]
  refine W.KFB.if_so (by decide) ?_
  refine wpAny_bind (PySem.W.check_bound_init F.excBase_ValueError.toExcCallFacts hC he rfl ?_)
  refine wpAny_bind (wpAny_pure (wpAny_pure ?_))
  refine ⟨Code.quiet_builtin _ (by decide +kernel), codeAny_builtin F.excBase_ValueError.initEntry ?_⟩
  rw [Around.under_plainId F.excBase_ValueError.init.plain _]
  wp_walk
  refine hq _ h.objs.size (fun b o hb ho => ?_) ?_
  · rw [Heap.get?_update_other _ _ (Ne.symm hb)]
    exact Heap.get?_push_of_some _ ho
  · rw [Heap.get?_update_self _ (Heap.get?_push_of_some _ he) rfl]
    rfl
end
section
variable {prog : Program} {w : World} {A : Around} {E : Value → Shared → Prop} {R : Result → Shared → Prop} {s : Shared} {K : Frag} {mg mb : Str → Option Value} {C fI : Addr} {xn f : Str}
theorem at_of {M : Model} {c : Code} {α : Type} {t : Sem α} {Q : α → Shared → Prop} (h : wpAny M A t Q E s) : _root_.PySem.wpAt M A c t Q E s := fun Γ p _ hΓ => h Γ p hΓ
theorem err_init (T : ErrTxt prog K mg xn f C fI) (hfs : ¬ f = "self") (hfc : ¬ f = "__class__") (hfp : ¬ f = "super") (hfd : (f == ("__debug__" : Str)) = false) {x t0 : Addr} {v : Value} (X : K.In s.heap) (G : s.heap.Ns mainGlobals mg) (GB : s.heap.Ns builtinsNs mb) (hmb : mb "super" = some (.type "super")) (hlim : s.heap.NoLimit) (hx : s.heap.get? x = some (excO C t0)) (hnx : K.lookup x = none) (hroom : A.depth < recursionLimit)
    (hq : ∀ h' tk dx t1, InitEnd s.heap h' x C dx t1 f v → R (.ok (.ret .none)) { s with heap := h', toks := tk }) :
    codeAny (model prog w) A (.call (.ref fI) ⟨[.ref x, v], []⟩) R s := by
  obtain ⟨oc, od, q, msg, j, doc, pm, an, ct, osl, cc, cda, p1, p2, q0, q1, q2, q3, q4, q5, r1, r2, r3, r4, ccl, cl, cdd, cld, vs, ccs, csl, file, tf, ho, hcd, hcode, hvs, hfile, hcell, hev⟩ := T.fn
  obtain ⟨nm, qq, N, bs, bm, sn, sub, ab, col, dd, k0, k1, k2, k3, k5, hC, hbm⟩ := T.cls
  have hcl : clsIn K C = some { name := nm, bases := bs, mro := .ref C :: bm, ns := N, qualname := qq, hasDict := true, slotNames := sn, subclasses := sub, abstract := ab, collection := col, hasDel := false } := by unfold clsIn; rw [hC] <;> rfl
  have l1 : (iSc f).names.lookup ("self" : Str) = some .local := by simp [iSc, List.lookup]
  have hfs' : (f == ("self" : Str)) = false := beq_eq_false_iff_ne.mpr hfs
  have hfc' : (("__class__" : Str) == f) = false := beq_eq_false_iff_ne.mpr (Ne.symm hfc)
  have hfp' : (("super" : Str) == f) = false := beq_eq_false_iff_ne.mpr (Ne.symm hfp)
  have l2 : (iSc f).names.lookup f = some .local := by simp [iSc, List.lookup, hfs']
  have c1 : (("__class__" : Str) == ("self" : Str)) = false := by decide
  have c2 : (("super" : Str) == ("self" : Str)) = false := by decide
  have c3 : (("super" : Str) == ("__class__" : Str)) = false := by decide
  have l3 : (iSc f).names.lookup ("__class__" : Str) = some .free := by simp [iSc, List.lookup, c1, hfc']
  have l4 : (iSc f).names.lookup ("super" : Str) = some .globalImplicit := by simp [iSc, List.lookup, c2, c3, hfp']
  refine ks_codeAny_call_defAt (fd := ksFn "__init__" q (iArgs f p1 p2) [iSuper msg j q0 q1 q2 q3 q4 q5, iSet f r1 r2 r3 r4] (iSc f) .none .none doc pm an (.ref cda) ct cc) (body := [iSuper msg j q0 q1 q2 q3 q4 q5, iSet f r1 r2 r3 r4]) (binds := [("self", .ref x), (f, v)]) hroom (X _ _ ho) rfl hlim (codeRec_of X hcd) rfl (BindsTo.of_eq (hev.bind _ _)) ?_ ?_ (fun h₁ hns hk₁ => ?_)
  · intro y hy
    have hy' : y ∈ (iSc f).names := hy
    simp only [iSc, List.mem_cons, List.not_mem_nil, or_false] at hy'
    rcases hy' with rfl | rfl | rfl | rfl <;> (intro z; cases z)
  · intro y hy
    simp only [List.mem_cons, List.not_mem_nil, or_false] at hy
    rcases hy with rfl | rfl
    · exact l1
    · exact l2
  · have nself : (fun y => [(("self" : Str), Value.ref x), (f, v)].reverse.lookup y) "self" = some (.ref x) := by
      have : (("self" : Str) == f) = false := beq_eq_false_iff_ne.mpr (Ne.symm hfs)
      simp [List.lookup, this]
    have nf : (fun y => [(("self" : Str), Value.ref x), (f, v)].reverse.lookup y) f = some v := by simp [List.lookup]
    generalize hm : (fun y => [(("self" : Str), Value.ref x), (f, v)].reverse.lookup y) = m at hns nself nf
    have X₁ : K.In h₁ := X.keeps hk₁
    have hx₁ := hk₁ _ _ hx
    have hxL : s.heap.objs.size ≠ x := Nat.ne_of_gt (Heap.lt_size hx)
    obtain ⟨hp, gn, dr, tk, os⟩ := s
    -- super().__init__('..')
    obtain ⟨pl, he⟩ := hev.he
    refine ks_wpAt_execs_cons (ks_wpAt_Expr_any (ks_wpAt_MethodCall (pl := pl) ?_ (he _)) (hev.hi _) (hev.hs _))
    · refine ks_wpAt_super_base (f := fI) (cc := cda) l4 l3 (by decide) rfl (X₁ _ _ ho) rfl rfl rfl (X₁ _ _ hcode) rfl hvs hfile T.htop ?_
      refine ks_loadName_global rfl l4 (loadGlobal_builtin (G.keeps hk₁) T.hsup (GB.keeps hk₁) hmb ⟨rfl, ?_⟩)
      refine wpAny_loadName_free rfl l3 rfl ⟨_, X₁ _ _ hcell, rfl⟩ ?_
      refine wpAny_loadName_local rfl l1 hns nself ?_
      refine ks_wpAny_isType_cls (X₁ _ _ hC) rfl ⟨rfl, ?_⟩
      refine ks_wpAny_call_super (X₁ _ _ hC) rfl hx₁ rfl (fun c e => by cases e) (looks_mroIn X₁ T.mro) (fun h₂ e2 k₂ => ?_)
      have X₂ : K.In h₂ := X₁.keeps k₂
      have hx₂ := k₂ _ _ hx₁
      have I₂ : InstAt h₂ x (excO C t0) C none := ⟨hx₂, rfl, rfl, trivial⟩
      have hI : Looks (model prog w) h₂ (isInstance (.ref x) (.type "ValueError")) true := I₂.type.andThen (looks_subIn X₂ T.veC)
      have hm2 := T.sup
      unfold ks_superIn at hm2
      rw [hcl] at hm2
      refine kxs_getMethod kxs_ValueError e2 (looks_opaque X₂ T.opq) (l₀ := .ref C :: bm) ?_ rfl X₂ hm2 hI (ks_ne X₂ I₂ hcl) (by decide) ?_
      · exact fun A Q E s k q => wpAny_bind ((looks_clsIn X₂ hcl) A _ E s k (wpAny_pure q))
      show wpAny _ _ (callWith q4 (.ref h₂.objs.size) [] _ []) _ _ _
      refine kxs_callWith (i := "ValueError.__init__") (x := x) (u := h₂.objs.size) ?_ ?_
      · rw [hev.st]
        rfl
      · rw [hev.st]
        refine evalArgs_plain ?_
        refine Calls.spliced_cons (wpAny_Constant_str (x := msg) (k := j) (pos := q3) (Calls.spliced_nil ?_))
        refine ⟨Heap.get?_push_at rfl rfl, ?_⟩
        have kP : ∀ b o, h₂.get? b = some o → (h₂.push (kxs_mw "ValueError.__init__" x)).get? b = some o := fun b o e => Heap.get?_push_of_some _ e
        refine call_mw (t0 := t0) (kP _ _ (X₂ _ _ hC)) (kP _ _ hx₂) (Heap.get?_push_at rfl rfl) (by show 1 ≤ sizeLine; decide) fun h₃ t1 k₃ hx₃ => ?_
        show _root_.PySem.wpAt _ _ _ (execs _ _) _ _ _
        -- self.f = v
        have keep0 : ∀ b o, b ≠ x → hp.get? b = some o → h₃.get? b = some o := fun b o hb e => k₃ b o hb (kP _ _ (k₂ _ _ (hk₁ _ _ e)))
        have keep1 : ∀ b o, b ≠ x → h₁.get? b = some o → h₃.get? b = some o := fun b o hb e => k₃ b o hb (kP _ _ (k₂ _ _ e))
        have X₃ : K.In h₃ := fun a o e => k₃ a o (fun z => by rw [z, hnx] at e; cases e) (kP _ _ (X₂ a o e))
        have hns₃ : h₃.Ns hp.objs.size m := by
          obtain ⟨oL, es, ep, hL, r⟩ := hns
          exact ⟨oL, es, ep, keep1 _ _ hxL hL, r⟩
        refine ks_wpAt_execs_cons (ks_wpAt_Assign_Attr (at_of ?_) (hev.hs2 _))
        refine wpAny_Name (wpAny_loadName_local rfl l2 hns₃ nf ?_) hfd
        refine wpAny_Name (wpAny_loadName_local rfl l1 hns₃ nself ?_) (by decide)
        refine set_plain X₃ (ox := excO C t1) (od := none) ⟨hx₃, rfl, rfl, trivial⟩ T.sa ?_
        refine exc_osa X₃ hx₃ hcl (show refsVE (.ref C :: bm) = true from hbm) rfl T.noN (fun h₄ tk₄ dx k₄ dn dne hx₄ hn₄ => ?_)
        show _root_.PySem.wpAt _ _ _ (execs _ _) _ _ _
        refine at_of (wpAny_execs_nil ?_)
        refine hq h₄ tk₄ dx t1 ⟨fun b o hb e => k₄ b o hb (keep0 b o hb e), hx₄, ?_, dne, hn₄⟩
        have z1 : hp.objs.size < h₃.objs.size := hns₃.lt
        exact Nat.le_of_lt (Nat.lt_of_lt_of_le z1 dn)
end
end ErrX
end PySem
namespace PySem
namespace ErrX
open PySem.W PySem.Calls PyProof.Rows PySem.HandSPX
section
variable {prog : Program} {w : World} {A : Around} {E : Value → Shared → Prop} {R : Result → Shared → Prop} {s : Shared} {K : Frag} {mg mb : Str → Option Value} {C fI : Addr} {xn f : Str}
/-- f is a plain name -/
structure FldOk (f : Str) : Prop where
  ns : ¬ f = "self"
  nc : ¬ f = "__class__"
  np : ¬ f = "super"
  nd : (f == ("__debug__" : Str)) = false
theorem err_made (T : ErrTxt prog K mg xn f C fI) (hf : FldOk f) {v : Value} (X : K.In s.heap) (G : s.heap.Ns mainGlobals mg) (GB : s.heap.Ns builtinsNs mb) (hmb : mb "super" = some (.type "super")) (hlim : s.heap.NoLimit) (hroom : A.depth + 1 < recursionLimit)
    (hq : ∀ h' tk e d, OwnMade s.heap h' e C d f v → R (.ok (.ret (.ref e))) { s with heap := h', toks := tk }) :
    codeAny (model prog w) A (.call (.ref C) ⟨[v], []⟩) R s := by
  obtain ⟨nm, qq, N, bs, bm, sn, sub, ab, col, dd, k0, k1, k2, k3, k5, hC, hbm⟩ := T.cls
  obtain ⟨hp, gn, dr, tk, os⟩ := s
  have kq : ∀ b o, hp.get? b = some o → ((hp.push (kdv_tup [v])).push (excO C hp.objs.size)).get? b = some o := fun b o e => Heap.get?_push_of_some _ (Heap.get?_push_of_some _ e)
  have hg2 : ((hp.push (kdv_tup [v])).push (excO C hp.objs.size)).get? (hp.objs.size + 1) = some (excO C hp.objs.size) := by heap_get
  have hnx : K.lookup (hp.objs.size + 1) = none := by
    cases e : K.lookup (hp.objs.size + 1) with
    | none => rfl
    | some o =>
      have z : hp.get? (hp.objs.size + 1) = some o := X _ _ e
      exact absurd (Nat.lt_of_succ_lt (Heap.lt_size z)) (Nat.lt_irrefl _)
  have h1 : [v].length ≤ sizeLine := by show 1 ≤ sizeLine; decide
  refine call_own F.excBase_ValueError (fun Z => refsVE_contains Z bm hbm) (X _ _ hC) (looks_findIn X T.iC) (fun self => bind_fn X self T.tC) h1 ?_
  refine err_init (s := ⟨(hp.push (kdv_tup [v])).push (excO C hp.objs.size), gn, dr, tk, os⟩) T hf.ns hf.nc hf.np hf.nd (X.keeps kq) (G.keeps kq) (GB.keeps kq) hmb (hlim.keeps kq) hg2 hnx ?_ fun h' tk' dx t1 ⟨k', hx, dn, dne, hns⟩ => ?_
  · show A.depth + 1 < recursionLimit
    exact hroom
  · have old : ∀ b o, hp.get? b = some o → h'.get? b = some o := fun b o e => k' b o (Nat.ne_of_lt (Nat.lt_succ_of_lt (Heap.lt_size e))) (kq b o e)
    have z : hp.objs.size + 1 + 1 ≤ dx := by
      first
        | (simpa only [Heap.size_push] using dn)
        | exact dn
        | (have q := dn; rw [Heap.size_push, Heap.size_push] at q; exact q)
    exact ⟨rfl, hq h' tk' (hp.objs.size + 1) dx ⟨old, Nat.le_succ _, ⟨_, _, hx, rfl, rfl, rfl, rfl⟩, Nat.le_trans (Nat.le_trans (Nat.le_succ _) (Nat.le_succ _)) z, dne, hns⟩⟩
end
end ErrX
end PySem
namespace DL
open PySem L2 PySem.ErrX
theorem relO_one {v : V} {v' : Value} {f : Str} (r : RelV v v') (y : Str) : RelO (List.lookup y [(f, v)]) (if y = f then some v' else none) := by
  by_cases hw : y = f
  · subst hw
    rw [if_pos rfl, show List.lookup y [(y, v)] = some v by simp [List.lookup]]
    exact r
  · have qw : (y == f) = false := by simpa using hw
    rw [if_neg hw, show List.lookup y [(f, v)] = none by simp [List.lookup, qw]]
    trivial
section
variable {X : Cx} {C fI : Addr} {xn f : Str}
/-- an own error made of one value -/
def tMkE (C : Addr) (f : Str) (ta : TA) : L2.St → Hp → XK → Prop := fun σ H Q => ta σ H fun vs H1 => ∃ v, vs = [v] ∧ ∀ d, H1 d = none → Q (.ref C) (some d) (upd H1 d (.xd [(f, v)]))
theorem pmk_err {a : Expr} {ta : TA} {p pos : Pos} {k : Nat} (T : ErrTxt X.prog X.K X.mg xn f C fI) (hfo : FldOk f) (hr : Room k X.A) (ha : PA X [a] ta) (hg : Gl X xn) (hdb : (xn == ("__debug__" : Str)) = false)
    (he : starEach (a :: []) X.env = (false, eval a X.env) :: starEach [] X.env := by rfl) (hpl : (backTo pos (starEach [] X.env)).any (·.1) = false := by rfl) :
    PMk X (.Call (.Name xn p) [a] [] pos) (tMkE C f ta) := by
  intro pins s σ H Q I h
  refine wpAny_Call_Name_kw (ld_glob I hg T.gC ?_ hdb)
  refine PySem.W.callWith_K (h₀ := X.base) I.ok.mod.kin T.kC (thn (ha.run pos pins s σ H _ I h) fun us s1 hh => ?_) he hpl
  obtain ⟨vs, H1, I1, r1, v, ev, q1⟩ := hh
  subst ev
  refine ⟨I1.kIn, ?_⟩
  cases r1 with
  | cons rv rn =>
    rename_i v' us'
    cases rn
    show wpAny _ _ (call (.ref C) [v']) _ _ _
    have hlim := I1.nolimit
    obtain ⟨mb, hmb1, hmb2⟩ := I1.ok.mod.blt
    have G1 := I1.ok.mod.glob.keeps I1.bk
    have G2 := hmb1.keeps I1.bk
    obtain ⟨hp, g, dr, tk, os⟩ := s1
    refine wpAny_call (err_made T hfo I1.kIn G1 G2 ((hmb2 "super" (by decide)).trans (by decide +kernel)) hlim (by have := hr.dp; omega) fun h' tk' e d M => ?_)
    show MkP X pins σ Q (.ref e) ⟨h', g, dr, tk', os⟩
    obtain ⟨oe, fv, hoe, hc, hd, hdat, h1⟩ := M.obj
    obtain ⟨G', g1, g2⟩ := restrict h' fun b => decide (b ≠ e)
    have gk : ∀ b, b ≠ e → G'.get? b = h'.get? b := fun b hb => g1 b (decide_eq_true hb)
    have ge : G'.get? e = none := g2 e (by simp)
    have old : ∀ b o, hp.get? b = some o → G'.get? b = some o := fun b o q => (gk b (Nat.ne_of_lt (Nat.lt_of_lt_of_le (Heap.lt_size q) M.new))).trans (M.keep b o q)
    have ob : ObjOk X.prog X.w (upd H1 d (.xd [(f, v)])) G' d (.xd [(f, v)]) := ⟨_, M.ns.at (fun o q => (gk d M.dne).trans q), fun y => relO_one rv y⟩
    have J : Inv X pins σ (upd H1 d (.xd [(f, v)])) ⟨G', g, dr, tk', os⟩ := I1.laid (t' := tk') old M.dbig ob
    refine ⟨e, oe, fv, ⟨G', g, dr, tk', os⟩, _, .ref C, some d, rfl, J, fun b o q => ?_, ge, hoe, ⟨hc, hd⟩, hdat, h1, ?_, rfl, I1.bare, raises_own T.exC T.tyC, q1 d (I1.hok.fresh M.dbig)⟩
    · by_cases hb : b = e
      · have q' : G'.get? b = some o := q
        rw [hb, ge] at q'
        cases q'
      · exact (gk b hb).symm.trans q
    · rw [upd_ne (Ne.symm M.dne)]
      exact I1.hok.fresh M.new
/-- e.f of the error that the suite holds -/
def tFE (C : Addr) (f : Str) (a : Addr) (cls : Value) (d : Option Addr) (te : TE) : TE := fun σ H Q => te σ H fun x H1 => x = .ref a ∧ cls = .ref C ∧ ∃ (dd : Addr) (v : V), d = some dd ∧ H1 dd = some (.xd [(f, v)]) ∧ Q v H1
theorem pe_fe {a : Addr} {oe : Obj} {cls : Value} {d : Option Addr} {pn : List (Addr × Obj)} {e : Expr} {te : TE} {pos : Pos} (T : ErrTxt X.prog X.K X.mg xn f C fI) (hz : Zc cls d oe) (hf : ∃ vs, oe.data = .fields vs) (he : PE (X.suite a ((a, oe) :: pn)) e te)
    (hb : attributeBase e f X.env (eval e X.env) = eval e X.env := by rfl) : PE (X.suite a ((a, oe) :: pn)) (.Attribute e f pos) (tFE C f a cls d te) := by
  refine ⟨fun pins s σ H Q I h => ?_⟩
  refine attr_of hb (thn (he.run pins s σ H _ I h) fun u s1 hh => ?_)
  obtain ⟨x, H1, I1, rx, ex, ec, dd, v, ed, ea, q⟩ := hh
  subst ex
  obtain rfl : u = Value.ref a := rx
  subst ec
  subst ed
  obtain ⟨ha, _⟩ := I1.pin (a, oe) (List.mem_append_left _ List.mem_cons_self)
  obtain ⟨vs, hd⟩ := hf
  obtain ⟨mA, hns, hr⟩ := (I1.hok dd _ ea : ObjOk X.prog X.w H1 s1.heap dd (.xd [(f, v)]))
  obtain ⟨od, ho, hl⟩ := lookIn_ns hns
  obtain ⟨u, hu, ru⟩ := RelO.some_of (v := v) (o := mA f) (by rw [← (show List.lookup f [(f, v)] = some v by simp [List.lookup])]; exact hr f)
  have J : PySem.W.InstAt s1.heap a oe C (some od) := ⟨ha, hz.1, by unfold PySem.W.notCls; rw [hd] <;> rfl, by rw [hz.2]; exact ho⟩
  exact HandSPX.exc_get I1.kIn J T.ga T.gg T.exC (PySem.W.findObj_own T.hdC T.noN rfl (by rw [hl, hu])) (handed_of ru) ⟨v, H1, I1.tok _, ru, q⟩
end
end DL
namespace DL
open PySem L2 PySem.ErrX
section
variable {X : Cx} {P : Pm} {F0 : Fz} {H0 : Hp} {W : WX} {a b c e o : Expr} {es : List Expr} {fa fb fc : Env → Res D} {fs : Env → Res (List D)} {pos p apos : Pos} {st : Stmt} {sts tts : List Stmt} {g g1 g2 : Env → RS}
/-- code that is never come to -/
theorem sd_never : PS X st (tS P F0 H0 W (fun _ => .bad)) := ps_never.imp fun N σ H ⟨F, ρ, er, z⟩ => z
/-- raise Own(e) -/
theorem sd_raise {cn : Nat} {xn f : Str} {C fI : Addr} {k : Nat} {pos2 : Pos} (hc : X.calm = true) (tk : Takes X W) (T : ErrTxt X.prog X.K X.mg xn f C fI) (hxc : P.xc cn = .ref C) (hxf : P.xf cn = f) (hfo : FldOk f) (hr : Room k X.A) (ha : PE X a (tE P F0 H0 W fa)) (hg : Gl X xn) (hdb : (xn == ("__debug__" : Str)) = false)
    (he : starEach (a :: []) X.env = (false, eval a X.env) :: starEach [] X.env := by rfl) (hpl : (backTo pos (starEach [] X.env)).any (·.1) = false := by rfl) :
    PS X (.Raise (some (.Call (.Name xn p) [a] [] pos)) none pos2) (tS P F0 H0 W (fun ρ => bindS (fa ρ) ρ fun d => .err cn (some d) ρ)) :=
  (ps_raise hc tk (pmk_err T hfo hr (pa_cons ha pa_nil he) hg hdb he hpl)).imp fun N σ H ⟨F, ρ, er, z⟩ => by
  refine ⟨F, ρ, er, (PostS.bind (rel := rIs P) er z).imp ?_⟩
  rintro v H1 ⟨F1, d, g, i, q⟩
  refine ⟨v, rfl, fun dct hd => ?_⟩
  have er1 := (er.grow g).grow (Grow.junk g.s (.new hd) : Grow P F1 H1 F1 (upd H1 dct (.xd [(f, v)])))
  have := q σ F1 _ (some dct) er1 (.refl F1) ⟨dct, v, rfl, by rw [hxf]; exact upd_same, i⟩
  rw [hxc] at this
  exact this
/-! ### try: body, except X as n: return e -/
def tryD (gb : Env → RS) (c : Nat) (gs : Option D → Env → Res D) : Env → RS := fun ρ => match gb ρ with
  | .err c' p ρ' => if c' = c then bindS (gs p ρ') ρ' .rt else .bad
  | r => r
/-- an expression of a suite that holds the error number c -/
def tX (P : Pm) (F0 : Fz) (H0 : Hp) (c i : Nat) (a : Addr) (cls : Value) (x : Option Addr) (fx : Option D → Env → Res D) : TE := fun σ H Q => ∃ F ρ p, ER P F0 H0 F ρ σ H ∧ σ[i]? = some (some (.ref a)) ∧ cls = P.xc c ∧ ErrAt P F H c p x ∧ PostG P W0 (rIs P) (fx p ρ) F σ H Q
theorem ER.drop {F H : Hp} {ρ : Env} {σ : L2.St} (r : ER P F0 H0 F ρ σ H) (i : Nat) (v : Option V) (h0 : F0.S = none ∨ i ≠ 0) : ER P F0 H0 F (ρ.set i none) (σ.set i v) H where
  g := r.g
  self := fun x hx => by
    rcases h0 with q | q
    · rw [q] at hx
      cases hx
    · rw [List.getElem?_set_ne q]
      exact r.self x hx
  len := by simp [r.len]
  sh := fun j d q => by
    by_cases hj : i = j
    · subst hj
      have hl : i < ρ.length := by simpa using lt_of_get q
      rw [get_set_self hl] at q
      cases q
    · rw [List.getElem?_set_ne hj] at q ⊢
      exact r.sh j d q
  bw := fun j d q => by
    by_cases hj : i = j
    · subst hj
      have hl : i < ρ.length := by simpa using lt_of_get q
      rw [get_set_self hl] at q
      cases q
    · rw [List.getElem?_set_ne hj] at q ⊢
      exact r.bw j d q
  ow := fun j d q => by
    by_cases hj : i = j
    · subst hj
      have hl : i < ρ.length := by simpa using lt_of_get q
      rw [get_set_self hl] at q
      cases q
    · rw [List.getElem?_set_ne hj] at q ⊢
      exact r.ow j d q
  nd := fun j k d e a q1 q2 q3 q4 => by
    by_cases hj : i = j
    · subst hj
      have hl : i < ρ.length := by simpa using lt_of_get q1
      rw [get_set_self hl] at q1
      cases q1
    · by_cases hk : i = k
      · subst hk
        have hl : i < ρ.length := by simpa using lt_of_get q2
        rw [get_set_self hl] at q2
        cases q2
      · rw [List.getElem?_set_ne hj] at q1 q3
        rw [List.getElem?_set_ne hk] at q2 q4
        exact r.nd j k d e a q1 q2 q3 q4
theorem tryD_err {gb : Env → RS} {cn : Nat} {gs : Option D → Env → Res D} {ρ ρ' : Env} {c' : Nat} {p : Option D} (h : gb ρ = .err c' p ρ') : tryD gb cn gs ρ = if c' = cn then bindS (gs p ρ') ρ' .rt else .bad := by
  unfold tryD
  rw [h]
section
variable {gb : Env → RS} {gs : Option D → Env → Res D} {cn i : Nat} {x n : Str} {cv : Value} {np rp pos' : Pos} {body : List Stmt}
theorem PostS.try_ {F : Hp} {ρ : Env} {N : Ends} {ts : Addr → Value → Option Addr → TS} {W' : WX} (z : PostS P F0 H0 W F (tryD gb cn gs ρ) N)
    (hW : ∀ p ρ' σ F' H' x, ER P F0 H0 F' ρ' σ H' → Ex F F' → ErrAt P F' H' cn p x → PostS P F0 H0 W F (bindS (gs p ρ') ρ' .rt) N → W' (P.xc cn) x σ H') : PostS P F0 H0 W' F (gb ρ) N := by
  cases hg : gb ρ with
  | nx ρ' =>
    have e : tryD gb cn gs ρ = .nx ρ' := by unfold tryD; rw [hg]
    rw [e] at z
    exact z
  | rt d =>
    have e : tryD gb cn gs ρ = .rt d := by unfold tryD; rw [hg]
    rw [e] at z
    exact z
  | ro d =>
    have e : tryD gb cn gs ρ = .ro d := by unfold tryD; rw [hg]
    rw [e] at z
    exact z
  | bk ρ' =>
    have e : tryD gb cn gs ρ = .bk ρ' := by unfold tryD; rw [hg]
    rw [e] at z
    exact z
  | ct ρ' =>
    have e : tryD gb cn gs ρ = .ct ρ' := by unfold tryD; rw [hg]
    rw [e] at z
    exact z
  | bad =>
    have e : tryD gb cn gs ρ = .bad := by unfold tryD; rw [hg]
    rw [e] at z
    exact z
  | err c' p ρ' =>
    rw [tryD_err hg] at z
    by_cases hc : c' = cn
    · rw [if_pos hc] at z
      subst hc
      exact fun σ F' H' y er ex q => hW p ρ' σ F' H' y er ex q z
    · rw [if_neg hc] at z
      exact z.elim
theorem sd_tryAs {te : Expr} (hs : X.stack = X.env :: X.outer) (hf : X.env.frame = some X.env.locals) (hN : X.N.Nodup) (hi : X.N[i]? = some n) (hln : X.env.kindOf n = some .local) (hcv : Names X x cv) (hex : PySem.W.exmOne X.K (P.xc cn) cv = some true) (h0 : F0.S = none := by rfl)
    (hb : ∀ (W : WX) (pn : List (Addr × Obj)) (xe : Value → Shared → Prop), Takes (X.tr pn xe) W → PassesOwn (model X.prog X.w) X.A X.env xe → PSs (X.tr pn xe) body (tS P F0 H0 W gb))
    (hsu : ∀ (a : Addr) (oe : Obj) (cls : Value) (d : Option Addr) (pn : List (Addr × Obj)), Zc cls d oe → (∃ vs, oe.data = .fields vs) → PE (X.suite a ((a, oe) :: pn)) te (tX P F0 H0 cn i a cls d fun p ρ => noErr (gs p ρ)))
    (tk : Takes X (fun _ _ _ _ => False) := by exact L2.takes0) :
    PS X (.Try body [.ExceptHandler (some (.Name x np)) (some n) [.Return (some te) rp] pos'] [] [] pos) (tS P F0 H0 W (tryD gb cn fun p ρ => if i < ρ.length then noErr (gs p (ρ.set i none)) else .bad)) :=
  (ps_try_as (tb := fun W => tS P F0 H0 W gb) (ts := fun a cls d => tRet (tX P F0 H0 cn i a cls d fun p ρ => noErr (gs p ρ))) (Wout := fun _ _ _ _ => False) hs hf hN hi hln hcv tk hb (fun a oe cls d pn hz hd => pss_one (ps_ret (hsu a oe cls d pn hz hd)))).imp fun N σ H ⟨F, ρ, er, z⟩ => by
  refine ⟨F, ρ, er, PostS.try_ (ts := fun _ _ _ => tNext) z ?_⟩
  rintro p ρ' σ' F' H' y er' ex' q z'
  refine ⟨true, hex, fun _ a ha => ?_, fun q => by cases q⟩
  by_cases hl : i < ρ'.length
  · rw [if_pos hl] at z'
    refine ⟨F', ρ'.set i none, p, er'.drop i (some (.ref a)) (.inl h0), get_set_self (er'.len ▸ hl), rfl, q, ?_⟩
    show PostG P W0 (rIs P) (noErr (gs p (ρ'.set i none))) F' _ H' N.rt
    cases hr : gs p (ρ'.set i none) with
    | ok d =>
      rw [hr] at z'
      exact fun v F2 H2 g2 i2 => z' v F2 H2 (er'.g.trans g2) (ex'.trans g2.f) i2
    | err c p =>
      rw [hr] at z'
      exact z'.elim
    | bad =>
      rw [hr] at z'
      exact z'.elim
  · rw [if_neg hl] at z'
    exact z'.elim
/-- except X: return e -/
theorem sd_try {te : Expr} (hs : X.stack = X.env :: X.outer) (hf : X.env.frame = some X.env.locals) (hcv : Names X x cv) (hex : PySem.W.exmOne X.K (P.xc cn) cv = some true) {gt : Env → Res D}
    (hb : ∀ (W : WX) (pn : List (Addr × Obj)) (xe : Value → Shared → Prop), Takes (X.tr pn xe) W → PassesOwn (model X.prog X.w) X.A X.env xe → PSs (X.tr pn xe) body (tS P F0 H0 W gb))
    (hsu : ∀ (a : Addr) (oe : Obj) (cls : Value) (d : Option Addr) (pn : List (Addr × Obj)), Zc cls d oe → (∃ vs, oe.data = .fields vs) → PE (X.suite a ((a, oe) :: pn)) te (tE P F0 H0 W0 gt))
    (tk : Takes X (fun _ _ _ _ => False) := by exact L2.takes0) :
    PS X (.Try body [.ExceptHandler (some (.Name x np)) none [.Return (some te) rp] pos'] [] [] pos) (tS P F0 H0 W (tryD gb cn fun _ ρ => noErr (gt ρ))) :=
  (ps_try_only (tb := fun W => tS P F0 H0 W gb) (ts := fun _ _ _ => tRet (tE P F0 H0 W0 gt)) (Wout := fun _ _ _ _ => False) hs hf hcv tk hb (fun a oe cls d pn hz hd => pss_one (ps_ret (hsu a oe cls d pn hz hd)))).imp fun N σ H ⟨F, ρ, er, z⟩ => by
  refine ⟨F, ρ, er, PostS.try_ (ts := fun _ _ _ => tNext) z ?_⟩
  rintro p ρ' σ' F' H' y er' ex' q z'
  refine ⟨true, hex, fun _ a ha => ?_, fun q => by cases q⟩
  refine ⟨F', ρ', er', ?_⟩
  cases hr : gt ρ' with
  | ok d =>
    rw [hr] at z'
    exact fun v F2 H2 g2 i2 => z' v F2 H2 (er'.g.trans g2) (ex'.trans g2.f) i2
  | err c p =>
    rw [hr] at z'
    exact z'.elim
  | bad =>
    rw [hr] at z'
    exact z'.elim
end
/-! ### what a suite says -/
section
variable {cn i : Nat} {x n f : Str} {ad : Addr} {oe : Obj} {cls : Value} {d : Option Addr} {pn : List (Addr × Obj)} {C fI : Addr}
def payD (p : Option D) : Res D := match p with
  | some d => .ok d
  | none => .bad
theorem xd_fe {p1 pos : Pos} (T : ErrTxt X.prog X.K X.mg x f C fI) (hxc : P.xc cn = .ref C) (hxf : P.xf cn = f) (hz : Zc cls d oe) (hf : ∃ vs, oe.data = .fields vs) (hN : X.N[i]? = some n) (hv : Vis X.env.scope n) (hd : (n == ("__debug__" : Str)) = false := by decide) (hcd : (n == ("__classdict__" : Str)) = false := by decide)
    (hb : attributeBase (.Name n p1) f X.env (eval (.Name n p1) X.env) = eval (.Name n p1) X.env := by rfl) :
    PE (X.suite ad ((ad, oe) :: pn)) (.Attribute (.Name n p1) f pos) (tX P F0 H0 cn i ad cls d fun p _ => noErr (payD p)) :=
  (pe_fe T hz hf (pe_var (X := X.suite ad ((ad, oe) :: pn)) hN hv hd hcd) hb).imp fun σ H Q ⟨F, ρ, p, er, hi, hc, he, z⟩ => by
  cases p with
  | none => exact z.elim
  | some dd =>
    obtain ⟨a1, v, h1, h2, h3⟩ := he
    rw [hxf] at h2
    exact ⟨.ref ad, hi, rfl, hc.trans hxc, a1, v, h1, h2, PostG.here (rel := rIs P) z er.s h3⟩
theorem xd_lift {te : Expr} {gt : Env → Res D} (h : PE (X.suite ad ((ad, oe) :: pn)) te (tE P F0 H0 W0 gt)) : PE (X.suite ad ((ad, oe) :: pn)) te (tX P F0 H0 cn i ad cls d fun _ ρ => noErr (gt ρ)) :=
  h.imp fun σ H Q ⟨F, ρ, p, er, hi, hc, he, z⟩ => ⟨F, ρ, er, PostG.noErr z⟩
/-- (constant, e.f) -/
theorem xd_pair {e1 e2 : Expr} {k : Nat} {pos : Pos} {dv : D} {vv : V} {gx : Option D → Env → Res D} (h1 : PE (X.suite ad ((ad, oe) :: pn)) e1 (tC vv)) (hv : ∀ F, Is P F dv vv) (h2 : PE (X.suite ad ((ad, oe) :: pn)) e2 (tX P F0 H0 cn i ad cls d fun p ρ => noErr (gx p ρ)))
    (hs1 : starEach [e1, e2] X.env = (false, eval e1 X.env) :: starEach [e2] X.env := by rfl) (hs2 : starEach [e2] X.env = (false, eval e2 X.env) :: starEach [] X.env := by rfl) :
    PE (X.suite ad ((ad, oe) :: pn)) (.Tuple [e1, e2] k pos) (tX P F0 H0 cn i ad cls d fun p ρ => noErr (do let y ← gx p ρ; .ok (.tup [dv, y]))) :=
  (pe_tup (pa_cons h1 (pa_cons h2 pa_nil hs2) hs1)).imp fun σ H Q ⟨F, ρ, p, er, hi, hc, he, z⟩ => by
  refine ⟨F, ρ, p, er, hi, hc, he, ?_⟩
  replace z : PostG P W0 (rIs P) (noErr (do let y ← gx p ρ; .ok (.tup [dv, y]))) F σ H Q := z
  show PostG P W0 (rIs P) (noErr (gx p ρ)) F σ H _
  cases hr : gx p ρ with
  | ok y =>
    rw [hr] at z
    intro v F' H' g i2
    refine ⟨by show 2 ≤ sizeLine; decide, fun q hq => ?_⟩
    exact z _ (upd F' q (.tup [vv, v])) _ (g.trans (.new g.s hq)) (by show Is P _ (.tup [dv, y]) _; rw [Is]; exact ⟨q, _, rfl, upd_same, .cons (hv _) (.cons (i2.mono (.new (g.s.back hq)) y) .nil)⟩)
  | err c p =>
    rw [hr] at z
    exact z.elim
  | bad =>
    rw [hr] at z
    exact z.elim
end
end
end DL
namespace DL
open PySem L2 PySem.ErrX
section
variable {X : Cx} {P : Pm} {F0 : Fz} {H0 : Hp} {W : WX} {a b c e o : Expr} {es : List Expr} {fa fb fc : Env → Res D} {fs : Env → Res (List D)} {pos p apos : Pos} {st : Stmt} {sts tts : List Stmt} {g g1 g2 : Env → RS} {F H : Hp} {σ : L2.St}
/-! ### isinstance(e, T) -/
def notScr : D → Bool
  | .scr _ => false
  | .exc _ _ => false
  | .dT _ _ => false
  | _ => true
def isiD (ib : D → Option Bool) (x : D) : Res D := if notScr x = true then (match ib x with
  | some b => .ok (.bl b)
  | none => .bad) else .bad
theorem pd_isi {x2 : Str} {tv : V} {u : Value} {ib : D → Option Bool} {p1 p2 : Pos} (hI : ∀ c, IsiC X.K (P.C c)) (kit : ∀ d b, ib d = some b → PySem.W.kitOne X.K (tyD P d) u = some b) (hcl : ClsV tv u) (ht : PE X (.Name x2 p2) (tC tv)) (ha : PE X a (tV P F0 H0 W fa)) (hg : Gl X "isinstance") (hm : X.mg "isinstance" = none)
    (h1 : starEach [a, .Name x2 p2] X.env = (false, eval a X.env) :: starEach [.Name x2 p2] X.env := by rfl) (h2 : (backTo pos (starEach [.Name x2 p2] X.env)).any (·.1) = false := by rfl) (h3 : starEach [.Name x2 p2] X.env = (false, eval (.Name x2 p2) X.env) :: starEach [] X.env := by rfl) :
    PE X (.Call (.Name "isinstance" p1) [a, .Name x2 p2] [] pos) (tE P F0 H0 W (fun ρ => do let x ← fa ρ; isiD ib x)) :=
  (pe_callB call_isi hg hm (by decide +kernel) (pa_cons ha (pa_cons ht pa_nil h3) h1) (by decide) (by decide) h1 h2).imp fun σ H Q ⟨F, ρ, er, z⟩ => by
  refine ⟨F, ρ, er, (PostG.bind (rel := rVw P) z).imp ?_⟩
  rintro v H1 ⟨F1, d, g, i, q⟩
  unfold isiD at q
  split at q
  · rename_i hns
    cases hb : ib d with
    | none =>
      rw [hb] at q
      exact q.elim
    | some b =>
      rw [hb] at q
      exact ⟨v, tv, _, u, b, rfl, hcl, i.ty hI (fun ns e => by subst e; cases hns) (fun ks xs e => by subst e; cases hns) (fun c xs e => by subst e; cases hns), kit d b hb, q.here g.s is_bl⟩
  · exact q.elim
/-! ### self.f = e -/
def setF (nm : Nat → List Str) (f : Str) (ρ : Env) (i : Nat) (d : D) : RS := match ρ[i]? with
  | some (some (.ow (.obj c xs))) => if (nm c)[xs.length]? = some f ∧ xs.length < 100 then .nx (ρ.set i (some (.ow (.obj c (xs ++ [d]))))) else .bad
  | _ => .bad
theorem putF_new {f : Str} {v : V} : ∀ {fs : List (Str × V)}, (∀ q ∈ fs, q.1 ≠ f) → putF f v fs = fs ++ [(f, v)]
  | [], _ => rfl
  | q :: r, h => by
    have h1 := h q List.mem_cons_self
    obtain ⟨k, w⟩ := q
    show (if k = f then (k, v) :: r else (k, w) :: putF f v r) = _
    rw [if_neg h1, putF_new fun z hz => h z (List.mem_cons_of_mem _ hz)]
    rfl
theorem zip_snoc {α β : Type} {v : β} {k : α} : ∀ {ks : List α} {vs : List β}, ks[vs.length]? = some k → ks.zip (vs ++ [v]) = ks.zip vs ++ [(k, v)]
  | [], vs, h => by simp at h
  | k0 :: ks, [], h => by
    simp at h
    subst h
    simp
  | k0 :: ks, v0 :: vs, h => by
    simp at h
    simp [zip_snoc h]
theorem sd_fld {i : Nat} {x f : Str} {p1 pos' : Pos} (hcl : ∀ c, f ∈ P.nm c → Cls X.K (P.C c) ∧ NoAttr X.K (P.C c) f) (hnd : ∀ c, (P.nm c).Nodup) (hv : PE X e (tE P F0 H0 W fa)) (hN : X.N[i]? = some x := by rfl) (hvi : Vis X.env.scope x := by first | exact Or.inl rfl | exact Or.inr (Or.inl rfl) | exact Or.inr (Or.inr rfl)) (hd : (x == ("__debug__" : Str)) = false := by decide)
    (hcd : (x == ("__classdict__" : Str)) = false := by decide) (hs : swapsWith e (some (.Attribute (.Name x p1) f pos')) pos.line X.env = pure false := by rfl) :
    PS X (.Assign [.Attribute (.Name x p1) f pos'] e pos) (tS P F0 H0 W (fun ρ => bindS (fa ρ) ρ fun d => setF P.nm f ρ i d)) := (ps_fld (pe_var hN hvi hd hcd) hv hs).imp fun N σ H ⟨F, ρ, er, z⟩ => by
  refine ⟨F, ρ, er, (PostS.bind (rel := rIs P) er z).imp ?_⟩
  rintro v H1 ⟨F1, d, g, j, z1⟩
  unfold setF at z1
  split at z1
  · rename_i c xs q
    obtain ⟨ad, h1, h2, h3, dx, vs, h4, h5, h6⟩ := (er.grow g).ow i _ q
    split at z1
    · rename_i hk
      have hk1 : (P.nm c)[vs.length]? = some f := by rw [← h6.length]; exact hk.1
      obtain ⟨k1, k2⟩ := hcl c (List.mem_of_getElem? hk1)
      refine ⟨.ref ad, h1, ad, P.C c, dx, _, rfl, h4, k1, k2, ?_, ?_⟩
      · rw [List.length_zip, ← h6.length]
        exact Nat.lt_of_le_of_lt (Nat.min_le_right _ _) (Nat.lt_trans hk.2 (by decide))
      · have e1 : putF f v ((P.nm c).zip vs) = (P.nm c).zip (vs ++ [v]) := by
          rw [zip_snoc hk1]
          refine putF_new fun q hq hqf => ?_
          obtain ⟨n, hn⟩ := List.getElem?_of_mem hq
          rw [List.getElem?_zip_eq_some] at hn
          have hlt : n < vs.length := lt_of_get hn.2
          have e3 : (P.nm c)[n]? = some f := by rw [hn.1, hqf]
          have : n = vs.length := nodup_ix (hnd c) e3 hk1
          omega
        rw [e1]
        refine z1 σ F1 _ ((er.grow g).mut q h1 ⟨dx, vs ++ [v], upd_same, ?_, h6.append (.cons j .nil)⟩) (.refl F1)
        have := lt_of_get hk1
        simp
        omega
    · exact z1.elim
  · exact z1.elim
/-! ### texts -/
def small2 (n m : Nat) : Bool := decide (n + m ≤ 1000000)
/-- + of ints, texts, lists, tuples -/
def addD : D → D → Option D
  | .int i, .int j => some (.int (i + j))
  | .str x, .str y => if small2 x.length y.length = true then some (.str (x ++ y)) else none
  | _, _ => none
theorem io_addS : OpR X (binaryOp .Add) (r2O P addD) := fun pins s σ H x y u v Q I rx ry ⟨F, dx, dy, d, e, i1, i2, hd, q⟩ => by
  unfold addD at hd
  split at hd
  · cases hd
    exact op_add pins s σ H x y u v Q I rx ry ⟨_, _, i1, i2, q.int e⟩
  · split at hd
    · rename_i hz
      cases hd
      exact op_add_str pins s σ H x y u v Q I rx ry ⟨_, _, i1, i2, Nat.le_trans (of_decide_eq_true hz) (by decide), q.str e⟩
    · cases hd
  · cases hd
/-- list + list: a new list -/
def catD : D → D → Option D
  | .lst xs, .lst ys => if small2 xs.length ys.length = true then some (.lst (xs ++ ys)) else none
  | _, _ => none
theorem notIn_sign {c : Nat} {z : Str} : True := trivial
def inS : D → D → Option D
  | .str ⟨cs⟩, .str z => match cs.toList with
    | [c] => some (.bl (decide (c ∈ z.cps.toList)))
    | _ => none
  | _, _ => none
def notInS : D → D → Option D
  | .str ⟨cs⟩, .str z => match cs.toList with
    | [c] => some (.bl (!decide (c ∈ z.cps.toList)))
    | _ => none
  | _, _ => none
theorem arr_one {cs : Array Nat} {c : Nat} (h : cs.toList = [c]) : cs = #[c] := by
  cases cs
  simp at h
  subst h
  rfl
theorem io_inS : OpR X (compareOp .In) (r2O P inS) := fun pins s σ H x y u v Q I rx ry ⟨F, dx, dy, d, e, i1, i2, hd, q⟩ => by
  unfold inS at hd
  split at hd
  · split at hd
    · rename_i c hc
      cases hd
      have := arr_one hc
      subst this
      exact op_in_sign pins s σ H x y u v Q I rx ry ⟨c, _, i1, i2, q.bl e⟩
    · cases hd
  · cases hd
theorem io_notInS : OpR X (compareOp .NotIn) (r2O P notInS) := fun pins s σ H x y u v Q I rx ry ⟨F, dx, dy, d, e, i1, i2, hd, q⟩ => by
  unfold notInS at hd
  split at hd
  · split at hd
    · rename_i c hc
      cases hd
      have := arr_one hc
      subst this
      exact op_notIn_sign pins s σ H x y u v Q I rx ry ⟨c, _, i1, i2, q.bl e⟩
    · cases hd
  · cases hd
/-! ### slices of texts and lists -/
abbrev rOp : Rel (Option Int) (Option Int) := fun _ _ d v => v = d
abbrev tOp' (P : Pm) (F0 : Fz) (H0 : Hp) (W : WX) (f : Env → Res (Option Int)) : TO := tG P F0 H0 W rOp f
def ptI : D → Res (Option Int)
  | .int i => .ok (some i)
  | _ => .bad
theorem _root_.L2.PO.imp {e : Option Expr} {t t' : TO} (h : PO X e t) (q : ∀ σ H Q, t' σ H Q → t σ H Q) : PO X e t' := ⟨fun pins s σ H Q I z => h.run pins s σ H Q I (q σ H Q z)⟩
theorem po_no : PO X none (tOp' P F0 H0 W (fun _ => .ok none)) := po_none.imp fun σ H Q ⟨F, ρ, er, z⟩ => z.here er.s rfl
theorem po_so (h : PE X e (tE P F0 H0 W fa)) : PO X (some e) (tOp' P F0 H0 W (fun ρ => fa ρ >>= ptI)) := (po_some h).imp fun σ H Q ⟨F, ρ, er, z⟩ => by
  refine ⟨F, ρ, er, (PostG.bind (rel := rIs P) z).imp ?_⟩
  rintro v H1 ⟨F1, d, g, i, q⟩
  unfold ptI at q
  split at q
  · exact ⟨_, un_int i, q.here g.s rfl⟩
  · exact q.elim
def cutD (xs : List D) (lo hi : Option Int) : List D := (xs.drop (HT.sIx xs.length 0 lo)).take (HT.sIx xs.length xs.length hi - HT.sIx xs.length 0 lo)
def slcD (x : D) (lo hi : Option Int) : Option D := match x with
  | .str z => if z.length ≤ 1000000 then some (.str (cutS z lo hi)) else none
  | .lst xs => some (.lst (cutD xs lo hi))
  | .tup xs => some (.tup (cutD xs lo hi))
  | _ => none
theorem IsL.cut {ds : List D} {vs : List V} (h : IsL P F ds vs) (lo hi : Option Int) : IsL P F (cutD ds lo hi) (cutV vs lo hi) := by
  unfold cutD cutV
  rw [h.length]
  exact (h.drop _).take _
theorem pd_slc {lo hi : Option Expr} {fl fh : Env → Res (Option Int)} {p2 : Pos} (ha : PE X a (tV P F0 H0 W fa)) (hl : PO X lo (tOp' P F0 H0 W fl)) (hh : PO X hi (tOp' P F0 H0 W fh)) :
    PE X (.Subscript a (.Slice lo hi none p2) pos) (tE P F0 H0 W (fun ρ => do let x ← fa ρ; let l ← fl ρ; let h ← fh ρ; opt (slcD x l h))) :=
  (pe_slice ((sl_str.or sl_list).or sl_tupA) ha hl hh).imp fun σ H Q ⟨F, ρ, er, z⟩ => by
  refine ⟨F, ρ, er, (PostG.bind (rel := rVw P) z).imp ?_⟩
  rintro x H1 ⟨F1, d, g1, i1, z1⟩
  refine ⟨F1, ρ, er.grow g1, (PostG.bind (rel := rOp) z1).imp ?_⟩
  rintro l H2 ⟨F2, l', g2, rfl, z2⟩
  refine ⟨F2, ρ, (er.grow g1).grow g2, (PostG.bind (rel := rOp) z2).imp ?_⟩
  rintro h H3 ⟨F3, h', g3, rfl, z3⟩
  obtain ⟨dr, hd, q⟩ := opt_of z3
  have i3 : Vw P F3 H3 d x := (i1.mono g2.f g2.h d).mono g3.f g3.h d
  unfold slcD at hd
  split at hd
  · split at hd
    · rename_i hz
      cases hd
      exact .inl (.inl ⟨_, i3, Nat.le_trans hz (by decide), Out.str q g3.s⟩)
    · cases hd
  · cases hd
    obtain ⟨ad, vs, rfl, h1, h2⟩ := i3
    exact .inl (.inr ⟨ad, vs, rfl, .inl h1, Out.lst q g3.s (h2.cut _ _)⟩)
  · cases hd
    obtain ⟨ad, vs, rfl, h0, h1, h2⟩ := i3
    refine .inr ⟨ad, vs, rfl, .inl h1, fun hw => ?_, fun _ => Out.tup q g3.s (h2.cut _ _)⟩
    have ew : cutV vs l h = vs := by
      unfold cutV
      rw [hw.1, hw.2]
      simp
    have h5 := h2.cut l h
    rw [ew] at h5
    exact Out.here q g3.s (by rw [Is]; exact ⟨ad, vs, rfl, h0, h5⟩)
  · cases hd
end
end DL
namespace DL
open PySem L2 PySem.ErrX
section
variable {X : Cx} {P : Pm} {F0 : Fz} {H0 : Hp} {W : WX} {a b c e o : Expr} {es : List Expr} {fa fb fc : Env → Res D} {fs : Env → Res (List D)} {pos p apos : Pos} {st : Stmt} {sts tts : List Stmt} {g g1 g2 : Env → RS} {F H : Hp} {σ : L2.St}
/-! ### e.split(sep) -/
def strD : D → Res Str
  | .str x => .ok x
  | _ => .bad
abbrev rSt : Rel Str V := fun _ _ d v => v = .str d
theorem strD_of {d : D} {v : V} {Q : V → Hp → Prop} (s : Sb P F H) (i : Is P F d v) (h : PostG P W rSt (strD d) F σ H Q) : ∃ x, v = .str x ∧ Q v H := by
  cases d with
  | str x => exact ⟨x, un_str i, h.here s (un_str i)⟩
  | _ => exact h.elim
def splD (x y : Str) : Res D := if (y.length == 0) = false ∧ x.length ≤ 1000000 then .ok (.lst ((Txt.split x y).map .str)) else .bad
theorem isL_strs {ys : List Str} : IsL P F (ys.map D.str) (ys.map V.str) := by
  induction ys with
  | nil => exact .nil
  | cons y ys ih => exact .cons is_str ih
theorem nd_split {apos pos : Pos} (ho : PE X o (tE P F0 H0 W fa)) (he : PE X e (tE P F0 H0 W fb))
    (hbase : attributeBase o "split" X.env (eval o X.env) = eval o X.env := by rfl)
    (hfew : ((backTo pos (starEach [e] X.env)).all (fun x => !x.1) && (backToKw pos (keywordEach [] X.env)).all (fun x => x.1.isSome)
      && decide (([e] : List Expr).length + ([] : List Keyword).length + (if ([] : List Keyword).isEmpty then 0 else 1) < 30)) = true := by rfl)
    (hline : (apos.endLine == pos.line) = true := by rfl) (hs1 : starEach [e] X.env = (false, eval e X.env) :: starEach [] X.env := by rfl) (hplain : (backTo pos (starEach [] X.env)).any (·.1) = false := by rfl) :
    PE X (.Call (.Attribute o "split" apos) [e] [] pos) (tN P F0 H0 W (fun ρ => do let x ← fa ρ; let s ← strD x; let y ← fb ρ; let t ← strD y; splD s t)) :=
  (pe_bm PySem.F.plainAttrs_str PySem.F.slot_str_split PySem.F.type_str_split mt_split ho (pa_cons he pa_nil hs1) hbase hfew hline hs1 hplain).imp fun σ H Q ⟨F, ρ, er, z⟩ => by
  refine ⟨F, ρ, er, (PostG.bind (rel := rIs P) z).imp ?_⟩
  rintro x H1 ⟨F1, d, g1, i1, z1⟩
  obtain ⟨x', rfl, F1', s', g1', e1', z1'⟩ := strD_of g1.s i1 (PostG.bind (rel := rSt) z1)
  cases e1'
  have er1 := (er.grow g1).grow g1'
  refine ⟨rfl, F1', ρ, er1, (PostG.bind (rel := rIs P) z1').imp ?_⟩
  rintro y H2 ⟨F2, d2, g2, i2, z2⟩
  obtain ⟨y', rfl, F3, t', g3, e3, z3⟩ := strD_of g2.s i2 (PostG.bind (rel := rSt) z2)
  cases e3
  unfold splD at z3
  by_cases hz : (y'.length == 0) = false ∧ x'.length ≤ 1000000
  · rw [if_pos hz] at z3
    refine ⟨x', y', rfl, rfl, hz.1, Nat.le_trans (Nat.add_le_add_right hz.2 2) (by decide), fun p hp => ?_⟩
    exact z3 _ F3 _ (.junk g3.s (.new hp)) ⟨p, rfl, (((g1.trans g1').trans g2).trans g3).h.back hp, g3.s.back hp, _, upd_same, isL_strs⟩
  · rw [if_neg hz] at z3
    exact z3.elim
/-! ### int(e), str(e) -/
def cInt2 : List D → Option D
  | [.int i] => some (.int i)
  | [.bl b] => some (.int (if b then 1 else 0))
  | [.str x] => if x.length ≤ 640 then (PySem.intText? x).map .int else none
  | _ => none
theorem ic_int2 : CallR X (.type "int") (rcO P cInt2) := fun pins s σ H xs us Q I rx ⟨F, ds, d, e, i, hd, q⟩ => by
  unfold cInt2 at hd
  split at hd
  · cases hd
    obtain ⟨v, r, rfl, i1, i⟩ := i.uncons
    obtain rfl := i.unnil
    exact call_int1 pins s σ H _ us Q I rx (.inl ⟨_, by rw [show v = V.int _ from i1], q.int e⟩)
  · cases hd
    obtain ⟨v, r, rfl, i1, i⟩ := i.uncons
    obtain rfl := i.unnil
    exact call_int1 pins s σ H _ us Q I rx (.inr ⟨_, by rw [show v = V.bl _ from i1], q.int e⟩)
  · rename_i x
    split at hd
    · rename_i hl
      cases hn : PySem.intText? x with
      | none =>
        rw [hn] at hd
        cases hd
      | some n =>
        rw [hn] at hd
        cases hd
        obtain ⟨v, r, rfl, i1, i⟩ := i.uncons
        obtain rfl := i.unnil
        exact call_int_str pins s σ H _ us Q I rx ⟨x, n, by rw [show v = V.str _ from i1], hn, hl, q.int e⟩
    · cases hd
  · cases hd
/-! ### an own function called somewhere below -/
theorem run_at {k n : Nat} {f : Addr} {fd : FuncData} {ps : List Str} {G : List D → Res D} {A' : Around} {pins : List (Addr × Obj)} {s : Shared} {Q : VK} {us : List Value} {vs : List V} {ds : List D} (Fn : FnOk X.prog X.w X.K X.mg X.base (L2.CX X.prog X.w) k f fd ps (spD P n G)) (sb : Sub X k A') (hb : Binds X.K fd ps [])
    (tk : Takes X W) (I : Inv X pins σ H s) (r : Vals vs us) (sx : Sb P F H) (i : IsL P F ds vs) (z : PostG P W (rIs P) (fnG n G ds) F σ H Q) : wpAny (model X.prog X.w) A' (call (.ref f) us) (EP X pins σ Q) X.xe s := by
  have h : spD P n G vs H Q (WE W σ) := by
    have := fnG_of (dvs := []) (dds := []) (n := n) (G := G) (E := WE W σ) Dfl.nil sx i (by rw [List.append_nil]; exact z.sig)
    rw [List.append_nil] at this
    exact this
  have hl : (us ++ []).length = ps.length := by rw [List.append_nil, ← r.length]; exact Fn.len _ _ _ _ h
  have e0 : Env0 X.prog X.w X.K X.mg X.base A' X.stack s H := { I.env0 with frames := by rw [sb.fr]; exact I.env0.frames }
  have hbb := hb s us I.kIn hl
  rw [List.append_nil] at hbb
  refine wpAny_call (codeAny_mono (Fn.run A' X.stack s H ⟨us, []⟩ us vs Q (WE W σ) sb.room e0 hbb r h) fun r s' hq => ?_)
  cases r with
  | error e => exact passAt tk σ pins H s e s' I hq
  | ok fl =>
    cases fl with
    | ret u => exact I.after hq
    | next => exact False.elim hq
    | brk => exact False.elim hq
    | cont => exact False.elim hq
theorem sub_here {k : Nat} (hr : Room k X.A) : Sub X k X.A := ⟨hr, rfl⟩
/-- an own class's method by its name -/
structure OwnM (K : PySem.W.Frag) (C : Addr) (m : Str) (f : Addr) : Prop where
  at_ : PySem.W.findIn K (.ref C) m = some (some (.ref f))
  fn : PySem.W.isFn K (.ref f) = true
theorem inst_at {pins : List (Addr × Obj)} {s : Shared} {ad C dx : Addr} {fs : List (Str × V)} (I : Inv X pins σ H s) (h : H ad = some (.ins C dx fs)) : ∃ ox od, PySem.W.InstAt s.heap ad ox C od := by
  obtain ⟨mA, ho, _⟩ := ins_get I.hok h
  obtain ⟨od, h1, _⟩ := lookIn_ns ho.ns
  exact ⟨_, some od, ho.obj, rfl, rfl, h1⟩
/-! ### - and str of numbers: ints and instances of the class number 0 -/
def negN (G : List D → Res D) : D → Res D
  | .int i => .ok (.int (-i))
  | .obj 0 xs => fnG 1 G [.obj 0 xs]
  | _ => .bad
theorem CmpBack_of {Q : VK} {pins : List (Addr × Obj)} {u : Value} {s : Shared} (h : EP X pins σ Q u s) : PySem.W.CmpBack (EP X pins σ Q) u s := by
  obtain ⟨v, H', I, r, q⟩ := h
  cases u with
  | notImplemented => cases v <;> (first | (obtain ⟨t, e⟩ := r; cases e) | cases r)
  | _ => exact ⟨v, H', I, r, q⟩
theorem pd_neg {k : Nat} {f : Addr} {fd : FuncData} {ps : List Str} {G : List D → Res D} (Fn : FnOk X.prog X.w X.K X.mg X.base (L2.CX X.prog X.w) k f fd ps (spD P 1 G)) (M : OwnM X.K (P.C 0) "__neg__" f) (hr : Room k X.A) (hb : Binds X.K fd ps []) (tk : Takes X W) (ha : PE X a (tE P F0 H0 W fa)) :
    PE X (.UnaryOp .USub a pos) (tE P F0 H0 W (fun ρ => do let x ← fa ρ; negN G x)) := by
  refine ⟨fun pins s σ H Q I h => ?_⟩
  refine PyProof.Rows.UnaryOp_ (thn (ha.run pins s σ H _ I (tG.bind (rel := rIs P) (f := fa) (k := fun _ x => negN G x) h)) ?_)
  rintro v s1 ⟨x, H1, I1, r1, F1, ρ, d, er, i1, q1⟩
  unfold negN at q1
  split at q1
  · have ex := un_int i1
    subst ex
    exact un_neg pins s1 σ H1 _ v Q I1 r1 ⟨_, rfl, q1.here er.s is_int⟩
  · obtain ⟨ad, dx, vs, rfl, h1, h2, h3⟩ := obj_of i1
    obtain rfl : v = Value.ref ad := r1
    obtain ⟨ox, od, J⟩ := inst_at I1 (er.s.ex _ _ h1)
    obtain ⟨m, Fr⟩ := I1.fr
    refine PySem.W.ksp_neg Fr I1.ok.mod.kin J M.at_ M.fn ?_
    exact run_at (vs := [.ref ad]) (ds := [_]) Fn (sub_here hr) hb tk I1 (.cons rfl .nil) er.s (.cons i1 .nil) q1
  · exact q1.elim
def strN (G : List D → Res D) : D → Res D
  | .int i => if i.natAbs.log2 < 1920 then .ok (.str (toString i)) else .bad
  | .obj 0 xs => do let y ← fnG 1 G [.obj 0 xs]; let z ← strD y; .ok (.str z)
  | _ => .bad
theorem pd_strN {p1 : Pos} {k : Nat} {f : Addr} {fd : FuncData} {ps : List Str} {G : List D → Res D} (Fn : FnOk X.prog X.w X.K X.mg X.base (L2.CX X.prog X.w) k f fd ps (spD P 1 G)) (M : OwnM X.K (P.C 0) "__str__" f) (hr : Room (k + 2) X.A) (hb : Binds X.K fd ps []) (tk : Takes X W) (hg : Gl X "str") (hm : X.mg "str" = none) (ha : PE X a (tE P F0 H0 W fa))
    (he : starEach [a] X.env = (false, eval a X.env) :: starEach [] X.env := by rfl) (hpl : (backTo pos (starEach [] X.env)).any (·.1) = false := by rfl) :
    PE X (.Call (.Name "str" p1) [a] [] pos) (tE P F0 H0 W (fun ρ => do let x ← fa ρ; strN G x)) := by
  refine ⟨fun pins s σ H Q I h => ?_⟩
  refine wpAny_Call_Name_kw (ld_blt (u := .type "str") I hg hm (by decide +kernel) ?_)
  obtain ⟨F, ρ, er, z⟩ := h
  refine PyProof.Rows.callWith_type1 (thn ((pa_cons ha pa_nil he).run pos pins s σ H (fun vs H1 => ∃ v, vs = [v] ∧ ∃ F1 d, Grow P F H F1 H1 ∧ Is P F1 d v ∧ PostG P W (rIs P) (strN G d) F1 σ H1 Q) I ⟨F, ρ, er, (PostG.bind (rel := rIs P) z).imp fun v H1 q => ⟨v, rfl, q⟩⟩) ?_) he hpl
  rintro us s1 ⟨vs, H1, I1, r1, v, rfl, F1, d, g1, i1, q1⟩
  obtain ⟨u, rfl, rv⟩ := Vals.one r1
  unfold strN at q1
  split at q1
  · have ex := un_int i1
    subst ex
    split at q1
    · rename_i hl
      exact call_str_int pins s1 σ H1 _ _ Q I1 r1 ⟨_, rfl, hl, q1.here g1.s is_str⟩
    · exact q1.elim
  · obtain ⟨ad, dx, vs, rfl, h1, h2, h3⟩ := obj_of i1
    obtain rfl : u = Value.ref ad := rv
    obtain ⟨ox, od, J⟩ := inst_at I1 (g1.s.ex _ _ h1)
    refine PySem.W.kso_call ?_ I1.kIn J M.at_ M.fn ?_
    · have := (hr.in1.in1).units0
      exact this
    · refine thn (run_at (A' := X.A.in1.in1) (vs := [.ref ad]) (ds := [_]) Fn ((sub_here hr).in1.in1) hb tk I1 (.cons rfl .nil) g1.s (.cons i1 .nil) (PostG.bind (rel := rIs P) q1)) ?_
      rintro w s2 ⟨v2, H2, I2, r2, F2, d2, g2, i2, q2⟩
      obtain ⟨x', rfl, F3, t', g3, e3, z3⟩ := strD_of g2.s i2 (PostG.bind (rel := rSt) q2)
      cases e3
      obtain ⟨t, rfl⟩ := r2
      exact ⟨.str x', H2, I2, ⟨t, rfl⟩, z3.here g3.s is_str⟩
  · exact q1.elim
end
end DL
namespace DL
open PySem L2 PySem.ErrX
section
variable {X : Cx} {P : Pm} {F0 : Fz} {H0 : Hp} {W : WX} {a b c e o : Expr} {es : List Expr} {fa fb fc : Env → Res D} {fs : Env → Res (List D)} {pos p apos : Pos} {st : Stmt} {sts tts : List Stmt} {g g1 g2 : Env → RS} {F H : Hp} {σ : L2.St}
/-! ### + of ints, texts, lists, tuples -/
theorem Inv.rdl {pins : List (Addr × Obj)} {s : Shared} {l : Addr} {xs : List V} (I : Inv X pins σ H s) (h : Rd H l (.lst xs)) : xs.length ≤ sizeLine ∧ ∃ (its : List Value) (n : Nat), Vals xs its ∧ s.heap.get? l = some { cls := .type "list", data := .seq its.toArray n } :=
  (h.ok I.hok : ObjOk X.prog X.w H s.heap l (.lst xs))
def rCatR : R2 := fun x y H Q => ∃ l b xs zs, x = .ref l ∧ y = .ref b ∧ Rd H l (.lst xs) ∧ Rd H b (.lst zs) ∧ xs.length + zs.length ≤ sizeLine ∧ ∀ p, H p = none → Q (.ref p) (upd H p (.lst (xs ++ zs)))
theorem op_catR : OpR X (binaryOp .Add) rCatR := by
  intro pins s σ H x y v u Q I rx ry h
  obtain ⟨l, b, xs, zs, rfl, rfl, hH, hB, hz, q⟩ := h
  cases rx
  cases ry
  obtain ⟨z1, its1, n1, v1, e1⟩ := Inv.rdl I hH
  obtain ⟨z2, its2, n2, v2, e2⟩ := Inv.rdl I hB
  refine PySem.P.add_list e1 e2 ?_ (by rw [List.size_toArray, List.size_toArray, ← v1.length, ← v2.length]; exact hz)
  rw [show its1.toArray ++ its2.toArray = (its1 ++ its2).toArray by simp]
  exact ⟨.ref _, _, I.lnew (t' := s.toks) (v1.append v2) (by rw [List.length_append]; exact hz), rfl, q _ I.fresh⟩
def addA : D → D → Option D
  | .int i, .int j => some (.int (i + j))
  | .str x, .str y => if small2 x.length y.length = true then some (.str (x ++ y)) else none
  | .lst xs, .lst ys => if small2 xs.length ys.length = true then some (.lst (xs ++ ys)) else none
  | .tup xs, .tup ys => if small2 xs.length ys.length = true then some (.tup (xs ++ ys)) else none
  | _, _ => none
theorem io_addA : OpR X (binaryOp .Add) (r2O P addA) := fun pins s σ H x y u v Q I rx ry ⟨F, dx, dy, d, e, i1, i2, hd, q⟩ => by
  unfold addA at hd
  split at hd
  · cases hd
    exact op_add pins s σ H x y u v Q I rx ry ⟨_, _, i1, i2, q.int e⟩
  · split at hd
    · rename_i hz
      cases hd
      exact op_add_str pins s σ H x y u v Q I rx ry ⟨_, _, i1, i2, Nat.le_trans (of_decide_eq_true hz) (by decide), q.str e⟩
    · cases hd
  · split at hd
    · rename_i hz
      cases hd
      obtain ⟨a1, vs1, rfl, h1, j1⟩ := i1
      obtain ⟨a2, vs2, rfl, h2, j2⟩ := i2
      exact op_catR pins s σ H _ _ u v Q I rx ry ⟨a1, a2, vs1, vs2, rfl, rfl, h1, h2, by rw [← j1.length, ← j2.length]; exact Nat.le_trans (of_decide_eq_true hz) (by decide), q.lst e (j1.append j2)⟩
    · cases hd
  · split at hd
    · rename_i hz
      cases hd
      obtain ⟨a1, vs1, rfl, f1, h1, j1⟩ := i1
      obtain ⟨a2, vs2, rfl, f2, h2, j2⟩ := i2
      refine op_catA pins s σ H _ _ u v Q I rx ry ⟨a1, a2, vs1, vs2, rfl, rfl, .inl h1, .inl h2, by rw [← j1.length, ← j2.length]; exact Nat.le_trans (of_decide_eq_true hz) (by decide), fun h0 => ?_, fun _ h0 => ?_, fun _ _ => q.tup e (j1.append j2)⟩
      · have hj := j1.append j2
        rw [h0] at hj
        exact q.here e (by rw [Is]; exact ⟨a2, vs2, rfl, f2, hj⟩)
      · have hj := j1.append j2
        rw [h0, List.append_nil] at hj
        exact q.here e (by rw [Is]; exact ⟨a1, vs1, rfl, f1, hj⟩)
    · cases hd
  · cases hd
/-! ### list(e), tuple(e) of lists and tuples -/
def cList : List D → Option D
  | [.lst xs] => some (.lst xs)
  | [.tup xs] => some (.lst xs)
  | _ => none
theorem ic_list : CallR X (.type "list") (rcO P cList) := fun pins s σ H xs us Q I rx ⟨F, ds, d, e, i, hd, q⟩ => by
  unfold cList at hd
  split at hd
  · cases hd
    obtain ⟨v, r, rfl, i1, i⟩ := i.uncons
    obtain rfl := i.unnil
    obtain ⟨ad, vs, rfl, h1, h2⟩ := i1
    exact call_list_of pins s σ H _ us Q I rx ⟨ad, vs, rfl, .inl (.inl h1), q.lst e h2⟩
  · cases hd
    obtain ⟨v, r, rfl, i1, i⟩ := i.uncons
    obtain rfl := i.unnil
    obtain ⟨ad, vs, rfl, h0, h1, h2⟩ := i1
    exact call_list_of pins s σ H _ us Q I rx ⟨ad, vs, rfl, .inr (.inl h1), q.lst e h2⟩
  · cases hd
def cTup : List D → Option D
  | [.lst xs] => some (.tup xs)
  | [.tup xs] => some (.tup xs)
  | _ => none
theorem ic_tup : CallR X (.type "tuple") (rcO P cTup) := fun pins s σ H xs us Q I rx ⟨F, ds, d, e, i, hd, q⟩ => by
  unfold cTup at hd
  split at hd
  · cases hd
    obtain ⟨v, r, rfl, i1, i⟩ := i.uncons
    obtain rfl := i.unnil
    obtain ⟨ad, vs, rfl, h1, h2⟩ := i1
    exact call_tuple_of pins s σ H _ us Q I rx ⟨ad, vs, rfl, .inl ⟨.inl h1, q.tup e h2⟩⟩
  · cases hd
    obtain ⟨v, r, rfl, i1, i⟩ := i.uncons
    obtain rfl := i.unnil
    obtain ⟨ad, vs, rfl, h0, h1, h2⟩ := i1
    exact call_tuple_of pins s σ H _ us Q I rx ⟨ad, vs, rfl, .inr ⟨.inl h1, q.here e (by rw [Is]; exact ⟨ad, vs, rfl, h0, h2⟩)⟩⟩
  · cases hd
/-! ### f-strings -/
def fmtD : D → Res Str
  | .str y => if y.length ≤ 1000000 then .ok y else .bad
  | .int i => if i.natAbs.log2 < 1920 then .ok (toString i) else .bad
  | _ => .bad
/-- a part of an f-string -/
structure PF (X : Cx) (P : Pm) (F0 : Fz) (H0 : Hp) (W : WX) (e : Expr) (t : TE) (f : Env → Res Str) : Prop where
  pe : PE X e t
  rd : ∀ σ H (Q : V → Hp → Prop), tG P F0 H0 W rSt f σ H Q → t σ H Q
theorem pf_fmt {pos : Pos} (he : PE X e (tE P F0 H0 W fa)) : PF X P F0 H0 W (.FormattedValue e (-1) none pos) (tFmt (tE P F0 H0 W fa)) (fun ρ => fa ρ >>= fmtD) := ⟨pe_fmt he, fun σ H Q ⟨F, ρ, er, z⟩ => by
  refine ⟨F, ρ, er, (PostG.bind (rel := rIs P) z).imp ?_⟩
  rintro v H1 ⟨F1, d, g, i, q⟩
  unfold fmtD at q
  split at q
  · split at q
    · rename_i hl
      exact .inl ⟨_, un_str i, Nat.le_trans hl (by decide), q.here g.s rfl⟩
    · exact q.elim
  · split at q
    · rename_i hl
      exact .inr ⟨_, un_int i, hl, q.here g.s rfl⟩
    · exact q.elim
  · exact q.elim⟩
theorem pf_str {x : Str} {j : Nat} {pos : Pos} : PF X P F0 H0 W (.Constant (.str x) j pos) (tC (.str x)) (fun _ => .ok x) := ⟨pe_str, fun σ H Q ⟨F, ρ, er, z⟩ => PostG.here (rel := rSt) z er.s rfl⟩
theorem pd_f1 {f1 : Env → Res Str} {t1 : TE} {pos : Pos} (h : PF X P F0 H0 W e t1 f1) : PE X (.JoinedStr [e] pos) (tE P F0 H0 W (fun ρ => do let x ← f1 ρ; .ok (.str x))) := (pe_joined1 h.pe).imp fun σ H Q ⟨F, ρ, er, z⟩ => by
  refine h.rd σ H Q ⟨F, ρ, er, (PostG.bind (rel := rSt) z).imp ?_⟩
  rintro v H1 ⟨F1, d, g, rfl, q⟩
  exact q.here g.s is_str
def ckS (x : Str) : Res Str := if x.length ≤ 1000000 then .ok x else .bad
abbrev rStr : Rel Str Str := fun _ _ d v => v = d
theorem ckS_of {x : Str} {Q : Str → Hp → Prop} (s : Sb P F H) (h : PostG P W rStr (ckS x) F σ H Q) : x.length ≤ sizeLine ∧ Q x H := by
  unfold ckS at h
  by_cases hl : x.length ≤ 1000000
  · rw [if_pos hl] at h
    exact ⟨Nat.le_trans hl (by decide), h.here s rfl⟩
  · rw [if_neg hl] at h
    exact h.elim
theorem pd_f3 {e1 e2 e3 : Expr} {f1 f2 f3 : Env → Res Str} {t1 t2 t3 : TE} {pos : Pos} (h1 : PF X P F0 H0 W e1 t1 f1) (h2 : PF X P F0 H0 W e2 t2 f2) (h3 : PF X P F0 H0 W e3 t3 f3) :
    PE X (.JoinedStr [e1, e2, e3] pos) (tE P F0 H0 W (fun ρ => do let x ← f1 ρ; let u ← ckS (Str.empty ++ x); let y ← f2 ρ; let v ← ckS (u ++ y); let z ← f3 ρ; let w ← ckS (v ++ z); .ok (.str w))) :=
  (pe_joined (.cons h1.pe (.cons h2.pe (.cons h3.pe .nil)))).imp fun σ H Q ⟨F, ρ, er, z⟩ => by
  refine h1.rd σ H _ ⟨F, ρ, er, (PostG.bind (rel := rSt) z).imp ?_⟩
  rintro v1 H1 ⟨F1, x, g1, rfl, z1⟩
  obtain ⟨l1, F1', u, g1', rfl, z1'⟩ := ckS_of g1.s (PostG.bind (rel := rStr) z1)
  refine ⟨x, rfl, l1, h2.rd σ H1 _ ⟨F1', ρ, (er.grow g1).grow g1', (PostG.bind (rel := rSt) z1').imp ?_⟩⟩
  rintro v2 H2 ⟨F2, y, g2, rfl, z2⟩
  obtain ⟨l2, F2', v, g2', rfl, z2'⟩ := ckS_of g2.s (PostG.bind (rel := rStr) z2)
  refine ⟨y, rfl, l2, h3.rd σ H2 _ ⟨F2', ρ, (((er.grow g1).grow g1').grow g2).grow g2', (PostG.bind (rel := rSt) z2').imp ?_⟩⟩
  rintro v3 H3 ⟨F3, w, g3, rfl, z3⟩
  obtain ⟨l3, F3', v, g3', rfl, z3'⟩ := ckS_of g3.s (PostG.bind (rel := rStr) z3)
  exact ⟨w, rfl, l3, z3'.here g3'.s is_str⟩
end
end DL
namespace DL
open PySem L2

/-! ### the functions' shapes, by name -/
abbrev fK (d : D) : Env → Res D := fun _ => .ok d
abbrev fOp (r : D → D → Option D) (a b : Env → Res D) : Env → Res D := fun ρ => do let x ← a ρ; let y ← b ρ; opt (r x y)
abbrev fU (r : D → Option D) (a : Env → Res D) : Env → Res D := fun ρ => do let x ← a ρ; opt (r x)
abbrev fM (r : D → Res D) (a : Env → Res D) : Env → Res D := fun ρ => do let x ← a ρ; r x
abbrev fIsN (a : Env → Res D) : Env → Res D := fun ρ => do let x ← a ρ; .ok (.bl (isNone x))
abbrev fNotN (a : Env → Res D) : Env → Res D := fun ρ => do let x ← a ρ; .ok (.bl (!isNone x))
abbrev tB' (a : Env → Res D) : Env → Res Bool := fun ρ => a ρ >>= bo
abbrev tNot' (a : Env → Res Bool) : Env → Res Bool := fun ρ => do let x ← a ρ; .ok (!x)
abbrev tAnd' (a b : Env → Res Bool) : Env → Res Bool := fun ρ => do let x ← a ρ; if x = true then b ρ else .ok false
abbrev tOr' (a b : Env → Res Bool) : Env → Res Bool := fun ρ => do let x ← a ρ; if x = true then .ok true else b ρ
abbrev vAnd (a b : Env → Res D) : Env → Res D := fun ρ => do let x ← a ρ; let k ← bo x; if k = true then b ρ else .ok (.bl false)
abbrev vOr (a b : Env → Res D) : Env → Res D := fun ρ => do let x ← a ρ; let k ← bo x; if k = true then .ok (.bl true) else b ρ
abbrev vNot (a : Env → Res D) : Env → Res D := fun ρ => do let x ← a ρ; let k ← bo x; .ok (.bl (!k))
abbrev fIf (c : Env → Res Bool) (a b : Env → Res D) : Env → Res D := fun ρ => do let k ← c ρ; if k = true then a ρ else b ρ
abbrev lNil : Env → Res (List D) := fun _ => .ok []
abbrev lCons (a : Env → Res D) (l : Env → Res (List D)) : Env → Res (List D) := fun ρ => do let x ← a ρ; let xs ← l ρ; .ok (x :: xs)
abbrev fLst (l : Env → Res (List D)) : Env → Res D := fun ρ => l ρ >>= mkL
abbrev fTup (l : Env → Res (List D)) : Env → Res D := fun ρ => l ρ >>= mkT
abbrev fCall (n : Nat) (G : List D → Res D) (l : Env → Res (List D)) : Env → Res D := fun ρ => do let xs ← l ρ; fnG n G xs
abbrev fMk (c n : Nat) (G : List D → Res (List D)) (l : Env → Res (List D)) : Env → Res D := fun ρ => do let xs ← l ρ; mkG c n G xs
abbrev fB (rc : List D → Option D) (l : Env → Res (List D)) : Env → Res D := fun ρ => do let xs ← l ρ; opt (rc xs)
abbrev fSlc (a : Env → Res D) (l h : Env → Res (Option Int)) : Env → Res D := fun ρ => do let x ← a ρ; let u ← l ρ; let v ← h ρ; opt (slcD x u v)
abbrev oNo : Env → Res (Option Int) := fun _ => .ok none
abbrev oSo (a : Env → Res D) : Env → Res (Option Int) := fun ρ => a ρ >>= ptI
abbrev fSplit (a b : Env → Res D) : Env → Res D := fun ρ => do let x ← a ρ; let s ← strD x; let y ← b ρ; let t ← strD y; splD s t
abbrev fLc (fi : Env → Res (List D)) (h : D → Env → Option Env) (gt : Env → Res Bool) (fe : Env → Res D) (us : List Nat) : Env → Res D := fun ρ => do let items ← fi ρ; let ys ← lcD h gt fe (wipeE ρ us) items; mkL ys
abbrev iSq (a : Env → Res D) : Env → Res (List D) := fun ρ => a ρ >>= seqD
abbrev iR1 (l : Env → Res (List D)) : Env → Res (List D) := fun ρ => l ρ >>= rng1
abbrev tYes' : Env → Res Bool := fun _ => .ok true
abbrev zF (a : Env → Res D) : Env → Res Str := fun ρ => a ρ >>= fmtD
abbrev zS (x : Str) : Env → Res Str := fun _ => .ok x
abbrev fF1 (f1 : Env → Res Str) : Env → Res D := fun ρ => do let x ← f1 ρ; .ok (.str x)
abbrev fF3 (f1 f2 f3 : Env → Res Str) : Env → Res D := fun ρ => do let x ← f1 ρ; let u ← ckS (Str.empty ++ x); let y ← f2 ρ; let v ← ckS (u ++ y); let z ← f3 ρ; let w ← ckS (v ++ z); .ok (.str w)
abbrev sSeq (g1 g2 : Env → RS) : Env → RS := fun ρ => seqS (g1 ρ) g2
abbrev sRet (a : Env → Res D) : Env → RS := fun ρ => bindS (a ρ) ρ .rt
abbrev sIf (c : Env → Res Bool) (g1 g2 : Env → RS) : Env → RS := fun ρ => bindS (c ρ) ρ fun k => if k = true then g1 ρ else g2 ρ
abbrev sSet (i : Nat) (a : Env → Res D) : Env → RS := fun ρ => bindS (a ρ) ρ fun d => .nx (ρ.set i (some (.sh d)))
abbrev sSetO (i : Nat) (a : Env → Res D) : Env → RS := fun ρ => bindS (a ρ) ρ fun d => .nx (ρ.set i (some (.ow d)))
abbrev sFor (fi : Env → Res (List D)) (h : D → Env → Option Env) (g : Env → RS) : Env → RS := fun ρ => bindS (fi ρ) ρ fun items => forD h g items ρ
abbrev sApp (i : Nat) (a : Env → Res D) : Env → RS := fun ρ => bindS (isOw i ρ) ρ fun _ => bindS (a ρ) ρ fun d => appD i ρ d
abbrev sPar (i j : Nat) (l : Env → Res (List D)) : Env → RS := fun ρ => bindS (l ρ) ρ (par2 i j ρ)
abbrev sAsg (a : Env → Res D) (h : D → Env → Option Env) : Env → RS := fun ρ => bindS (a ρ) ρ fun d => match h d ρ with | some ρ' => .nx ρ' | none => .bad
abbrev sRaise (c : Nat) (a : Env → Res D) : Env → RS := fun ρ => bindS (a ρ) ρ fun d => .err c (some d) ρ
abbrev sFld (nm : Nat → List Str) (f : Str) (i : Nat) (a : Env → Res D) : Env → RS := fun ρ => bindS (a ρ) ρ fun d => setF nm f ρ i d
abbrev sFrz (i : Nat) (g : Env → RS) : Env → RS := fun ρ => g (frz i ρ)
abbrev sBad : Env → RS := fun _ => .bad
abbrev sTryAs (gb : Env → RS) (c i : Nat) (gs : Option D → Env → Res D) : Env → RS := tryD gb c fun p ρ => if i < ρ.length then noErr (gs p (ρ.set i none)) else .bad

section
variable {X : Cx} {P : Pm} {F0 : Fz} {H0 : Hp} {W : WX} {a b c e o : Expr} {es : List Expr} {fa fb fc : Env → Res D} {fs : Env → Res (List D)} {pos p apos : Pos} {st : Stmt} {sts tts : List Stmt} {g g1 g2 : Env → RS} {F H : Hp} {σ : L2.St}
variable {k n : Nat} {x : Str} {G : List D → Res D} {GI : List D → Res (List D)}
/-! ### what the program's own things keep -/
structure CalD (prog : Program) (w : World) (K : PySem.W.Frag) (mg : Str → Option Value) (base : Heap) (P : Pm) (k : Nat) (x : Str) (n : Nat) (G : List D → Res D) : Prop where
  ex : ∃ f fd ps, FnOk prog w K mg base (L2.CX prog w) k f fd ps (spD P n G) ∧ mg x = some (.ref f) ∧ PySem.W.keepIn K (.ref f) = true ∧ Binds K fd ps []
theorem pd_cal (c : CalD X.prog X.w X.K X.mg X.base P k x n G) (hr : Room k X.A) (tk : Takes X W) (ha : PA X (e :: es) (tL P F0 H0 W fs)) (hg : Gl X x := by rfl) (hdb : (x == ("__debug__" : Str)) = false := by decide) (he : starEach (e :: es) X.env = (false, eval e X.env) :: starEach es X.env := by rfl) (hpl : (backTo pos (starEach es X.env)).any (·.1) = false := by rfl) :
    PE X (.Call (.Name x p) (e :: es) [] pos) (tE P F0 H0 W (fCall n G fs)) := by
  obtain ⟨f, fd, ps, h1, h2, h3, h4⟩ := c.ex
  have := pd_call (p := p) h1 hr hg h2 h3 h4 .nil Dfl.nil tk ha hdb he hpl
  simpa only [List.append_nil] using this
structure MkD (prog : Program) (w : World) (K : PySem.W.Frag) (mg : Str → Option Value) (base : Heap) (P : Pm) (k : Nat) (x : Str) (cn n : Nat) (G : List D → Res (List D)) : Prop where
  ex : ∃ f fd ps, Mk K (P.C cn) f ∧ FnOk prog w K mg base (L2.CX prog w) k f fd ps (spI P cn n G) ∧ mg x = some (.ref (P.C cn)) ∧ Binds K fd ps []
theorem pd_mk {cn : Nat} (c : MkD X.prog X.w X.K X.mg X.base P k x cn n GI) (hr : Room (k + 1) X.A) (tk : Takes X W) (ha : PA X (e :: es) (tL P F0 H0 W fs)) (hg : Gl X x := by rfl) (hdb : (x == ("__debug__" : Str)) = false := by decide) (he : starEach (e :: es) X.env = (false, eval e X.env) :: starEach es X.env := by rfl) (hpl : (backTo pos (starEach es X.env)).any (·.1) = false := by rfl) :
    PE X (.Call (.Name x p) (e :: es) [] pos) (tE P F0 H0 W (fMk cn n GI fs)) := by
  obtain ⟨f, fd, ps, h0, h1, h2, h4⟩ := c.ex
  have := pd_make (p := p) h0 h1 hr hg h2 h4 .nil Dfl.nil tk ha hdb he hpl
  simpa only [List.append_nil] using this
structure OwnD (prog : Program) (w : World) (K : PySem.W.Frag) (mg : Str → Option Value) (base : Heap) (P : Pm) (k : Nat) (m : Str) (cn n : Nat) (G : List D → Res D) : Prop where
  ex : ∃ f fd ps, FnOk prog w K mg base (L2.CX prog w) k f fd ps (spD P n G) ∧ OwnM K (P.C cn) m f ∧ Binds K fd ps []
theorem pd_ngD (c : OwnD X.prog X.w X.K X.mg X.base P k "__neg__" 0 1 G) (hr : Room k X.A) (tk : Takes X W) (ha : PE X a (tE P F0 H0 W fa)) : PE X (.UnaryOp .USub a pos) (tE P F0 H0 W (fM (negN G) fa)) := by
  obtain ⟨f, fd, ps, h0, h1, h2⟩ := c.ex
  exact pd_neg h0 h1 hr h2 tk ha
theorem pd_stD {p1 : Pos} (c : OwnD X.prog X.w X.K X.mg X.base P k "__str__" 0 1 G) (hr : Room (k + 2) X.A) (tk : Takes X W) (hm : X.mg "str" = none) (ha : PE X a (tE P F0 H0 W fa)) (hg : Gl X "str" := by rfl) (he : starEach [a] X.env = (false, eval a X.env) :: starEach [] X.env := by rfl) (hpl : (backTo pos (starEach [] X.env)).any (·.1) = false := by rfl) :
    PE X (.Call (.Name "str" p1) [a] [] pos) (tE P F0 H0 W (fM (strN G) fa)) := by
  obtain ⟨f, fd, ps, h0, h1, h2⟩ := c.ex
  exact pd_strN h0 h1 hr h2 tk hg hm ha he hpl
/-! ### comparisons as tests, as values -/
theorem td_pc {cop : CmpOp} {f : Env → Res D} (h : PC X cop a b (tE P F0 H0 W f)) (hm : behindInMarks cop b = false) : PT X (.Compare a [cop] [b] pos) (tT P F0 H0 W (tB' f)) := (pt_cmp h hm).imp fun _ _ _ z => tB_of z
theorem pd_pcv {cop : CmpOp} {f : Env → Res D} (h : PC X cop a b (tE P F0 H0 W f)) (hm : behindInMarks cop b = false) : PE X (.Compare a [cop] [b] pos) (tE P F0 H0 W f) := pe_cmp h hm
theorem td_yes : PTs X [] (tT P F0 H0 W tYes') := ⟨fun pins s σ H Q I ⟨F, ρ, er, z⟩ => pts_nil.run pins s σ H Q I (z.here er.s rfl)⟩
/-! ### the script -/
def cLenS : List D → Option D
  | [.scr ns] => some (.int (ns.length : Nat))
  | _ => none
theorem ic_lenS (hK : P.K = X.K) : CallR X (.builtin "len") (rcO P cLenS) := fun pins s σ H xs us Q I rx ⟨F, ds, d, e, i, hd, q⟩ => by
  unfold cLenS at hd
  split at hd
  · cases hd
    obtain ⟨v, r, rfl, i1, i⟩ := i.uncons
    obtain rfl := i.unnil
    obtain ⟨a, rfl, h1⟩ := i1
    rw [hK] at h1
    exact call_len_seq pins s σ H _ us Q I rx ⟨a, _, rfl, .inl h1, by simpa using q.here e is_int⟩
  · cases hd
def itemS : D → D → Option D
  | .scr ns, .int i => (atI ns i).map .int
  | _, _ => none
theorem atI_map {α β : Type} {f : α → β} {xs : List α} {i : Int} {v : α} (h : atI xs i = some v) : atI (xs.map f) i = some (f v) := by
  unfold atI at h ⊢
  rw [List.length_map]
  cases hj : ixN xs.length i with
  | none =>
    rw [hj] at h
    cases h
  | some j =>
    rw [hj] at h
    have h' : xs[j]? = some v := h
    show (xs.map f)[j]? = some (f v)
    rw [List.getElem?_map, h']
    rfl
theorem pd_ixS (hK : P.K = X.K) (ha : PE X a (tV P F0 H0 W fa)) (hb : PE X b (tV P F0 H0 W fb)) (hs : PlainIx b) : PE X (.Subscript a b pos) (tE P F0 H0 W (fOp itemS fa fb)) :=
  (pe_ix ix_seq ha hb hs).imp fun σ H Q z => by
  obtain ⟨F, ρ, er, z⟩ := two_of z
  refine ⟨F, ρ, er, z.imp fun x H1 ⟨F1, ρ1, er1, z1⟩ => ⟨F1, ρ1, er1, z1.imp ?_⟩⟩
  rintro y H2 ⟨F2, dx, dy, s2, i1, i2, z2⟩
  obtain ⟨d, hd, q⟩ := opt_of z2
  unfold itemS at hd
  split at hd
  · rename_i ns i
    obtain ⟨p, rfl, h1⟩ := i1
    rw [hK] at h1
    obtain rfl : y = .int i := i2
    cases hz : atI ns i with
    | none =>
      rw [hz] at hd
      cases hd
    | some z =>
      rw [hz] at hd
      cases hd
      exact .inl ⟨p, _, i, .int z, rfl, rfl, h1, atI_map hz, q _ F2 H2 (.refl s2) is_int⟩
  · cases hd
end
section
variable {prog : Program} {w : World} {K : PySem.W.Frag} {mg : Str → Option Value} {base : Heap} {P : Pm}
/-- an __init__ with defaults -/
theorem fndJ {c : Nat} {x qual : Str} {params : Arguments} {body : List Stmt} {scope : Scope} {dvs : List V} {kws : List (Str × V)} {f : Addr} {fd : FuncData} {N ps : List Str} {k : Nat} {g : Env → RS} {n : Nat} (hn : ps.length = n + 1) (hN : N ≠ []) (Fu : FunD K x qual params body scope dvs kws f fd) (S : FnScope N ps scope)
    (hbody : ∀ (cdv : Value) (A : Around) (outer : List PySem.Env) (s : Shared) (H F0 H0 : Hp) (x : Addr) (E : XK), Room k (A.deeper (PyProof.Rows.envOfC qual scope s.heap.objs.size f cdv)) →
      PSs (cxOf (L2.CX prog w) prog w K mg base N qual scope f cdv A outer s H E) body (tS P ⟨F0, some x⟩ H0 (WE0 E) g)) :
    FnOk prog w K mg base (L2.CX prog w) (k + 1) f fd ps (spI P c n (runI c g N.length)) := by
  refine Fu.ok S (fun vs H Q E ⟨x, dx, args, F, ds, e, _, _, _, i, hl, _⟩ => by rw [e, List.length_cons, ← i.length, hl, hn]) (fun cdv A outer s H vs Q E hr h => ?_)
  obtain ⟨x, dx, args, F, ds, rfl, hx, hf, sx, i, hl, z⟩ := h
  refine ⟨_, hbody cdv A outer s H F (minus H x) x E hr, F, env0I c N.length ds, er_startI hN sx i hx hf, ?_⟩
  unfold runI at z
  cases hg : g (env0I c N.length ds) with
  | nx ρ =>
    rw [hg] at z
    intro σ F' H' er _
    replace z : PostG P (WE0 E) (fun F' _ fs v => v = .non ∧ Is P F' (.obj c fs) (.ref x)) (selfF c ρ) F [] (minus H x) Q := z
    have hx0 := er.self x rfl
    cases hs : selfF c ρ with
    | bad =>
      rw [hs] at z
      exact z.elim
    | err e p => exact absurd hs selfF_noerr
    | ok xs =>
      rw [hs] at z
      rcases selfF_of hs with q | q
      · obtain ⟨a, h1, h2, h3, h4⟩ := er.ow 0 _ q
        rw [hx0] at h1
        cases h1
        obtain ⟨F2, e1, e2, i2, n2⟩ := h4.still er.s h3 rfl
        refine z .non F2 H' ⟨er.g.f.trans e1, er.g.h, e2, fun b o hb => ?_⟩ ⟨rfl, i2⟩
        rcases n2 b o hb with y | y
        · exact er.g.n b o y
        · exact .inr (.inl (y ▸ .of minus_same))
      · obtain ⟨v, h1, h2⟩ := er.sh 0 _ q
        rw [hx0] at h1
        cases h1
        exact z .non F' H' er.g ⟨rfl, h2⟩
  | rt d =>
    rw [hg] at z
    exact z.elim
  | ro d =>
    rw [hg] at z
    exact z.elim
  | bk ρ =>
    rw [hg] at z
    exact z.elim
  | ct ρ =>
    rw [hg] at z
    exact z.elim
  | err e p ρ =>
    rw [hg] at z
    exact fun σ F' H' y er _ q => z F' H' y er.g q
  | bad =>
    rw [hg] at z
    exact z.elim
/-- a def, its name, its promise -/
theorem calD {x y qual : Str} {st : Stmt} {f : Addr} {fd : FuncData} {N ps : List Str} {k : Nat} {g : Env → RS} (Fu : Fun K x qual st f fd) (S : FnScope N ps (defScope st)) (hm : mg y = some (.ref f)) (hb : Binds K fd ps [])
    (hbody : ∀ (cdv : Value) (A : Around) (outer : List PySem.Env) (s : Shared) (H F0 : Hp) (E : XK), Room k (A.deeper (PyProof.Rows.envOfC qual (defScope st) s.heap.objs.size f cdv)) →
      PSs (cxOf (L2.CX prog w) prog w K mg base N qual (defScope st) f cdv A outer s H E) (defBody st) (tS P ⟨F0, none⟩ H (WE0 E) g)) :
    CalD prog w K mg base P (k + 1) y ps.length (runB g N.length) := ⟨f, fd, ps, fnd Fu S hbody, hm, Fu.kp, hb⟩
theorem ownD {c : Nat} {x qual : Str} {st : Stmt} {f : Addr} {fd : FuncData} {N ps : List Str} {k : Nat} {g : Env → RS} (Fu : Fun K x qual st f fd) (S : FnScope N ps (defScope st)) (hm : OwnM K (P.C c) x f) (hb : Binds K fd ps [])
    (hbody : ∀ (cdv : Value) (A : Around) (outer : List PySem.Env) (s : Shared) (H F0 : Hp) (E : XK), Room k (A.deeper (PyProof.Rows.envOfC qual (defScope st) s.heap.objs.size f cdv)) →
      PSs (cxOf (L2.CX prog w) prog w K mg base N qual (defScope st) f cdv A outer s H E) (defBody st) (tS P ⟨F0, none⟩ H (WE0 E) g)) :
    OwnD prog w K mg base P (k + 1) x c ps.length (runB g N.length) := ⟨f, fd, ps, fnd Fu S hbody, hm, hb⟩
theorem mkD {c : Nat} {x y qual : Str} {params : Arguments} {body : List Stmt} {scope : Scope} {dvs : List V} {kws : List (Str × V)} {f : Addr} {fd : FuncData} {N ps : List Str} {k : Nat} {g : Env → RS} {n : Nat} (hn : ps.length = n + 1) (hN : N ≠ []) (Fu : FunD K x qual params body scope dvs kws f fd) (S : FnScope N ps scope) (M : Mk K (P.C c) f) (hm : mg y = some (.ref (P.C c))) (hb : Binds K fd ps [])
    (hbody : ∀ (cdv : Value) (A : Around) (outer : List PySem.Env) (s : Shared) (H F0 H0 : Hp) (x : Addr) (E : XK), Room k (A.deeper (PyProof.Rows.envOfC qual scope s.heap.objs.size f cdv)) →
      PSs (cxOf (L2.CX prog w) prog w K mg base N qual scope f cdv A outer s H E) body (tS P ⟨F0, some x⟩ H0 (WE0 E) g)) :
    MkD prog w K mg base P (k + 1) y c n (runI c g N.length) := ⟨f, fd, ps, M, fndJ hn hN Fu S hbody, hm, hb⟩
/-- the law's head: what a law's def must answer -/

def noT (H : Hp) : Hp := fun b => match H b with
  | some o => if isT o = true then none else some o
  | none => none
theorem noT_of {H : Hp} {a : Addr} {o : HO} (h : noT H a = some o) : H a = some o ∧ isT o = false := by
  unfold noT at h
  split at h
  · rename_i o' e
    split at h
    · cases h
    · rename_i n
      cases h
      exact ⟨e, by simpa using n⟩
  · cases h
theorem noT_at {H : Hp} {a : Addr} {o : HO} (h : H a = some o) (hn : isT o = false) : noT H a = some o := by
  unfold noT
  rw [h]
  exact if_neg (by rw [hn]; simp)
theorem noT_sb {H : Hp} (t : LamX.Tabs P.T H) : Sb P (noT H) H := ⟨fun a o h => (noT_of h).1, fun a o h => (noT_of h).2, t⟩
theorem noT_sq {H : Hp} {a : Addr} {xs : List V} (h : SqL K H a xs) : SqL K (noT H) a xs := by
  rcases h with (h | ⟨o, h⟩) | h
  · exact .inl (.inl (noT_at h rfl))
  · exact .inl (.inr ⟨o, noT_at h rfl⟩)
  · exact .inr h
theorem law_post {G : List D → Res D} (hp : P.K = K) (hG : ∀ ns : List Int, ns.length ≤ 63 → G [.scr ns] = .ok (.bl true)) (H : Hp) (a : Addr) (ns : List Int) (hl : ns.length ≤ 63) (hT : LamX.Tabs P.T H) (hS : SqL K H a (ns.map V.int)) :
    spD P 1 G [.ref a] H (fun v _ => v = .bl true) fun _ _ _ => False := by
  refine ⟨noT H, [.scr ns], noT_sb hT, .cons (by rw [Is]; exact ⟨a, rfl, hp ▸ noT_sq hS⟩) .nil, rfl, ?_⟩
  rw [hG ns hl]
  intro v F' H' _ h
  exact un_bl h
end
end DL
namespace DL
open PySem L2
abbrev dSub : D → D → Option D := int2 fun i j => some (.int (i - j))
abbrev dLt : D → D → Option D := int2 fun i j => some (.bl (decide (i < j)))
abbrev dLe : D → D → Option D := int2 fun i j => some (.bl (decide (i ≤ j)))
abbrev dGt : D → D → Option D := int2 fun i j => some (.bl (decide (j < i)))
abbrev dGe : D → D → Option D := int2 fun i j => some (.bl (decide (j ≤ i)))
/-- turns that a while is given -/
def big : Nat := 10 ^ 400
def ib_int : D → Option Bool
  | .int _ => some true
  | .bl _ => some true
  | .scr _ => none
  | .exc _ _ => none
  | _ => some false
def ib_bool : D → Option Bool
  | .bl _ => some true
  | .scr _ => none
  | .exc _ _ => none
  | _ => some false
def ib_Ratio : D → Option Bool
  | .obj _ _ => some true
  | .scr _ => none
  | .exc _ _ => none
  | _ => some false
section
variable {X : Cx} {P : Pm} {F0 : Fz} {H0 : Hp} {W : WX} {pos : Pos}
theorem pd_gl {x z : Str} (hg : Gl X x) (hm : ∃ t, X.mg x = some (.str z t)) (hd : (x == ("__debug__" : Str)) = false) : PE X (.Name x pos) (tE P F0 H0 W (fK (.str z))) := by
  obtain ⟨t, ht⟩ := hm
  exact pd_const (pe_glob hg ht (v := .str z) ⟨t, rfl⟩ hd) fun F => by rw [Is]
end
/-- no built-in's object is one of the class at C -/
structure NoB (K : PySem.W.Frag) (C : Addr) : Prop where
  n1 : PySem.W.kitOne K (.type "NoneType") (.ref C) = some false
  n2 : PySem.W.kitOne K (.type "bool") (.ref C) = some false
  n3 : PySem.W.kitOne K (.type "int") (.ref C) = some false
  n4 : PySem.W.kitOne K (.type "str") (.ref C) = some false
  n5 : PySem.W.kitOne K (.type "list") (.ref C) = some false
  n6 : PySem.W.kitOne K (.type "tuple") (.ref C) = some false
  n7 : PySem.W.kitOne K (.type "dict") (.ref C) = some false
section
variable {K : PySem.W.Frag} {P : Pm} {C : Addr}
theorem kit_int (h : ∀ c, PySem.W.kitOne K (.ref (P.C c)) (.type "int") = some false) : ∀ d b, ib_int d = some b → PySem.W.kitOne K (tyD P d) (.type "int") = some b := by
  intro d b hb
  cases d <;> simp only [ib_int, Option.some.injEq] at hb <;> (try subst hb) <;> first | exact kit_ty rfl | exact h _ | cases hb
theorem kit_bool (h : ∀ c, PySem.W.kitOne K (.ref (P.C c)) (.type "bool") = some false) : ∀ d b, ib_bool d = some b → PySem.W.kitOne K (tyD P d) (.type "bool") = some b := by
  intro d b hb
  cases d <;> simp only [ib_bool, Option.some.injEq] at hb <;> (try subst hb) <;> first | exact kit_ty rfl | exact h _ | cases hb
theorem kit_Ratio (hC : ∀ c, P.C c = C) (h : NoB K C) : ∀ d b, ib_Ratio d = some b → PySem.W.kitOne K (tyD P d) (.ref C) = some b := by
  intro d b hb
  cases d <;> simp only [ib_Ratio, Option.some.injEq] at hb <;> (try subst hb) <;> first | exact h.n1 | exact h.n2 | exact h.n3 | exact h.n4 | exact h.n5 | exact h.n6 | exact h.n7 | cases hb | skip
  show PySem.W.kitOne K (.ref (P.C _)) (.ref C) = some true
  rw [hC]
  unfold PySem.W.kitOne
  rw [if_pos (by simp)]
end
end DL
namespace PySem
namespace ErrX
open PySem.W PySem.Calls PyProof.Rows
theorem asInt_ref {x : Addr} {ox : Obj} {M : Model} {A : Around} {E : Value → Shared → Prop} {s : Shared} {Q : Option Int → Shared → Prop} (at_ : s.heap.get? x = some ox) (hd : ∀ i u, ox.data ≠ .prim (.int i u)) (hq : Q none s) : wpAny M A (asInt? (.ref x)) Q E s := by
  simp only [asInt?]
  refine wpAny_bind (wpAny_load at_ ?_)
  split
  · rename_i i u h
    exact absurd h (hd i u)
  · exact wpAny_pure hq
theorem decl_ref {name : String} {f : Int → Int → Sem Fin} {r : Bool} {a : Int} {t : Tok} {x : Addr} {ox : Obj} {M : Model} {A : Around} {E : Value → Shared → Prop} {s : Shared} {Q : Fin → Shared → Prop} (at_ : s.heap.get? x = some ox) (hd : ∀ i u, ox.data ≠ .prim (.int i u)) (hq : Q (.done (.ret .notImplemented)) s) :
    wpAny M A (Builtin.Int.intBinary name f r ⟨[.int a t, .ref x], []⟩) Q E s := by
  unfold Builtin.Int.intBinary
  have e1 : slotArgs name 1 { pos := [Value.int a t, Value.ref x] } = pure (Value.int a t, [Value.ref x]) := rfl
  have e2 : Builtin.Int.intOfSelf (Value.int a t) = pure a := rfl
  rw [e1, pure_bind]
  dsimp only
  rw [e2, pure_bind]
  refine wpAny_bind (asInt_ref at_ hd ?_)
  dsimp only
  exact wpAny_bind (wpAny_rule (wpAny_pure hq))
section
variable {prog : Program} {w : World} {A : Around} {E : Value → Shared → Prop} {s : Shared} {K : Frag} {x C L f : Addr} {h₀ : Heap} {m : Str → Option Value} {ox : Obj} {od : Option Obj}
/-- what an int and an instance of an own class need for a binary operator: the int's way declines, the class's reflected one is taken -/
structure RBin (op : Operator) (idl : String) : Prop where
  fills : fillsNumberSlot (.type "int") op.info.2 = pure true
  slot : Slot "int" (PySem.dunder op.info.2) idl
  decl : ∀ {prog : Program} {w : World} {A : Around} {E : Value → Shared → Prop} {s : Shared} {Q : Value → Shared → Prop} {a : Int} {t : Tok} {x : Addr} {ox : Obj}, s.heap.get? x = some ox → (∀ i u, ox.data ≠ .prim (.int i u)) → Q .notImplemented s → wpAny (model prog w) A (call (.builtin idl) [.int a t, .ref x]) Q E s
theorem rbin_K {op : Operator} {idl : String} {a : Int} {t : Tok} {Q : Value → Shared → Prop} (R : RBin op idl) (F : Fr h₀ L s.heap m) (X₀ : K.In h₀) (I : InstAt s.heap x ox C od) (hd : ∀ i u, ox.data ≠ .prim (.int i u)) (hc : selfFirst K C = true) {g : Addr}
    (hs : findIn K (.ref C) (PySem.dunder op.info.2) = some (some (.ref g))) (hr : findIn K (.ref C) (dunderR op.info.2) = some (some (.ref f))) (hf : isFn K (.ref f) = true) (hsub : subIn K (.ref C) (.type "int") = some false)
    (h : wpAny (model prog w) A (call (.ref f) [.ref x, .int a t]) (W.CmpBack Q) E s) : wpAny (model prog w) A (binaryOp op (.int a t) (.ref x)) Q E s := by
  have X := X₀.keeps F.keep
  obtain ⟨cd, rest, hcd, hm⟩ := ksp_first hc
  obtain ⟨fl, sl, dc⟩ := R
  rcases hi : op.info with ⟨sym, nm'⟩
  rw [hi] at hs hr fl sl
  dsimp only at hs hr fl sl
  have one := ksp_try X I hr hf h
  have L1 : Looks (model prog w) s.heap (typeOf (.ref x)) (.ref C) := I.type
  have L3 : Looks (model prog w) s.heap (fillsNumberSlot (.ref C) nm') true := fills_K X hcd hm hs
  have L5 : Looks (model prog w) s.heap (isSubtype (.ref C) (.type "int")) false := looks_subIn X hsub
  have hne : (Value.type "int" == Value.ref C) = false := Bool.eq_false_iff.mpr fun q => by cases beq_iff_eq.mp q
  have ha : s.TypeIs (.int a t) "int" := typeIs_int s a t
  simp only [binaryOp, hi]
  refine wpAny_holding (wpAny_bind ?_)
  unfold binaryOp1
  refine wpAny_bind (wpAny_typeOf ha (wpAny_bind (L1.at (wpAny_bind (wpAny_of_eq fl ?_)))))
  simp only [hne, Bool.false_eq_true, if_false]
  refine wpAny_bind (L3.at ?_)
  simp only [Bool.and_self, if_true]
  refine wpAny_bind (L5.at ?_)
  have hpy : numberSlotInPython (.type "int") nm' = pure false := rfl
  simp only [Bool.false_eq_true, if_false, pure_bind, Bool.not_false, Bool.and_self, if_true, hpy]
  have t1 : wpAny (model prog w) A (tryMethod (.int a t) (PySem.dunder nm') (.ref x)) (fun r s' => r = none ∧ s' = s) E s := by
    unfold tryMethod
    refine wpAny_bind (wpAny_callSpecial?_slot ha sl (dc I.at_ hd ?_))
    exact wpAny_pure ⟨rfl, rfl⟩
  refine wpAny_bind (wpAny_mono t1 (fun r s' hr' => ?_) fun _ _ e => e)
  obtain ⟨rfl, rfl⟩ := hr'
  refine wpAny_bind (wpAny_mono one (fun r s' hr' => ?_) fun _ _ e => e)
  obtain ⟨v, rfl, hq⟩ := hr'
  exact wpAny_bind (wpAny_rule (wpAny_pure (wpAny_pure hq)))
theorem decl_call {id : String} {name : String} {ff : Int → Int → Sem Fin} {nm : Str} (slot : Slot "int" nm id) (entry : entryFor table id = some (Builtin.Int.intBinary name ff)) (args : ∀ (a : Int) (t : Tok) (x : Addr), argsOk id ⟨[.int a t, .ref x], []⟩)
    {prog : Program} {w : World} {A : Around} {E : Value → Shared → Prop} {s : Shared} {Q : Value → Shared → Prop} {a : Int} {t : Tok} {x : Addr} {ox : Obj} (at_ : s.heap.get? x = some ox) (hd : ∀ i u, ox.data ≠ .prim (.int i u)) (hq : Q .notImplemented s) :
    wpAny (model prog w) A (call (.builtin id) [.int a t, .ref x]) Q E s := by
  refine call_meets slot (typeIs_int s a t) entry (args a t x) (S := fun _ R s => (∃ ox : Obj, s.heap.get? x = some ox ∧ ∀ i u, ox.data ≠ .prim (.int i u)) ∧ R (.ok (.ret .notImplemented)) s) ?_ ⟨⟨ox, at_, hd⟩, hq⟩
  intro prog w A R s ⟨⟨o, h1, h2⟩, h3⟩
  exact decl_ref h1 h2 h3
end
end ErrX
end PySem
namespace DL
open PySem L2
theorem rb_add : PySem.ErrX.RBin .Add "int.__add__" := ⟨F.fills_int_add, F.slot_int_add, fun h1 h2 h3 => PySem.ErrX.decl_call F.slot_int_add F.entry_int_add (fun _ _ _ => F.args_int_add_2 _ _) h1 h2 h3⟩
theorem rb_sub : PySem.ErrX.RBin .Sub "int.__sub__" := ⟨F.fills_int_sub, F.slot_int_sub, fun h1 h2 h3 => PySem.ErrX.decl_call F.slot_int_sub F.entry_int_sub (fun _ _ _ => F.args_int_sub_2 _ _) h1 h2 h3⟩
theorem rb_mul : PySem.ErrX.RBin .Mult "int.__mul__" := ⟨F.fills_int_mul, F.slot_int_mul, fun h1 h2 h3 => PySem.ErrX.decl_call F.slot_int_mul F.entry_int_mul (fun _ _ _ => F.args_int_mul_2 _ _) h1 h2 h3⟩
/-- what the top tells of a class of numbers, for one operator -/
structure NumC (K : PySem.W.Frag) (C : Addr) (m mr : Str) : Prop where
  sf : PySem.W.selfFirst K C = true
  a1 : ∃ fo, PySem.W.findIn K (.type "int") m = some fo
  a2 : ∃ ro, PySem.W.findIn K (.type "int") mr = some ro
  s1 : PySem.W.subIn K (.type "int") (.ref C) = some false
  s2 : PySem.W.subIn K (.ref C) (.type "int") = some false
def opN (gi : Int → Int → Option D) (G GR : List D → Res D) : D → D → Res D
  | .int i, .int j => opt (gi i j)
  | .obj 0 xs, .int j => fnG 2 G [.obj 0 xs, .int j]
  | .obj 0 xs, .obj 0 ys => fnG 2 G [.obj 0 xs, .obj 0 ys]
  | .int i, .obj 0 ys => fnG 2 GR [.obj 0 ys, .int i]
  | _, _ => .bad
@[simp] abbrev fN (r : D → D → Res D) (a b : Env → Res D) : Env → Res D := fun ρ => do let x ← a ρ; let y ← b ρ; r x y
section
variable {X : Cx} {P : Pm} {F0 : Fz} {H0 : Hp} {W : WX} {a b : Expr} {fa fb : Env → Res D} {pos : Pos} {σ : L2.St} {H F : Hp} {k kr : Nat} {op : Operator} {idl : String} {m mr : Str} {gi : Int → Int → Option D} {G GR : List D → Res D}
theorem two_ofE {kk : D → D → Res D} {Q : VK} (h : tE P F0 H0 W (fun ρ => do let x ← fa ρ; let y ← fb ρ; kk x y) σ H Q) :
    tE P F0 H0 W fa σ H fun x H1 => tE P F0 H0 W fb σ H1 fun y H2 => ∃ F dx dy, Sb P F H2 ∧ Is P F dx x ∧ Is P F dy y ∧ PostG P W (rIs P) (kk dx dy) F σ H2 Q := by
  obtain ⟨F, ρ, er, z⟩ := h
  refine ⟨F, ρ, er, (PostG.bind (rel := rIs P) z).imp ?_⟩
  rintro x H1 ⟨F1, dx, g1, i1, z1⟩
  refine ⟨F1, ρ, er.grow g1, (PostG.bind (rel := rIs P) z1).imp ?_⟩
  rintro y H2 ⟨F2, dy, g2, i2, z2⟩
  exact ⟨F2, dx, dy, g2.s, i1.mono g2.f dx, i2, z2⟩
theorem ins_data {pins : List (Addr × Obj)} {s : Shared} {ad C dx : Addr} {fs : List (Str × V)} (I : Inv X pins σ H s) (h : H ad = some (.ins C dx fs)) : ∃ ox od, PySem.W.InstAt s.heap ad ox C od ∧ ∀ i u, ox.data ≠ .prim (.int i u) := by
  obtain ⟨mA, ho, _⟩ := ins_get I.hok h
  obtain ⟨od, h1, _⟩ := lookIn_ns ho.ns
  exact ⟨_, some od, ⟨ho.obj, rfl, rfl, h1⟩, fun i u e => by cases e⟩
theorem pd_opN (R : PySem.ErrX.RBin op idl) (hd : PySem.dunder op.info.2 = m) (hdr : PySem.dunderR op.info.2 = mr) (N : NumC X.K (P.C 0) m mr) (hi : OpR X (binaryOp op) (r2O P (int2 gi)))
    (c : OwnD X.prog X.w X.K X.mg X.base P k m 0 2 G) (cr : OwnD X.prog X.w X.K X.mg X.base P kr mr 0 2 GR) (hr : Room k X.A) (hrr : Room kr X.A) (tk : Takes X W) (ha : PE X a (tE P F0 H0 W fa)) (hb : PE X b (tE P F0 H0 W fb)) :
    PE X (.BinOp a op b pos) (tE P F0 H0 W (fN (opN gi G GR) fa fb)) := by
  obtain ⟨f, fd, ps, c1, c2, c3⟩ := c.ex
  obtain ⟨fr, fdr, psr, d1, d2, d3⟩ := cr.ex
  obtain ⟨fo, hfo⟩ := N.a1
  obtain ⟨ro, hro⟩ := N.a2
  refine ⟨fun pins s σ H Q I h => ?_⟩
  refine wpAny_BinOp (binT ha hb I (two_ofE h) fun v u s2 x y H2 I2 rx ry ⟨F, dx, dy, e, i1, i2, q⟩ => ?_)
  unfold opN at q
  split at q
  · exact od_of hi pins s2 σ F H2 x y v u _ _ Q I2 rx ry e (i1.vw e _) (i2.vw e _) q
  · obtain ⟨ad, dd, vs, rfl, h1, h2, h3⟩ := obj_of i1
    obtain rfl : v = Value.ref ad := rx
    obtain ⟨ox, od, J, _⟩ := ins_data I2 (e.ex _ _ h1)
    obtain ⟨mm, Fr⟩ := I2.fr
    obtain rfl := un_int i2
    obtain ⟨t, rfl⟩ := ry
    refine PySem.W.ksp_binT Fr I2.ok.mod.kin J (T := "int") rfl N.sf (by rw [hd]; exact c2.at_) c2.fn (by rw [hdr]; exact d2.at_) (.inr ⟨fr, rfl⟩) (by rw [hd]; exact hfo) (by rw [hdr]; exact hro) N.s1 ?_
    exact wpAny_mono (run_at (vs := [.ref ad, .int _]) (ds := [_, _]) c1 (sub_here hr) c3 tk I2 (.cons rfl (.cons ⟨t, rfl⟩ .nil)) e (.cons i1 (.cons i2 .nil)) q) (fun _ _ z => CmpBack_of z) fun _ _ z => z
  · obtain ⟨ad, dd, vs, rfl, h1, h2, h3⟩ := obj_of i1
    obtain ⟨bd, dd', vs', rfl, h1', h2', h3'⟩ := obj_of i2
    obtain rfl : v = Value.ref ad := rx
    obtain rfl : u = Value.ref bd := ry
    obtain ⟨ox, od, J, _⟩ := ins_data I2 (e.ex _ _ h1)
    obtain ⟨ox', od', J', _⟩ := ins_data I2 (e.ex _ _ h1')
    obtain ⟨mm, Fr⟩ := I2.fr
    refine PySem.W.binop_K Fr I2.ok.mod.kin J J'.type N.sf (by rw [hd]; exact c2.at_) c2.fn ?_
    exact wpAny_mono (run_at (vs := [.ref ad, .ref bd]) (ds := [_, _]) c1 (sub_here hr) c3 tk I2 (.cons rfl (.cons rfl .nil)) e (.cons i1 (.cons i2 .nil)) q) (fun _ _ z => CmpBack_of z) fun _ _ z => z
  · obtain ⟨bd, dd', vs', rfl, h1', h2', h3'⟩ := obj_of i2
    obtain rfl : u = Value.ref bd := ry
    obtain rfl := un_int i1
    obtain ⟨t, rfl⟩ := rx
    obtain ⟨ox', od', J', hp⟩ := ins_data I2 (e.ex _ _ h1')
    obtain ⟨mm, Fr⟩ := I2.fr
    refine PySem.ErrX.rbin_K R Fr I2.ok.mod.kin J' hp N.sf (by rw [hd]; exact c2.at_) (by rw [hdr]; exact d2.at_) d2.fn N.s2 ?_
    exact wpAny_mono (run_at (vs := [.ref bd, .int _]) (ds := [_, _]) d1 (sub_here hrr) d3 tk I2 (.cons rfl (.cons ⟨t, rfl⟩ .nil)) e (.cons i2 (.cons i1 .nil)) q) (fun _ _ z => CmpBack_of z) fun _ _ z => z
  · exact q.elim
end
end DL
namespace PySem
namespace ErrX
open PySem.W PySem.Calls PyProof.Rows
section
variable {prog : Program} {w : World} {A : Around} {E : Value → Shared → Prop} {s : Shared} {K : Frag} {x C L f : Addr} {h₀ : Heap} {m : Str → Option Value} {ox : Obj} {od : Option Obj}
/-- an int == an instance of an own class: the class answers -/
theorem req_K {a : Int} {t : Tok} {Q : Value → Shared → Prop} (hu : A.units < cLine) (Fm : Fr h₀ L s.heap m) (X₀ : K.In h₀) (I : InstAt s.heap x ox C od) (hd : ∀ i u, ox.data ≠ .prim (.int i u)) (hs : findIn K (.ref C) "__eq__" = some (some (.ref f))) (hf : isFn K (.ref f) = true) (hsub : subIn K (.ref C) (.type "int") = some false)
    (h : wpAny (model prog w) A (call (.ref f) [.ref x, .int a t]) (W.CmpBack Q) E s) : wpAny (model prog w) A (richCompare .Eq (.int a t) (.ref x)) Q E s := by
  have X := X₀.keeps Fm.keep
  have one : wpAny (model prog w) A (tryCompare (.ref x) "__eq__" (.int a t)) (fun r s' => ∃ v, r = some v ∧ Q v s') E s := by
    unfold tryCompare
    refine wpAny_bind (ifBound_K X I hs hf (wpAny_mono h (fun v s' hv => ?_) fun _ _ e => e))
    cases v <;> first | exact hv.elim | exact wpAny_pure ⟨_, rfl, hv⟩
  have ha : s.TypeIs (.int a t) "int" := typeIs_int s a t
  have t1 : wpAny (model prog w) A (tryCompare (.int a t) "__eq__" (.ref x)) (fun r s' => r = none ∧ s' = s) E s := by
    unfold tryCompare
    refine wpAny_bind (wpAny_callSpecialIfBound?_slot ha F.slot_int_eq (decl_call F.slot_int_eq F.entry_int_eq (fun _ _ _ => F.args_int_eq_2 _ _) I.at_ hd ?_))
    exact wpAny_pure ⟨rfl, rfl⟩
  have hne : (Value.type "int" != Value.ref C) = true := rfl
  have L5 : Looks (model prog w) s.heap (isSubtype (.ref C) (.type "int")) false := looks_subIn X hsub
  unfold richCompare
  have o1 : oneThing? .Eq (.int a t) (.ref x) = none := rfl
  simp only [o1]
  refine wpAny_holding (wpAny_bind (wpAny_cRoomFor hu ?_))
  refine wpAny_bind (wpAny_typeOf ha (wpAny_bind (I.type.here ?_)))
  simp only [hne, if_true]
  refine wpAny_bind (L5.here ?_)
  simp only [Bool.false_eq_true, if_false, Bool.not_false, if_true]
  refine wpAny_bind (wpAny_mono t1 (fun r s' z => ?_) fun _ _ e => e)
  obtain ⟨rfl, rfl⟩ := z
  refine wpAny_bind (wpAny_mono one (fun r s' z => ?_) fun _ _ e => e)
  obtain ⟨v, rfl, hq⟩ := z
  exact wpAny_pure hq
/-- not, of what the class's __eq__ tells -/
def NotBack (Q : Value → Shared → Prop) (v : Value) (s' : Shared) : Prop := ∃ b, v = .bool b ∧ Q (.bool (!b)) s'
theorem objNe_call {b : Value} {Q : Value → Shared → Prop} (hu : A.in1.units < cLine) (X : K.In s.heap) (I : InstAt s.heap x ox C od) (hs : findIn K (.ref C) "__eq__" = some (some (.ref f))) (hf : isFn K (.ref f) = true) (hm : mroIn K C (.type "object") = some true)
    (h : wpAny (model prog w) A.in1 (call (.ref f) [.ref x, b]) (NotBack Q) E s) : wpAny (model prog w) A (call (.builtin "object.__ne__") [.ref x, b]) Q E s := by
  refine wpAny_call (codeAny_call_builtin F.cmp_object.ne.plain F.cmpEntry_ne (PySem.W.check_slot F.cmpKind_ne F.cmpSplit_ne (I.type.andThen (PySem.W.looks_mroIn X hm)) (F.cmpArgs_ne _ _) ?_))
  unfold Builtin.«object.__ne__»
  have e1 : slotArgs "__ne__" 1 { pos := [Value.ref x, b] } = pure (Value.ref x, [b]) := rfl
  rw [e1, pure_bind]
  dsimp only
  refine wpAny_bind (wpAny_cRoomFor hu ?_)
  refine wpAny_bind (ifBound_K X I hs hf (wpAny_mono h (fun v s' hv => ?_) fun _ _ e => e))
  obtain ⟨k, rfl, hq⟩ := hv
  dsimp only
  exact wpAny_bind (wpAny_of_eq (rfl : truthy (.bool k) = pure k) (wpAny_pure hq))
theorem bound_ne {M : Model} {args : List Value} {Q : Option Value → Shared → Prop} (X : K.In s.heap) (I : InstAt s.heap x ox C od) (hs : findIn K (.ref C) "__ne__" = some (some (.builtin "object.__ne__")))
    (h : wpAny M A (call (.builtin "object.__ne__") (.ref x :: args)) (fun v => Q (some v)) E s) : wpAny M A (callSpecialIfBound? (.ref x) "__ne__" args) Q E s := by
  have fin : wpAny M A (call (.builtin "object.__ne__") ([.ref x] ++ args) >>= fun v => pure (some v)) Q E s := wpAny_bind (wpAny_mono h (fun _ _ z => wpAny_pure z) fun _ _ z => z)
  unfold callSpecialIfBound? bindSpecialIfBound?
  refine wpAny_holding (wpAny_bind (wpAny_bind (wpAny_bind (I.type.here ((looks_findIn X hs).here (wpAny_bind (wpAny_askSetting (wpAny_ite ?_))))))))
  split
  · exact wpAny_bind (wpAny_of_eq (F.cmp_object.ne.bind _) (wpAny_pure (by exact fin)))
  · exact wpAny_tryCatch (wpAny_bind (wpAny_of_eq (F.cmp_object.ne.bind _) (wpAny_pure (by exact fin))))
theorem try_ne {b : Value} {Q : Value → Shared → Prop} (hu : A.in1.units < cLine) (X : K.In s.heap) (I : InstAt s.heap x ox C od) (hs : findIn K (.ref C) "__eq__" = some (some (.ref f))) (hf : isFn K (.ref f) = true) (hn : findIn K (.ref C) "__ne__" = some (some (.builtin "object.__ne__"))) (hm : mroIn K C (.type "object") = some true)
    (h : wpAny (model prog w) A.in1 (call (.ref f) [.ref x, b]) (NotBack Q) E s) : wpAny (model prog w) A (tryCompare (.ref x) "__ne__" b) (fun r s' => ∃ v, r = some v ∧ Q v s') E s := by
  unfold tryCompare
  have z := objNe_call (Q := fun v s' => (∃ k, v = .bool k) ∧ Q v s') hu X I hs hf hm (wpAny_mono h (fun v s' ⟨k, e, q⟩ => ⟨k, e, ⟨!k, rfl⟩, q⟩) fun _ _ e => e)
  refine wpAny_bind (bound_ne X I hn (wpAny_mono z (fun v s' hz => ?_) fun _ _ e => e))
  obtain ⟨⟨k, rfl⟩, q⟩ := hz
  exact wpAny_pure ⟨_, rfl, q⟩
/-- an instance != something -/
theorem ne_K {b tb : Value} {Q : Value → Shared → Prop} (hu : A.units < cLine) (hu1 : A.in1.units < cLine) (Fm : Fr h₀ L s.heap m) (X₀ : K.In h₀) (I : InstAt s.heap x ox C od) (hb : Looks (model prog w) s.heap (typeOf b) tb) (hnf : notFirst K C tb = true) (hs : findIn K (.ref C) "__eq__" = some (some (.ref f))) (hf : isFn K (.ref f) = true) (hn : findIn K (.ref C) "__ne__" = some (some (.builtin "object.__ne__"))) (hm : mroIn K C (.type "object") = some true)
    (h : wpAny (model prog w) A.in1 (call (.ref f) [.ref x, b]) (NotBack Q) E s) : wpAny (model prog w) A (richCompare .NotEq (.ref x) b) Q E s := by
  have X := X₀.keeps Fm.keep
  have one := try_ne hu1 X I hs hf hn hm h
  unfold richCompare
  simp only [oneThing_ref]
  refine wpAny_holding (wpAny_bind (wpAny_cRoomFor hu (wpAny_bind (I.type.here (wpAny_bind (hb.here ?_))))))
  have fin : wpAny (model prog w) A (tryCompare (.ref x) "__ne__" b) (fun r s' => ∃ v, r = some v ∧ Q v s') E s := one
  split
  · rename_i q
    have e : subIn K tb (.ref C) = some false := by
      rcases Bool.or_eq_true_iff.mp hnf with z | z
      · rw [beq_iff_eq.mp z] at q
        simp at q
      · exact beq_iff_eq.mp z
    refine wpAny_bind ((looks_subIn X e).here ?_)
    refine wpAny_bind (wpAny_mono fin (fun r s' z => ?_) fun _ _ e => e)
    obtain ⟨v, rfl, hq⟩ := z
    exact wpAny_pure hq
  · refine wpAny_bind (wpAny_pure (wpAny_bind (wpAny_mono fin (fun r s' z => ?_) fun _ _ e => e)))
    obtain ⟨v, rfl, hq⟩ := z
    exact wpAny_pure hq
/-- an int != an instance -/
theorem rne_K {a : Int} {t : Tok} {Q : Value → Shared → Prop} (hu : A.units < cLine) (hu1 : A.in1.units < cLine) (Fm : Fr h₀ L s.heap m) (X₀ : K.In h₀) (I : InstAt s.heap x ox C od) (hd : ∀ i u, ox.data ≠ .prim (.int i u)) (hs : findIn K (.ref C) "__eq__" = some (some (.ref f))) (hf : isFn K (.ref f) = true) (hn : findIn K (.ref C) "__ne__" = some (some (.builtin "object.__ne__"))) (hm : mroIn K C (.type "object") = some true) (hsub : subIn K (.ref C) (.type "int") = some false)
    (h : wpAny (model prog w) A.in1 (call (.ref f) [.ref x, .int a t]) (NotBack Q) E s) : wpAny (model prog w) A (richCompare .NotEq (.int a t) (.ref x)) Q E s := by
  have X := X₀.keeps Fm.keep
  have one := try_ne hu1 X I hs hf hn hm h
  have ha : s.TypeIs (.int a t) "int" := typeIs_int s a t
  have t1 : wpAny (model prog w) A (tryCompare (.int a t) "__ne__" (.ref x)) (fun r s' => r = none ∧ s' = s) E s := by
    unfold tryCompare
    refine wpAny_bind (wpAny_callSpecialIfBound?_slot ha F.slot_int_ne (decl_call F.slot_int_ne F.entry_int_ne (fun _ _ _ => F.args_int_ne_2 _ _) I.at_ hd ?_))
    exact wpAny_pure ⟨rfl, rfl⟩
  have hne : (Value.type "int" != Value.ref C) = true := rfl
  have L5 : Looks (model prog w) s.heap (isSubtype (.ref C) (.type "int")) false := looks_subIn X hsub
  unfold richCompare
  have o1 : oneThing? .NotEq (.int a t) (.ref x) = none := rfl
  simp only [o1]
  refine wpAny_holding (wpAny_bind (wpAny_cRoomFor hu ?_))
  refine wpAny_bind (wpAny_typeOf ha (wpAny_bind (I.type.here ?_)))
  simp only [hne, if_true]
  refine wpAny_bind (L5.here ?_)
  simp only [Bool.false_eq_true, if_false, Bool.not_false, if_true]
  refine wpAny_bind (wpAny_mono t1 (fun r s' z => ?_) fun _ _ e => e)
  obtain ⟨rfl, rfl⟩ := z
  refine wpAny_bind (wpAny_mono one (fun r s' z => ?_) fun _ _ e => e)
  obtain ⟨v, rfl, hq⟩ := z
  exact wpAny_pure hq
end
end ErrX
end PySem
namespace DL
open PySem L2
def eqN (G : List D → Res D) : D → D → Res D
  | .obj 0 xs, y => if notScr y = true then fnG 2 G [.obj 0 xs, y] else .bad
  | .int i, .obj 0 ys => fnG 2 G [.obj 0 ys, .int i]
  | x, y => opt (eqD x y)
def notB (r : D) : Res D := match r with
  | .bl b => .ok (.bl (!b))
  | _ => .bad
def neN (G : List D → Res D) : D → D → Res D
  | .obj 0 xs, y => if notScr y = true then (do let r ← fnG 2 G [.obj 0 xs, y]; notB r) else .bad
  | .int i, .obj 0 ys => do let r ← fnG 2 G [.obj 0 ys, .int i]; notB r
  | x, y => opt (neD x y)
/-- what the top tells of a class with an __eq__ -/
structure EqC (K : PySem.W.Frag) (P : Pm) : Prop where
  nf : ∀ d, notScr d = true → PySem.W.notFirst K (P.C 0) (tyD P d) = true
  isi : ∀ c, IsiC K (P.C c)
  ne : PySem.W.findIn K (.ref (P.C 0)) "__ne__" = some (some (.builtin "object.__ne__"))
  s2 : PySem.W.subIn K (.ref (P.C 0)) (.type "int") = some false
section
variable {X : Cx} {P : Pm} {F0 : Fz} {H0 : Hp} {W : WX} {a b : Expr} {fa fb : Env → Res D} {pos : Pos} {σ : L2.St} {H F : Hp} {k : Nat} {G : List D → Res D}
theorem ty_looks {pins : List (Addr × Obj)} {s : Shared} {d : D} {v : V} {u : Value} (E : EqC X.K P) (I : Inv X pins σ H s) (e : Sb P F H) (i : Is P F d v) (r : RelV v u) (hs : notScr d = true) : PySem.W.Looks (model X.prog X.w) s.heap (typeOf u) (tyD P d) := by
  obtain ⟨Pp, kx, hp, _⟩ := kit_of I r ((i.vw e d).ty E.isi (fun ns q => by subst q; cases hs) (fun ks xs q => by subst q; cases hs) (fun c xs q => by subst q; cases hs))
  exact kx.ty _ _ I.kIn hp
theorem pc_eqN (E : EqC X.K P) (c : OwnD X.prog X.w X.K X.mg X.base P k "__eq__" 0 2 G) (hr : Room k X.A) (tk : Takes X W) (ha : PE X a (tE P F0 H0 W fa)) (hb : PE X b (tE P F0 H0 W fb)) : PC X .Eq a b (tE P F0 H0 W (fN (eqN G) fa fb)) := by
  obtain ⟨f, fd, ps, c1, c2, c3⟩ := c.ex
  refine ⟨fun pins s σ H Q I h => binT ha hb I (two_ofE h) fun v u s2 x y H2 I2 rx ry ⟨F, dx, dy, e, i1, i2, q⟩ => ?_⟩
  unfold eqN at q
  split at q
  · split at q
    · rename_i hns
      obtain ⟨ad, dd, vs, rfl, h1, h2, h3⟩ := obj_of i1
      obtain rfl : v = Value.ref ad := rx
      obtain ⟨ox, od, J, _⟩ := ins_data I2 (e.ex _ _ h1)
      obtain ⟨mm, Fr⟩ := I2.fr
      refine PySem.W.cmp_K (op := .Eq) hr.units0 Fr I2.ok.mod.kin J (ty_looks E I2 e i2 ry hns) (E.nf _ hns) c2.at_ c2.fn ?_
      exact wpAny_mono (run_at (vs := [.ref ad, y]) (ds := [_, _]) c1 (sub_here hr) c3 tk I2 (.cons rfl (.cons ry .nil)) e (.cons i1 (.cons i2 .nil)) q) (fun _ _ z => CmpBack_of z) fun _ _ z => z
    · exact q.elim
  · obtain ⟨bd, dd', vs', rfl, h1', h2', h3'⟩ := obj_of i2
    obtain rfl : u = Value.ref bd := ry
    obtain rfl := un_int i1
    obtain ⟨t, rfl⟩ := rx
    obtain ⟨ox', od', J', hp⟩ := ins_data I2 (e.ex _ _ h1')
    obtain ⟨mm, Fr⟩ := I2.fr
    refine PySem.ErrX.req_K hr.units0 Fr I2.ok.mod.kin J' hp c2.at_ c2.fn E.s2 ?_
    exact wpAny_mono (run_at (vs := [.ref bd, .int _]) (ds := [_, _]) c1 (sub_here hr) c3 tk I2 (.cons rfl (.cons ⟨t, rfl⟩ .nil)) e (.cons i2 (.cons i1 .nil)) q) (fun _ _ z => CmpBack_of z) fun _ _ z => z
  · exact od_of (io_eq hr.units) pins s2 σ F H2 x y v u _ _ Q I2 rx ry e (i1.vw e _) (i2.vw e _) q
theorem notB_of {pins : List (Addr × Obj)} {r : D} {v : V} {w : Value} {s : Shared} {Q : VK} (I : Inv X pins σ H s) (e : Sb P F H) (i : Is P F r v) (rv : RelV v w) (q : PostG P W (rIs P) (notB r) F σ H Q) : PySem.ErrX.NotBack (EP X pins σ Q) w s := by
  unfold notB at q
  split at q
  · rename_i bb
    obtain rfl := un_bl i
    obtain rfl : w = Value.bool bb := rv
    exact ⟨bb, rfl, .bl (!bb), H, I, rfl, q.here e is_bl⟩
  · exact q.elim
theorem pc_neN (E : EqC X.K P) (c : OwnD X.prog X.w X.K X.mg X.base P k "__eq__" 0 2 G) (hr : Room (k + 1) X.A) (tk : Takes X W) (ha : PE X a (tE P F0 H0 W fa)) (hb : PE X b (tE P F0 H0 W fb)) : PC X .NotEq a b (tE P F0 H0 W (fN (neN G) fa fb)) := by
  obtain ⟨f, fd, ps, c1, c2, c3⟩ := c.ex
  refine ⟨fun pins s σ H Q I h => binT ha hb I (two_ofE h) fun v u s2 x y H2 I2 rx ry ⟨F, dx, dy, e, i1, i2, q⟩ => ?_⟩
  unfold neN at q
  split at q
  · split at q
    · rename_i hns
      obtain ⟨ad, dd, vs, rfl, h1, h2, h3⟩ := obj_of i1
      obtain rfl : v = Value.ref ad := rx
      obtain ⟨ox, od, J, _⟩ := ins_data I2 (e.ex _ _ h1)
      obtain ⟨mm, Fr⟩ := I2.fr
      refine PySem.ErrX.ne_K hr.units0 hr.in1.units0 Fr I2.ok.mod.kin J (ty_looks E I2 e i2 ry hns) (E.nf _ hns) c2.at_ c2.fn E.ne (E.isi 0).hm ?_
      have z := run_at (W := W) (vs := [.ref ad, y]) (ds := [_, _]) c1 (sub_here hr).in1 c3 tk I2 (.cons rfl (.cons ry .nil)) e (.cons i1 (.cons i2 .nil)) (PostG.bind (rel := rIs P) q)
      refine wpAny_mono z (fun w s' hz => ?_) fun _ _ z => z
      obtain ⟨vv, H', I', r', F', d', g', i', q'⟩ := hz
      exact notB_of I' g'.s i' r' q'
    · exact q.elim
  · obtain ⟨bd, dd', vs', rfl, h1', h2', h3'⟩ := obj_of i2
    obtain rfl : u = Value.ref bd := ry
    obtain rfl := un_int i1
    obtain ⟨t, rfl⟩ := rx
    obtain ⟨ox', od', J', hp⟩ := ins_data I2 (e.ex _ _ h1')
    obtain ⟨mm, Fr⟩ := I2.fr
    refine PySem.ErrX.rne_K hr.units0 hr.in1.units0 Fr I2.ok.mod.kin J' hp c2.at_ c2.fn E.ne (E.isi 0).hm E.s2 ?_
    have z := run_at (W := W) (vs := [.ref bd, .int _]) (ds := [_, _]) c1 (sub_here hr).in1 c3 tk I2 (.cons rfl (.cons ⟨t, rfl⟩ .nil)) e (.cons i2 (.cons i1 .nil)) (PostG.bind (rel := rIs P) q)
    refine wpAny_mono z (fun w s' hz => ?_) fun _ _ z => z
    obtain ⟨vv, H', I', r', F', d', g', i', q'⟩ := hz
    exact notB_of I' g'.s i' r' q'
  · exact od_of (io_ne hr.units) pins s2 σ F H2 x y v u _ _ Q I2 rx ry e (i1.vw e _) (i2.vw e _) q
end
end DL
namespace DL
open PySem L2

section
variable {X : Cx} {P : Pm} {F0 : Fz} {H0 : Hp} {W : WX} {a b c e o : Expr} {es : List Expr} {fa fb fc : Env → Res D} {ga gb gc : Env → Res Bool} {fs : Env → Res (List D)} {pos p apos : Pos} {σ : St} {H F : Hp}
/-- a if c else b, as a test -/
theorem td_ifx (hc : PT X c (tT P F0 H0 W gc)) (ha : PT X a (tT P F0 H0 W ga)) (hb : PT X b (tT P F0 H0 W gb)) : PT X (.IfExp c a b pos) (tT P F0 H0 W (fun ρ => do let k ← gc ρ; if k = true then ga ρ else gb ρ)) := by
  refine ⟨fun pins s σ H Q I h => ?_⟩
  obtain ⟨F, ρ, er, z⟩ := h
  show wpAny _ _ (isTrue c X.env (eval c X.env) >>= fun k => if k = true then isTrue a X.env (eval a X.env) else isTrue b X.env (eval b X.env)) _ _ s
  refine wpAny_bind (thn (hc.run pins s σ H _ I ⟨F, ρ, er, PostG.bind (rel := rBo) z⟩) ?_)
  rintro k s1 ⟨H1, I1, F1, d, g, i, q⟩
  subst i
  by_cases hv : k = true
  · rw [if_pos hv] at q ⊢
    exact ha.run pins s1 σ H1 Q I1 ⟨F1, ρ, er.grow g, q⟩
  · rw [if_neg hv] at q ⊢
    exact hb.run pins s1 σ H1 Q I1 ⟨F1, ρ, er.grow g, q⟩
/-! ### products of great numbers -/
def mulB (i j : Int) : Option D := if i.natAbs.log2 + j.natAbs.log2 < 1000000 ∨ (-(2 ^ 64) < i ∧ i < 2 ^ 64) ∨ (-(2 ^ 64) < j ∧ j < 2 ^ 64) then some (.int (i * j)) else none
theorem io_mulB : OpR X (binaryOp .Mult) (r2O P (int2 mulB)) := fun pins s σ H x y u v Q I rx ry h => by
  obtain ⟨F, dx, dy, d, e, i1, i2, hd, q⟩ := h
  obtain ⟨i, j, rfl, rfl, hg⟩ := int2_of hd
  have e1 : x = .int i := i1
  have e2 : y = .int j := i2
  subst e1 e2
  unfold mulB at hg
  split at hg
  · rename_i hc
    cases hg
    rcases hc with hc | hc
    · exact op_mulW pins s σ H _ _ u v Q I rx ry ⟨i, j, rfl, rfl, hc, q.here e is_int⟩
    · exact op_mul pins s σ H _ _ u v Q I rx ry ⟨i, j, rfl, rfl, hc, q.here e is_int⟩
  · cases hg
/-! ### x in a list -/
def inD (x y : D) : Option D := (toPD x).bind fun a => match y with
  | .lst ys => (toPDs ys).bind fun bs => if SeqAt.shaped a = true ∧ SeqAt.shaped (.list bs) = true then some (.bl (bs.any fun z => PyData.eqv z a)) else none
  | _ => none
theorem inD_of {x y d : D} (h : inD x y = some d) : ∃ a ys bs, toPD x = some a ∧ y = .lst ys ∧ toPDs ys = some bs ∧ SeqAt.shaped a = true ∧ SeqAt.shaped (.list bs) = true ∧ d = .bl (bs.any fun z => PyData.eqv z a) := by
  unfold inD at h
  cases ha : toPD x with
  | none =>
    rw [ha] at h
    cases h
  | some a =>
    rw [ha] at h
    cases y with
    | lst ys =>
      cases hb : toPDs ys with
      | none =>
        have h' : (toPDs ys).bind (fun bs => if SeqAt.shaped a = true ∧ SeqAt.shaped (.list bs) = true then some (D.bl (bs.any fun z => PyData.eqv z a)) else none) = some d := h
        rw [hb] at h'
        cases h'
      | some bs =>
        have h' : (toPDs ys).bind (fun bs => if SeqAt.shaped a = true ∧ SeqAt.shaped (.list bs) = true then some (D.bl (bs.any fun z => PyData.eqv z a)) else none) = some d := h
        rw [hb] at h'
        replace h' : (if SeqAt.shaped a = true ∧ SeqAt.shaped (.list bs) = true then some (D.bl (bs.any fun z => PyData.eqv z a)) else none) = some d := h'
        split at h'
        · rename_i hc
          cases h'
          exact ⟨a, ys, bs, rfl, rfl, hb, hc.1, hc.2, rfl⟩
        · cases h'
    | _ => cases h
theorem toPD_lst {ys : List D} {bs : List PyData} (h : toPDs ys = some bs) : toPD (.lst ys) = some (.list bs) := by
  rw [toPD, h]
  rfl
theorem io_inD (hu : X.A.units + 65 < cLine) : OpR X (compareOp .In) (r2O P inD) := fun pins s σ H x y u v Q I rx ry h => by
  obtain ⟨F, dx, dy, d, e, i1, i2, hd, q⟩ := h
  obtain ⟨pa, ys, bs, h1, rfl, h2, h3, h4, rfl⟩ := inD_of hd
  exact op_inD hu pins s σ H x y u v Q I rx ry ⟨pa, bs, i1.dp e dx h1, i2.dp e _ (toPD_lst h2), h3, h4, q.bl e⟩
/-! ### raise T('..') of a built-in class -/
theorem sd_raiseB {T N I : String} {x m : Str} {j cn : Nat} {p2 pos' : Pos} (hc : X.calm = true) (tk : Takes X W) (B : ExcB T N I) (hxc : P.xc cn = .type T) (hm : X.mg x = none) (hv : bootBuiltins x = some (.type T)) (hg : Gl X x := by rfl) (hn : x ≠ "__name__" := by decide) (hdb : (x == ("__debug__" : Str)) = false := by decide) :
    PS X (.Raise (some (.Call (.Name x p) [.Constant (.str m) j p2] [] pos)) none pos') (tS P F0 H0 W (fun ρ => .err cn none ρ)) := (ps_raiseB hc tk B hg hm hv hn hdb).imp fun N σ H ⟨F, ρ, er, z⟩ => by
  rw [← hxc]
  exact z σ F H none er (.refl F) rfl
end
/-! ### x(lambda: e), where x is: try: a() / except T: return True / return False -/
abbrev rzBody (a e : Str) (j j2 : Nat) (p1 p2 p3 p4 p5 p6 p7 p8 p9 p10 : Pos) : List Stmt := [.Try [.Expr (.Call (.Name a p1) [] [] p2) p3] [.ExceptHandler (some (.Name e p4)) none [.Return (some (.Constant (.bool true) j p5)) p6] p7] [] [] p8, .Return (some (.Constant (.bool false) j2 p9)) p10]
def TTr (K : PySem.W.Frag) (cv : Value) : (XK → Hp → VK → Prop) → Hp → VK → Prop := fun tl H Q => tl (fun cls _ H' => PySem.W.exmOne K cls cv = some true ∧ Q (.bl true) H') H (fun _ H' => Q (.bl false) H')
section
variable {X : Cx}
theorem raises_gives {Ng : List Str} {x a e q : Str} {sg : Scope} {g : Addr} {cdg cv : Value} {j j2 : Nat} {p1 p2 p3 p4 p5 p6 p7 p8 p9 p10 : Pos} (hge : sg.names.lookup e = some .globalImplicit) (hme : X.mg e = some cv ∨ (X.mg e = none ∧ bootBuiltins e = some cv ∧ e ≠ "__name__")) (hde : (e == ("__debug__" : Str)) = false)
    (h0 : ∀ f : Addr, (L2.start Ng [V.ref f])[0]? = some (some (V.ref f))) : LamX.GivesTo X Ng x sg g cdg (rzBody a e j j2 p1 p2 p3 p4 p5 p6 p7 p8 p9 p10) a q (TTr X.K cv) := by
  intro f c' s H Q tl act hc h
  refine ⟨_, pss_cons (ps_try_only (X := (cxOf C8.CX0 X.prog X.w X.K X.mg X.base Ng x sg g cdg X.A X.stack s H C8.E0).nox) (c := cv)
      (tb := fun W D σ H => ∃ Ech : XK, (∀ cls d σ' H', Ech cls d H' → W cls d σ' H') ∧ σ[0]? = some (some (.ref f)) ∧ H c' = some (LamX.CodeO c' q) ∧ tl Ech H (fun _ H1 => D.nx σ H1))
      rfl rfl ⟨hge, hde, hme⟩ LamX.takes0 (fun W pn xe tk _ => ?_) (fun _ _ _ _ _ _ _ => pss_one (ps_ret pe_bl))) (pss_one (ps_ret pe_bl)), ?_⟩
  · refine ⟨fun pins s' σ H' D I h' => ?_⟩
    obtain ⟨Ech, hW, h1, h2, h3⟩ := h'
    exact (pss_one (ps_expr (act W pn xe Ech p1 p2 tk hW))).run pins s' σ H' D I ⟨h1, h2, h3⟩
  · refine ⟨fun cls _ H' => PySem.W.exmOne X.K cls cv = some true ∧ Q (.bl true) H', fun cls d σ' H' z => ⟨true, z.1, fun _ _ _ => z.2, fun w => by cases w⟩, h0 f, hc, h⟩
end
def rzD (cz : Nat) : Res D → Res D
  | .ok _ => .ok (.bl false)
  | .err c _ => if c = cz then .ok (.bl true) else .bad
  | .bad => .bad
/-- the tables of code: where the def's own one is -/
structure TabAt (P : Pm) (base : Heap) (mg : Str → Option Value) (c t : Addr) (q : Str) : Prop where
  tb : LamX.TabB base mg c t
  mem : (t, q) ∈ P.T
  one : ∀ p ∈ P.T, p.1 = t → p.2 = q
/-- the def that takes the lambda -/
structure RzD (K : PySem.W.Frag) (mg : Str → Option Value) (x a e : Str) (cv : Value) : Prop where
  ex : ∃ (st : Stmt) (g : Addr) (fd : FuncData) (Ng : List Str) (j j2 : Nat) (p1 p2 p3 p4 p5 p6 p7 p8 p9 p10 : Pos), Fun K x x st g fd ∧ mg x = some (.ref g) ∧ Binds K fd [a] [] ∧ FnScope Ng [a] (defScope st) ∧ Ng[0]? = some a ∧ Vis (defScope st) a ∧
    defBody st = rzBody a e j j2 p1 p2 p3 p4 p5 p6 p7 p8 p9 p10 ∧ (defScope st).names.lookup e = some .globalImplicit ∧ ∀ f : Addr, (L2.start Ng [V.ref f])[0]? = some (some (V.ref f))
  cl : mg e = some cv ∨ (mg e = none ∧ bootBuiltins e = some cv ∧ e ≠ "__name__")
  nd : (e == ("__debug__" : Str)) = false
section
variable {X : Cx} {P : Pm} {F0 : Fz} {H0 : Hp} {W : WX}
theorem pd_raises {x a e : Str} {cv : Value} {cz k : Nat} {c t : Addr} {params : Arguments} {body : Expr} {scope : Scope} {p lpos pos : Pos} {fb : Env → Res D} (R : RzD X.K X.mg x a e cv) (hex : PySem.W.exmOne X.K (P.xc cz) cv = some true) (TA : TabAt P X.base X.mg c t (X.env.qual ++ "<lambda>")) (hcode : X.env.code = .ref c)
    (hr : Room (k + 2) X.A) (L : LamX.LamS X.env.scope scope) (hdef : defaultsOf params X.env = ([], []))
    (hbind : ∀ (q : Str) (cl : List (Str × Addr)) (pm cv ctv : Value), bindArgs (PySem.W.kla_fn "<lambda>" q params body scope cl pm cv ctv) ⟨[], []⟩ = pure [])
    (hbody : ∀ (A : Around) (outer : List PySem.Env) (s : Shared) (H : Hp) (E : XK) (f c' : Addr), Room k (A.deeper (LamX.lamEnv X scope s.heap.objs.size f c')) → Takes (LamX.lamCx X A outer s H E scope f c') (WE0 E) → PE (LamX.lamCx X A outer s H E scope f c') body (tE P F0 H0 (WE0 E) fb))
    (hg : Gl X x := by rfl) (hdb : (x == ("__debug__" : Str)) = false := by decide) (hd : (a == ("__debug__" : Str)) = false := by decide) (hcd : (a == ("__classdict__" : Str)) = false := by decide) :
    PE X (.Call (.Name x p) [.Lambda params body scope lpos] [] pos) (tE P F0 H0 W (fun ρ => rzD cz (fb ρ))) := by
  obtain ⟨st, g, fd, Ng, j, j2, p1, p2, p3, p4, p5, p6, p7, p8, p9, p10, Fu, hm, hb, Sg, hN0, hva, hbg, hge, h0⟩ := R.ex
  obtain ⟨oc, od, kV, doc, pm, an, cdv, ct, osl, rfl, lk, hcd'⟩ := Fu.ex
  have hG : LamX.GivesTo X Ng x (defScope st) g cdv (defBody st) a (X.env.qual ++ "<lambda>") (TTr X.K cv) := by
    rw [hbg]
    exact raises_gives hge R.cl R.nd h0
  refine (LamX.pe_lamcall (T := P.T) (t := fun E => tE P F0 H0 (WE0 E) fb) hg hm Fu.kp lk hcd' hb Sg hN0 hva hG TA.tb hcode TA.mem TA.one hr L hdef hbind (fun A outer s H E f c' hr' => hbody A outer s H E f c' hr' (takes_of rfl rfl rfl rfl)) hdb hd hcd).imp fun σ H Q ⟨F, ρ, er, z⟩ => ?_
  replace z : PostG P W (rIs P) (rzD cz (fb ρ)) F σ H Q := z
  refine ⟨er.s.tabs, fun H1 e1 t1 => ?_⟩
  have eT : ExT H H1 := ⟨fun a o h n => e1 a o h fun ps hp => by
    subst hp
    cases n⟩
  have g1 : Grow P F H F H1 := ⟨.refl F, eT, er.s.ext' eT t1, fun _ _ e => .inl e⟩
  refine ⟨F, ρ, er.grow g1, ?_⟩
  cases hf : fb ρ with
  | ok d =>
    rw [hf] at z
    exact fun v F' H' g i => z (.bl false) F' H' (g1.trans g) is_bl
  | err c p =>
    rw [hf] at z
    by_cases hz : c = cz
    · have e2 : rzD cz (.err c p) = .ok (.bl true) := if_pos hz
      rw [e2] at z
      exact fun F' H' y g q => ⟨hz ▸ hex, z (.bl true) F' H' (g1.trans g) is_bl⟩
    · have e2 : rzD cz (.err c p) = .bad := if_neg hz
      rw [e2] at z
      exact z.elim
  | bad =>
    rw [hf] at z
    exact z.elim
end
end DL
namespace DL
open PySem L2

/-! ### methods, defaults, keywords, a def whose code object is known -/
section
variable {X : Cx} {P : Pm} {F0 : Fz} {H0 : Hp} {W : WX} {a b c e o : Expr} {es : List Expr} {fa fb fc : Env → Res D} {fs : Env → Res (List D)} {pos p apos : Pos} {σ : St} {H F : Hp} {k n : Nat} {x m : Str} {G : List D → Res D} {GI : List D → Res (List D)}
structure MetD (prog : Program) (w : World) (K : PySem.W.Frag) (mg : Str → Option Value) (base : Heap) (P : Pm) (k : Nat) (m : Str) (cn n : Nat) (G : List D → Res D) : Prop where
  ex : ∃ f fd ps, FnOk prog w K mg base (L2.CX prog w) k f fd ps (spD P n G) ∧ Cls K (P.C cn) ∧ Meth K (P.C cn) m f ∧ Binds K fd ps [] ∧ m ∉ P.nm cn
abbrev fMet (cn n : Nat) (G : List D → Res D) (fa : Env → Res D) (fs : Env → Res (List D)) : Env → Res D := fun ρ => do let x ← fa ρ; let y ← isO cn x; let xs ← fs ρ; fnG n G (y :: xs)
theorem pd_met {cn : Nat} {pl : Sem Bool} (c : MetD X.prog X.w X.K X.mg X.base P k m cn n G) (hr : Room k X.A) (tk : Takes X W) (ho : PE X o (tE P F0 H0 W fa)) (ha : PA X (e :: es) (tL P F0 H0 W fs))
    (hst : starEach (e :: es) X.env = (false, eval e X.env) :: starEach es X.env := by rfl) (hpl : (backTo pos (starEach es X.env)).any (·.1) = false := by rfl)
    (ht : eval (.Call (.Attribute o m apos) (e :: es) [] pos) X.env = (do
      let ov ← eval o X.env
      standAt apos.atName
      let (f, first) ← holding [ov] (getMethod ov m pl)
      callWith pos f first (backTo pos (starEach (e :: es) X.env)) (backToKw pos (keywordEach [] X.env))) := by rfl) :
    PE X (.Call (.Attribute o m apos) (e :: es) [] pos) (tE P F0 H0 W (fMet cn n G fa fs)) := by
  obtain ⟨f, fd, ps, h1, h2, h3, h4, h5⟩ := c.ex
  have := pd_meth ho h2 h3 h5 h1 hr h4 .nil Dfl.nil tk ha hst hpl ht
  simpa only [List.append_nil, List.cons_append] using this
/-- o.m() -/
theorem pd_met0 {cn : Nat} {pl : Sem Bool} (c : MetD X.prog X.w X.K X.mg X.base P k m cn n G) (hr : Room k X.A) (tk : Takes X W) (ho : PE X o (tE P F0 H0 W fa))
    (ht : eval (.Call (.Attribute o m apos) [] [] pos) X.env = (do
      let ov ← eval o X.env
      standAt apos.atName
      let (f, first) ← holding [ov] (getMethod ov m pl)
      callWith pos f first (backTo pos (starEach [] X.env)) (backToKw pos (keywordEach [] X.env))) := by rfl) :
    PE X (.Call (.Attribute o m apos) [] [] pos) (tE P F0 H0 W (fMet cn n G fa (fun _ => .ok []))) := by
  obtain ⟨f, fd, ps, h1, h2, h3, h4, h5⟩ := c.ex
  have := pd_meth0 ho h2 h3 h5 h1 hr h4 .nil Dfl.nil tk ht
  exact this
theorem metD {prog : Program} {w : World} {K : PySem.W.Frag} {mg : Str → Option Value} {base : Heap} {c : Nat} {x qual : Str} {st : Stmt} {f : Addr} {fd : FuncData} {N ps : List Str} {k : Nat} {g : Env → RS} (Fu : Fun K x qual st f fd) (S : FnScope N ps (defScope st)) (hc : Cls K (P.C c)) (hm : Meth K (P.C c) x f) (hb : Binds K fd ps []) (hn : x ∉ P.nm c)
    (hbody : ∀ (cdv : Value) (A : Around) (outer : List PySem.Env) (s : Shared) (H F0 : Hp) (E : XK), Room k (A.deeper (PyProof.Rows.envOfC qual (defScope st) s.heap.objs.size f cdv)) →
      PSs (cxOf (L2.CX prog w) prog w K mg base N qual (defScope st) f cdv A outer s H E) (defBody st) (tS P ⟨F0, none⟩ H (WE0 E) g)) :
    MetD prog w K mg base P (k + 1) x c ps.length (runB g N.length) := ⟨f, fd, ps, fnd Fu S hbody, hc, hm, hb, hn⟩
/-- C(e, ..), the rest by defaults -/
structure MkDd (prog : Program) (w : World) (K : PySem.W.Frag) (mg : Str → Option Value) (base : Heap) (P : Pm) (k : Nat) (x : Str) (cn n : Nat) (dds : List D) (G : List D → Res (List D)) : Prop where
  ex : ∃ f fd ps dv dvs, Mk K (P.C cn) f ∧ FnOk prog w K mg base (L2.CX prog w) k f fd ps (spI P cn n G) ∧ mg x = some (.ref (P.C cn)) ∧ Binds K fd ps dv ∧ Vals dvs dv ∧ Dfl P dvs dds
abbrev fMkd (cn n : Nat) (dds : List D) (G : List D → Res (List D)) (fs : Env → Res (List D)) : Env → Res D := fun ρ => do let xs ← fs ρ; mkG cn n G (xs ++ dds)
theorem pd_mkd {cn : Nat} {dds : List D} (c : MkDd X.prog X.w X.K X.mg X.base P k x cn n dds GI) (hr : Room (k + 1) X.A) (tk : Takes X W) (ha : PA X (e :: es) (tL P F0 H0 W fs)) (hg : Gl X x := by rfl) (hdb : (x == ("__debug__" : Str)) = false := by decide) (he : starEach (e :: es) X.env = (false, eval e X.env) :: starEach es X.env := by rfl) (hpl : (backTo pos (starEach es X.env)).any (·.1) = false := by rfl) :
    PE X (.Call (.Name x p) (e :: es) [] pos) (tE P F0 H0 W (fMkd cn n dds GI fs)) := by
  obtain ⟨f, fd, ps, dv, dvs, h0, h1, h2, h4, h5, h6⟩ := c.ex
  exact pd_make (p := p) h0 h1 hr hg h2 h4 h5 h6 tk ha hdb he hpl
/-- C(k = e, ..), all by keywords -/
structure MkDk (prog : Program) (w : World) (K : PySem.W.Frag) (mg : Str → Option Value) (base : Heap) (P : Pm) (k : Nat) (x : Str) (cn n : Nat) (ks : List Str) (pr : {α : Type} → List α → List α) (G : List D → Res (List D)) : Prop where
  ex : ∃ f fd ps, Mk K (P.C cn) f ∧ FnOk prog w K mg base (L2.CX prog w) k f fd ps (spI P cn n G) ∧ mg x = some (.ref (P.C cn)) ∧ KBn K fd ps 1 ks (fun us ws => us ++ pr ws) (fun us ws => us ++ pr ws)
  rel : ∀ {F : Hp} {ds : List D} {vs : List V}, IsL P F ds vs → IsL P F (pr ds) (pr vs)
abbrev fMkk (cn n m : Nat) (pr : {α : Type} → List α → List α) (G : List D → Res (List D)) (fs : Env → Res (List D)) : Env → Res D := fun ρ => do let xs ← fs ρ; if xs.length = m then noErr (mkG cn n G (pr xs)) else .bad
theorem PK.imp {kws : List Keyword} {t t' : TA} (h : PK X kws t) (q : ∀ σ H Q, t' σ H Q → t σ H Q) : PK X kws t' := ⟨fun p pins s σ H Q I z => h.run p pins s σ H Q I (q σ H Q z)⟩
theorem kd_nil : PK X [] (tL P F0 H0 W (fun _ => .ok [])) := PK.imp pk_nil fun σ H Q ⟨F, ρ, er, z⟩ => z.here er.s .nil
theorem kd_cons {nm : Option Str} {kpos : Pos} {kws : List Keyword} (ha : PE X e (tE P F0 H0 W fa)) (hr : PK X kws (tL P F0 H0 W fs)) : PK X (⟨nm, e, kpos⟩ :: kws) (tL P F0 H0 W (fun ρ => do let x ← fa ρ; let xs ← fs ρ; .ok (x :: xs))) := PK.imp (pk_cons ha hr) fun σ H Q ⟨F, ρ, er, z⟩ => by
  refine ⟨F, ρ, er, (PostG.bind (rel := rIs P) z).imp ?_⟩
  rintro v H1 ⟨F1, d, g, i, q⟩
  refine ⟨F1, ρ, er.grow g, (PostG.bind (rel := rLs P) q).imp ?_⟩
  rintro vs H2 ⟨F2, ds, g2, i2, q2⟩
  exact q2.here g2.s (.cons (i.mono g2.f d) i2)
theorem pd_mkk {cn : Nat} {ks : List Str} {pr : {α : Type} → List α → List α} {kws : List Keyword} (c : MkDk X.prog X.w X.K X.mg X.base P k x cn n ks pr GI) (hr : Room (k + 1) X.A) (hkw : PK X kws (tL P F0 H0 W fs)) (hg : Gl X x := by rfl)
    (hall : (backToKw pos (keywordEach kws X.env)).all (·.1.isSome) = true := by rfl) (hks : (backToKw pos (keywordEach kws X.env)).filterMap (·.1) = ks := by rfl) (hdb : (x == ("__debug__" : Str)) = false := by decide)
    (hpl : ((backTo pos (starEach [] X.env)).any (·.1) || (backToKw pos (keywordEach kws X.env)).any (·.1.isNone)) = false := by rfl) :
    PE X (.Call (.Name x p) [] kws pos) (tE P F0 H0 W (fMkk cn n ks.length pr GI fs)) := by
  obtain ⟨f, fd, ps, h0, h1, h2, h3⟩ := c.ex
  refine (pe_makeK0 (p := p) h0 h1 hr hg h2 h3 (passL (X := X)) hkw hall hks hdb hpl).imp fun σ H Q ⟨F, ρ, er, z⟩ => ?_
  show tL P F0 H0 W fs σ H _
  refine ⟨F, ρ, er, (PostG.bind (rel := rLs P) z).imp ?_⟩
  rintro zs H1 ⟨F1, ds, g, i, q⟩
  by_cases hl : ds.length = ks.length
  · rw [if_pos hl] at q
    refine ⟨rfl, by rw [← i.length]; exact hl, fun x dx hx hdx hne => ?_⟩
    have q' : PostG P (WE0 fun cls d H' => (fun _ _ _ _ => False : WX) cls d [] H') (rIs P) (mkG cn n GI (pr ds ++ [])) F1 [] H1 Q := by
      rw [List.append_nil]
      exact PostG.noErr q
    have := mkG_of (W := fun _ _ _ _ => False) (σ := []) (dvs := []) (dds := []) Dfl.nil g.s (c.rel i) q' x dx hx hdx hne
    simpa only [List.append_nil, List.cons_append, List.nil_append] using this
  · rw [if_neg hl] at q
    exact q.elim
/-- two keywords, turned -/
theorem rev_rel {F : Hp} : ∀ {ds : List D} {vs : List V}, IsL P F ds vs → IsL P F ds.reverse vs.reverse
  | [], _, h => by
    obtain rfl := h.unnil
    exact .nil
  | d :: ds, _, h => by
    obtain ⟨v, r, rfl, h1, h2⟩ := h.uncons
    rw [List.reverse_cons, List.reverse_cons]
    exact (rev_rel h2).append (.cons h1 .nil)
theorem vals_rev : ∀ {vs : List V} {us : List Value}, Vals vs us → Vals vs.reverse us.reverse
  | _, _, .nil => .nil
  | _, _, .cons r t => by
    rw [List.reverse_cons, List.reverse_cons]
    exact (vals_rev t).append (.cons r .nil)
theorem kb_rev {K : PySem.W.Frag} {x qual : Str} {params : Arguments} {body : List Stmt} {scope : Scope} {dvs : List V} {kws : List (Str × V)} {f : Addr} {fd : FuncData} {ps ks : List Str} (F : FunD K x qual params body scope dvs kws f fd) (hd : dvs ≠ [])
    (h : ∀ (T : Addr) (kV doc pm : Value) (an : Option Addr) (cdv ct : Value) (us its ws : List Value), us.length = 1 → its.length = dvs.length → ws.length = ks.length →
      ∃ k, bindArgs (PySem.W.fnOf x qual params body scope (.ref T) kV doc pm an cdv ct) ⟨us, ks.zip ws⟩ = seqItems? (.ref T) >>= k ∧ k (some its.toArray) = pure (ps.zip (us ++ ws.reverse))) :
    KBn K fd ps 1 ks (fun us ws => us ++ ws.reverse) (fun us ws => us ++ ws.reverse) := by
  obtain ⟨oc, od, dV, kV, doc, pm, an, cdv, ct, osl, rfl, lk, hcd, hD, hK⟩ := F.ex
  rcases hD with ⟨e, _⟩ | ⟨_, T, o, its, m, rfl, lT, oT, rT⟩
  · exact absurd e hd
  · refine ⟨fun s us ws X' l1 l2 => ?_, fun r1 r2 => r1.append (vals_rev r2)⟩
    obtain ⟨k, e1, e2⟩ := h T kV doc pm an cdv ct us its ws l1 rT.length.symm l2
    refine BindsTo.of_looks fun M => ?_
    rw [e1]
    exact looks_items X' lT oT (.of_pure e2)
/-- a def whose code object stands at c -/
theorem fndC {prog : Program} {w : World} {K : PySem.W.Frag} {mg : Str → Option Value} {base : Heap} {x qual : Str} {st : Stmt} {f cA : Addr} {oc kV doc pm ct : Value} {od an : Option Addr} {osl : Array (Option Value)} {N ps : List Str} {k : Nat} {g : Env → RS}
    (lk : K.lookup f = some ⟨oc, od, .func (PySem.W.fnOf x qual (defArgs st) (defBody st) (defScope st) .none kV doc pm an (.ref cA) ct), osl⟩) (hcd : PySem.W.codeIn K (.ref cA) qual = true) (S : FnScope N ps (defScope st))
    (hbody : ∀ (A : Around) (outer : List PySem.Env) (s : Shared) (H F0 : Hp) (E : XK), Room k (A.deeper (PyProof.Rows.envOfC qual (defScope st) s.heap.objs.size f (.ref cA))) →
      PSs (cxOf (L2.CX prog w) prog w K mg base N qual (defScope st) f (.ref cA) A outer s H E) (defBody st) (tS P ⟨F0, none⟩ H (WE0 E) g)) :
    FnOk prog w K mg base (L2.CX prog w) (k + 1) f (PySem.W.fnOf x qual (defArgs st) (defBody st) (defScope st) .none kV doc pm an (.ref cA) ct) ps (spD P ps.length (runB g N.length)) := by
  refine fn_of lk hcd S (fun vs H Q E ⟨F, ds, _, i, hl, _⟩ => by rw [← i.length]; exact hl) fun A outer s H vs Q E hr h => ?_
  obtain ⟨F, ds, sx, i, hl, z⟩ := h
  refine ⟨_, hbody A outer s H F E hr, F, env0 N.length ds, er_start sx i, ?_⟩
  unfold runB at z
  cases hg : g (env0 N.length ds) with
  | nx ρ =>
    rw [hg] at z
    exact fun σ F' H' er _ => z .non F' H' er.g is_non
  | rt d =>
    rw [hg] at z
    exact fun v F' H' gr _ i' => z v F' H' gr i'
  | ro d =>
    rw [hg] at z
    exact z.elim
  | bk ρ =>
    rw [hg] at z
    exact z.elim
  | ct ρ =>
    rw [hg] at z
    exact z.elim
  | err e p ρ =>
    rw [hg] at z
    exact fun σ F' H' y er _ q => z F' H' y er.g q
  | bad =>
    rw [hg] at z
    exact z.elim
end
end DL
namespace DL
open PySem L2
theorem units65 {k : Nat} {A : Around} (r : Room k A) : A.units + 65 < cLine := by
  have := r.un
  omega
/-- the left one is an instance of class 0 -/
def opL (G : List D → Res D) : D → D → Res D
  | .obj 0 xs, .int j => fnG 2 G [.obj 0 xs, .int j]
  | .obj 0 xs, .obj 0 ys => fnG 2 G [.obj 0 xs, .obj 0 ys]
  | _, _ => .bad
section
variable {X : Cx} {P : Pm} {F0 : Fz} {H0 : Hp} {W : WX} {a b : Expr} {fa fb : Env → Res D} {pos : Pos} {σ : L2.St} {H F : Hp} {k kr : Nat} {op : Operator} {m mr : Str} {G : List D → Res D}
theorem pd_opL (hd : PySem.dunder op.info.2 = m) (hdr : PySem.dunderR op.info.2 = mr) (N : NumC X.K (P.C 0) m mr) (hR : ∃ fr, PySem.W.findIn X.K (.ref (P.C 0)) mr = some (some (.ref fr)))
    (c : OwnD X.prog X.w X.K X.mg X.base P k m 0 2 G) (hr : Room k X.A) (tk : Takes X W) (ha : PE X a (tE P F0 H0 W fa)) (hb : PE X b (tE P F0 H0 W fb)) :
    PE X (.BinOp a op b pos) (tE P F0 H0 W (fN (opL G) fa fb)) := by
  obtain ⟨f, fd, ps, c1, c2, c3⟩ := c.ex
  obtain ⟨fr, d2⟩ := hR
  obtain ⟨fo, hfo⟩ := N.a1
  obtain ⟨ro, hro⟩ := N.a2
  refine ⟨fun pins s σ H Q I h => ?_⟩
  refine wpAny_BinOp (binT ha hb I (two_ofE h) fun v u s2 x y H2 I2 rx ry ⟨F, dx, dy, e, i1, i2, q⟩ => ?_)
  unfold opL at q
  split at q
  · obtain ⟨ad, dd, vs, rfl, h1, h2, h3⟩ := obj_of i1
    obtain rfl : v = Value.ref ad := rx
    obtain ⟨ox, od, J, _⟩ := ins_data I2 (e.ex _ _ h1)
    obtain ⟨mm, Fr⟩ := I2.fr
    obtain rfl := un_int i2
    obtain ⟨t, rfl⟩ := ry
    refine PySem.W.ksp_binT Fr I2.ok.mod.kin J (T := "int") rfl N.sf (by rw [hd]; exact c2.at_) c2.fn (by rw [hdr]; exact d2) (.inr ⟨fr, rfl⟩) (by rw [hd]; exact hfo) (by rw [hdr]; exact hro) N.s1 ?_
    exact wpAny_mono (run_at (vs := [.ref ad, .int _]) (ds := [_, _]) c1 (sub_here hr) c3 tk I2 (.cons rfl (.cons ⟨t, rfl⟩ .nil)) e (.cons i1 (.cons i2 .nil)) q) (fun _ _ z => CmpBack_of z) fun _ _ z => z
  · obtain ⟨ad, dd, vs, rfl, h1, h2, h3⟩ := obj_of i1
    obtain ⟨bd, dd', vs', rfl, h1', h2', h3'⟩ := obj_of i2
    obtain rfl : v = Value.ref ad := rx
    obtain rfl : u = Value.ref bd := ry
    obtain ⟨ox, od, J, _⟩ := ins_data I2 (e.ex _ _ h1)
    obtain ⟨ox', od', J', _⟩ := ins_data I2 (e.ex _ _ h1')
    obtain ⟨mm, Fr⟩ := I2.fr
    refine PySem.W.binop_K Fr I2.ok.mod.kin J J'.type N.sf (by rw [hd]; exact c2.at_) c2.fn ?_
    exact wpAny_mono (run_at (vs := [.ref ad, .ref bd]) (ds := [_, _]) c1 (sub_here hr) c3 tk I2 (.cons rfl (.cons rfl .nil)) e (.cons i1 (.cons i2 .nil)) q) (fun _ _ z => CmpBack_of z) fun _ _ z => z
  · exact q.elim
end
@[simp] abbrev tIfx (c a b : Env → Res Bool) : Env → Res Bool := fun ρ => do let k ← c ρ; if k = true then a ρ else b ρ
@[simp] abbrev fRz (cz : Nat) (f : Env → Res D) : Env → Res D := fun ρ => rzD cz (f ρ)
@[simp] abbrev sPar3 (i j l : Nat) (f : Env → Res (List D)) : Env → RS := fun ρ => bindS (f ρ) ρ (par3 i j l ρ)
@[simp] abbrev sRaiseB (c : Nat) : Env → RS := fun ρ => .err c none ρ
@[simp] abbrev iZip (f : Env → Res (List D)) : Env → Res (List D) := fun ρ => f ρ >>= zipD
@[simp] abbrev iEnu (f : Env → Res (List D)) : Env → Res (List D) := fun ρ => f ρ >>= enuD
end DL
namespace DL
open PySem L2

/-! ### keys of dicts -/
def keyA : D → Option Key
  | .int i => some (.inl i)
  | .str s => some (.inr s)
  | _ => none
def keysA : List D → Option (List Key)
  | [] => some []
  | d :: ds => (keyA d).bind fun k => (keysA ds).map (k :: ·)
def keyT : D → Option (List Key)
  | .tup ds => keysA ds
  | _ => none
def kD : Key → D
  | .inl i => .int i
  | .inr s => .str s
def ktD (k : List Key) : D := .tup (k.map kD)
section
variable {P : Pm} {F H : Hp}
theorem keyA_is {d : D} {v : V} {k : Key} (i : Is P F d v) (h : keyA d = some k) : v = kV k := by
  cases d with
  | int j =>
    cases h
    rw [Is] at i
    exact i
  | str j =>
    cases h
    rw [Is] at i
    exact i
  | _ => cases h
theorem keysA_is : ∀ {ds : List D} {vs : List V} {ks : List Key}, IsL P F ds vs → keysA ds = some ks → vs = ks.map kV
  | [], _, _, i, h => by
    cases h
    exact i.unnil
  | d :: ds, _, _, i, h => by
    obtain ⟨v, r, rfl, i1, i2⟩ := i.uncons
    unfold keysA at h
    cases h1 : keyA d with
    | none =>
      rw [h1] at h
      cases h
    | some k =>
      rw [h1] at h
      cases h2 : keysA ds with
      | none =>
        rw [h2] at h
        cases h
      | some ks' =>
        rw [h2] at h
        cases h
        rw [keyA_is i1 h1, keysA_is i2 h2]
        rfl
theorem keyT_is {d : D} {v : V} {k : List Key} (i : Is P F d v) (h : keyT d = some k) : ∃ b, v = .ref b ∧ F b = some (.tup (k.map kV)) := by
  cases d with
  | tup ds =>
    rw [Is] at i
    obtain ⟨a, vs, h1, h2, h3⟩ := i
    rw [keysA_is h3 h] at h2
    exact ⟨a, h1, h2⟩
  | _ => cases h
theorem is_kD (k : Key) : Is P F (kD k) (kV k) := by
  cases k with
  | inl i => exact is_int
  | inr s => exact is_str
theorem isL_kD : ∀ (k : List Key), IsL P F (k.map kD) (k.map kV)
  | [] => .nil
  | k :: r => .cons (is_kD k) (isL_kD r)
theorem is_ktD {k : List Key} {b : Addr} (h : F b = some (.tup (k.map kV))) : Is P F (ktD k) (.ref b) := by
  unfold ktD
  rw [Is]
  exact ⟨b, _, rfl, h, isL_kD k⟩
/-! ### look up and store -/
section
variable {κ : Type} [DecidableEq κ]
def valD (ks : List κ) (xs : List D) (k : κ) : Option D := ((ks.zip xs).find? fun p => decide (p.1 = k)).map (·.2)
theorem valD_is {k : κ} : ∀ {ks : List κ} {xs : List D} {vs : List V}, IsL P F xs vs → (∀ d, valD ks xs k = some d → ∃ v, valV (ks.zip vs) k = some v ∧ Is P F d v) ∧ (valD ks xs k = none → valV (ks.zip vs) k = none)
  | [], _, _, _ => ⟨fun d h => (by cases h), fun _ => rfl⟩
  | k' :: ks, [], _, i => by
    obtain rfl := i.unnil
    exact ⟨fun d h => (by cases h), fun _ => rfl⟩
  | k' :: ks, x :: xs, _, i => by
    obtain ⟨v, r, rfl, i1, i2⟩ := i.uncons
    by_cases hk : k' = k
    · have e1 : valD (k' :: ks) (x :: xs) k = some x := by simp [valD, List.find?_cons, hk]
      have e2 : valV ((k' :: ks).zip (v :: r)) k = some v := valV_pos hk
      exact ⟨fun d h => by rw [e1] at h; cases h; exact ⟨v, e2, i1⟩, fun h => by rw [e1] at h; cases h⟩
    · have e1 : valD (k' :: ks) (x :: xs) k = valD ks xs k := by simp [valD, List.find?_cons, hk]
      have e2 : valV ((k' :: ks).zip (v :: r)) k = valV (ks.zip r) k := valV_neg hk
      rw [e1, e2]
      exact valD_is i2
def repX {α : Type} : List κ → List α → κ → α → List α
  | k' :: ks, x :: xs, k, d => (if k' = k then d else x) :: repX ks xs k d
  | _, _, _, _ => []
theorem repX_cons {α : Type} (k' : κ) (ks : List κ) (x : α) (xs : List α) (k : κ) (d : α) : repX (k' :: ks) (x :: xs) k d = (if k' = k then d else x) :: repX ks xs k d := rfl
def putKs (ks : List κ) (k : κ) : List κ := if k ∈ ks then ks else ks ++ [k]
def putXs {α : Type} (ks : List κ) (xs : List α) (k : κ) (d : α) : List α := if k ∈ ks then repX ks xs k d else xs ++ [d]
theorem rep_is {k : κ} {d : D} {v : V} (hd : Is P F d v) : ∀ {ks : List κ} {xs : List D} {vs : List V}, ks.length = vs.length → IsL P F xs vs → IsL P F (repX ks xs k d) (repX ks vs k v)
  | [], _, _, _, _ => .nil
  | k' :: ks, [], _, l, i => by
    obtain rfl := i.unnil
    simp at l
  | k' :: ks, x :: xs, _, l, i => by
    obtain ⟨w, r, rfl, i1, i2⟩ := i.uncons
    have ih := rep_is (k := k) hd (ks := ks) (by simpa using l) i2
    unfold repX
    by_cases hk : k' = k
    · rw [if_pos hk, if_pos hk]
      exact .cons hd ih
    · rw [if_neg hk, if_neg hk]
      exact .cons i1 ih
theorem rep_zip {k : κ} {v : V} : ∀ {ks : List κ} {vs : List V}, ks.length = vs.length → (ks.zip vs).map (fun kv => if kv.1 = k then (kv.1, v) else kv) = ks.zip (repX ks vs k v)
  | [], [], _ => rfl
  | k' :: ks, w :: vs, l => by
    rw [List.zip_cons_cons, List.map_cons, rep_zip (by simpa using l), repX_cons, List.zip_cons_cons]
    by_cases hk : k' = k
    · simp [hk]
    · simp [hk]
  | [], _ :: _, l => by simp at l
  | _ :: _, [], l => by simp at l
theorem rep_len {α : Type} {k : κ} {v : α} : ∀ {ks : List κ} {vs : List α}, ks.length = vs.length → (repX ks vs k v).length = ks.length
  | [], [], _ => rfl
  | k' :: ks, w :: vs, l => by
    unfold repX
    simp [rep_len (k := k) (v := v) (ks := ks) (vs := vs) (by simpa using l)]
  | [], _ :: _, l => by simp at l
  | _ :: _, [], l => by simp at l
theorem any_mem {k : κ} : ∀ {ks : List κ} {vs : List V}, ks.length = vs.length → ((ks.zip vs).any fun kv => decide (kv.1 = k)) = decide (k ∈ ks)
  | [], [], _ => rfl
  | k' :: ks, w :: vs, l => by
    rw [List.zip_cons_cons, List.any_cons, any_mem (by simpa using l)]
    by_cases hk : k' = k
    · simp [hk]
    · simp [hk, Ne.symm hk]
  | [], _ :: _, l => by simp at l
  | _ :: _, [], l => by simp at l
theorem put_is {k : κ} {d : D} {v : V} {ks : List κ} {xs : List D} {vs : List V} (hd : Is P F d v) (l : ks.length = vs.length) (i : IsL P F xs vs) :
    putK (ks.zip vs) k v = (putKs ks k).zip (putXs ks vs k v) ∧ (putKs ks k).length = (putXs ks vs k v).length ∧ IsL P F (putXs ks xs k d) (putXs ks vs k v) := by
  unfold putK putKs putXs
  rw [any_mem l]
  by_cases hk : k ∈ ks
  · rw [if_pos (decide_eq_true hk), if_pos hk, if_pos hk, if_pos hk]
    exact ⟨rep_zip l, (rep_len l).symm, rep_is hd l i⟩
  · rw [if_neg (by simpa using hk), if_neg hk, if_neg hk, if_neg hk]
    refine ⟨?_, by simp [l], i.append (.cons hd .nil)⟩
    rw [List.zip_append l]
    rfl
end
end
def dgetD : D → D → Option D
  | .dT ks xs, y => (keyT y).bind (valD ks xs)
  | .dK ks xs, y => (keyA y).bind (valD ks xs)
  | _, _ => none
/-- is it a dict that knows this key, and what it has there -/
def dlookD : D → D → Option (Option D)
  | .dT ks xs, y => (keyT y).map (valD ks xs)
  | .dK ks xs, y => (keyA y).map (valD ks xs)
  | _, _ => none
section
variable {X : Cx} {P : Pm} {F0 : Fz} {H0 : Hp} {W : WX} {a b c e o : Expr} {es : List Expr} {fa fb fc : Env → Res D} {fs : Env → Res (List D)} {pos p apos cpos : Pos} {σ : St} {H F : Hp}
theorem look_get {x y : D} {vx vy : V} {r : Option D} (s : Sb P F H) (ix : Vw P F H x vx) (iy : Is P F y vy) (h : dlookD x y = some r) : ∃ a o, vx = .ref a ∧ DGet H a vy o ∧ (∀ d, r = some d → ∃ v, o = some v ∧ Is P F d v) ∧ (r = none → o = none) := by
  cases x with
  | dT ks xs =>
    obtain ⟨a, vs, rfl, h1, h2, h3⟩ := ix
    have h : (keyT y).map (valD ks xs) = some r := h
    cases hk : keyT y with
    | none =>
      rw [hk] at h
      cases h
    | some k =>
      rw [hk] at h
      have hr : valD ks xs k = r := Option.some.inj h
      obtain ⟨b, rfl, hb⟩ := keyT_is iy hk
      obtain ⟨q1, q2⟩ := valD_is (k := k) (ks := ks) h3
      refine ⟨a, valV (ks.zip vs) k, rfl, .inr ⟨_, k, b, h1, rfl, s.ex _ _ hb, rfl⟩, fun d hd => ?_, fun hn => q2 (hr.trans hn)⟩
      obtain ⟨v, e1, e2⟩ := q1 d (hr.trans hd)
      exact ⟨v, e1, e2⟩
  | dK ks xs =>
    obtain ⟨a, vs, rfl, h1, h2, h3⟩ := ix
    have h : (keyA y).map (valD ks xs) = some r := h
    cases hk : keyA y with
    | none =>
      rw [hk] at h
      cases h
    | some k =>
      rw [hk] at h
      have hr : valD ks xs k = r := Option.some.inj h
      have ev := keyA_is iy hk
      obtain ⟨q1, q2⟩ := valD_is (k := k) (ks := ks) h3
      refine ⟨a, valV (ks.zip vs) k, rfl, .inl ⟨_, k, h1, ev, rfl⟩, fun d hd => ?_, fun hn => q2 (hr.trans hn)⟩
      obtain ⟨v, e1, e2⟩ := q1 d (hr.trans hd)
      exact ⟨v, e1, e2⟩
  | _ => cases h
def dgetR (x y : D) : Res D := match dlookD x y with
  | some (some d) => .ok d
  | _ => .bad
/-- d[k] -/
theorem pd_dget (hu : X.A.units + 1 < cLine) (ha : PE X a (tV P F0 H0 W fa)) (hb : PE X b (tE P F0 H0 W fb)) (hs : NoSl b) : PE X (.Subscript a b pos) (tE P F0 H0 W (fN dgetR fa fb)) := (pe_dget hu ha hb hs).imp fun σ H Q ⟨F, ρ, er, z⟩ => by
  refine ⟨F, ρ, er, (PostG.bind (rel := rVw P) z).imp ?_⟩
  rintro x H1 ⟨F1, dx, g1, i1, z1⟩
  refine ⟨F1, ρ, er.grow g1, (PostG.bind (rel := rIs P) z1).imp ?_⟩
  rintro y H2 ⟨F2, dy, g2, i2, z2⟩
  unfold dgetR at z2
  split at z2
  · rename_i d hd
    obtain ⟨ad, ov, rfl, h1, h2, _⟩ := look_get g2.s (i1.mono g2.f g2.h dx) i2 hd
    obtain ⟨v, rfl, iv⟩ := h2 d rfl
    exact ⟨ad, v, rfl, h1, z2.here g2.s iv⟩
  · exact z2.elim
def dinR (y x : D) : Res D := match dlookD x y with
  | some r => .ok (.bl r.isSome)
  | _ => .bad
def dnotR (y x : D) : Res D := match dlookD x y with
  | some r => .ok (.bl (!r.isSome))
  | _ => .bad
/-- k in d -/
theorem pc_dinD (hu : X.A.units + 1 < cLine) (ha : PE X a (tE P F0 H0 W fa)) (hb : PE X b (tV P F0 H0 W fb)) : PC X .In a b (tE P F0 H0 W (fN dinR fa fb)) := ⟨fun pins s σ H Q I ⟨F, ρ, er, z⟩ => (pc_din hu ha hb).run pins s σ H Q I (by
  refine ⟨F, ρ, er, (PostG.bind (rel := rIs P) z).imp ?_⟩
  rintro y H1 ⟨F1, dy, g1, i1, z1⟩
  refine ⟨F1, ρ, er.grow g1, (PostG.bind (rel := rVw P) z1).imp ?_⟩
  rintro x H2 ⟨F2, dx, g2, i2, z2⟩
  unfold dinR at z2
  split at z2
  · rename_i r hd
    obtain ⟨ad, ov, rfl, h1, h2, h3⟩ := look_get g2.s i2 (i1.mono g2.f dy) hd
    have e : ov.isSome = r.isSome := by
      cases r with
      | none =>
        rw [h3 rfl]
        rfl
      | some d =>
        obtain ⟨v, rfl, _⟩ := h2 d rfl
        rfl
    exact ⟨ad, ov, rfl, h1, by rw [e]; exact z2.here g2.s is_bl⟩
  · exact z2.elim)⟩
theorem pc_dnotD (hu : X.A.units + 1 < cLine) (ha : PE X a (tE P F0 H0 W fa)) (hb : PE X b (tV P F0 H0 W fb)) : PC X .NotIn a b (tE P F0 H0 W (fN dnotR fa fb)) := ⟨fun pins s σ H Q I ⟨F, ρ, er, z⟩ => (pc_dnotin hu ha hb).run pins s σ H Q I (by
  refine ⟨F, ρ, er, (PostG.bind (rel := rIs P) z).imp ?_⟩
  rintro y H1 ⟨F1, dy, g1, i1, z1⟩
  refine ⟨F1, ρ, er.grow g1, (PostG.bind (rel := rVw P) z1).imp ?_⟩
  rintro x H2 ⟨F2, dx, g2, i2, z2⟩
  unfold dnotR at z2
  split at z2
  · rename_i r hd
    obtain ⟨ad, ov, rfl, h1, h2, h3⟩ := look_get g2.s i2 (i1.mono g2.f dy) hd
    have e : ov.isSome = r.isSome := by
      cases r with
      | none =>
        rw [h3 rfl]
        rfl
      | some d =>
        obtain ⟨v, rfl, _⟩ := h2 d rfl
        rfl
    exact ⟨ad, ov, rfl, h1, by rw [e]; exact z2.here g2.s is_bl⟩
  · exact z2.elim)⟩
/-- {} -/
theorem nd_dnT : PE X (.Dict [] [] pos) (tN P F0 H0 W (fun _ => .ok (.dT [] []))) := pe_dnewT.imp fun σ H Q ⟨F, ρ, er, z⟩ => fun p hp =>
  z _ F _ (.junk er.s (.new hp)) ⟨p, rfl, .of hp, er.s.back hp, [], upd_same, rfl, .nil⟩
theorem nd_dnK : PE X (.Dict [] [] pos) (tN P F0 H0 W (fun _ => .ok (.dK [] []))) := pe_dnewK.imp fun σ H Q ⟨F, ρ, er, z⟩ => fun p hp =>
  z _ F _ (.junk er.s (.new hp)) ⟨p, rfl, .of hp, er.s.back hp, [], upd_same, rfl, .nil⟩
/-! ### x[k] = v, x a name whose dict is one's own -/
def putE (i : Nat) (ρ : Env) (y d : D) : RS := match ρ[i]? with
  | some (some (.ow (.dT ks xs))) => (match keyT y with
    | some k => if small (ks.length + 1) = true then .nx (ρ.set i (some (.ow (.dT (putKs ks k) (putXs ks xs k d))))) else .bad
    | none => .bad)
  | some (some (.ow (.dK ks xs))) => (match keyA y with
    | some k => if small (ks.length + 1) = true then .nx (ρ.set i (some (.ow (.dK (putKs ks k) (putXs ks xs k d))))) else .bad
    | none => .bad)
  | _ => .bad
def isOwD (i : Nat) (ρ : Env) : Res Unit := match ρ[i]? with
  | some (some (.ow (.dT _ _))) => .ok ()
  | some (some (.ow (.dK _ _))) => .ok ()
  | _ => .bad
theorem isOwD_cases (i : Nat) (ρ : Env) : (isOwD i ρ = .bad) ∨ ∃ dd, isOwD i ρ = .ok () ∧ ρ[i]? = some (some (.ow dd)) := by
  unfold isOwD
  split
  · rename_i q
    exact .inr ⟨_, rfl, q⟩
  · rename_i q
    exact .inr ⟨_, rfl, q⟩
  · exact .inl rfl
abbrev sDput (i : Nat) (fk fv : Env → Res D) : Env → RS := fun ρ => bindS (fv ρ) ρ fun d => bindS (isOwD i ρ) ρ fun _ => bindS (fk ρ) ρ fun y => putE i ρ y d
theorem sd_dput (i : Nat) {x : Str} {p1 pos' : Pos} (hu : X.A.units + 1 < cLine) (hk : PE X b (tE P F0 H0 W fb)) (hv : PE X c (tE P F0 H0 W fc)) (hN : X.N[i]? = some x := by rfl) (hvi : Vis X.env.scope x := by first | exact Or.inl rfl | exact Or.inr (Or.inl rfl) | exact Or.inr (Or.inr rfl)) (hd : (x == ("__debug__" : Str)) = false := by decide)
    (hcd : (x == ("__classdict__" : Str)) = false := by decide) (hs : swapsWith c (some (.Subscript (.Name x p1) b pos')) pos.line X.env = pure false := by rfl) :
    PS X (.Assign [.Subscript (.Name x p1) b pos'] c pos) (tS P F0 H0 W (sDput i fb fc)) := (ps_dput hu (pe_var hN hvi hd hcd) hk hv hs).imp fun N σ H ⟨F, ρ, er, z⟩ => by
  refine ⟨F, ρ, er, (PostS.bind (rel := rIs P) er z).imp ?_⟩
  rintro v H1 ⟨F1, d, g1, i1, z1⟩
  have er1 := er.grow g1
  rcases isOwD_cases i ρ with hb | ⟨dd, hb, hρ⟩
  · rw [hb] at z1
    exact z1.elim
  · rw [hb] at z1
    replace z1 : PostS P F0 H0 W F1 (bindS (fb ρ) ρ fun y => putE i ρ y d) N := z1
    obtain ⟨ad, hσ, _⟩ := er1.ow i dd hρ
    show ∃ w, σ[i]? = some (some w) ∧ tE P F0 H0 W fb σ H1 fun y H3 => ∃ a H4, w = .ref a ∧ DPut H3 a y v H4 ∧ N.nx σ H4
    exact (by
      refine ⟨.ref ad, hσ, F1, ρ, er1, (PostS.bind (rel := rIs P) er1 z1).imp ?_⟩
      rintro y H3 ⟨F3, dy, g3, i3, z3⟩
      have er3 := er1.grow g3
      obtain ⟨ad', h1, h2, h3, h4⟩ := er3.ow i dd hρ
      rw [hσ] at h1
      cases h1
      unfold putE at z3
      rw [hρ] at z3
      cases dd with
      | dT ks xs =>
        obtain ⟨vs, k1, k2, k3⟩ := h4
        dsimp only at z3
        cases hky : keyT dy with
        | none =>
          rw [hky] at z3
          exact z3.elim
        | some k =>
          rw [hky] at z3
          dsimp only at z3
          by_cases hz : small (ks.length + 1) = true
          · rw [if_pos hz] at z3
            obtain ⟨bb, rfl, hb⟩ := keyT_is i3 hky
            obtain ⟨e1, e2, e3⟩ := put_is (k := k) (i1.mono g3.f d) k2 k3
            refine ⟨ad, _, rfl, .inr ⟨_, k, bb, k1, rfl, er3.s.ex _ _ hb, ?_, rfl⟩, z3 σ F3 _ (er3.mut hρ hσ ⟨_, by rw [upd_same, e1], e2, e3⟩) (.refl F3)⟩
            have := small_lt hz
            simp [List.length_zip, ← k2]
            omega
          · rw [if_neg hz] at z3
            exact z3.elim
      | dK ks xs =>
        obtain ⟨vs, k1, k2, k3⟩ := h4
        dsimp only at z3
        cases hky : keyA dy with
        | none =>
          rw [hky] at z3
          exact z3.elim
        | some k =>
          rw [hky] at z3
          dsimp only at z3
          by_cases hz : small (ks.length + 1) = true
          · rw [if_pos hz] at z3
            have ey := keyA_is i3 hky
            obtain ⟨e1, e2, e3⟩ := put_is (k := k) (i1.mono g3.f d) k2 k3
            refine ⟨ad, _, rfl, .inl ⟨_, k, k1, ey, ?_, rfl⟩, z3 σ F3 _ (er3.mut hρ hσ ⟨_, by rw [upd_same, e1], e2, e3⟩) (.refl F3)⟩
            have := small_lt hz
            simp [List.length_zip, ← k2]
            omega
          · rw [if_neg hz] at z3
            exact z3.elim
      | _ => exact z3.elim)
end
end DL
namespace DL
open PySem L2

/-! ### walks over dicts -/
section
variable {P : Pm} {F H : Hp}
/-- a tuple that stands is data -/
theorem tup_in {q : Addr} {vs : List V} (s : Sb P F H) (h : H q = some (.tup vs)) : ∃ F2, Grow P F H F2 H ∧ F2 q = some (.tup vs) := by
  cases e : F q with
  | some o =>
    have := s.ex _ _ e
    rw [h] at this
    cases this
    exact ⟨F, .refl s, e⟩
  | none => exact ⟨upd F q (.tup vs), ⟨.new e, .refl H, s.keep e h rfl, fun a o ho => by
      by_cases z : a = q
      · subst z
        rw [upd_same] at ho
        cases ho
        exact .inr (.inr ⟨_, rfl⟩)
      · rw [upd_ne z] at ho
        exact .inl ho⟩, upd_same⟩
theorem keys_in : ∀ {ks : List (List Key)} {vs : List V} {bs : List Addr} {F : Hp}, Sb P F H → ks.length = vs.length → IsKeys H (ks.zip vs) bs → ∃ F2, Grow P F H F2 H ∧ IsL P F2 (ks.map ktD) (bs.map V.ref)
  | [], vs, bs, F, s, l, h => by
    cases h
    exact ⟨F, .refl s, .nil⟩
  | k :: ks, [], bs, F, s, l, h => by simp at l
  | k :: ks, v :: vs, bs, F, s, l, h => by
    cases h with
    | @cons _ b _ bs' h1 h2 =>
      obtain ⟨F1, g1, e1⟩ := tup_in s h1
      obtain ⟨F2, g2, i2⟩ := keys_in (vs := vs) g1.s (by simpa using l) h2
      exact ⟨F2, g1.trans g2, .cons (is_ktD (g2.f _ _ e1)) i2⟩
def keysD : D → Res (List D)
  | .dT ks _ => .ok (ks.map ktD)
  | .dK ks _ => .ok (ks.map kD)
  | _ => .bad
theorem zip_get {α β : Type} : ∀ {ks : List α} {vs : List β} {i : Nat} {k : α}, ks.length = vs.length → ks[i]? = some k → ∃ v, (ks.zip vs)[i]? = some (k, v)
  | ks, vs, i, k, l, h => by
    have hi := lt_of_get h
    refine ⟨vs[i]'(by omega), ?_⟩
    rw [List.getElem?_zip_eq_some]
    exact ⟨h, List.getElem?_eq_getElem (by omega)⟩
theorem itkt_D {d : Addr} {o : Obj} {ks : List (List Key)} {vs : List V} (l : ks.length = vs.length) (h : F d = some (.frz o (.dT (ks.zip vs)))) : ItD P F H (ks.map ktD) (Itkt d o (ks.zip vs)) := fun j F1 H1 e1 e2 => by
  have hd : H1 d = some (.frz o (.dT (ks.zip vs))) := e2.ex _ _ (e1 _ _ h)
  have hl : (ks.zip vs).length = ks.length := by simp [List.length_zip, ← l]
  refine ⟨fun x hx => ?_, fun hn => ⟨hd, by rw [hl]; simpa using hn⟩⟩
  rw [List.getElem?_map] at hx
  cases hk : ks[j]? with
  | none =>
    rw [hk] at hx
    cases hx
  | some k =>
    rw [hk] at hx
    cases hx
    refine ⟨⟨hd, by rw [hl]; exact lt_of_get hk⟩, ?_⟩
    rintro v H2 ⟨rfl, k', w, q, h1, rfl, h2⟩
    obtain ⟨w', h3⟩ := zip_get l hk
    rw [h3] at h1
    cases h1
    obtain ⟨F2, g2, e3⟩ := tup_in e2 h2
    exact ⟨F2, g2, is_ktD e3⟩
theorem itk_D {d : Addr} {o : Obj} {ks : List Key} {vs : List V} (l : ks.length = vs.length) (h : F d = some (.frz o (.dK (ks.zip vs)))) : ItD P F H (ks.map kD) (Itk d o (ks.zip vs)) := fun j F1 H1 e1 e2 => by
  have hd : H1 d = some (.frz o (.dK (ks.zip vs))) := e2.ex _ _ (e1 _ _ h)
  have hl : (ks.zip vs).length = ks.length := by simp [List.length_zip, ← l]
  refine ⟨fun x hx => ?_, fun hn => ⟨hd, by rw [hl]; simpa using hn⟩⟩
  rw [List.getElem?_map] at hx
  cases hk : ks[j]? with
  | none =>
    rw [hk] at hx
    cases hx
  | some k =>
    rw [hk] at hx
    cases hx
    refine ⟨⟨hd, by rw [hl]; exact lt_of_get hk⟩, ?_⟩
    rintro v H2 ⟨rfl, k', w, h1, rfl⟩
    obtain ⟨w', h3⟩ := zip_get l hk
    rw [h3] at h1
    cases h1
    exact ⟨F1, .refl e2, is_kD k⟩
end
section
variable {X : Cx} {P : Pm} {F0 : Fz} {H0 : Hp} {W : WX} {a b c e l o tg : Expr} {es : List Expr} {fa fb fc : Env → Res D} {fs : Env → Res (List D)} {pos p apos cpos : Pos} {σ : St} {H F : Hp}
theorem un_dT {ks : List (List Key)} {xs : List D} {v : V} (h : Is P F (.dT ks xs) v) : ∃ a o vs, v = .ref a ∧ F a = some (.frz o (.dT (ks.zip vs))) ∧ ks.length = vs.length ∧ IsL P F xs vs := by
  rw [Is] at h
  exact h
theorem un_dK {ks : List Key} {xs : List D} {v : V} (h : Is P F (.dK ks xs) v) : ∃ a o vs, v = .ref a ∧ F a = some (.frz o (.dK (ks.zip vs))) ∧ ks.length = vs.length ∧ IsL P F xs vs := by
  rw [Is] at h
  exact h
abbrev iKs (f : Env → Res D) : Env → Res (List D) := fun ρ => f ρ >>= keysD
/-- for k in d -/
theorem id_keys (h : PE X l (tE P F0 H0 W fa)) : PI X tg l (tI P F0 H0 W (iKs fa)) := (pi_keys h).imp fun σ H R ⟨F, ρ, er, z⟩ => by
  refine ⟨F, ρ, er, (PostG.bind (rel := rIs P) z).imp ?_⟩
  rintro v H1 ⟨F1, d, g, i, q⟩
  unfold keysD at q
  split at q
  · obtain ⟨ad, od, vs, rfl, h1, h2, h3⟩ := un_dT i
    exact ⟨ad, od, rfl, .inr ⟨_, g.s.ex _ _ h1, q.here g.s (itkt_D h2 h1)⟩⟩
  · obtain ⟨ad, od, vs, rfl, h1, h2, h3⟩ := un_dK i
    exact ⟨ad, od, rfl, .inl ⟨_, g.s.ex _ _ h1, q.here g.s (itk_D h2 h1)⟩⟩
  · exact q.elim
/-! ### list(d) -/
def cListT : List D → Option D
  | [.dT ks _] => some (.lst (ks.map ktD))
  | _ => none
theorem ic_listT (hc : X.calm = true) : CallR X (.type "list") (rcO P cListT) := fun pins s σ H xs us Q I rx ⟨F, ds, d, e, i, hd, q⟩ => by
  unfold cListT at hd
  split at hd
  · cases hd
    obtain ⟨v, r, rfl, i1, i⟩ := i.uncons
    obtain rfl := i.unnil
    obtain ⟨ad, vs, rfl, h1, h2, h3⟩ := i1
    refine call_list_dT hc pins s σ H _ us Q I rx ⟨ad, _, rfl, h1, fun p bs hp hk => ?_⟩
    obtain ⟨F2, g2, i2⟩ := keys_in e h2 hk
    exact q _ (upd F2 p (.lst (bs.map V.ref))) _ (g2.trans (.new g2.s hp)) (by rw [Is]; exact ⟨p, _, rfl, .inl upd_same, i2.mono (.new (g2.s.back hp)) _⟩)
  · cases hd
/-! ### d.get(k, x) -/
def isDc (x : D) : Res Unit := match x with
  | .dT _ _ => .ok ()
  | .dK _ _ => .ok ()
  | _ => .bad
def dgetO (x y z : D) : Res D := match dlookD x y with
  | some (some d) => .ok d
  | some none => .ok z
  | none => .bad
abbrev fDget (fa fb fc : Env → Res D) : Env → Res D := fun ρ => do let x ← fa ρ; let _ ← isDc x; let y ← fb ρ; let z ← fc ρ; dgetO x y z
theorem isDc_of {x : D} {v : V} (i : Vw P F H x v) (h : isDc x = .ok ()) : ∃ a, v = .ref a ∧ IsD H a := by
  unfold isDc at h
  split at h
  · obtain ⟨a, vs, h1, h2, _⟩ := i
    exact ⟨a, h1, .inr ⟨_, h2⟩⟩
  · obtain ⟨a, vs, h1, h2, _⟩ := i
    exact ⟨a, h1, .inl ⟨_, h2⟩⟩
  · cases h
theorem isDc_cases (x : D) : isDc x = .ok () ∨ isDc x = .bad := by
  unfold isDc
  split
  · exact .inl rfl
  · exact .inl rfl
  · exact .inr rfl
theorem pd_dgetO (hu : X.A.units + 1 < cLine) (ho : PE X o (tV P F0 H0 W fa)) (hk : PE X b (tE P F0 H0 W fb)) (hx : PE X c (tE P F0 H0 W fc)) (m : M2 X o "get" apos b c cpos := by exact ⟨rfl, rfl, rfl, rfl⟩) : PE X (.Call (.Attribute o "get" apos) [b, c] [] cpos) (tE P F0 H0 W (fDget fa fb fc)) :=
  (pe_dget2 hu ho hk hx m).imp fun σ H Q ⟨F, ρ, er, z⟩ => by
  refine ⟨F, ρ, er, (PostG.bind (rel := rVw P) z).imp ?_⟩
  rintro x H1 ⟨F1, dx, g1, i1, z1⟩
  rcases isDc_cases dx with hd | hd
  · replace z1 : PostG P W (rIs P) (isDc dx >>= fun _ => do let y ← fb ρ; let z ← fc ρ; dgetO dx y z) F1 σ H1 Q := z1
    rw [hd] at z1
    replace z1 : PostG P W (rIs P) (do let y ← fb ρ; let z ← fc ρ; dgetO dx y z) F1 σ H1 Q := z1
    obtain ⟨ad, rfl, hD⟩ := isDc_of i1 hd
    refine ⟨ad, rfl, hD, F1, ρ, er.grow g1, (PostG.bind (rel := rIs P) z1).imp ?_⟩
    rintro y H2 ⟨F2, dy, g2, i2, z2⟩
    refine ⟨F2, ρ, (er.grow g1).grow g2, (PostG.bind (rel := rIs P) z2).imp ?_⟩
    rintro w H3 ⟨F3, dz, g3, i3, z3⟩
    unfold dgetO at z3
    split at z3
    · rename_i d hl
      obtain ⟨ad', ov, ea, h1, h2, _⟩ := look_get g3.s ((i1.mono g2.f g2.h dx).mono g3.f g3.h dx) (i2.mono g3.f dy) hl
      cases ea
      obtain ⟨v, rfl, iv⟩ := h2 d rfl
      exact ⟨_, h1, z3.here g3.s iv⟩
    · rename_i hl
      obtain ⟨ad', ov, ea, h1, _, h3⟩ := look_get g3.s ((i1.mono g2.f g2.h dx).mono g3.f g3.h dx) (i2.mono g3.f dy) hl
      cases ea
      have := h3 rfl
      subst this
      exact ⟨_, h1, z3.here g3.s i3⟩
    · exact z3.elim
  · replace z1 : PostG P W (rIs P) (isDc dx >>= fun _ => do let y ← fb ρ; let z ← fc ρ; dgetO dx y z) F1 σ H1 Q := z1
    rw [hd] at z1
    exact z1.elim
end
end DL
namespace DL
open PySem L2

/-! ### dict(a list of pairs), the keys tuples -/
def mergeT (kvs more : List (List Key × V)) : List (List Key × V) := more.foldl (fun acc kv => putK acc kv.1 kv.2) kvs
/-- a pair of the list: its own address, key, the key's address, value -/
structure Pq where
  a : Addr
  k : List Key
  b : Addr
  v : V
section
variable {X : Cx} {pins : List (Addr × Obj)} {σ : St} {H : Hp} {s : Shared}
theorem refs_vals : ∀ {as : List Addr} {us : List Value}, Vals (as.map V.ref) us → us = as.map Value.ref
  | [], _, .nil => rfl
  | a :: r, _, .cons (b := u) h t => by
    cases (show u = Value.ref a from h)
    rw [refs_vals t]
    rfl
/-- the pairs' values, as they stand -/
theorem pq_vals (I : Inv X pins σ H s) : ∀ {L : List Pq}, (∀ q ∈ L, H q.a = some (.tup [.ref q.b, q.v]) ∧ H q.b = some (.tup (q.k.map kV))) →
    ∃ us : List Value, us.length = L.length ∧ ∀ (j : Nat) (q : Pq) (u : Value), L[j]? = some q → us[j]? = some u → RelV q.v u ∧ s.heap.IsTuple q.a #[.ref q.b, u]
  | [], _ => ⟨[], rfl, fun j q u h => by simp at h⟩
  | q :: L, h => by
    obtain ⟨us, h1, h2⟩ := pq_vals I (L := L) fun x hx => h x (List.mem_cons_of_mem _ hx)
    obtain ⟨h3, h4⟩ := h q List.mem_cons_self
    obtain ⟨_, its, rv, it⟩ := (show ObjOk X.prog X.w H s.heap q.a (.tup [.ref q.b, q.v]) from I.hok _ _ h3)
    cases rv with
    | cons r1 t1 =>
      cases t1 with
      | cons r2 t2 =>
        cases t2
        rename_i u1 u2
        cases (show u1 = Value.ref q.b from r1)
        refine ⟨u2 :: us, by simp [h1], fun j x u hj hu => ?_⟩
        cases j with
        | zero =>
          simp at hj hu
          subst hj hu
          exact ⟨r2, it⟩
        | succ j =>
          simp at hj hu
          exact h2 j x u hj hu
theorem kt_merge : ∀ {L : List Pq} {us : List Value} {kvs : List (List Key × V)} {xs : List (List Key × Addr × Value)}, us.length = L.length → (∀ q ∈ L, H q.b = some (.tup (q.k.map kV))) → (∀ (j : Nat) (q : Pq) (u : Value), L[j]? = some q → us[j]? = some u → RelV q.v u) → KT H kvs xs →
    KT H (mergeT kvs (L.map fun q => (q.k, q.v))) (storedAllH xs ((L.zip us).map fun p => (p.1.k, p.1.b, p.2)))
  | [], us, kvs, xs, l, _, _, r => by
    cases us with
    | nil => exact r
    | cons _ _ => simp at l
  | q :: L, [], kvs, xs, l, _, _, r => by simp at l
  | q :: L, u :: us, kvs, xs, l, hb, hv, r => by
    have r1 := r.put q.k (hb q List.mem_cons_self) (hv 0 q u rfl rfl)
    exact kt_merge (L := L) (us := us) (by simpa using l) (fun x hx => hb x (List.mem_cons_of_mem _ hx)) (fun j x w h1 h2 => hv (j + 1) x w (by simpa using h1) (by simpa using h2)) r1
theorem merge_len : ∀ (L : List (List Key × V)) (kvs : List (List Key × V)), (mergeT kvs L).length ≤ kvs.length + L.length
  | [], kvs => by simp [mergeT]
  | q :: L, kvs => by
    have h1 := length_putK kvs q.1 q.2
    have h2 := merge_len L (putK kvs q.1 q.2)
    have e : mergeT kvs (q :: L) = mergeT (putK kvs q.1 q.2) L := rfl
    rw [e]
    simp
    omega
end
section
variable {X : Cx}
theorem call_dictT (hcalm : X.calm = true) (hu : X.A.units + 8 < cLine) : CallR X (.type "dict") (fun xs H Q => ∃ (a : Addr) (L : List Pq), xs = [.ref a] ∧ Rd H a (.lst (L.map fun q => V.ref q.a)) ∧ (∀ q ∈ L, H q.a = some (.tup [.ref q.b, q.v]) ∧ H q.b = some (.tup (q.k.map kV))) ∧ L.length ≤ 1000000 ∧
    ∀ p, H p = none → Q (.ref p) (upd H p (.dT (mergeT [] (L.map fun q => (q.k, q.v)))))) := by
  intro pins s σ H xs us Q I r ⟨a, L, ex, hq, hp, hl, q⟩
  subst ex
  obtain ⟨u, eu, rx⟩ := r.one
  subst eu
  cases rx
  obtain ⟨hz, its, n, rv, hls⟩ := Inv.rdl I hq
  have ei : its = (L.map (·.a)).map Value.ref := refs_vals (by rw [List.map_map]; exact rv)
  obtain ⟨ws, w1, w2⟩ := pq_vals I hp
  have ok1 : PlainSeq "list" s.heap a its.toArray := ⟨_, n, hls, rfl, rfl, rfl⟩
  have hps : ∀ (j : Nat) (k v : Value), ((L.zip ws).map fun p => ((Value.ref p.1.b), p.2))[j]? = some (k, v) → ∃ q, L[j]? = some q ∧ ws[j]? = some v ∧ k = .ref q.b := by
    intro j k v h
    rw [List.getElem?_map] at h
    cases hz : (L.zip ws)[j]? with
    | none =>
      rw [hz] at h
      cases h
    | some p =>
      rw [hz] at h
      cases h
      rw [List.getElem?_zip_eq_some] at hz
      exact ⟨p.1, hz.1, hz.2, rfl⟩
  have ok2 : PairItems s.heap its.toArray (fun j => ((L[j]?).map (·.a)).getD 0) ((L.zip ws).map fun p => ((Value.ref p.1.b), p.2)) := by
    refine ⟨by simp [ei, w1], fun j k v h => ?_⟩
    obtain ⟨q', h1, h2, rfl⟩ := hps j k v h
    refine ⟨by simp [ei, h1], ?_⟩
    simp only [h1]
    exact .inl (w2 j q' v h1 h2).2
  have keyAt : ∀ x ∈ ((L.zip ws).map fun p => (p.1.k, p.1.b, p.2)), (tupleKind (mixKind X.prog X.w)).is s.heap x.1 x.2.1 := by
    intro x hx
    obtain ⟨p, hp', rfl⟩ := List.mem_map.mp hx
    exact key_of I.hok (hp p.1 (List.of_mem_zip hp').1).2
  refine call_dict_pairsH (knd := tupleKind (mixKind X.prog X.w)) (ps := (L.zip ws).map fun p => (p.1.k, p.1.b, p.2)) (PairArg.list a its.toArray _ _) (I.ok.hd hcalm) (by show X.A.units + 1 + 1 < cLine; omega) ⟨ok1, ok2⟩ ⟨by simp, fun i k v h => ?_⟩ (fun h' hk x hx => ?_) (by simp [w1]; exact Nat.le_trans hl (by decide)) fun h' tk hd' hk => ?_
  · obtain ⟨q', h1, h2, rfl⟩ := hps i k v h
    refine ⟨q'.k, q'.b, ?_, rfl⟩
    have e : (L.zip ws)[i]? = some (q', v) := List.getElem?_zip_eq_some.mpr ⟨h1, h2⟩
    rw [List.getElem?_map, e]
    rfl
  · exact tupleKind_stays.stays (fun b o vs n e _ => hk b o (Nat.ne_of_lt (Heap.lt_size e)) (by simp) e) (keyAt x hx)
  · have hm : (s.heap.objs.size == sysModules) = false := beq_eq_false_iff_ne.mpr (Nat.ne_of_gt I.big)
    have kt := kt_merge (kvs := []) (xs := []) w1 (fun q hq => (hp q hq).2) (fun j q u h1 h2 => (w2 j q u h1 h2).1) Paired.nil
    obtain ⟨o, es, ep, d1, d2, d3, d4, d5, d6⟩ := hd'
    have nS : H s.heap.objs.size = none := I.hok.fresh (Nat.le_refl _)
    refine ⟨.ref s.heap.objs.size, upd H s.heap.objs.size (.dT (mergeT [] (L.map fun q => (q.k, q.v)))), I.laid (t' := tk) (fun b o e => hk b o (by simp) e) (Nat.le_refl _) (show ObjOk X.prog X.w _ _ _ (.dT _) from ⟨?_, hm, _, kt.keeps fun b ys e => ?_, o, es, ep, d1, d2, d3, d4, d6⟩), rfl, q _ nS⟩
    · have := merge_len (L.map fun q => (q.k, q.v)) []
      simp at this
      exact Nat.le_trans this (Nat.le_trans hl (by decide))
    · rw [upd_ne (ne_of_none e nS)]
      exact e
/-! ### as data -/
def pairsT : List D → Option (List (List Key × D))
  | [] => some []
  | .tup [k, v] :: r => (keyT k).bind fun k => (pairsT r).map ((k, v) :: ·)
  | _ :: _ => none
def mergeD (acc : List (List Key) × List D) (l : List (List Key × D)) : List (List Key) × List D := l.foldl (fun acc p => (putKs acc.1 p.1, putXs acc.1 acc.2 p.1 p.2)) acc
def cDictT : List D → Option D
  | [.lst ps] => if small ps.length = true then (pairsT ps).map fun l => .dT (mergeD ([], []) l).1 (mergeD ([], []) l).2 else none
  | _ => none
section
variable {P : Pm} {F H : Hp}
theorem pairsT_is : ∀ {ps : List D} {vs : List V} {l : List (List Key × D)}, IsL P F ps vs → pairsT ps = some l → ∃ L : List Pq, vs = (L.map fun q => V.ref q.a) ∧ L.length = ps.length ∧ (∀ q ∈ L, F q.a = some (.tup [.ref q.b, q.v]) ∧ F q.b = some (.tup (q.k.map kV))) ∧ (L.map fun q => q.k) = l.map (·.1) ∧ IsL P F (l.map (·.2)) (L.map fun q => q.v)
  | [], _, _, i, h => by
    cases h
    obtain rfl := i.unnil
    exact ⟨[], rfl, rfl, fun q hq => by simp at hq, rfl, .nil⟩
  | p :: ps, _, l, i, h => by
    obtain ⟨v, r, rfl, i1, i2⟩ := i.uncons
    unfold pairsT at h
    split at h
    · rename_i h0
      cases h0
    · rename_i k d r' h0
      cases h0
      cases hk : keyT k with
      | none =>
        rw [hk] at h
        cases h
      | some kk =>
        rw [hk] at h
        cases hr : pairsT ps with
        | none =>
          have h' : (pairsT ps).map ((kk, d) :: ·) = some l := h
          rw [hr] at h'
          cases h'
        | some l' =>
          have h' : (pairsT ps).map ((kk, d) :: ·) = some l := h
          rw [hr] at h'
          cases h'
          obtain ⟨L, e1, e2, e3, e4, e5⟩ := pairsT_is i2 hr
          rw [Is] at i1
          obtain ⟨a, ws, rfl, h1, j⟩ := i1
          obtain ⟨w1, r1, rfl, j1, j⟩ := j.uncons
          obtain ⟨w2, r2, rfl, j2, j⟩ := j.uncons
          obtain rfl := j.unnil
          obtain ⟨b, rfl, hb⟩ := keyT_is j1 hk
          refine ⟨⟨a, kk, b, w2⟩ :: L, by simp [e1], by simp [e2], fun q hq => ?_, by simp [e4], .cons j2 e5⟩
          rcases List.mem_cons.mp hq with rfl | hq
          · exact ⟨h1, hb⟩
          · exact e3 q hq
    · cases h
theorem mergeD_is : ∀ {L : List Pq} {l : List (List Key × D)} {ks : List (List Key)} {xs : List D} {vs : List V}, (L.map fun q => q.k) = l.map (·.1) → IsL P F (l.map (·.2)) (L.map fun q => q.v) → ks.length = vs.length → IsL P F xs vs →
    ∃ vs', mergeT (ks.zip vs) (L.map fun q => (q.k, q.v)) = (mergeD (ks, xs) l).1.zip vs' ∧ (mergeD (ks, xs) l).1.length = vs'.length ∧ IsL P F (mergeD (ks, xs) l).2 vs'
  | [], [], ks, xs, vs, _, _, hl, i => ⟨vs, rfl, hl, i⟩
  | [], _ :: _, _, _, _, e, _, _, _ => by cases e
  | _ :: _, [], _, _, _, e, _, _, _ => by cases e
  | q :: L, p :: l, ks, xs, vs, e, j, hl, i => by
    rw [List.map_cons, List.map_cons] at e j
    have e1 : q.k = p.1 := (List.cons.inj e).1
    obtain ⟨v0, r0, ev, j1, j2⟩ := j.uncons
    cases ev
    obtain ⟨k1, k2, k3⟩ := put_is (k := q.k) j1 hl i
    obtain ⟨vs', m1, m2, m3⟩ := mergeD_is (L := L) (l := l) (ks := putKs ks q.k) (xs := putXs ks xs q.k p.2) (vs := putXs ks vs q.k q.v) (List.cons.inj e).2 j2 k2 k3
    have e2 : mergeD (ks, xs) (p :: l) = mergeD (putKs ks q.k, putXs ks xs q.k p.2) l := by
      rw [e1]
      rfl
    rw [e2]
    refine ⟨vs', ?_, m2, m3⟩
    rw [← m1, ← k1]
    rfl
end
section
variable {X : Cx} {P : Pm}
/-- dict(pairs): a new dict -/
theorem nd_dictT {F0 : Fz} {H0 : Hp} {W : WX} {e : Expr} {fa : Env → Res D} {p pos : Pos} (hcalm : X.calm = true) (hu : X.A.units + 8 < cLine) (hm : X.mg "dict" = none) (ha : PE X e (tV P F0 H0 W fa)) (hg : Gl X "dict" := by rfl)
    (he : starEach [e] X.env = (false, eval e X.env) :: starEach [] X.env := by rfl) (hpl : (backTo pos (starEach [] X.env)).any (·.1) = false := by rfl) :
    PE X (.Call (.Name "dict" p) [e] [] pos) (tN P F0 H0 W (fun ρ => do let x ← fa ρ; opt (cDictT [x]))) :=
  (pe_callTy (call_dictT hcalm hu) hg hm (by decide +kernel) (pa_cons ha pa_nil he) (by decide) (by decide) he hpl).imp fun σ H Q ⟨F, ρ, er, z⟩ => by
  show tV P F0 H0 W fa σ H _
  refine ⟨F, ρ, er, (PostG.bind (rel := rVw P) z).imp ?_⟩
  rintro v H1 ⟨F1, d, g, i, q⟩
  obtain ⟨d', hd, q'⟩ := opt_of q
  unfold cDictT at hd
  split at hd
  · rename_i ps hps
    cases hps
    obtain ⟨a, vs, rfl, h1, h2⟩ := i
    split at hd
    · rename_i hz
      cases hl : pairsT ps with
      | none =>
        rw [hl] at hd
        cases hd
      | some l =>
        rw [hl] at hd
        cases hd
        obtain ⟨L, e1, e2, e3, e4, e5⟩ := pairsT_is h2 hl
        obtain ⟨vs', m1, m2, m3⟩ := mergeD_is (ks := []) (xs := []) (vs := []) e4 e5 rfl .nil
        refine ⟨a, L, rfl, e1 ▸ h1, fun q hq => ⟨g.s.ex _ _ (e3 q hq).1, g.s.ex _ _ (e3 q hq).2⟩, by rw [e2]; exact of_decide_eq_true hz, fun p hp => ?_⟩
        have m1' : mergeT [] (L.map fun q => (q.k, q.v)) = (mergeD ([], []) l).1.zip vs' := m1
        rw [m1']
        exact q' _ F1 _ (.junk g.s (.new hp)) ⟨p, rfl, g.h.back hp, g.s.back hp, vs', upd_same, m2, m3⟩
    · cases hd
  · cases hd
end
end
end DL
namespace DL
open PySem L2
open PyProof.Rows (seqObj)

/-! ### sorted(d, reverse=b), the keys tuples of integers -/
def kI : Key → Int
  | .inl i => i
  | .inr _ => 0
def isInl : Key → Bool
  | .inl _ => true
  | .inr _ => false
def encT (k : List Key) : PyData := .tuple ((k.map kI).map .int)
def okSort (ks : List (List Key)) : Bool := ks.all (fun k => k.all isInl) && (decide (ks.length < 2) || ks.all (fun k => !k.isEmpty))
section
variable {prog : Program} {w : World} {A : Around} {E : Value → Shared → Prop} {s : Shared} {β : Type} {vs : List Value} {bs : List β} {enc : β → PyData} {R : Value → β → Prop}
theorem no_swo : SrtO.Swo (fun _ _ : Value => false) := ⟨fun _ _ h => (by cases h), fun _ _ _ _ _ => rfl⟩
theorem list_sort_any {a : Addr} {n : Nat} {b : Bool} {P : PySem.Fin → Shared → Prop} (ho : s.heap.get? a = some (seqObj "list" vs.toArray n)) (e : PySem.W.EachIs R vs bs) (er : PySem.W.EachIs (fun v b => ∃ as, Reads s.heap v (enc b) as ∧ a ∉ as) vs bs) (hal : PySem.W.AllAlike (bs.map enc))
    (hk : bs.length < 2 ∨ PySem.W.Sortable (bs.map enc)) (hL : bs.length ≤ sizeLine) (hu : ∀ b, b ∈ bs → A.units + (enc b).depth < cLine)
    (h : ∀ out, PySem.W.EachIs R out (bs.mergeSort (PySem.W.dataLe b enc)) → P (.done (.ret .none)) { s with heap := PyProof.Rows.sortedHeap s.heap a vs (List.toArray out) }) :
    wpAny (model prog w) A (Builtin.«list.sort» ⟨[.ref a], [(Str.ofString "reverse", .bool b)]⟩) P E s := by
  have hl : vs.length = bs.length := e.length
  rcases hk with hk | hk
  · refine SrtR.list_sort_ordR no_swo ho (by omega) (fun h2 => absurd h2 (by omega)) fun out h1 h2 => ?_
    have eo : (if b = true then out.toArray.reverse else out.toArray) = vs.toArray := by
      have h3 : out.Perm vs := by
        have := h2.perm
        split at this
        · exact this.trans (List.reverse_perm _)
        · exact this
      have h4 : out = vs := by
        match vs, h3, (by omega : vs.length < 2) with
        | [], h3, _ => exact List.perm_nil.mp h3
        | [x], h3, _ => exact List.perm_singleton.mp h3
      subst h4
      split
      · match out, (by omega : out.length < 2) with
        | [], _ => rfl
        | [x], _ => rfl
      · rfl
    rw [eo]
    refine h vs ?_
    have : bs.mergeSort (PySem.W.dataLe b enc) = bs := by
      match bs, hk with
      | [], _ => simp
      | [x], _ => simp
    rw [this]
    exact e
  · have er' : PySem.W.EachIs (fun v b => ∃ as, Reads (PySem.W.sortingHeap s.heap a vs) v (enc b) as) vs bs := PySem.W.each_keepBut (h' := PySem.W.sortingHeap s.heap a vs) (fun _ _ hb q => PySem.W.sortingHeap_old hb q) (fun o q => by rw [ho] at q; rw [← Option.some.inj q]) hal er
    refine PySem.W.list_sort_rev_vals (κ := PySem.W.dataKind (PySem.W.sortingHeap s.heap a vs) (bs.map enc)) ho (PySem.W.SortsAt.data (s := { s with heap := PySem.W.sortingHeap s.heap a vs }) (PySem.W.each_map (R := fun v d => ∃ as, Reads (PySem.W.sortingHeap s.heap a vs) v d as) enc er') hal hk (PySem.W.bound_map hu)) (by omega) ?_
    exact h _ (PySem.W.sortVals_data b e er' hal)
end
section
variable {X : Cx} {pins : List (Addr × Obj)} {σ : St} {H : Hp} {s : Shared}
theorem reads_ints {h : Heap} : ∀ {k : List Key} {us : List Value}, k.all isInl = true → Vals (k.map kV) us → ReadsAll h us ((k.map kI).map .int) []
  | [], _, _, .nil => .nil
  | .inl i :: k, _, hk, .cons (b := u) r t => by
    obtain ⟨t', rfl⟩ := (show ∃ t, u = Value.int i t from r)
    have := ReadsAll.cons (h := h) (Reads.int i t') (reads_ints (h := h) (k := k) (by simpa [isInl] using hk) t)
    simpa [kI] using this
  | .inr x :: k, _, hk, _ => by simp [isInl] at hk
theorem reads_key {h : Heap} (I : Inv X pins σ H s) (kp : ∀ b o, s.heap.get? b = some o → h.get? b = some o) {k : List Key} {b : Addr} (hk : k.all isInl = true) (hb : H b = some (.tup (k.map kV))) : Reads h (.ref b) (encT k) [] := by
  obtain ⟨_, its, rv, o, h1, h2, n, h3⟩ := (show ObjOk X.prog X.w H s.heap b (.tup (k.map kV)) from I.hok _ _ hb)
  exact .tuple (kp _ _ h1) h2 h3 (by simpa using reads_ints hk rv)
theorem alike_encT (k k' : List Key) : PySem.W.alike (encT k) (encT k') = true := by
  unfold encT
  rw [PySem.W.alike]
  exact PySem.W.alike_ints _ _
theorem depth_encT (k : List Key) : (encT k).depth ≤ 1 := by
  unfold encT
  rw [PyData.depth, PySem.W.depth_ints]
  omega
theorem each_keys_of {h : Heap} (I : Inv X pins σ H s) (kp : ∀ b o, s.heap.get? b = some o → h.get? b = some o) : ∀ {kvs : List (List Key × V)} {bs : List Addr}, IsKeys H kvs bs → (kvs.map (·.1)).all (fun k => k.all isInl) = true →
    PySem.W.EachIs (fun v (p : List Key × Addr) => v = .ref p.2 ∧ H p.2 = some (.tup (p.1.map kV))) (bs.map Value.ref) ((kvs.map (·.1)).zip bs) ∧ PySem.W.EachIs (fun v (p : List Key × Addr) => ∃ as, Reads h v (encT p.1) as ∧ h.objs.size ∉ as) (bs.map Value.ref) ((kvs.map (·.1)).zip bs)
  | [], _, .nil, _ => ⟨.nil, .nil⟩
  | kv :: kvs, _, .cons h1 h2, hk => by
    simp only [List.map_cons, List.all_cons, Bool.and_eq_true] at hk
    obtain ⟨e1, e2⟩ := each_keys_of I kp h2 hk.2
    exact ⟨.cons ⟨rfl, h1⟩ e1, .cons ⟨[], reads_key I kp hk.1 h1, by simp⟩ e2⟩
theorem each_out : ∀ {out : List Value} {L : List (List Key × Addr)}, PySem.W.EachIs (fun v (p : List Key × Addr) => v = .ref p.2 ∧ H p.2 = some (.tup (p.1.map kV))) out L → out = (L.map (·.2)).map Value.ref ∧ ∀ p ∈ L, H p.2 = some (.tup (p.1.map kV))
  | _, _, .nil => ⟨rfl, fun p hp => by simp at hp⟩
  | _, _, .cons ⟨h1, h2⟩ t => by
    obtain ⟨e1, e2⟩ := each_out t
    subst h1
    refine ⟨by rw [e1]; rfl, fun p hp => ?_⟩
    rcases List.mem_cons.mp hp with rfl | hp
    · exact h2
    · exact e2 p hp
theorem keys_zip {kvs : List (List Key × V)} {bs : List Addr} (h : IsKeys H kvs bs) : ((kvs.map (·.1)).zip bs).map (·.1) = kvs.map (·.1) := by
  have l : kvs.length = bs.length := Paired.length h
  rw [List.map_fst_zip]
  simp [l]
end
section
variable {X : Cx}
theorem call_sortedT (hcalm : X.calm = true) (hu : X.A.units + 8 < cLine) : CallRK X (.builtin "sorted") [Str.ofString "reverse"] (fun xs zs H Q => ∃ (a : Addr) (kvs : List (List Key × V)) (b : Bool), xs = [.ref a] ∧ zs = [.bl b] ∧ Rd H a (.dT kvs) ∧ okSort (kvs.map (·.1)) = true ∧
    ∀ (p : Addr) (L : List (List Key × Addr)), H p = none → L.map (·.1) = (kvs.map (·.1)).mergeSort (PySem.W.dataLe b encT) → (∀ q ∈ L, H q.2 = some (.tup (q.1.map kV))) → Q (.ref p) (upd H p (.lst (L.map fun q => V.ref q.2)))) := by
  intro pins s σ H xs zs us ws Q I r rz ⟨d, kvs, b, ex, ez, hd, hok, q⟩
  subst ex ez
  obtain ⟨u, rfl, rx⟩ := r.one
  cases rx
  obtain ⟨u, rfl, rx⟩ := rz.one
  cases rx
  simp only [okSort, Bool.and_eq_true, Bool.or_eq_true, decide_eq_true_eq] at hok
  obtain ⟨hk1, hk2⟩ := hok
  obtain ⟨z, hs, ks, pr, o, es, ep, ho, hx, hdt, he, hn⟩ := (show ObjOk X.prog X.w H s.heap d (.dT kvs) from hd.ok I.hok)
  have l1 : es.size = ks.length := size_of_entries he
  have l2 : kvs.length = ks.length := Paired.length pr
  have hkeys := isKeys_of pr
  show wpAny _ _ (call (.builtin "sorted") [Value.ref d] [(Str.ofString "reverse", Value.bool b)]) _ _ _
  refine PyProof.Rows.call_function_entry_kw PyProof.Rows.kind_sorted PyProof.Rows.plain_sorted PyProof.Rows.entry_sorted (PyProof.Rows.args_sorted_rev _ _) ?_
  unfold Builtin.«sorted»
  refine wpAny_bind (m := checkCount "sorted" 1 1 _) (wpAny_pure ?_)
  refine wpAny_bind (PySem.W.kdu_collect (A := X.A.in1) (kdl_raw hs hx hdt) (I.ok.hd hcalm) ho (by omega) fun h' tk acc' kp it => ?_)
  have ea : acc'.toList = (ks.map fun x => x.2.1).map Value.ref := by
    have hl : acc'.toList.length = ks.length := by rw [Array.length_toList, it.1]; exact l1
    apply List.ext_getElem?
    intro j
    rw [List.map_map, List.getElem?_map]
    cases hj : acc'.toList[j]? with
    | none =>
      have h1 := List.getElem?_eq_none_iff.mp hj
      rw [List.getElem?_eq_none (by omega)]
      all_goals rfl
    | some v =>
      obtain ⟨en, hen, hv⟩ := it.2 j v (by rw [← Array.getElem?_toList]; exact hj)
      have qe := entry_at he j
      rw [hen] at qe
      cases hb : ks[j]? with
      | none =>
        rw [hb] at qe
        exact nomatch (show some en = none from qe)
      | some b =>
        rw [hb] at qe
        have e2 : en = entryOfKey (tupleKind (mixKind X.prog X.w)) b := Option.some.inj qe
        rw [hv, e2]
        all_goals rfl
  have I1 : Inv X pins σ H { s with heap := h', toks := tk } := I.kept kp
  have hal : acc'.toList.length ≤ sizeLine := by rw [ea, List.length_map, List.length_map]; omega
  refine wpAny_bind (wpAny_newList ?_ hal)
  have hoL : (h'.push (seqObj "list" acc'.toList.toArray 0)).get? h'.objs.size = some (seqObj "list" acc'.toList.toArray 0) := Heap.get?_push_size _ rfl
  have hol : ∀ b o, h'.get? b = some o → (h'.push (seqObj "list" acc'.toList.toArray 0)).get? b = some o := fun b o e => Heap.get?_push_of_some _ e
  show wpAny _ _ _ _ _ { s with heap := h'.push (seqObj "list" acc'.toList.toArray 0), toks := tk }
  obtain ⟨ee, _⟩ := each_keys_of (h := h') I1 (fun b o e => e) hkeys hk1
  rw [← ea] at ee
  have er : PySem.W.EachIs (fun v (p : List Key × Addr) => ∃ as, Reads (h'.push (seqObj "list" acc'.toList.toArray 0)) v (encT p.1) as ∧ h'.objs.size ∉ as) (acc'.toList) ((kvs.map (·.1)).zip (ks.map fun x => x.2.1)) := by
    refine (PySem.W.each_mem ee).mono fun v p ⟨⟨e1, e2⟩, hm⟩ => ?_
    have hin : p.1 ∈ kvs.map (·.1) := (List.of_mem_zip hm).1
    exact ⟨[], e1 ▸ reads_key I1 hol (List.all_eq_true.mp hk1 _ hin) e2, by simp⟩
  refine wpAny_bind (wpAny_holding (PyProof.Rows.wpAny_call_entry_kw PyProof.Rows.slot_list_sort ⟨_, hoL, rfl⟩ PyProof.Rows.entry_list_sort ?_ (PyProof.Rows.args_list_sort_rev _ _)))
  have lz : ((kvs.map (·.1)).zip (ks.map fun x => x.2.1)).length = kvs.length := by simp [l2]
  refine list_sort_any (s := { s with heap := h'.push (seqObj "list" acc'.toList.toArray 0), toks := tk }) (enc := fun p => encT p.1) hoL ee er (PySem.W.AllAlike.of fun p p' => alike_encT _ _) ?_ (by rw [lz]; omega) (fun p hp => ?_) fun out hout => ⟨_, rfl, ?_⟩
  · rcases hk2 with h2 | h2
    · left
      rw [lz]
      simpa using h2
    · right
      left
      intro d' hd'
      obtain ⟨p, hp, rfl⟩ := List.mem_map.mp hd'
      have := List.all_eq_true.mp h2 _ (List.of_mem_zip hp).1
      unfold encT
      cases hp1 : p.1 with
      | nil =>
        rw [hp1] at this
        simp at this
      | cons x r => exact ⟨_, _, rfl⟩
  · have := depth_encT p.1
    show X.A.units + 1 + 1 + (encT p.1).depth < cLine
    omega
  · obtain ⟨eo, hL⟩ := each_out hout
    obtain ⟨e', he'⟩ := PyProof.Rows.sortedHeap_at (vs := acc'.toList) (out := out.toArray) hoL
    have hm1 : (((kvs.map (·.1)).zip (ks.map fun x => x.2.1)).mergeSort (PySem.W.dataLe b fun p => encT p.1)).map (·.1) = (kvs.map (·.1)).mergeSort (PySem.W.dataLe b encT) := by
      have := PySem.W.sort_maps (r := PySem.W.dataLe b fun p : List Key × Addr => encT p.1) (s := PySem.W.dataLe b encT) (fun p : List Key × Addr => p.1) (l := (kvs.map (·.1)).zip (ks.map fun x => x.2.1)) (fun _ _ _ _ => rfl)
      rw [this, keys_zip hkeys]
    have hlen : ((((kvs.map (·.1)).zip (ks.map fun x => x.2.1)).mergeSort (PySem.W.dataLe b fun p => encT p.1)).map fun q => V.ref q.2).length ≤ sizeLine := by
      rw [List.length_map, List.length_mergeSort, lz]
      omega
    have rv : Vals ((((kvs.map (·.1)).zip (ks.map fun x => x.2.1)).mergeSort (PySem.W.dataLe b fun p => encT p.1)).map fun q => V.ref q.2) out := by
      rw [eo]
      have := vals_refs ((((kvs.map (·.1)).zip (ks.map fun x => x.2.1)).mergeSort (PySem.W.dataLe b fun p => encT p.1)).map (·.2))
      rw [List.map_map] at this
      exact this
    refine wpAny_pure ⟨_, rfl, .ref h'.objs.size, upd H h'.objs.size (.lst _), I1.laid (t' := tk) (fun b u e => ?_) (Nat.le_refl _)
      (show ObjOk X.prog X.w _ _ _ (.lst _) from ⟨hlen, out, e', rv, he'⟩), rfl, q _ _ (I1.hok.fresh (Nat.le_refl _)) hm1 hL⟩
    have hb : b < h'.objs.size := Heap.lt_size e
    rw [PyProof.Rows.sortedHeap_old (Nat.ne_of_lt hb) (by rw [PyProof.Rows.size_push']; exact Nat.lt_succ_of_lt hb)]
    exact Heap.get?_push_of_some _ e
end
/-! ### as data -/
def cSortT : D → D → Option D
  | .dT ks xs, .bl b => if okSort ks = true then some (.lst ((ks.mergeSort (PySem.W.dataLe b encT)).map ktD)) else none
  | _, _ => none
section
variable {P : Pm} {F H : Hp}
theorem tups_in : ∀ {L : List (List Key × Addr)} {F : Hp}, Sb P F H → (∀ q ∈ L, H q.2 = some (.tup (q.1.map kV))) → ∃ F2, Grow P F H F2 H ∧ IsL P F2 ((L.map (·.1)).map ktD) (L.map fun q => V.ref q.2)
  | [], F, s, h => ⟨F, .refl s, .nil⟩
  | q :: L, F, s, h => by
    obtain ⟨F1, g1, e1⟩ := tup_in s (h q List.mem_cons_self)
    obtain ⟨F2, g2, i2⟩ := tups_in (L := L) g1.s fun x hx => h x (List.mem_cons_of_mem _ hx)
    exact ⟨F2, g1.trans g2, .cons (is_ktD (g2.f _ _ e1)) i2⟩
end
section
variable {X : Cx} {P : Pm}
theorem pd_sortT {F0 : Fz} {H0 : Hp} {W : WX} {e b : Expr} {fa fb : Env → Res D} {p pos kpos : Pos} (hcalm : X.calm = true) (hu : X.A.units + 8 < cLine) (hm : X.mg "sorted" = none) (ha : PE X e (tV P F0 H0 W fa)) (hb : PE X b (tE P F0 H0 W fb)) (hg : Gl X "sorted" := by rfl)
    (hs : starEach [e] X.env = (false, eval e X.env) :: starEach [] X.env := by rfl) (he : backTo pos (starEach [e] X.env) = (false, eval e X.env) :: backTo pos (starEach [] X.env) := by rfl) (hpl : (backTo pos (starEach [e] X.env)).any (·.1) = false := by rfl)
    (hall : (backToKw pos (keywordEach [⟨some "reverse", b, kpos⟩] X.env)).all (·.1.isSome) = true := by rfl) (hnone : (backToKw pos (keywordEach [⟨some "reverse", b, kpos⟩] X.env)).any (·.1.isNone) = false := by rfl) (hks : (backToKw pos (keywordEach [⟨some "reverse", b, kpos⟩] X.env)).filterMap (·.1) = [Str.ofString "reverse"] := by rfl) :
    PE X (.Call (.Name "sorted" p) [e] [⟨some "reverse", b, kpos⟩] pos) (tE P F0 H0 W (fun ρ => do let x ← fa ρ; let y ← fb ρ; opt (cSortT x y))) :=
  (pe_callBK (call_sortedT hcalm hu) hg hm (by decide +kernel) (pa_cons ha pa_nil hs) (pk_cons hb pk_nil) (by decide) (by decide) he hpl hall hnone hks).imp fun σ H Q ⟨F, ρ, er, z⟩ => by
  show tV P F0 H0 W fa σ H _
  refine ⟨F, ρ, er, (PostG.bind (rel := rVw P) z).imp ?_⟩
  rintro v H1 ⟨F1, d, g, i, z⟩
  show tE P F0 H0 W fb σ H1 _
  refine ⟨F1, ρ, er.grow g, (PostG.bind (rel := rIs P) z).imp ?_⟩
  rintro y H2 ⟨F2, dy, g2, i2, q⟩
  obtain ⟨d', hd, q'⟩ := opt_of q
  have iv := i.mono g2.f g2.h d
  unfold cSortT at hd
  split at hd
  · rename_i ks xs b'
    split at hd
    · rename_i hk
      cases hd
      obtain ⟨a, vs, rfl, h1, h2, h3⟩ := iv
      have e1 : (ks.zip vs).map (·.1) = ks := by
        rw [List.map_fst_zip]
        omega
      cases (show y = .bl b' from i2)
      refine ⟨a, _, b', rfl, rfl, h1, by rw [e1]; exact hk, fun p L hp hL hq => ?_⟩
      rw [e1] at hL
      obtain ⟨F3, g3, i3⟩ := tups_in g2.s hq
      rw [hL] at i3
      exact q' _ (upd F3 p (.lst (L.map fun q => V.ref q.2))) _ (g3.trans (.new g3.s hp)) (by rw [rIs, Is]; exact ⟨p, _, rfl, .inl upd_same, i3.mono (.new (g3.s.back hp)) _⟩)
    · cases hd
  · cases hd
end
end DL
namespace DL
open PySem L2 PySem.ErrX

/-! ### x(lambda: e), where x is: try: a() / except T as n: return n.f / return None -/
abbrev rcBody (a e n f : Str) (j2 : Nat) (p1 p2 p3 p4 p5 p6 p7 p8 p9 p10 p11 : Pos) : List Stmt := [.Try [.Expr (.Call (.Name a p1) [] [] p2) p3] [.ExceptHandler (some (.Name e p4)) (some n) [.Return (some (.Attribute (.Name n p5) f p6)) p7] p8] [] [] p9, .Return (some (.Constant .none j2 p10)) p11]
def TTc (K : PySem.W.Frag) (cv : Value) (C : Addr) (f : Str) : (XK → Hp → VK → Prop) → Hp → VK → Prop := fun tl H Q => tl (fun cls d H' => PySem.W.exmOne K cls cv = some true ∧ cls = .ref C ∧ ∃ (dd : Addr) (v : V), d = some dd ∧ H' dd = some (.xd [(f, v)]) ∧ Q v H') H (fun _ H' => Q .non H')
section
variable {X : Cx}
theorem count_gives {x a e n f q : Str} {sg : Scope} {g C fI : Addr} {cdg cv : Value} {j2 : Nat} {p1 p2 p3 p4 p5 p6 p7 p8 p9 p10 p11 : Pos} (T : ErrTxt X.prog X.K X.mg e f C fI) (hge : sg.names.lookup e = some .globalImplicit) (hme : X.mg e = some cv ∨ (X.mg e = none ∧ bootBuiltins e = some cv ∧ e ≠ "__name__")) (hde : (e == ("__debug__" : Str)) = false)
    (hN : ([a, n] : List Str).Nodup) (hln : sg.names.lookup n = some .local) (hd : (n == ("__debug__" : Str)) = false) (hcd : (n == ("__classdict__" : Str)) = false) :
    LamX.GivesTo X [a, n] x sg g cdg (rcBody a e n f j2 p1 p2 p3 p4 p5 p6 p7 p8 p9 p10 p11) a q (TTc X.K cv C f) := by
  intro fa c' s H Q tl act hc h
  refine ⟨_, pss_cons (ps_try_as (X := (cxOf C8.CX0 X.prog X.w X.K X.mg X.base [a, n] x sg g cdg X.A X.stack s H C8.E0).nox) (c := cv) (i := 1) (n := n)
      (tb := fun W D σ H => ∃ Ech : XK, (∀ cls d σ' H', σ'.length = 2 → Ech cls d H' → W cls d σ' H') ∧ σ[0]? = some (some (.ref fa)) ∧ H c' = some (LamX.CodeO c' q) ∧ tl Ech H (fun _ H1 => D.nx σ H1))
      rfl rfl hN rfl hln ⟨hge, hde, hme⟩ LamX.takes0 (fun W pn xe tk _ => ?_) (fun ad oe cls d pn hz hf => pss_one (ps_ret (pe_fe (X := (cxOf C8.CX0 X.prog X.w X.K X.mg X.base [a, n] x sg g cdg X.A X.stack s H C8.E0).nox) T hz hf (pe_var (i := 1) rfl (.inl hln) hd hcd) rfl)))) (pss_one (ps_ret pe_non)), ?_⟩
  · refine ⟨fun pins s' σ H' D I h' => ?_⟩
    obtain ⟨Ech, hW, h1, h2, h3⟩ := h'
    have tk' : Takes ((cxOf C8.CX0 X.prog X.w X.K X.mg X.base [a, n] x sg g cdg X.A X.stack s H C8.E0).tr pn xe) (fun cls d σ' H' => σ'.length = 2 → W cls d σ' H') := by
      rintro u s2 ⟨a', B, sI, pins', σ', H2, cls, d, e, J, nb, up, sky, na, os, ag, w⟩
      exact tk u s2 ⟨a', B, sI, pins', σ', H2, cls, d, e, J, nb, up, sky, na, os, ag, w J.len⟩
    exact (pss_one (ps_expr (act _ pn xe Ech p1 p2 tk' (fun cls d σ' H' z hl => hW cls d σ' H' hl z)))).run pins s' σ H' D I ⟨h1, h2, h3⟩
  · refine ⟨fun cls d H' => PySem.W.exmOne X.K cls cv = some true ∧ cls = .ref C ∧ ∃ (dd : Addr) (v : V), d = some dd ∧ H' dd = some (.xd [(f, v)]) ∧ Q v H', fun cls d σ' H' hl ⟨z1, z2, dd, v, z3, z4, z5⟩ => ⟨true, z1, fun _ ad ha => ?_, fun w => by cases w⟩, rfl, hc, h⟩
    refine ⟨.ref ad, ?_, rfl, z2, dd, v, z3, z4, z5⟩
    exact get_set_self (by omega)
end
def rcD (cz : Nat) : Res D → Res D
  | .ok _ => .ok .non
  | .err c p => if c = cz then payD p else .bad
  | .bad => .bad
/-- the def that takes the lambda -/
structure RcD (prog : Program) (K : PySem.W.Frag) (mg : Str → Option Value) (x a e n f : Str) (C fI : Addr) : Prop where
  ex : ∃ (st : Stmt) (g : Addr) (fd : FuncData) (j2 : Nat) (p1 p2 p3 p4 p5 p6 p7 p8 p9 p10 p11 : Pos), Fun K x x st g fd ∧ mg x = some (.ref g) ∧ Binds K fd [a] [] ∧ FnScope [a, n] [a] (defScope st) ∧ Vis (defScope st) a ∧
    defBody st = rcBody a e n f j2 p1 p2 p3 p4 p5 p6 p7 p8 p9 p10 p11 ∧ (defScope st).names.lookup e = some .globalImplicit ∧ (defScope st).names.lookup n = some .local
  et : ErrTxt prog K mg e f C fI
  nd : (e == ("__debug__" : Str)) = false
  nn : (n == ("__debug__" : Str)) = false
  nc : (n == ("__classdict__" : Str)) = false
section
variable {X : Cx} {P : Pm} {F0 : Fz} {H0 : Hp} {W : WX}
theorem pd_count {x a e n f' : Str} {cz k : Nat} {c t C fI : Addr} {params : Arguments} {body : Expr} {scope : Scope} {p lpos pos : Pos} {fb : Env → Res D} (R : RcD X.prog X.K X.mg x a e n f' C fI) (hxc : P.xc cz = .ref C) (hxf : P.xf cz = f') (hex : PySem.W.exmOne X.K (.ref C) (.ref C) = some true) (TA : TabAt P X.base X.mg c t (X.env.qual ++ "<lambda>")) (hcode : X.env.code = .ref c)
    (hr : Room (k + 2) X.A) (L : LamX.LamS X.env.scope scope) (hdef : defaultsOf params X.env = ([], []))
    (hbind : ∀ (q : Str) (cl : List (Str × Addr)) (pm cv ctv : Value), bindArgs (PySem.W.kla_fn "<lambda>" q params body scope cl pm cv ctv) ⟨[], []⟩ = pure [])
    (hbody : ∀ (A : Around) (outer : List PySem.Env) (s : Shared) (H : Hp) (E : XK) (f c' : Addr), Room k (A.deeper (LamX.lamEnv X scope s.heap.objs.size f c')) → Takes (LamX.lamCx X A outer s H E scope f c') (WE0 E) → PE (LamX.lamCx X A outer s H E scope f c') body (tE P F0 H0 (WE0 E) fb))
    (hg : Gl X x := by rfl) (hdb : (x == ("__debug__" : Str)) = false := by decide) (hd : (a == ("__debug__" : Str)) = false := by decide) (hcd : (a == ("__classdict__" : Str)) = false := by decide) :
    PE X (.Call (.Name x p) [.Lambda params body scope lpos] [] pos) (tE P F0 H0 W (fun ρ => rcD cz (fb ρ))) := by
  obtain ⟨st, g, fd, j2, p1, p2, p3, p4, p5, p6, p7, p8, p9, p10, p11, Fu, hm, hb, Sg, hva, hbg, hge, hln⟩ := R.ex
  obtain ⟨oc, od, kV, doc, pm, an, cdv, ct, osl, rfl, lk, hcd'⟩ := Fu.ex
  have hG : LamX.GivesTo X [a, n] x (defScope st) g cdv (defBody st) a (X.env.qual ++ "<lambda>") (TTc X.K (.ref C) C f') := by
    rw [hbg]
    exact count_gives R.et hge (.inl R.et.gC) R.nd Sg.nd hln R.nn R.nc
  refine (LamX.pe_lamcall (T := P.T) (t := fun E => tE P F0 H0 (WE0 E) fb) hg hm Fu.kp lk hcd' hb Sg rfl hva hG TA.tb hcode TA.mem TA.one hr L hdef hbind (fun A outer s H E f c' hr' => hbody A outer s H E f c' hr' (takes_of rfl rfl rfl rfl)) hdb hd hcd).imp fun σ H Q ⟨F, ρ, er, z⟩ => ?_
  replace z : PostG P W (rIs P) (rcD cz (fb ρ)) F σ H Q := z
  refine ⟨er.s.tabs, fun H1 e1 t1 => ?_⟩
  have eT : ExT H H1 := ⟨fun a o h n => e1 a o h fun ps hp => by
    subst hp
    cases n⟩
  have g1 : Grow P F H F H1 := ⟨.refl F, eT, er.s.ext' eT t1, fun _ _ e => .inl e⟩
  refine ⟨F, ρ, er.grow g1, ?_⟩
  cases hf : fb ρ with
  | ok d =>
    rw [hf] at z
    exact fun v F' H' g i => z .non F' H' (g1.trans g) is_non
  | err c p =>
    rw [hf] at z
    by_cases hz : c = cz
    · have e2 : rcD cz (.err c p) = payD p := if_pos hz
      rw [e2] at z
      cases p with
      | none => exact z.elim
      | some d =>
        subst hz
        refine fun F' H' y g q => ?_
        obtain ⟨a1, v, h1, h2, h3⟩ := q
        rw [hxf] at h2
        exact ⟨by rw [hxc]; exact hex, hxc, a1, v, h1, h2, z v F' H' (g1.trans g) h3⟩
    · have e2 : rcD cz (.err c p) = .bad := if_neg hz
      rw [e2] at z
      exact z.elim
  | bad =>
    rw [hf] at z
    exact z.elim
end
end DL
namespace DL
open PySem L2

/-! ### an operator on two instances of one class -/
def opO (cn : Nat) (G : List D → Res D) : D → D → Res D
  | .obj c xs, .obj c' ys => if c = cn ∧ c' = cn then fnG 2 G [.obj c xs, .obj c' ys] else .bad
  | _, _ => .bad
section
variable {X : Cx} {P : Pm} {F0 : Fz} {H0 : Hp} {W : WX} {a b c : Expr} {fa fb fc : Env → Res D} {pos : Pos} {σ : L2.St} {H F : Hp} {k cn : Nat} {op : Operator} {m : Str} {G : List D → Res D}
theorem pd_opO (hd : PySem.dunder op.info.2 = m) (hsf : PySem.W.selfFirst X.K (P.C cn) = true)
    (c : OwnD X.prog X.w X.K X.mg X.base P k m cn 2 G) (hr : Room k X.A) (tk : Takes X W) (ha : PE X a (tE P F0 H0 W fa)) (hb : PE X b (tE P F0 H0 W fb)) :
    PE X (.BinOp a op b pos) (tE P F0 H0 W (fN (opO cn G) fa fb)) := by
  obtain ⟨f, fd, ps, c1, c2, c3⟩ := c.ex
  refine ⟨fun pins s σ H Q I h => ?_⟩
  refine wpAny_BinOp (binT ha hb I (two_ofE h) fun v u s2 x y H2 I2 rx ry ⟨F, dx, dy, e, i1, i2, q⟩ => ?_)
  unfold opO at q
  split at q
  · split at q
    · rename_i hc
      obtain ⟨rfl, h'⟩ := hc
      subst h'
      obtain ⟨ad, dd, vs, rfl, h1, h2, h3⟩ := obj_of i1
      obtain ⟨bd, dd', vs', rfl, h1', h2', h3'⟩ := obj_of i2
      obtain rfl : v = Value.ref ad := rx
      obtain rfl : u = Value.ref bd := ry
      obtain ⟨ox, od, J, _⟩ := ins_data I2 (e.ex _ _ h1)
      obtain ⟨ox', od', J', _⟩ := ins_data I2 (e.ex _ _ h1')
      obtain ⟨mm, Fr⟩ := I2.fr
      refine PySem.W.binop_K Fr I2.ok.mod.kin J J'.type hsf (by rw [hd]; exact c2.at_) c2.fn ?_
      exact wpAny_mono (run_at (vs := [.ref ad, .ref bd]) (ds := [_, _]) c1 (sub_here hr) c3 tk I2 (.cons rfl (.cons rfl .nil)) e (.cons i1 (.cons i2 .nil)) q) (fun _ _ z => CmpBack_of z) fun _ _ z => z
    · exact q.elim
  · exact q.elim
/-! ### a list times an int -/
def repD : D → D → Option D
  | .lst xs, .int k => if 0 ≤ k ∧ k < 1000 ∧ xs.length ≤ 1000 then some (.lst (List.replicate k.toNat xs).flatten) else none
  | _, _ => none
theorem op_repR : OpR X (binaryOp .Mult) (fun x y H Q => ∃ l k xs, x = .ref l ∧ y = .int k ∧ Rd H l (.lst xs) ∧ -(2 ^ 63) ≤ k ∧ k < 2 ^ 63 ∧ xs.length * k.toNat ≤ sizeLine ∧ ∀ p, H p = none → Q (.ref p) (upd H p (.lst (List.replicate k.toNat xs).flatten))) := by
  intro pins s σ H x y v u Q I rx ry h
  obtain ⟨l, k, xs, rfl, rfl, hH, h1, h2, hz, q⟩ := h
  cases rx
  obtain ⟨t, rfl⟩ := ry
  obtain ⟨z, its, n, r, e⟩ := Inv.rdl I hH
  have hl : xs.length = its.length := r.length
  have hlen : its.toArray.size * k.toNat ≤ sizeLine := by rw [List.size_toArray, ← hl]; exact hz
  have hcap : ¬ its.toArray.size * k.toNat > (2 ^ 63 - 1) / 8 := by
    have : (sizeLine : Nat) ≤ (2 ^ 63 - 1) / 8 := by decide
    omega
  have hfit : ¬ (!Builtin.List.listFitsIndex k) = true := by
    rw [fitsIndex_both h1 h2]
    exact Bool.false_ne_true
  have hlong : ¬ Builtin.List.listTooLong (its.toArray.size * k.toNat) = true := by
    rw [notLongL hlen]
    exact Bool.false_ne_true
  have hnew : List.foldl (fun x1 x2 => x1 ++ x2) #[] (List.replicate (if its.toArray.isEmpty = true then 0 else k.toNat) its.toArray) = (List.replicate k.toNat its).flatten.toArray := by
    have f0 : ∀ m : Nat, List.foldl (fun x1 x2 => x1 ++ x2) #[] (List.replicate m its.toArray) = (List.replicate m its).flatten.toArray := fun m => by
      have := foldl_rep its m []
      rw [List.nil_append] at this
      exact this
    rw [f0]
    cases its with
    | nil => simp
    | cons a r' => rw [if_neg (by simp)]
  refine wpAny_binaryOp_repeat_ref (T := "list") (U := "int") (by decide) ⟨_, e, rfl⟩ (fun s' => typeIs_int s' k t) noFill_list_mul F.fills_int_mul F.slot_int_rmul repeat_list F.slot_int_index.lookup
    (call_meets F.slot_int_rmul (typeIs_int s k t) F.entry_int_rmul (F.args_int_rmul_2 _ _) (int___rmul___int_list k t l its.toArray n)
      ⟨e, rfl, ⟨_, e, rfl⟩, call_meets F.slot_list_mul ⟨_, e, rfl⟩ F.entry_list_mul (F.args_list_mul_2 _ _) (AutoListH.list___mul___list_int_3 l its.toArray n k t hfit hcap hlong) ⟨e, ?_⟩⟩)
  rw [hnew]
  exact ⟨.ref _, _, I.lnew (t' := s.toks) (r.rep k.toNat) (by rw [PyProof.Rows.lm_len_rep_flat, Nat.mul_comm]; exact hz), rfl, q _ I.fresh⟩
theorem isL_rep {ds : List D} {vs : List V} (h : IsL P F ds vs) : ∀ n : Nat, IsL P F (List.replicate n ds).flatten (List.replicate n vs).flatten
  | 0 => .nil
  | n + 1 => by
    rw [List.replicate_succ, List.replicate_succ, List.flatten_cons, List.flatten_cons]
    exact h.append (isL_rep h n)
theorem io_rep : OpR X (binaryOp .Mult) (r2O P repD) := fun pins s σ H x y u v Q I rx ry h => by
  obtain ⟨F, dx, dy, d, e, i1, i2, hd, q⟩ := h
  unfold repD at hd
  split at hd
  · rename_i xs k
    split at hd
    · rename_i hk
      cases hd
      obtain ⟨l, vs, rfl, h1, h2⟩ := i1
      cases (show y = .int k from i2)
      refine op_repR pins s σ H _ _ u v Q I rx ry ⟨l, k, vs, rfl, rfl, h1, by omega, by omega, ?_, fun p hp => ?_⟩
      · rw [← h2.length]
        have a1 : xs.length * k.toNat ≤ 1000 * 1000 := Nat.mul_le_mul hk.2.2 (by omega)
        exact Nat.le_trans a1 (by decide)
      · exact q _ (upd F p (.lst (List.replicate k.toNat vs).flatten)) _ (.new e hp) (by rw [Is]; exact ⟨p, _, rfl, .inl upd_same, (isL_rep h2 _).mono (.new (e.back hp)) _⟩)
    · cases hd
  · cases hd
/-! ### a op b op c -/
def chainK (k : Res D) : D → Res D
  | .bl true => k
  | .bl false => .ok (.bl false)
  | _ => .bad
abbrev fChain (r r' : D → D → Option D) (fa fb fc : Env → Res D) : Env → Res D := fun ρ => do let x ← fa ρ; let y ← fb ρ; let z ← opt (r x y); chainK (do let w ← fc ρ; opt (r' y w)) z
theorem chain_of {r r' : D → D → Option D} {Q : VK} (h : tE P F0 H0 W (fChain r r' fa fb fc) σ H Q) : tChain (r2O P r) (r2O P r') (tE P F0 H0 W fa) (tE P F0 H0 W fb) (tE P F0 H0 W fc) σ H Q := by
  obtain ⟨F, ρ, er, z⟩ := h
  refine ⟨F, ρ, er, (PostG.bind (rel := rIs P) z).imp ?_⟩
  rintro x H1 ⟨F1, dx, g1, i1, z1⟩
  refine ⟨F1, ρ, er.grow g1, (PostG.bind (rel := rIs P) z1).imp ?_⟩
  rintro y H2 ⟨F2, dy, g2, i2, z2⟩
  have er2 := (er.grow g1).grow g2
  replace z2 := PostG.bind (rel := rIs P) z2
  obtain ⟨d, hd, q⟩ := opt_of z2
  refine ⟨F2, dx, dy, d, g2.s, (i1.mono g2.f dx).vw g2.s dx, i2.vw g2.s dy, hd, ?_⟩
  rintro z F3 H3 g3 i3
  obtain ⟨F4, d4, g4, i4, q4⟩ := q z F3 H3 g3 i3
  unfold chainK at q4
  split at q4
  · cases (show z = .bl true from i4)
    refine ⟨true, rfl, ?_⟩
    rw [if_pos rfl]
    refine ⟨F4, ρ, er2.grow g4, (PostG.bind (rel := rIs P) q4).imp ?_⟩
    rintro w H5 ⟨F5, dw, g5, i5, q5⟩
    obtain ⟨d6, h6, q6⟩ := opt_of q5
    exact ⟨F5, dy, dw, d6, g5.s, ((i2.mono g4.f dy).mono g5.f dy).vw g5.s dy, i5.vw g5.s dw, h6, q6⟩
  · cases (show z = .bl false from i4)
    refine ⟨false, rfl, ?_⟩
    rw [if_neg (by decide)]
    exact q4.here g4.s is_bl
  · exact q4.elim
theorem pd_chain {o o' : CmpOp} {r r' : D → D → Option D} (ho : OpR X (compareOp o) (r2O P r)) (ho' : OpR X (compareOp o') (r2O P r')) (ha : PE X a (tE P F0 H0 W fa)) (hb : PE X b (tE P F0 H0 W fb)) (hc : PE X c (tE P F0 H0 W fc)) (hm : lastMarks [o, o'] [b, c] = false := by with_unfolding_all rfl) :
    PE X (.Compare a [o, o'] [b, c] pos) (tE P F0 H0 W (fChain r r' fa fb fc)) := (pe_chain ho ho' ha hb hc hm).imp fun σ H Q h => chain_of h
theorem td_chain {o o' : CmpOp} {r r' : D → D → Option D} (ho : OpR X (compareOp o) (r2O P r)) (ho' : OpR X (compareOp o') (r2O P r')) (ha : PE X a (tE P F0 H0 W fa)) (hb : PE X b (tE P F0 H0 W fb)) (hc : PE X c (tE P F0 H0 W fc)) (hm : lastMarks [o, o'] [b, c] = false := by with_unfolding_all rfl) :
    PT X (.Compare a [o, o'] [b, c] pos) (tT P F0 H0 W (tB' (fChain r r' fa fb fc))) := (pt_chain ho ho' ha hb hc hm).imp fun σ H Q h => by
  have := tB_of h
  exact chain_of this
end
end DL
namespace DL
open PySem L2

/-! ### zip of lists and tuples, mixed -/
def SqK (k : Bool) (K : PySem.W.Frag) (H : Hp) (a : Addr) (xs : List V) : Prop := match k with
  | true => SqL K H a xs
  | false => SqT K H a xs
def HpK (k : Bool) (h : Heap) (a : Addr) (items : Array Value) : Prop := match k with
  | true => h.IsList a items
  | false => h.IsTuple a items
def ItK (k : Bool) (h : Heap) (it a : Addr) (i : Nat) : Prop := match k with
  | true => h.IsListIter it a i
  | false => h.IsTupleIter it a i
def itO (k : Bool) (a : Addr) : Obj := match k with
  | true => { cls := .type "list_iterator", data := .fields #[.ref a, .int 0 0] }
  | false => { cls := .type "tuple_iterator", data := .fields #[.ref a, .int 0 0] }
section
variable {prog : Program} {w : World} {A : Around}
theorem draws_K (k : Bool) (hh : A.handled = none) (it a : Addr) (hne : a ≠ it) (items : Array Value) : Draws prog w A it [it, a] items.size (fun i v => items[i]? = some v) (fun i h => ItK k h it a i ∧ HpK k h a items) := by
  cases k with
  | true => exact Draws.list hh it a hne items
  | false => exact Draws.tuple hh it a hne items
theorem endK (k : Bool) {it a : Addr} {i : Nat} {items : Array Value} {E : Value → Shared → Prop} {s : Shared} {Q : Value → Shared → Prop} (hh : A.handled = none) (h1 : ItK k s.heap it a i) (h2 : HpK k s.heap a items) (hx : items[i]? = none)
    (hE : ∀ h' e, Heap.ExtBut it s.heap h' → (∃ o, h'.get? e = some o ∧ o.cls = .type "StopIteration") → E (.ref e) { s with heap := h' }) : wpAny (model prog w) A (Builtin.SmallTypes.nextOf (.ref it)) Q E s := by
  cases k with
  | true => exact wpAny_nextOf_list_end hh h1 h2 hx hE
  | false => exact wpAny_nextOf_tuple_end hh h1 h2 hx hE
/-- an iterator at i, whether at its end or not -/
theorem draws_at (k : Bool) (hh : A.handled = none) (it a : Addr) (hne : a ≠ it) (items : Array Value) (i : Nat) {h : Heap} (h1 : ItK k h it a i) (h2 : HpK k h a items) :
    ∃ (n : Nat) (P : Nat → Value → Prop) (St : Nat → Heap → Prop), Draws prog w A it [it, a] n P St ∧ St i h ∧ i ≤ n ∧ (items.size ≤ i → n = i) := by
  by_cases hi : i < items.size
  · exact ⟨_, _, _, draws_K k hh it a hne items, ⟨h1, h2⟩, Nat.le_of_lt hi, fun q => by omega⟩
  · refine ⟨i, fun _ _ => False, fun j h => j = i ∧ ItK k h it a i ∧ HpK k h a items, ⟨fun j h st => ?_, fun j h h' st hk => ?_, fun j s Q E hj st => ?_, fun s Q E st hE => ?_⟩, ⟨rfl, h1, h2⟩, Nat.le_refl _, fun _ => rfl⟩
    · cases k with
      | true =>
        obtain ⟨_, ⟨o, e, _⟩, _⟩ := st
        exact ⟨o, e⟩
      | false =>
        obtain ⟨_, ⟨o, e, _⟩, _⟩ := st
        exact ⟨o, e⟩
    · refine ⟨st.1, ?_⟩
      cases k with
      | true => exact ⟨Heap.IsListIter.at st.2.1 fun o e => hk it (by simp) o e, Heap.IsList.at st.2.2 fun o e => hk a (by simp) o e⟩
      | false => exact ⟨Heap.IsTupleIter.at st.2.1 fun o e => hk it (by simp) o e, Heap.IsTuple.at st.2.2 fun o e => hk a (by simp) o e⟩
    · exact absurd st.1 (by omega)
    · exact endK k hh st.2.1 st.2.2 (by simp; omega) hE
theorem begins_K (k : Bool) (a : Addr) (items : Array Value) : Begins (.ref a) (itO k a) fun h => HpK k h a items := by
  cases k with
  | true => exact begins_list a items
  | false => exact begins_tuple a items
theorem ItK.at {k : Bool} {h h' : Heap} {it a : Addr} {i : Nat} (x : ItK k h it a i) (hk : ∀ o, h.get? it = some o → h'.get? it = some o) : ItK k h' it a i := by
  cases k with
  | true => exact Heap.IsListIter.at x hk
  | false => exact Heap.IsTupleIter.at x hk
theorem ItK.ob {k : Bool} {h : Heap} {it a : Addr} {i : Nat} (x : ItK k h it a i) : ∃ o, h.get? it = some o ∧ ∀ v, o.data ≠ .cell v := by
  cases k with
  | true =>
    obtain ⟨o, e, _, d⟩ := x
    exact ⟨o, e, fun v q => by rw [d] at q; cases q⟩
  | false =>
    obtain ⟨o, e, _, d⟩ := x
    exact ⟨o, e, fun v q => by rw [d] at q; cases q⟩
theorem itK_new {k : Bool} {h : Heap} {it a : Addr} (e : h.get? it = some (itO k a)) : ItK k h it a 0 := by
  cases k with
  | true => exact ⟨_, e, rfl, rfl⟩
  | false => exact ⟨_, e, rfl, rfl⟩
theorem HpK.lt {k : Bool} {h : Heap} {a : Addr} {items : Array Value} (x : HpK k h a items) : a < h.objs.size := by
  cases k with
  | true =>
    obtain ⟨o, e, _⟩ := x
    exact Heap.lt_size e
  | false =>
    obtain ⟨o, e, _⟩ := x
    exact Heap.lt_size e
end
section
variable {X : Cx} {pins : List (Addr × Obj)} {σ : St} {H : Hp} {s : Shared}
theorem seqK (I : Inv X pins σ H s) {k : Bool} {a : Addr} {xs : List V} (h : SqK k X.K H a xs) : ∃ its : List Value, Vals xs its ∧ HpK k s.heap a its.toArray := by
  cases k with
  | true =>
    obtain ⟨its, rv, p, _⟩ := I.list h
    exact ⟨its, rv, p.isList⟩
  | false =>
    obtain ⟨its, rv, p, _⟩ := I.tuple h
    exact ⟨its, rv, p⟩
theorem injK (I : Inv X pins σ H s) {k : Bool} {a : Addr} {xs ys : List V} (h : SqK k X.K H a xs) (h' : SqK k X.K H a ys) : xs = ys := by
  cases k with
  | true => exact I.list_inj h h'
  | false => exact I.tuple_inj h h'
end
def ItzK (kx ky : Bool) (K : PySem.W.Frag) (a b : Addr) : It :=
  ⟨fun i H => ∃ (xs ys : List V) (x y : V), SqK kx K H a xs ∧ SqK ky K H b ys ∧ xs[i]? = some x ∧ ys[i]? = some y,
    fun i H v H' => ∃ T x y, v = .ref T ∧ H T = none ∧ H' = upd H T (.tup [x, y]) ∧ (∀ xs, SqK kx K H a xs → xs[i]? = some x) ∧ ∀ ys, SqK ky K H b ys → ys[i]? = some y,
    fun i H => ∃ xs ys : List V, SqK kx K H a xs ∧ SqK ky K H b ys ∧ (xs.length ≤ i ∨ ys.length ≤ i)⟩
theorem turn_zipK {P : Program} {w : World} {K : PySem.W.Frag} {elts : List Expr} {kk : Nat} {tpos : Pos} {kx ky : Bool} {a b z TI TO i1 i2 : Addr} (D : ZipSep2 z TI TO i1 i2 [i1, a] [i2, b]) (na : a ≠ i1) (nb : b ≠ i2) :
    Turn P w K (.Tuple elts kk tpos) (ItzK kx ky K a b) [z, TI, TO, i1, i2] z (fun i h => IsZip h z TI TO .none ∧ IsTupOf2 h TI (.ref i1) (.ref i2) ∧ (∃ x y, IsTupOf2 h TO x y) ∧ ItK kx h i1 a i ∧ ItK ky h i2 b i) where
  mem := by simp
  obj := fun i h st c hc => by
    obtain ⟨hz, hTI, ⟨x, y, hTO⟩, h1, h2⟩ := st
    simp only [List.mem_cons, List.not_mem_nil, or_false] at hc
    rcases hc with q | q | q | q | q
    · rw [q]; exact ⟨_, hz, fun v q => nomatch q⟩
    · rw [q]; exact ⟨_, hTI, fun v q => nomatch q⟩
    · rw [q]; exact ⟨_, hTO, fun v q => nomatch q⟩
    · rw [q]; exact h1.ob
    · rw [q]; exact h2.ob
  keep := fun i h h' st k => by
    obtain ⟨hz, hTI, ⟨x, y, hTO⟩, h1, h2⟩ := st
    exact ⟨k z (by simp) _ hz, k TI (by simp) _ hTI, ⟨x, y, k TO (by simp) _ hTO⟩, h1.at fun o q => k i1 (by simp) o q, h2.at fun o q => k i2 (by simp) o q⟩
  item := by
    intro X hP hw hK hc i pins s σ H E I hf st hg
    subst hP hw hK
    obtain ⟨hz, hTI, ⟨x0, y0, hTO⟩, h1, h2⟩ := st
    obtain ⟨xs, ys, x, y, hqx, hqy, hx, hy⟩ := hg
    obtain ⟨its, rv, p⟩ := seqK I hqx
    obtain ⟨its2, rv2, p2⟩ := seqK I hqy
    obtain ⟨u, hu, ru⟩ := rv.get hx
    obtain ⟨u2, hu2, ru2⟩ := rv2.get hy
    have hzl : z < s.heap.objs.size := Heap.lt_size hz
    have D1 := draws_K (prog := X.prog) (w := X.w) (A := X.A.in1) kx (I.ok.hd hc) i1 a na its.toArray
    have D2 := draws_K (prog := X.prog) (w := X.w) (A := X.A.in1) ky (I.ok.hd hc) i2 b nb its2.toArray
    refine wpAny_pyNext_zipD2_item D D1 D2 hz hTI hTO ⟨h1, p⟩ ⟨h2, p2⟩ (by simpa using lt_of_get hu) (by simpa using lt_of_get hu2) fun w1 w2 h' tk e1 e2 z' TO' h1' h2' hT hsz hk => ?_
    have e1' : w1 = u := by
      have : its.toArray[i]? = some w1 := e1
      simp [hu] at this
      exact this.symm
    have e2' : w2 = u2 := by
      have : its2.toArray[i]? = some w2 := e2
      simp [hu2] at this
      exact this.symm
    subst e1' e2'
    refine ⟨_, rfl, wpAny_letOwnedTupleGo_zip (s := { s with heap := h', toks := tk }) z' fun h'' z'' sb => ?_⟩
    have hT2 : h''.get? s.heap.objs.size = some { cls := .type "tuple", data := .seq #[w1, w2] } := (sb.2 _ (Nat.ne_of_gt hzl)).trans hT
    have new : ObjOk X.prog X.w (upd H s.heap.objs.size (.tup [x, y])) h'' s.heap.objs.size (.tup [x, y]) :=
      ⟨by show 2 ≤ sizeLine; decide, [w1, w2], .cons ru (.cons ru2 .nil), ⟨_, hT2, rfl, _, rfl⟩⟩
    have I1 : Inv X pins σ (upd H s.heap.objs.size (.tup [x, y])) { s with heap := h'', toks := tk } :=
      I.turnedNew (t' := tk) (ch := [z, TI, TO, i1, i2]) (fun c o hb q => (sb.2 c (fun q' => hb (by simp [q']))).trans (hk c o (fun q' => hb (by simp [q'])) (fun q' => hb (by simp [q'])) (fun q' => hb (by simp [q'])) (fun q' => hb (by simp [q'])) q)) hf (Nat.le_refl _) new
    refine ⟨.ref s.heap.objs.size, _, I1, rfl, ⟨_, x, y, rfl, I.hok.fresh (Nat.le_refl _), rfl, fun l hl => by rw [injK I hl hqx]; exact hx, fun l hl => by rw [injK I hl hqy]; exact hy⟩, ⟨z'', ?_, ⟨w1, w2, ?_⟩, ?_, ?_⟩, fun c hcm => ?_⟩
    · exact (sb.2 _ D.TIz).trans (hk _ _ D.TIz D.TITO D.TIi1 D.TIi2 hTI)
    · exact (sb.2 _ D.TOz).trans TO'
    · exact h1'.1.at fun o q => (sb.2 _ (Ne.symm D.zi1)).trans q
    · exact h2'.1.at fun o q => (sb.2 _ (Ne.symm D.zi2)).trans q
    · obtain ⟨o1, g1, _⟩ := h1.ob
      obtain ⟨o2, g2, _⟩ := h2.ob
      have hlt : c < s.heap.objs.size := by
        simp only [List.mem_cons, List.not_mem_nil, or_false] at hcm
        rcases hcm with q | q | q | q | q
        · rw [q]; exact hzl
        · rw [q]; exact Heap.lt_size hTI
        · rw [q]; exact Heap.lt_size hTO
        · rw [q]; exact Heap.lt_size g1
        · rw [q]; exact Heap.lt_size g2
      rw [upd_ne (Nat.ne_of_lt hlt)]
      exact (hf c hcm).1
  done := by
    intro X hP hw hK hc i pins s σ H E I hf st hg
    subst hP hw hK
    obtain ⟨hz, hTI, ⟨x0, y0, hTO⟩, h1, h2⟩ := st
    obtain ⟨xs, ys, hqx, hqy, hend⟩ := hg
    obtain ⟨its, rv, p⟩ := seqK I hqx
    obtain ⟨its2, rv2, p2⟩ := seqK I hqy
    have l1 := rv.length
    have l2 := rv2.length
    obtain ⟨n1, P1, St1, D1, st1, le1, eq1⟩ := draws_at (prog := X.prog) (w := X.w) (A := X.A.in1) kx (I.ok.hd hc) i1 a na its.toArray i h1 p
    obtain ⟨n2, P2, St2, D2, st2, le2, eq2⟩ := draws_at (prog := X.prog) (w := X.w) (A := X.A.in1) ky (I.ok.hd hc) i2 b nb its2.toArray i h2 p2
    have he : i = n1 ∨ i = n2 := by
      rcases hend with q | q
      · exact .inl (eq1 (by simpa [← l1] using q)).symm
      · exact .inr (eq2 (by simpa [← l2] using q)).symm
    exact wpAny_pyNext_zipD2_end D D1 D2 hz hTI hTO st1 st2 le1 le2 he fun h' tk hk => ⟨rfl, I.turnedL (t' := tk) (ch := [z, TI, TO, i1, i2]) (fun c o hb q =>
      hk c o (fun q' => hb (by simp [q'])) (fun q' => hb (by simp [q'])) (fun q' => hb (by simp [q'])) (fun q' => hb (by simp [q'])) q) hf⟩
  self := fun A i s Q E st h => wpAny_pyIter_zip st.1 h
def iZipK (K : PySem.W.Frag) (ta : TA) : TI := fun σ H R => ta σ H fun vs H1 => ∃ kx ky a b xs ys, vs = [.ref a, .ref b] ∧ SqK kx K H1 a xs ∧ SqK ky K H1 b ys ∧ R (ItzK kx ky K a b) H1
theorem pi_zipK {X : Cx} {e e2 : Expr} {ta : TA} {p pos tpos : Pos} {elts : List Expr} {kk : Nat} (hg : Gl X "zip") (hm : X.mg "zip" = none) (ha : PA X [e, e2] ta)
    (hs : starEach [e, e2] X.env = (false, eval e X.env) :: starEach [e2] X.env := by rfl) (hpl : (backTo pos (starEach [e2] X.env)).any (·.1) = false := by rfl) :
    PI X (.Tuple elts kk tpos) (.Call (.Name "zip" p) [e, e2] [] pos) (iZipK X.K ta) := by
  refine ⟨fun pins s σ H R I h => ?_⟩
  refine PyProof.Rows.Call_ (ld_blt I hg hm PyProof.Rows.boot_zip (PyProof.Rows.callWith_type1 (thn (ha.run pos pins s σ H _ I h) fun us s1 ⟨vs, H1, I1, r1, q1⟩ => ?_) hs hpl))
  obtain ⟨kx, ky, a, b, xs, ys, ex, hqx, hqy, q⟩ := q1
  subst ex
  obtain ⟨u1, u2, rfl, r1, r2⟩ := r1.two
  cases r1
  cases r2
  obtain ⟨its, rv, p1⟩ := seqK I1 hqx
  obtain ⟨its2, rv2, p2⟩ := seqK I1 hqy
  refine zip_begins2 (begins_K kx a its.toArray) (begins_K ky b its2.toArray) p1 p2 fun h' hz hTI hTO h1 h2 hsz hk => wpAny_pyIter_zip hz ?_
  have I2 : Inv X pins σ H1 { s1 with heap := h' } := I1.kept (t' := s1.toks) hk
  refine ⟨s1.heap.objs.size + 4, [s1.heap.objs.size + 4, s1.heap.objs.size + 2, s1.heap.objs.size + 3, s1.heap.objs.size, s1.heap.objs.size + 1], _, _, H1, rfl, I2, turn_zipK (zip_sep2 (fp1 := [a]) (fp2 := [b]) (fun c hc => ?_) (fun c hc => ?_)) (Nat.ne_of_lt p1.lt) (Nat.ne_of_lt (Nat.lt_succ_of_lt p2.lt)), ⟨hz, hTI, ⟨_, _, hTO⟩, itK_new h1, itK_new h2⟩, fun c hcm => ?_, q⟩
  · rw [List.mem_singleton.mp hc]
    exact p1.lt
  · rw [List.mem_singleton.mp hc]
    exact p2.lt
  · have hle : s1.heap.objs.size ≤ c := by
      simp only [List.mem_cons, List.not_mem_nil, or_false] at hcm
      rcases hcm with z | z | z | z | z
      · rw [z]; exact Nat.le_add_right _ _
      · rw [z]; exact Nat.le_add_right _ _
      · rw [z]; exact Nat.le_add_right _ _
      · rw [z]; exact Nat.le_refl _
      · rw [z]; exact Nat.le_add_right _ _
    exact I1.fpOk hle (I1.hok.fresh hle)
/-! as data -/
def seqB : D → Option (Bool × List D)
  | .lst xs => some (true, xs)
  | .tup xs => some (false, xs)
  | _ => none
def zipA : List D → Res (List D)
  | [x, y] => match seqB x, seqB y with
    | some p, some q => .ok (zipL p.2 q.2)
    | _, _ => .bad
  | _ => .bad
section
variable {X : Cx} {P : Pm} {F0 : Fz} {H0 : Hp} {W : WX} {a b : Expr} {fs : Env → Res (List D)} {pos p : Pos} {F H : Hp}
theorem seqB_is {x : D} {v : V} {k : Bool} {xs : List D} (s : Sb P F H) (i : Is P F x v) (h : seqB x = some (k, xs)) : ∃ a vs, v = .ref a ∧ IsL P F xs vs ∧ ∀ K F1 H1, Ex F F1 → Sb P F1 H1 → SqK k K H1 a vs := by
  unfold seqB at h
  split at h
  · cases h
    rw [Is] at i
    obtain ⟨a, vs, rfl, h1, h2⟩ := i
    exact ⟨a, vs, rfl, h2, fun K F1 H1 e1 e2 => .inl ((e2.sub e1).rd h1)⟩
  · cases h
    rw [Is] at i
    obtain ⟨a, vs, rfl, h1, h2⟩ := i
    exact ⟨a, vs, rfl, h2, fun K F1 H1 e1 e2 => .inl (.inl (e2.ex _ _ (e1 _ _ h1)))⟩
  · cases h
theorem id_zipA {elts : List Expr} {kk : Nat} {tpos : Pos} (hg : Gl X "zip") (hm : X.mg "zip" = none) (ha : PA X [a, b] (tL P F0 H0 W fs)) (hs : starEach [a, b] X.env = (false, eval a X.env) :: starEach [b] X.env := by rfl) (hpl : (backTo pos (starEach [b] X.env)).any (·.1) = false := by rfl) :
    PI X (.Tuple elts kk tpos) (.Call (.Name "zip" p) [a, b] [] pos) (tI P F0 H0 W (fun ρ => fs ρ >>= zipA)) := (pi_zipK hg hm ha hs hpl).imp fun σ H R ⟨F, ρ, er, z⟩ => by
  refine ⟨F, ρ, er, (PostG.bind (rel := rLs P) z).imp ?_⟩
  rintro vs H1 ⟨F1, ds, g, i, q⟩
  unfold zipA at q
  split at q
  · rename_i x y
    obtain ⟨v, r, rfl, i1, i⟩ := i.uncons
    obtain ⟨v2, r2, rfl, i2, i⟩ := i.uncons
    obtain rfl := i.unnil
    split at q
    · rename_i p q' hp hq'
      obtain ⟨kx, xs⟩ := p
      obtain ⟨ky, ys⟩ := q'
      obtain ⟨a1, vs1, rfl, j1, k1⟩ := seqB_is g.s i1 hp
      obtain ⟨a2, vs2, rfl, j2, k2⟩ := seqB_is g.s i2 hq'
      refine ⟨kx, ky, a1, a2, vs1, vs2, rfl, k1 _ _ _ (.refl _) g.s, k2 _ _ _ (.refl _) g.s, q.here g.s fun j F2 H2 e1 e2 => ?_⟩
      have hr1 := k1 X.K F2 H2 e1 e2
      have hr2 := k2 X.K F2 H2 e1 e2
      refine ⟨fun d hd => ?_, fun hl => ⟨vs1, vs2, hr1, hr2, ?_⟩⟩
      · obtain ⟨x, y, hx, hy, rfl⟩ := zipL_get hd
        obtain ⟨vx, k1, k2⟩ := j1.get hx
        obtain ⟨vy, l1, l2⟩ := j2.get hy
        refine ⟨⟨vs1, vs2, vx, vy, hr1, hr2, k1, l1⟩, ?_⟩
        rintro v H3 ⟨T, x', y', rfl, hT, rfl, hx', hy'⟩
        have e3 := hx' vs1 hr1
        have e4 := hy' vs2 hr2
        rw [k1] at e3
        rw [l1] at e4
        cases e3
        cases e4
        exact pair_D e2 hT (k2.mono e1 x) (l2.mono e1 y)
      · rw [zipL_len, j1.length, j2.length] at hl
        omega
    · exact q.elim
  · exact q.elim
end
end DL
namespace DL
open PySem L2

/-! ### enumerate of a list or a tuple -/
theorem enum_new1 {v : Value} {o : Obj} {H : Heap → Prop} (B : Begins v o H) :
    Meets (Builtin.«enumerate.__new__» ⟨[.type "enumerate", v], []⟩) (fun _ R s => H s.heap ∧
      R (.ok (.ret (.ref (s.heap.push o).objs.size))) { s with heap := (s.heap.push o).push { cls := .type "enumerate", data := .fields #[.none, .bool false, .ref s.heap.objs.size, rawInt 0, .none, .none] } }) :=
  .of_wp fun prog w A R s h => by
    obtain ⟨hp, g, d, tk, os⟩ := s
    obtain ⟨h1, h⟩ := h
    have hsub := sub_enumerate
    have step : ∀ {A' : Around} {E : Value → Shared → Prop} {Q : Value → Shared → Prop}, Q (.ref hp.objs.size) ⟨hp.push o, g, d, tk, os⟩ → wpAny (model prog w) A' (pyIter v) Q E ⟨hp, g, d, tk, os⟩ :=
      fun q => B.iter prog w _ _ ⟨hp, g, d, tk, os⟩ _ h1 q
    wp_walk using step
    refine wpAny_stack_any fun st => wpAny_pure ?_
    split
    · rename_i c _ _ _ _ _
      cases (c == Value.type "enumerate") <;> (wp_walk using step; exact ⟨_, rfl, h⟩)
    · wp_walk using step
      exact ⟨_, rfl, h⟩
section
variable {prog : Program} {w : World} {A : Around} {E : Value → Shared → Prop} {s : Shared}
theorem enum_made {v : Value} {o : Obj} {H : Heap → Prop} {Q : Value → Shared → Prop} (B : Begins v o H) (h1 : H s.heap)
    (h : ∀ h', IsEnum h' (s.heap.objs.size + 1) s.heap.objs.size 0 .none → h'.get? s.heap.objs.size = some o → (∀ b o, s.heap.get? b = some o → h'.get? b = some o) → Q (.ref (s.heap.objs.size + 1)) { s with heap := h' }) :
    wpAny (model prog w) A (call (.type "enumerate") [v]) Q E s := by
  refine callType_new F.called_enumerate (by decide) (F.typeCall_enumerate_1 _) (F.newCall_enumerate_1 _) (fun obj => F.args_object_init_2 obj _) F.entry_enumerate_new (enum_new1 B) ⟨h1, ?_⟩
  have hz : (s.heap.push o).objs.size = s.heap.objs.size + 1 := Heap.size_push ..
  have he : IsEnum ((s.heap.push o).push { cls := .type "enumerate", data := .fields #[.none, .bool false, .ref s.heap.objs.size, rawInt 0, .none, .none] }) (s.heap.push o).objs.size s.heap.objs.size 0 .none := Heap.get?_push_size _ rfl
  show _ ∧ _
  rw [hz] at he ⊢
  exact ⟨⟨_, he, rfl⟩, h _ he (Heap.get?_push_of_some _ (Heap.get?_push_size _ B.free)) fun b o x => Heap.get?_push_of_some _ (Heap.get?_push_of_some _ x)⟩
end
def IteK (k : Bool) (K : PySem.W.Frag) (a : Addr) : It :=
  ⟨fun i H => ∃ (xs : List V) (x : V), SqK k K H a xs ∧ xs[i]? = some x, fun i H v H' => ∃ T x, v = .ref T ∧ H T = none ∧ H' = upd H T (.tup [.int (i : Nat), x]) ∧ ∀ xs, SqK k K H a xs → xs[i]? = some x, fun i H => ∃ xs : List V, SqK k K H a xs ∧ xs.length ≤ i⟩
theorem turn_enumK {P : Program} {w : World} {K : PySem.W.Frag} {elts : List Expr} {kk : Nat} {tpos : Pos} {k : Bool} {a e it : Addr} (na : a ≠ it) (ne : e ≠ it) (nea : e ≠ a) :
    Turn P w K (.Tuple elts kk tpos) (IteK k K a) [e, it] e (fun i h => (∃ old, IsEnum h e it ((i : Nat) : Int) old) ∧ ItK k h it a i) where
  mem := by simp
  obj := fun i h st c hc => by
    obtain ⟨⟨old, he⟩, hit⟩ := st
    simp only [List.mem_cons, List.not_mem_nil, or_false] at hc
    rcases hc with q | q
    · rw [q]; exact ⟨_, he, fun v q => nomatch q⟩
    · rw [q]; exact hit.ob
  keep := fun i h h' st k => by
    obtain ⟨⟨old, he⟩, hit⟩ := st
    exact ⟨⟨old, k e (by simp) _ he⟩, hit.at fun o q => k it (by simp) o q⟩
  item := by
    intro X hP hw hK hc i pins s σ H E I hf st hg
    subst hP hw hK
    obtain ⟨⟨old, he⟩, hit⟩ := st
    obtain ⟨xs, x, hq, hx⟩ := hg
    obtain ⟨its, rv, p⟩ := seqK I hq
    obtain ⟨u, hu, ru⟩ := rv.get hx
    have hel : e < s.heap.objs.size := Heap.lt_size he
    have D := draws_K (prog := X.prog) (w := X.w) (A := X.A.in1) k (I.ok.hd hc) it a na its.toArray
    refine wpAny_pyNext_enum_itemD D he ⟨hit, p⟩ (by simpa using lt_of_get hu) ne (by simp [ne, nea]) fun w1 h' tk e1 ho hit' hT hsz hk => ?_
    have e1' : w1 = u := by
      have : its.toArray[i]? = some w1 := e1
      simp [hu] at this
      exact this.symm
    subst e1'
    refine ⟨_, rfl, wpAny_letOwnedTupleGo_enum (s := { s with heap := h', toks := tk + 1 }) ho fun h'' he' sb => ?_⟩
    have hT2 : h''.get? s.heap.objs.size = some { cls := .type "tuple", data := .seq #[.int i tk, w1] } := (sb.2 _ (Nat.ne_of_gt hel)).trans hT
    have new : ObjOk X.prog X.w (upd H s.heap.objs.size (.tup [.int (i : Nat), x])) h'' s.heap.objs.size (.tup [.int (i : Nat), x]) :=
      ⟨by show 2 ≤ sizeLine; decide, [.int i tk, w1], .cons ⟨_, rfl⟩ (.cons ru .nil), ⟨_, hT2, rfl, _, rfl⟩⟩
    have I1 : Inv X pins σ (upd H s.heap.objs.size (.tup [.int (i : Nat), x])) { s with heap := h'', toks := tk + 1 } :=
      I.turnedNew (t' := tk + 1) (ch := [e, it]) (fun c o hb q => (sb.2 c (fun q' => hb (by simp [q']))).trans (hk c o (fun q' => hb (by simp [q'])) (fun q' => hb (by simp [q'])) q)) hf (Nat.le_refl _) new
    refine ⟨.ref s.heap.objs.size, _, I1, rfl, ⟨_, x, rfl, I.hok.fresh (Nat.le_refl _), rfl, fun l hl => by rw [injK I hl hq]; exact hx⟩, ⟨⟨w1, ?_⟩, hit'.1.at fun o q => (sb.2 _ (Ne.symm ne)).trans q⟩, fun c hcm => ?_⟩
    · have e1 : ((i + 1 : Nat) : Int) = (i : Int) + 1 := by omega
      rw [e1]
      exact he'
    · obtain ⟨o1, g1, _⟩ := hit.ob
      have hlt : c < s.heap.objs.size := by
        simp only [List.mem_cons, List.not_mem_nil, or_false] at hcm
        rcases hcm with q | q
        · rw [q]; exact hel
        · rw [q]; exact Heap.lt_size g1
      rw [upd_ne (Nat.ne_of_lt hlt)]
      exact (hf c hcm).1
  done := by
    intro X hP hw hK hc i pins s σ H E I hf st hg
    subst hP hw hK
    obtain ⟨⟨old, he⟩, hit⟩ := st
    obtain ⟨xs, hq, hend⟩ := hg
    obtain ⟨its, rv, p⟩ := seqK I hq
    have l1 := rv.length
    obtain ⟨n1, P1, St1, D1, st1, le1, eq1⟩ := draws_at (prog := X.prog) (w := X.w) (A := X.A.in1) k (I.ok.hd hc) it a na its.toArray i hit p
    have en := eq1 (by simpa [← l1] using hend)
    subst en
    refine wpAny_pyNext_enum_endD D1 he st1 fun h' hk => ⟨rfl, I.turnedL (t' := s.toks) (ch := [e, it]) (fun c o hb q => hk c o (fun q' => hb (by simp [q'])) q) hf⟩
  self := fun A i s Q E st h => let ⟨⟨_, he⟩, _⟩ := st; wpAny_pyIter_enum he h
def iEnuK (K : PySem.W.Frag) (ta : TA) : TI := fun σ H R => ta σ H fun vs H1 => ∃ k a xs, vs = [.ref a] ∧ SqK k K H1 a xs ∧ R (IteK k K a) H1
theorem pi_enuK {X : Cx} {e : Expr} {ta : TA} {p pos tpos : Pos} {elts : List Expr} {kk : Nat} (hg : Gl X "enumerate") (hm : X.mg "enumerate" = none) (ha : PA X [e] ta) (hs : starEach [e] X.env = [(false, eval e X.env)] := by rfl) :
    PI X (.Tuple elts kk tpos) (.Call (.Name "enumerate" p) [e] [] pos) (iEnuK X.K ta) := by
  refine ⟨fun pins s σ H R I h => ?_⟩
  refine PyProof.Rows.Call_ (ld_blt I hg hm PyProof.Rows.boot_enumerate (PyProof.Rows.callWith_type1 (thn (ha.run pos pins s σ H _ I h) fun us s1 ⟨vs, H1, I1, r1, q1⟩ => ?_) hs rfl))
  obtain ⟨k, a, xs, ex, hq, q⟩ := q1
  subst ex
  obtain ⟨u1, rfl, r2⟩ := r1.one
  obtain rfl : u1 = Value.ref a := r2
  obtain ⟨its, rv, p1⟩ := seqK I1 hq
  refine enum_made (begins_K k a its.toArray) p1 fun h' he h1 hk => wpAny_pyIter_enum he ?_
  have I2 : Inv X pins σ H1 { s1 with heap := h' } := I1.kept (t' := s1.toks) hk
  refine ⟨s1.heap.objs.size + 1, [s1.heap.objs.size + 1, s1.heap.objs.size], _, _, H1, rfl, I2, turn_enumK (Nat.ne_of_lt p1.lt) (Nat.succ_ne_self _) (Nat.ne_of_gt (Nat.lt_succ_of_lt p1.lt)), ⟨⟨.none, he⟩, itK_new h1⟩, fun c hcm => ?_, q⟩
  have hle : s1.heap.objs.size ≤ c := by
    simp only [List.mem_cons, List.not_mem_nil, or_false] at hcm
    rcases hcm with z | z
    · rw [z]; exact Nat.le_add_right _ _
    · rw [z]; exact Nat.le_refl _
  exact I1.fpOk hle (I1.hok.fresh hle)
/-! as data -/
def enuA : List D → Res (List D)
  | [x] => match seqB x with
    | some p => .ok (enuL p.2)
    | none => .bad
  | _ => .bad
section
variable {X : Cx} {P : Pm} {F0 : Fz} {H0 : Hp} {W : WX} {a b : Expr} {fs : Env → Res (List D)} {pos p : Pos} {F H : Hp}
theorem enuL_get {xs : List D} {j : Nat} {d : D} (h : (enuL xs)[j]? = some d) : ∃ x, xs[j]? = some x ∧ d = .tup [.int (j : Nat), x] := by
  unfold enuL at h
  rw [List.getElem?_map] at h
  cases hz : xs.zipIdx[j]? with
  | none =>
    rw [hz] at h
    cases h
  | some q =>
    rw [hz] at h
    cases h
    rw [List.getElem?_zipIdx] at hz
    cases hx : xs[j]? with
    | none =>
      rw [hx] at hz
      cases hz
    | some x =>
      rw [hx] at hz
      simp at hz
      subst hz
      exact ⟨x, rfl, rfl⟩
theorem id_enuA {elts : List Expr} {kk : Nat} {tpos : Pos} (hg : Gl X "enumerate") (hm : X.mg "enumerate" = none) (ha : PA X [a] (tL P F0 H0 W fs)) (hs : starEach [a] X.env = [(false, eval a X.env)] := by rfl) :
    PI X (.Tuple elts kk tpos) (.Call (.Name "enumerate" p) [a] [] pos) (tI P F0 H0 W (fun ρ => fs ρ >>= enuA)) := (pi_enuK hg hm ha hs).imp fun σ H R ⟨F, ρ, er, z⟩ => by
  refine ⟨F, ρ, er, (PostG.bind (rel := rLs P) z).imp ?_⟩
  rintro vs H1 ⟨F1, ds, g, i, q⟩
  unfold enuA at q
  split at q
  · rename_i x
    obtain ⟨v, r, rfl, i1, i⟩ := i.uncons
    obtain rfl := i.unnil
    split at q
    · rename_i p hp
      obtain ⟨kx, xs⟩ := p
      obtain ⟨a1, vs1, rfl, j1, k1⟩ := seqB_is g.s i1 hp
      refine ⟨kx, a1, vs1, rfl, k1 _ _ _ (.refl _) g.s, q.here g.s fun j F2 H2 e1 e2 => ?_⟩
      have hr1 := k1 X.K F2 H2 e1 e2
      refine ⟨fun d hd => ?_, fun hl => ⟨vs1, hr1, ?_⟩⟩
      · obtain ⟨x, hx, rfl⟩ := enuL_get hd
        obtain ⟨vx, k1, k2⟩ := j1.get hx
        refine ⟨⟨vs1, vx, hr1, k1⟩, ?_⟩
        rintro v H3 ⟨T, x', rfl, hT, rfl, hx'⟩
        have e3 := hx' vs1 hr1
        rw [k1] at e3
        cases e3
        exact pair_D e2 hT is_int (k2.mono e1 x)
      · rw [← j1.length]
        simpa [enuL] using hl
    · exact q.elim
  · exact q.elim
end
end DL
namespace DL
open PySem L2
section
variable {X : Cx} {P : Pm} {F0 : Fz} {H0 : Hp} {W : WX} {a b c e o : Expr} {es : List Expr} {fa fb fc : Env → Res D} {fs : Env → Res (List D)} {pos p apos : Pos} {us : List Nat} {hs : List D → Env → Option Env} {F H : Hp} {σ : L2.St}
/-! ### a, b = a list -/
def hLst (hs : List D → Env → Option Env) : D → Env → Option Env := fun d ρ => match d with
  | .lst ds => hs ds ρ
  | _ => none
theorem gd_lst {k n : Nat} (hc : X.calm = true) (h : PGs X es (tGts P F0 H0 us hs)) (hn : (assignEach es X.env).length = n := by rfl) (hst : (assignEach es X.env).findIdx? (·.1) = none := by rfl) :
    PG X (.Tuple es k pos) (tGt P F0 H0 us (hLst fun ds ρ => if ds.length = n then hs ds ρ else none)) := (pg_unl hc h hn hst).imp fun v σ H Q ⟨F, ρ, d, ρ', er, i1, e, q⟩ => by
  cases d with
  | lst ds =>
    have e' : (if ds.length = n then hs ds ρ else none) = some ρ' := e
    split at e'
    · rename_i hl
      rw [Is] at i1
      obtain ⟨a, vs, rfl, h1, h2⟩ := i1
      exact ⟨a, vs, rfl, .inl (er.s.rd h1), by rw [← h2.length]; exact hl, F, ρ, ds, ρ', er, h2, e', q⟩
    · cases e'
  | _ => cases e
/-! ### a text in a tuple of texts -/
def strsD : List D → Option (List Str)
  | [] => some []
  | .str z :: r => (strsD r).map (z :: ·)
  | _ :: _ => none
theorem strsD_of : ∀ {ds : List D} {vs : List V} {zs : List Str}, strsD ds = some zs → IsL P F ds vs → vs = zs.map V.str
  | [], _, _, h, i => by
    cases h
    obtain rfl := i.unnil
    rfl
  | d :: ds, _, zs, h, i => by
    obtain ⟨v, r, rfl, i1, i2⟩ := i.uncons
    cases d with
    | str z =>
      have h' : (strsD ds).map (z :: ·) = some zs := h
      cases hz : strsD ds with
      | none =>
        rw [hz] at h'
        cases h'
      | some zs' =>
        rw [hz] at h'
        cases h'
        rw [un_str i1, strsD_of hz i2]
        rfl
    | _ => cases h
def inT (x y : D) : Option D := match x, y with
  | .str z, .tup ys => (strsD ys).map fun zs => .bl (zs.any fun w => w == z)
  | _, _ => none
theorem io_inT : OpR X (compareOp .In) (r2O P inT) := fun pins s σ H x y u v Q I rx ry h => by
  obtain ⟨F, dx, dy, d, e, i1, i2, hd, q⟩ := h
  unfold inT at hd
  split at hd
  · rename_i z ys
    cases hz : strsD ys with
    | none =>
      rw [hz] at hd
      cases hd
    | some zs =>
      rw [hz] at hd
      cases hd
      obtain ⟨ad, vs, rfl, h0, h1, h2⟩ := i2
      cases (show x = .str z from i1)
      have ev := strsD_of hz h2
      subst ev
      refine op_in_seq pins s σ H _ _ u v Q I rx ry ⟨ad, _, rfl, .inr (.inl h1), rfl, ?_, ?_⟩
      · rw [List.all_eq_true]
        intro w hw
        obtain ⟨w', _, rfl⟩ := List.mem_map.mp hw
        rfl
      · have : inV (.str z) (zs.map V.str) = zs.any fun w => w == z := by
          unfold inV
          rw [List.any_map]
          rfl
        show Q (.bl (inV (.str z) (zs.map V.str))) H
        rw [this]
        exact q.bl e
  · cases hd
/-! ### max of a list of integers -/
def intsD : List D → Option (List Int)
  | [] => some []
  | .int z :: r => (intsD r).map (z :: ·)
  | _ :: _ => none
theorem intsD_of : ∀ {ds : List D} {vs : List V} {zs : List Int}, intsD ds = some zs → IsL P F ds vs → vs = zs.map V.int
  | [], _, _, h, i => by
    cases h
    obtain rfl := i.unnil
    rfl
  | d :: ds, _, zs, h, i => by
    obtain ⟨v, r, rfl, i1, i2⟩ := i.uncons
    cases d with
    | int z =>
      have h' : (intsD ds).map (z :: ·) = some zs := h
      cases hz : intsD ds with
      | none =>
        rw [hz] at h'
        cases h'
      | some zs' =>
        rw [hz] at h'
        cases h'
        rw [un_int i1, intsD_of hz i2]
        rfl
    | _ => cases h
def maxI (z : Int) (zs : List Int) : Int := zs.foldl max z
theorem maxI_spec : ∀ (zs : List Int) (z : Int), (maxI z zs = z ∨ maxI z zs ∈ zs) ∧ z ≤ maxI z zs ∧ ∀ y ∈ zs, y ≤ maxI z zs
  | [], z => ⟨.inl rfl, Int.le_refl _, fun y hy => by simp at hy⟩
  | x :: zs, z => by
    obtain ⟨h1, h2, h3⟩ := maxI_spec zs (max z x)
    have e : maxI z (x :: zs) = maxI (max z x) zs := rfl
    rw [e]
    refine ⟨?_, by omega, fun y hy => ?_⟩
    · rcases h1 with h1 | h1
      · rcases Int.le_total z x with hz | hz
        · right
          rw [h1, Int.max_eq_right hz]
          exact List.mem_cons_self
        · left
          rw [h1, Int.max_eq_left hz]
      · exact .inr (List.mem_cons_of_mem _ h1)
    · rcases List.mem_cons.mp hy with rfl | hy
      · omega
      · exact h3 y hy
def cMax : List D → Option D
  | [.lst (.int z :: r)] => (intsD r).map fun zs => .int (maxI z zs)
  | _ => none
theorem ic_max (hc : X.calm = true) : CallR X (.builtin "max") (rcO P cMax) := fun pins s σ H xs us Q I rx ⟨F, ds, d, e, i, hd, q⟩ => by
  unfold cMax at hd
  split at hd
  · rename_i z r
    cases hz : intsD r with
    | none =>
      rw [hz] at hd
      cases hd
    | some zs =>
      rw [hz] at hd
      cases hd
      obtain ⟨v, r', rfl, i1, i⟩ := i.uncons
      obtain rfl := i.unnil
      obtain ⟨a, vs, rfl, h1, h2⟩ := i1
      have ev : vs = (z :: zs).map V.int := intsD_of (by show (intsD r).map (z :: ·) = _; rw [hz]; rfl) h2
      subst ev
      refine cr_max hc pins s σ H _ us Q I rx ⟨a, z :: zs, rfl, .inl h1, by simp, fun m hm hm' => ?_⟩
      obtain ⟨k1, k2, k3⟩ := maxI_spec zs z
      have : m = maxI z zs := by
        apply Int.le_antisymm
        · rcases List.mem_cons.mp hm with rfl | hm
          · exact k2
          · exact k3 _ hm
        · rcases k1 with k1 | k1
          · rw [k1]
            exact hm' _ List.mem_cons_self
          · exact hm' _ (List.mem_cons_of_mem _ k1)
      subst this
      exact q.here e is_int
  · cases hd
/-! ### a call as a statement -/
abbrev sDrop (f : Env → Res D) : Env → RS := fun ρ => bindS (f ρ) ρ fun _ => .nx ρ
theorem sd_drop (he : PE X e (tE P F0 H0 W fa)) (hs : swapsWith e none pos.line X.env = pure false := by rfl) : PS X (.Expr e pos) (tS P F0 H0 W (sDrop fa)) := (ps_expr he hs).imp fun N σ H ⟨F, ρ, er, z⟩ => by
  refine ⟨F, ρ, er, (PostS.bind (rel := rIs P) er z).imp ?_⟩
  rintro v H1 ⟨F1, d, g, j, q⟩
  exact q _ F1 H1 (er.grow g) (.refl F1)
/-! ### an integer of the top -/
theorem pd_gli {x : Str} {z : Int} (hg : Gl X x) (hm : ∃ t, X.mg x = some (.int z t)) (hd : (x == ("__debug__" : Str)) = false) : PE X (.Name x pos) (tE P F0 H0 W (fK (.int z))) := by
  obtain ⟨t, ht⟩ := hm
  exact pd_const (pe_glob hg ht (v := .int z) ⟨t, rfl⟩ hd) fun F => by rw [Is]
/-! ### isinstance -/
def ib_tuple : D → Option Bool
  | .tup _ => some true
  | .scr _ => none
  | .exc _ _ => none
  | _ => some false
def ib_str : D → Option Bool
  | .str _ => some true
  | .scr _ => none
  | .exc _ _ => none
  | _ => some false
def ib_list : D → Option Bool
  | .lst _ => some true
  | .scr _ => none
  | .exc _ _ => none
  | _ => some false
def ib_cls (n : Nat) : D → Option Bool
  | .obj c _ => some (c == n)
  | .scr _ => none
  | .exc _ _ => none
  | _ => some false
/-! ### a new list by a slice -/
def slcL (x : D) (l h : Option Int) : Option D := match x with
  | .lst _ => slcD x l h
  | _ => none
theorem nd_slcL {lo hi : Option Expr} {fl fh : Env → Res (Option Int)} {p2 : Pos} (ha : PE X a (tV P F0 H0 W fa)) (hl : PO X lo (tOp' P F0 H0 W fl)) (hh : PO X hi (tOp' P F0 H0 W fh)) :
    PE X (.Subscript a (.Slice lo hi none p2) pos) (tN P F0 H0 W (fun ρ => do let x ← fa ρ; let l ← fl ρ; let h ← fh ρ; opt (slcL x l h))) :=
  (pe_slice sl_list ha hl hh).imp fun σ H Q ⟨F, ρ, er, z⟩ => by
  refine ⟨F, ρ, er, (PostG.bind (rel := rVw P) z).imp ?_⟩
  rintro x H1 ⟨F1, d, g1, i1, z1⟩
  refine ⟨F1, ρ, er.grow g1, (PostG.bind (rel := rOp) z1).imp ?_⟩
  rintro l H2 ⟨F2, l', g2, rfl, z2⟩
  refine ⟨F2, ρ, (er.grow g1).grow g2, (PostG.bind (rel := rOp) z2).imp ?_⟩
  rintro h H3 ⟨F3, h', g3, rfl, z3⟩
  obtain ⟨dr, hd, q⟩ := opt_of z3
  have i3 : Vw P F3 H3 d x := (i1.mono g2.f g2.h d).mono g3.f g3.h d
  cases d with
  | lst ds =>
    cases (show some (D.lst (cutD ds l h)) = some dr from hd)
    obtain ⟨ad, vs, rfl, h1, h2⟩ := i3
    refine ⟨ad, vs, rfl, .inl h1, fun p hp => ?_⟩
    have gg := (g1.trans g2).trans g3
    exact q _ F3 _ (.junk g3.s (.new hp)) ⟨p, rfl, gg.h.back hp, g3.s.back hp, _, upd_same, h2.cut _ _⟩
  | _ => cases hd
/-! ### x[i] = v of an owned list -/
def lputE (i : Nat) (ρ : Env) (y d : D) : RS := match ρ[i]?, y with
  | some (some (.ow (.lst xs))), .int k => match ixN xs.length k with
    | some j => .nx (ρ.set i (some (.ow (.lst (xs.set j d)))))
    | none => .bad
  | _, _ => .bad
abbrev sLput (i : Nat) (fk fv : Env → Res D) : Env → RS := fun ρ => bindS (fv ρ) ρ fun d => bindS (isOw i ρ) ρ fun _ => bindS (fk ρ) ρ fun y => lputE i ρ y d
theorem sd_lput (i : Nat) {x : Str} {p1 pos' : Pos} (hk : PE X b (tE P F0 H0 W fb)) (hv : PE X c (tE P F0 H0 W fc)) (hN : X.N[i]? = some x := by rfl) (hvi : Vis X.env.scope x := by first | exact Or.inl rfl | exact Or.inr (Or.inl rfl) | exact Or.inr (Or.inr rfl)) (hd : (x == ("__debug__" : Str)) = false := by decide)
    (hcd : (x == ("__classdict__" : Str)) = false := by decide)
    (ha : ∀ v, assign (.Subscript (.Name x p1) b pos') X.env v = (do
      let ov ← holding [v] (eval (.Name x p1) X.env)
      let iv ← holding [v, ov] (eval b X.env)
      standAt pos'
      holding [v, ov, iv] (setItem ov iv v)
      release [v, ov, iv] []) := by intro _; rfl)
    (hs : swapsWithSole [.Subscript (.Name x p1) b pos'] c pos.line X.env = pure false := by rfl) (hw : swappedStores [.Subscript (.Name x p1) b pos'] c X.env = pure none := by rfl) :
    PS X (.Assign [.Subscript (.Name x p1) b pos'] c pos) (tS P F0 H0 W (sLput i fb fc)) := (ps_asg hv (pg_sub (pe_var hN hvi hd hcd) hk set_list ha) hs hw).imp fun N σ H ⟨F, ρ, er, z⟩ => by
  refine ⟨F, ρ, er, (PostS.bind (rel := rIs P) er z).imp ?_⟩
  rintro v H1 ⟨F1, d, g1, i1, z1⟩
  have er1 := er.grow g1
  rcases isOw_cases i ρ with hb | ⟨xs, hb, hρ⟩
  · rw [hb] at z1
    exact z1.elim
  · rw [hb] at z1
    replace z1 : PostS P F0 H0 W F1 (bindS (fb ρ) ρ fun y => lputE i ρ y d) N := z1
    obtain ⟨ad, hσ, _⟩ := er1.ow i _ hρ
    refine ⟨.ref ad, hσ, F1, ρ, er1, (PostS.bind (rel := rIs P) er1 z1).imp ?_⟩
    rintro y H3 ⟨F3, dy, g3, i3, z3⟩
    have er3 := er1.grow g3
    obtain ⟨ad', h1, h2, h3, vs, h4, h5⟩ := er3.ow i _ hρ
    rw [hσ] at h1
    cases h1
    unfold lputE at z3
    rw [hρ] at z3
    cases dy with
    | int k =>
      dsimp only at z3
      cases hj : ixN xs.length k with
      | none =>
        rw [hj] at z3
        exact z3.elim
      | some j =>
        rw [hj] at z3
        dsimp only at z3
        obtain rfl := un_int i3
        refine ⟨ad, vs, k, j, rfl, rfl, h4, by rw [← h5.length]; exact hj, z3 σ F3 _ (er3.mut hρ hσ ⟨_, upd_same, ?_⟩) (.refl F3)⟩
        exact IsL.set j h5 (i1.mono g3.f d)
    | _ => exact z3.elim
end
section
variable {K : PySem.W.Frag} {P : Pm} {C : Addr}
theorem kit_tuple (h : ∀ c, PySem.W.kitOne K (.ref (P.C c)) (.type "tuple") = some false) : ∀ d b, ib_tuple d = some b → PySem.W.kitOne K (tyD P d) (.type "tuple") = some b := by
  intro d b hb
  cases d <;> simp only [ib_tuple, Option.some.injEq] at hb <;> (try subst hb) <;> first | exact kit_ty rfl | exact h _ | cases hb
theorem kit_str (h : ∀ c, PySem.W.kitOne K (.ref (P.C c)) (.type "str") = some false) : ∀ d b, ib_str d = some b → PySem.W.kitOne K (tyD P d) (.type "str") = some b := by
  intro d b hb
  cases d <;> simp only [ib_str, Option.some.injEq] at hb <;> (try subst hb) <;> first | exact kit_ty rfl | exact h _ | cases hb
theorem kit_list (h : ∀ c, PySem.W.kitOne K (.ref (P.C c)) (.type "list") = some false) : ∀ d b, ib_list d = some b → PySem.W.kitOne K (tyD P d) (.type "list") = some b := by
  intro d b hb
  cases d <;> simp only [ib_list, Option.some.injEq] at hb <;> (try subst hb) <;> first | exact kit_ty rfl | exact h _ | cases hb
theorem kit_cls {n : Nat} (hC : ∀ c, c ≠ n → PySem.W.kitOne K (.ref (P.C c)) (.ref (P.C n)) = some false) (h : NoB K (P.C n)) : ∀ d b, ib_cls n d = some b → PySem.W.kitOne K (tyD P d) (.ref (P.C n)) = some b := by
  intro d b hb
  cases d <;> simp only [ib_cls, Option.some.injEq] at hb <;> (try subst hb) <;> first | exact h.n1 | exact h.n2 | exact h.n3 | exact h.n4 | exact h.n5 | exact h.n6 | exact h.n7 | cases hb | skip
  rename_i c xs
  show PySem.W.kitOne K (.ref (P.C c)) (.ref (P.C n)) = some (c == n)
  by_cases hc : c = n
  · subst hc
    unfold PySem.W.kitOne
    rw [if_pos (by simp)]
    simp
  · rw [hC c hc]
    simp [hc]
end
end DL
namespace DL
open PySem L2
@[simp] abbrev fDict (f : Env → Res D) : Env → Res D := fun ρ => do let x ← f ρ; opt (cDictT [x])
@[simp] abbrev fSlcL (a : Env → Res D) (l h : Env → Res (Option Int)) : Env → Res D := fun ρ => do let x ← a ρ; let u ← l ρ; let v ← h ρ; opt (slcL x u v)
@[simp] abbrev fSort (a b : Env → Res D) : Env → Res D := fun ρ => do let x ← a ρ; let y ← b ρ; opt (cSortT x y)
@[simp] abbrev fRc (cz : Nat) (f : Env → Res D) : Env → Res D := fun ρ => rcD cz (f ρ)
@[simp] abbrev iZipA (f : Env → Res (List D)) : Env → Res (List D) := fun ρ => f ρ >>= zipA
@[simp] abbrev iEnuA (f : Env → Res (List D)) : Env → Res (List D) := fun ρ => f ρ >>= enuA
/-- of two classes: number 1, or not -/
def ib_c1 : D → Option Bool
  | .obj c _ => some (c == 1)
  | .scr _ => none
  | .exc _ _ => none
  | _ => some false
def ib_c0 : D → Option Bool
  | .obj c _ => some (c != 1)
  | .scr _ => none
  | .exc _ _ => none
  | _ => some false
theorem un1 {k : Nat} {A : Around} (r : Room k A) : A.units + 1 < cLine := by
  have := units65 r
  omega
theorem un8 {k : Nat} {A : Around} (r : Room k A) : A.units + 8 < cLine := by
  have := units65 r
  omega
theorem zip_no {ks : List Str} {f : Str} (h : f ∉ ks) (d : List D) : (ks.zip d).lookup f = (none : Option D) := by
  induction ks generalizing d with
  | nil => rfl
  | cons k ks ih =>
    cases d with
    | nil => rfl
    | cons x d =>
      have h1 : (f == k) = false := beq_eq_false_iff_ne.mpr fun e => h (by rw [e]; exact List.mem_cons_self)
      rw [List.zip_cons_cons, List.lookup_cons, h1]
      exact ih (fun m => h (List.mem_cons_of_mem _ m)) d
end DL
/-! == of lists, tuples and dicts whose items are compared by code: the answer may be False, too -/
namespace GQ
open PySem PySem.SeqAt
open AutoSeq1 (wpAny_loadPart')
open MeetsSeq MeetsSeq2 MeetsSeq3 SeqRoads2
section
variable {prog : Program} {w : World} {A : Around} {R : Result → Shared → Prop}
def ListB (prog : Program) (w : World) (A : Around) (E : Value → Shared → Prop) (l b : Addr) (N : Nat) (I : Nat → Shared → Prop) (J : Shared → Prop) : Prop :=
  ∀ i s, I i s → ∃ (items items2 : Array Value) (n n2 : Nat), s.heap.get? l = some { cls := .type "list", data := .seq items n } ∧ s.heap.get? b = some { cls := .type "list", data := .seq items2 n2 } ∧ items.size = N ∧ items2.size = N ∧
    ∀ (h1 : i < items.size) (h2 : i < items2.size), wpAny (model prog w) A.in1 (eqBool items[i] items2[i]) (fun r s' => (r = true ∧ I (i + 1) s') ∨ (r = false ∧ J s' ∧ ∃ (its its2 : Array Value) (m m2 : Nat), s'.heap.get? l = some { cls := .type "list", data := .seq its m } ∧ s'.heap.get? b = some { cls := .type "list", data := .seq its2 m2 } ∧ its.size = N ∧ its2.size = N)) E s
theorem eq_loopB (l b : Addr) (N : Nat) (I : Nat → Shared → Prop) (J : Shared → Prop) (hl : ListB prog w A (fun e s' => R (.error e) s') l b N I J)
    (fin : ∀ s, I N s → R (.ok (.ret (.bool true))) s) (finF : ∀ s, J s → R (.ok (.ret (.bool false))) s) (k : Nat) :
    ∀ i : Nat, N - i = k → i ≤ N → ∀ s, I i s →
      wpAny (model prog w) A.in1 (Builtin.«list.__eq__.loop» ⟨[.ref l, .ref b, rawInt i, rawInt 2], []⟩) (FinOf prog w A R) (fun e s' => R (.error e) s') s := by
  induction k with
  | zero =>
    intro i hk hi s h
    obtain ⟨items, items2, n, n2, hl1, hb1, hs1, hs2, _⟩ := hl _ _ h
    have hi' : i = N := by omega
    have hR : R (.ok (.ret (.bool true))) s := fin s (hi' ▸ h)
    obtain ⟨hp, g, d, tk, os⟩ := s
    wp_walk using wpAny_loadPart' hl1, wpAny_loadPart' hb1
    have hi1 : items[((i : Nat) : Int).toNat]? = none := by simp; omega
    have hi2 : items2[((i : Nat) : Int).toNat]? = none := by simp; omega
    rw [hi1, hi2]
    wp_walk using wpAny_loadPart' hl1, wpAny_loadPart' hb1
    show R (.ok (.ret (.bool (items.size == items2.size)))) _
    rw [hs1, hs2]
    simpa using hR
  | succ k ih =>
    intro i hk hi s h
    obtain ⟨items, items2, n, n2, hl1, hb1, hs1, hs2, turn⟩ := hl _ _ h
    have hlt : i < items.size := by omega
    have hlt2 : i < items2.size := by omega
    have ht := turn hlt hlt2
    obtain ⟨hp, g, d, tk, os⟩ := s
    wp_walk using wpAny_loadPart' hl1, wpAny_loadPart' hb1
    have hi1 : items[((i : Nat) : Int).toNat]? = some items[i] := by simp [hlt]
    have hi2 : items2[((i : Nat) : Int).toNat]? = some items2[i] := by simp [hlt2]
    have hc : ((i : Int) + 1) = ((i + 1 : Nat) : Int) := by omega
    rw [hi1, hi2]
    refine wpAny_bind (wpAny_mono ht (fun r s2 h2 => ?_) fun _ _ x => x)
    rcases h2 with ⟨hr, h2⟩ | ⟨hr, hJ, its, its2, m, m2, hl2, hb2, hs3, hs4⟩
    · subst hr
      have hrec := ih (i + 1) (by omega) (by omega) s2 h2
      obtain ⟨hp2, g2, d2, tk2, os2⟩ := s2
      wp_walk
      rw [hc]
      exact ⟨plainId_quiet plain_eq_loop _, codeAny_builtin entry_eq_loop (by
        rw [Around.under_plainId plain_eq_loop _]
        exact hrec)⟩
    · subst hr
      have hR := finF s2 hJ
      obtain ⟨hp2, g2, d2, tk2, os2⟩ := s2
      have hj1 : its[((i : Nat) : Int).toNat]? = some (its[i]'(by omega)) := by
        rw [Int.toNat_natCast]
        exact Array.getElem?_eq_getElem (by omega)
      have hj2 : its2[((i : Nat) : Int).toNat]? = some (its2[i]'(by omega)) := by
        rw [Int.toNat_natCast]
        exact Array.getElem?_eq_getElem (by omega)
      wp_walk using wpAny_loadPart' hl2, wpAny_loadPart' hb2
      rw [hj1, hj2]
      wp_walk
      simpa using hR
theorem list_eqB (l b : Addr) (N : Nat) (I : Nat → Shared → Prop) (J : Shared → Prop) (hl : ListB prog w A (fun e s' => R (.error e) s') l b N I J)
    (fin : ∀ s, I N s → R (.ok (.ret (.bool true))) s) (finF : ∀ s, J s → R (.ok (.ret (.bool false))) s) {s : Shared} (h : I 0 s) :
    wpAny (model prog w) A.in1 (Builtin.«list.__eq__» ⟨[.ref l, .ref b], []⟩) (FinOf prog w A R) (fun e s' => R (.error e) s') s := by
  obtain ⟨items, items2, n, n2, hl1, hb1, hs1, hs2, _⟩ := hl _ _ h
  have hrec := eq_loopB (A := A) (R := R) l b N I J hl fin finF _ 0 rfl (Nat.zero_le _) s h
  obtain ⟨hp, g, d, tk, os⟩ := s
  have f3 := AutoSeq1.sub_list_list
  have hne : ¬ (items.size != items2.size) = true := by simp [hs1, hs2]
  wp_walk using wpAny_loadPart' hl1, wpAny_loadPart' hb1
  exact ⟨plainId_quiet plain_eq_loop _, codeAny_builtin entry_eq_loop (by
    rw [Around.under_plainId plain_eq_loop _]
    exact hrec)⟩
theorem tuple_eqB (l b : Addr) (items items2 : Array Value) (n n2 : Nat) (dd dd2 : Option Addr) (sl sl2 : Array (Option Value)) (hsz : items.size = items2.size) (I : Nat → Shared → Prop) (J : Shared → Prop)
    (turn : ∀ i (h1 : i < items.size) (h2 : i < items2.size) s, I i s → wpAny (model prog w) A.in1 (eqBool items[i] items2[i]) (fun r s' => (r = true ∧ I (i + 1) s') ∨ (r = false ∧ J s')) (fun e s' => R (.error e) s') s)
    (fin : ∀ s, I items.size s → R (.ok (.ret (.bool true))) s) (finF : ∀ s, J s → R (.ok (.ret (.bool false))) s) {s : Shared} (hl1 : s.heap.get? l = some { cls := .type "tuple", dict := dd, data := .seq items n, slots := sl }) (hb1 : s.heap.get? b = some { cls := .type "tuple", dict := dd2, data := .seq items2 n2, slots := sl2 }) (h : I 0 s) :
    wpAny (model prog w) A.in1 (Builtin.«tuple.__eq__» ⟨[.ref l, .ref b], []⟩) (FinOf prog w A R) (fun e s' => R (.error e) s') s := by
  have f2 := AutoSeq1.sub_tuple_tuple
  have hZ : (items.toList.zip items2.toList).length = items.size := by simp [hsz]
  have h0 := h
  obtain ⟨hp, g, d, tk, os⟩ := s
  wp_walk using wpAny_loadPart' hl1, wpAny_loadPart' hb1, wpAny_forIn_list _ (fun rest b s' => b.1 = none ∧ ∃ i, rest = (items.toList.zip items2.toList).drop i ∧ i ≤ items.size ∧ I i s') _
  case turn =>
    rintro ⟨y, x⟩ rest b s' ⟨hb', i, hz, hi, hI⟩
    have hlt : i < (items.toList.zip items2.toList).length := by
      rcases Nat.lt_or_ge i (items.toList.zip items2.toList).length with h' | h'
      · exact h'
      · rw [List.drop_of_length_le h'] at hz; cases hz
    have h1 : i < items.size := hZ ▸ hlt
    have h2 : i < items2.size := hsz ▸ h1
    rw [List.drop_eq_getElem_cons hlt] at hz
    injection hz with hyx hrest
    have hy : y = items[i] := by have := congrArg Prod.fst hyx; simpa using this
    have hx : x = items2[i] := by have := congrArg Prod.snd hyx; simpa using this
    subst hy hx
    refine wpAny_bind (wpAny_mono (turn i h1 h2 s' hI) (fun r s2 q2 => ?_) fun _ _ x => x)
    rcases q2 with ⟨hr, q2⟩ | ⟨hr, hJ⟩
    · subst hr
      wp_walk
      exact ⟨rfl, i + 1, hrest, h1, q2⟩
    · subst hr
      have hR := finF s2 hJ
      wp_walk
      simpa using hR
  case fin =>
    rintro ⟨b1, b2⟩ s' ⟨hb', i, hz, hi, hI⟩
    simp only at hb'
    subst hb'
    have hge : items.size ≤ i := by
      rcases Nat.lt_or_ge i (items.toList.zip items2.toList).length with h' | h'
      · rw [List.drop_eq_getElem_cons h'] at hz; cases hz
      · exact hZ ▸ h'
    have hi' : i = items.size := by omega
    have hR : R (.ok (.ret (.bool true))) s' := fin s' (hi' ▸ hI)
    wp_walk
    simpa [Builtin.Tuple.tupleCompareSizes, hsz] using hR
  case h =>
    exact ⟨rfl, 0, rfl, Nat.zero_le _, h0⟩
end
section
variable {prog : Program} {w : World} {A : Around} {E : Value → Shared → Prop} {s : Shared}
theorem rc_listB {l b : Addr} {N : Nat} {Q : Value → Shared → Prop} (hu : A.units < cLine) (I : Nat → Shared → Prop) (J : Shared → Prop) (hl : ListB prog w A E l b N I J)
    (fin : ∀ s, I N s → Q (.bool true) s) (finF : ∀ s, J s → Q (.bool false) s) (h : I 0 s) : wpAny (model prog w) A (richCompare .Eq (.ref l) (.ref b)) Q E s := by
  obtain ⟨items, items2, n, n2, hl1, hb1, _, _, _⟩ := hl _ _ h
  refine wpAny_richCompare_same_room (op := .Eq) ⟨_, hl1, rfl⟩ ⟨_, hb1, rfl⟩ F.slot_list_eq (call_here F.slot_list_eq ⟨_, hl1, rfl⟩ F.entry_list_eq (F.args_list_eq_2 _ _) ?_) hu
  exact list_eqB (R := wants (fun v s' => v ≠ .notImplemented ∧ Q v s') E) l b N I J hl (fun s' q => ⟨(fun x => nomatch x), fin s' q⟩) (fun s' q => ⟨(fun x => nomatch x), finF s' q⟩) h
theorem rc_tupB {l b : Addr} {items items2 : Array Value} {Q : Value → Shared → Prop} (hsz : items.size = items2.size) (hu : A.units < cLine) (I : Nat → Shared → Prop) (J : Shared → Prop)
    (hl : s.heap.IsTuple l items) (hb : s.heap.IsTuple b items2)
    (turn : ∀ i (h1 : i < items.size) (h2 : i < items2.size) s, I i s → wpAny (model prog w) A.in1 (eqBool items[i] items2[i]) (fun r s' => (r = true ∧ I (i + 1) s') ∨ (r = false ∧ J s')) E s)
    (fin : ∀ s, I items.size s → Q (.bool true) s) (finF : ∀ s, J s → Q (.bool false) s) (h : I 0 s) : wpAny (model prog w) A (richCompare .Eq (.ref l) (.ref b)) Q E s := by
  obtain ⟨⟨cls, dd, data, sl⟩, ho, hc, n, hd⟩ := id hl
  obtain ⟨⟨cls2, dd2, data2, sl2⟩, ho2, hc2, n2, hd2⟩ := id hb
  simp only at hc hd hc2 hd2
  subst hc hd hc2 hd2
  refine wpAny_richCompare_same_room (op := .Eq) ⟨_, ho, rfl⟩ ⟨_, ho2, rfl⟩ F.slot_tuple_eq (call_here F.slot_tuple_eq ⟨_, ho, rfl⟩ F.entry_tuple_eq (F.args_tuple_eq_2 _ _) ?_) hu
  exact tuple_eqB (R := wants (fun v s' => v ≠ .notImplemented ∧ Q v s') E) l b items items2 n n2 dd dd2 sl sl2 hsz I J turn (fun s' q => ⟨(fun x => nomatch x), fin s' q⟩) (fun s' q => ⟨(fun x => nomatch x), finF s' q⟩) ho ho2 h
end
end GQ
/-! the same of != -/
namespace GQ
open PySem PySem.SeqAt
open AutoSeq1 (wpAny_loadPart')
open MeetsSeq MeetsSeq2 MeetsSeq3 SeqRoads2
section
variable {prog : Program} {w : World} {A : Around} {R : Result → Shared → Prop}
theorem ne_loopB (l b : Addr) (N : Nat) (I : Nat → Shared → Prop) (J : Shared → Prop) (hl : ListB prog w A (fun e s' => R (.error e) s') l b N I J)
    (fin : ∀ s, I N s → R (.ok (.ret (.bool false))) s) (finF : ∀ s, J s → R (.ok (.ret (.bool true))) s) (k : Nat) :
    ∀ i : Nat, N - i = k → i ≤ N → ∀ s, I i s →
      wpAny (model prog w) A.in1 (Builtin.«list.__eq__.loop» ⟨[.ref l, .ref b, rawInt i, rawInt 3], []⟩) (FinOf prog w A R) (fun e s' => R (.error e) s') s := by
  induction k with
  | zero =>
    intro i hk hi s h
    obtain ⟨items, items2, n, n2, hl1, hb1, hs1, hs2, _⟩ := hl _ _ h
    have hi' : i = N := by omega
    have hR : R (.ok (.ret (.bool false))) s := fin s (hi' ▸ h)
    obtain ⟨hp, g, d, tk, os⟩ := s
    wp_walk using wpAny_loadPart' hl1, wpAny_loadPart' hb1
    have hi1 : items[((i : Nat) : Int).toNat]? = none := by simp; omega
    have hi2 : items2[((i : Nat) : Int).toNat]? = none := by simp; omega
    rw [hi1, hi2]
    wp_walk using wpAny_loadPart' hl1, wpAny_loadPart' hb1
    show R (.ok (.ret (.bool (items.size != items2.size)))) _
    rw [hs1, hs2]
    simpa using hR
  | succ k ih =>
    intro i hk hi s h
    obtain ⟨items, items2, n, n2, hl1, hb1, hs1, hs2, turn⟩ := hl _ _ h
    have hlt : i < items.size := by omega
    have hlt2 : i < items2.size := by omega
    have ht := turn hlt hlt2
    obtain ⟨hp, g, d, tk, os⟩ := s
    wp_walk using wpAny_loadPart' hl1, wpAny_loadPart' hb1
    have hi1 : items[((i : Nat) : Int).toNat]? = some items[i] := by simp [hlt]
    have hi2 : items2[((i : Nat) : Int).toNat]? = some items2[i] := by simp [hlt2]
    have hc : ((i : Int) + 1) = ((i + 1 : Nat) : Int) := by omega
    rw [hi1, hi2]
    refine wpAny_bind (wpAny_mono ht (fun r s2 h2 => ?_) fun _ _ x => x)
    rcases h2 with ⟨hr, h2⟩ | ⟨hr, hJ, its, its2, m, m2, hl2, hb2, hs3, hs4⟩
    · subst hr
      have hrec := ih (i + 1) (by omega) (by omega) s2 h2
      obtain ⟨hp2, g2, d2, tk2, os2⟩ := s2
      wp_walk
      rw [hc]
      exact ⟨plainId_quiet plain_eq_loop _, codeAny_builtin entry_eq_loop (by
        rw [Around.under_plainId plain_eq_loop _]
        exact hrec)⟩
    · subst hr
      have hR := finF s2 hJ
      obtain ⟨hp2, g2, d2, tk2, os2⟩ := s2
      have hj1 : its[((i : Nat) : Int).toNat]? = some (its[i]'(by omega)) := by
        rw [Int.toNat_natCast]
        exact Array.getElem?_eq_getElem (by omega)
      have hj2 : its2[((i : Nat) : Int).toNat]? = some (its2[i]'(by omega)) := by
        rw [Int.toNat_natCast]
        exact Array.getElem?_eq_getElem (by omega)
      wp_walk using wpAny_loadPart' hl2, wpAny_loadPart' hb2
      rw [hj1, hj2]
      wp_walk
      simpa using hR
theorem list_neB (l b : Addr) (N : Nat) (I : Nat → Shared → Prop) (J : Shared → Prop) (hl : ListB prog w A (fun e s' => R (.error e) s') l b N I J)
    (fin : ∀ s, I N s → R (.ok (.ret (.bool false))) s) (finF : ∀ s, J s → R (.ok (.ret (.bool true))) s) {s : Shared} (h : I 0 s) :
    wpAny (model prog w) A.in1 (Builtin.«list.__ne__» ⟨[.ref l, .ref b], []⟩) (FinOf prog w A R) (fun e s' => R (.error e) s') s := by
  obtain ⟨items, items2, n, n2, hl1, hb1, hs1, hs2, _⟩ := hl _ _ h
  have hrec := ne_loopB (A := A) (R := R) l b N I J hl fin finF _ 0 rfl (Nat.zero_le _) s h
  obtain ⟨hp, g, d, tk, os⟩ := s
  have f3 := AutoSeq1.sub_list_list
  have hne : ¬ (items.size != items2.size) = true := by simp [hs1, hs2]
  wp_walk using wpAny_loadPart' hl1, wpAny_loadPart' hb1
  exact ⟨plainId_quiet plain_eq_loop _, codeAny_builtin entry_eq_loop (by
    rw [Around.under_plainId plain_eq_loop _]
    exact hrec)⟩
theorem tuple_neB (l b : Addr) (items items2 : Array Value) (n n2 : Nat) (dd dd2 : Option Addr) (sl sl2 : Array (Option Value)) (hsz : items.size = items2.size) (I : Nat → Shared → Prop) (J : Shared → Prop)
    (turn : ∀ i (h1 : i < items.size) (h2 : i < items2.size) s, I i s → wpAny (model prog w) A.in1 (eqBool items[i] items2[i]) (fun r s' => (r = true ∧ I (i + 1) s') ∨ (r = false ∧ J s')) (fun e s' => R (.error e) s') s)
    (fin : ∀ s, I items.size s → R (.ok (.ret (.bool false))) s) (finF : ∀ s, J s → R (.ok (.ret (.bool true))) s) {s : Shared} (hl1 : s.heap.get? l = some { cls := .type "tuple", dict := dd, data := .seq items n, slots := sl }) (hb1 : s.heap.get? b = some { cls := .type "tuple", dict := dd2, data := .seq items2 n2, slots := sl2 }) (h : I 0 s) :
    wpAny (model prog w) A.in1 (Builtin.«tuple.__ne__» ⟨[.ref l, .ref b], []⟩) (FinOf prog w A R) (fun e s' => R (.error e) s') s := by
  have f2 := AutoSeq1.sub_tuple_tuple
  have hZ : (items.toList.zip items2.toList).length = items.size := by simp [hsz]
  have h0 := h
  obtain ⟨hp, g, d, tk, os⟩ := s
  wp_walk using wpAny_loadPart' hl1, wpAny_loadPart' hb1, wpAny_forIn_list _ (fun rest b s' => b.1 = none ∧ ∃ i, rest = (items.toList.zip items2.toList).drop i ∧ i ≤ items.size ∧ I i s') _
  case turn =>
    rintro ⟨y, x⟩ rest b s' ⟨hb', i, hz, hi, hI⟩
    have hlt : i < (items.toList.zip items2.toList).length := by
      rcases Nat.lt_or_ge i (items.toList.zip items2.toList).length with h' | h'
      · exact h'
      · rw [List.drop_of_length_le h'] at hz; cases hz
    have h1 : i < items.size := hZ ▸ hlt
    have h2 : i < items2.size := hsz ▸ h1
    rw [List.drop_eq_getElem_cons hlt] at hz
    injection hz with hyx hrest
    have hy : y = items[i] := by have := congrArg Prod.fst hyx; simpa using this
    have hx : x = items2[i] := by have := congrArg Prod.snd hyx; simpa using this
    subst hy hx
    refine wpAny_bind (wpAny_mono (turn i h1 h2 s' hI) (fun r s2 q2 => ?_) fun _ _ x => x)
    rcases q2 with ⟨hr, q2⟩ | ⟨hr, hJ⟩
    · subst hr
      wp_walk
      exact ⟨rfl, i + 1, hrest, h1, q2⟩
    · subst hr
      have hR := finF s2 hJ
      wp_walk
      simpa using hR
  case fin =>
    rintro ⟨b1, b2⟩ s' ⟨hb', i, hz, hi, hI⟩
    simp only at hb'
    subst hb'
    have hge : items.size ≤ i := by
      rcases Nat.lt_or_ge i (items.toList.zip items2.toList).length with h' | h'
      · rw [List.drop_eq_getElem_cons h'] at hz; cases hz
      · exact hZ ▸ h'
    have hi' : i = items.size := by omega
    have hR : R (.ok (.ret (.bool false))) s' := fin s' (hi' ▸ hI)
    wp_walk
    simpa [Builtin.Tuple.tupleCompareSizes, hsz] using hR
  case h =>
    exact ⟨rfl, 0, rfl, Nat.zero_le _, h0⟩
end
section
variable {prog : Program} {w : World} {A : Around} {E : Value → Shared → Prop} {s : Shared}
theorem rn_listB {l b : Addr} {N : Nat} {Q : Value → Shared → Prop} (hu : A.units < cLine) (I : Nat → Shared → Prop) (J : Shared → Prop) (hl : ListB prog w A E l b N I J)
    (fin : ∀ s, I N s → Q (.bool false) s) (finF : ∀ s, J s → Q (.bool true) s) (h : I 0 s) : wpAny (model prog w) A (richCompare .NotEq (.ref l) (.ref b)) Q E s := by
  obtain ⟨items, items2, n, n2, hl1, hb1, _, _, _⟩ := hl _ _ h
  refine wpAny_richCompare_same_room (op := .NotEq) ⟨_, hl1, rfl⟩ ⟨_, hb1, rfl⟩ F.slot_list_ne (call_here F.slot_list_ne ⟨_, hl1, rfl⟩ F.entry_list_ne (F.args_list_ne_2 _ _) ?_) hu
  exact list_neB (R := wants (fun v s' => v ≠ .notImplemented ∧ Q v s') E) l b N I J hl (fun s' q => ⟨(fun x => nomatch x), fin s' q⟩) (fun s' q => ⟨(fun x => nomatch x), finF s' q⟩) h
theorem rn_tupB {l b : Addr} {items items2 : Array Value} {Q : Value → Shared → Prop} (hsz : items.size = items2.size) (hu : A.units < cLine) (I : Nat → Shared → Prop) (J : Shared → Prop)
    (hl : s.heap.IsTuple l items) (hb : s.heap.IsTuple b items2)
    (turn : ∀ i (h1 : i < items.size) (h2 : i < items2.size) s, I i s → wpAny (model prog w) A.in1 (eqBool items[i] items2[i]) (fun r s' => (r = true ∧ I (i + 1) s') ∨ (r = false ∧ J s')) E s)
    (fin : ∀ s, I items.size s → Q (.bool false) s) (finF : ∀ s, J s → Q (.bool true) s) (h : I 0 s) : wpAny (model prog w) A (richCompare .NotEq (.ref l) (.ref b)) Q E s := by
  obtain ⟨⟨cls, dd, data, sl⟩, ho, hc, n, hd⟩ := id hl
  obtain ⟨⟨cls2, dd2, data2, sl2⟩, ho2, hc2, n2, hd2⟩ := id hb
  simp only at hc hd hc2 hd2
  subst hc hd hc2 hd2
  refine wpAny_richCompare_same_room (op := .NotEq) ⟨_, ho, rfl⟩ ⟨_, ho2, rfl⟩ F.slot_tuple_ne (call_here F.slot_tuple_ne ⟨_, ho, rfl⟩ F.entry_tuple_ne (F.args_tuple_ne_2 _ _) ?_) hu
  exact tuple_neB (R := wants (fun v s' => v ≠ .notImplemented ∧ Q v s') E) l b items items2 n n2 dd dd2 sl sl2 hsz I J turn (fun s' q => ⟨(fun x => nomatch x), fin s' q⟩) (fun s' q => ⟨(fun x => nomatch x), finF s' q⟩) ho ho2 h
end
end GQ
/-! == and != of dicts whose values are compared by code -/
namespace PySem.W
open Lean Elab Tactic Meta PySem PySem.Calls PyProof.Rows PyProof.V PySem.Spec
section
variable {prog : Program} {w : World} {K : Type} [DecidableEq K] {knd : KeyKind prog w K} {A : Around} {E : Value → Shared → Prop} {s : Shared}
/-- the turns of a comparison of two dicts: at each the dicts stand as they were -/
structure DTurn (prog : Program) (w : World) {K : Type} [DecidableEq K] (A : Around) (E : Value → Shared → Prop) (s : Shared) (a b : Addr) (ka kb : List (K × Value)) (I : Nat → Shared → Prop) (J : Shared → Prop) : Prop where
  keep : ∀ i s', I i s' → s'.heap.get? a = s.heap.get? a ∧ s'.heap.get? b = s.heap.get? b
  turn : ∀ i k v s', I i s' → ka[i]? = some (k, v) → (valueAt kb k = none ∧ J s') ∨ ∃ y, valueAt kb k = some y ∧ wpAny (model prog w) A (eqBool v y) (fun r s2 => (r = true ∧ I (i + 1) s2) ∨ (r = false ∧ J s2)) E s'
theorem samePairsB {nm : String} {a b : Addr} {ka kb : List (K × Value)} {Q : Bool → Shared → Prop} {I : Nat → Shared → Prop} {J : Shared → Prop} (ha : (a == sysModules) = false) (hb : (b == sysModules) = false)
    (da : s.heap.DictOf knd a ka) (db : s.heap.DictOf knd b kb) (t : DTurn prog w A E s a b ka kb I J) (hlen : ka.length = kb.length) (fin : ∀ s', I ka.length s' → Q true s') (finF : ∀ s', J s' → Q false s') (h0 : I 0 s) :
    wpAny (model prog w) A (Builtin.Dict.samePairs nm a b) Q E s := by
  obtain ⟨oa, es, ep, hoa, _, hda, hka, hpa, _⟩ := da
  obtain ⟨ob, es', ep', hob, _, hdb, hkb, hpb, _⟩ := db
  have hla : ka.length = es.size := by rw [← hpa.length]; exact Array.length_toList
  have hlb : kb.length = es'.size := by rw [← hpb.length]; exact Array.length_toList
  have hfind : ∀ k, findBy knd.is es' k = valueAt kb k := fun k => by
    rw [← hpb.find k]
    clear hlb hpb hkb hdb hob
    obtain ⟨l⟩ := es'
    simp [findBy]
  have hsz : es.size = es'.size := by rw [← hla, ← hlb, hlen]
  have hoa' : ∀ {i s'}, I i s' → s'.heap.get? a = some oa := fun hi => by rw [(t.keep _ _ hi).1, hoa]
  have hob' : ∀ {i s'}, I i s' → s'.heap.get? b = some ob := fun hi => by rw [(t.keep _ _ hi).2, hob]
  unfold Builtin.Dict.samePairs Builtin.Dict.showsAll
  rw [if_neg (show ¬ (a == sysModules) = true by rw [ha]; exact Bool.false_ne_true), if_neg (show ¬ (b == sysModules) = true by rw [hb]; exact Bool.false_ne_true)]
  refine wpAny_bind (wpAny_pure (wpAny_bind (wpAny_pure ?_)))
  refine wpAny_bind (wpAny_dictEntries hoa hda ?_)
  dsimp only
  refine wpAny_bind (wpAny_dictEntries hob hdb ?_)
  rw [if_neg (by rw [hsz]; simp)]
  refine wpAny_bind (wpAny_dictEpoch hoa hda ?_)
  refine wpAny_bind ?_
  rw [Std.Legacy.Range.forIn_eq_forIn_range']
  simp only [Std.Legacy.Range.size, Nat.sub_zero, Nat.add_sub_cancel, Nat.div_one]
  refine wpAny_forIn_list _
    (fun rest q s' => q = (none, ()) ∧ ∃ i, rest = List.range' i (es.size - i) ∧ i ≤ es.size ∧ I i s')
    _ ?_ ?_ _ _ ⟨rfl, 0, by simp, Nat.zero_le _, h0⟩
  · rintro x rest q s' ⟨rfl, i, hr, hi, hI⟩
    have hlt : i < es.size := by
      rcases Nat.lt_or_ge i es.size with h | h
      · exact h
      · rw [Nat.sub_eq_zero_of_le h] at hr; simp at hr
    obtain ⟨rfl, hrest⟩ : x = i ∧ rest = List.range' (i + 1) (es.size - (i + 1)) := by
      have e : es.size - i = (es.size - (i + 1)) + 1 := by omega
      rw [e, List.range'_succ] at hr
      injection hr with h1 h2
      exact ⟨h1, h2⟩
    refine wpAny_bind (wpAny_dictEntries (hoa' hI) hda ?_)
    rw [Array.getElem?_eq_getElem hlt]
    have hlt' : x < ka.length := by rw [hla]; exact hlt
    obtain ⟨k, v, hkv⟩ : ∃ k v, ka[x] = (k, v) := ⟨_, _, rfl⟩
    obtain ⟨hkey, hval⟩ := hpa.get? (i := x) (e := es[x]) (k := k) (v := v) (by rw [Array.getElem?_toList]; exact Array.getElem?_eq_getElem hlt) (by rw [List.getElem?_eq_getElem hlt', hkv])
    obtain ⟨k', hk', hh⟩ := hka es[x] (Array.getElem_mem hlt)
    have ekk : k' = k := knd.inj _ _ _ hk' hkey
    rw [ekk] at hh
    have hturn := t.turn x k v s' hI (by rw [List.getElem?_eq_getElem hlt', hkv])
    show wpAny _ _ (holding [es[x].key, es[x].val] _ >>= _) _ _ _
    rw [hh]
    refine wpAny_bind (wpAny_holding (wpAny_bind (wpAny_dictFind_of hkey (hob' hI) hdb hkb ?_)))
    cases hj : es'.findIdx? fun e => knd.is k e.key with
    | none =>
      have hn : valueAt kb k = none := by rw [← hfind k, findBy_of_findIdx?, hj]
      rcases hturn with ⟨_, hJ⟩ | ⟨y, hy, _⟩
      · refine wpAny_pure ?_
        show wpAny _ _ (if (!false) = true then _ else _) _ _ _
        rw [if_pos (by decide)]
        exact wpAny_pure (wpAny_pure (finF _ hJ))
      · rw [hn] at hy; exact nomatch hy
    | some j =>
      obtain ⟨hjlt, _, _⟩ := Array.findIdx?_eq_some_iff_getElem.mp hj
      have hv' : valueAt kb k = some es'[j].val := by
        rw [← hfind k, findBy_of_findIdx?, hj]
        simp [Array.getElem?_eq_getElem hjlt]
      refine wpAny_bind (wpAny_dictEntries (hob' hI) hdb ?_)
      rw [Array.getElem?_eq_getElem hjlt]
      rcases hturn with ⟨hn, _⟩ | ⟨y, hy, he⟩
      · rw [hv'] at hn; exact nomatch hn
      · have ey : es'[j].val = y := Option.some.inj (hv'.symm.trans hy)
        rw [← ey, ← hval] at he
        refine wpAny_holding (wpAny_mono he (fun r s2 q2 => ?_) fun _ _ x => x)
        rcases q2 with ⟨rfl, hI2⟩ | ⟨rfl, hJ⟩
        · show wpAny _ _ (if (!true) = true then _ else _) _ _ _
          rw [if_neg (by decide)]
          refine wpAny_bind (wpAny_dictEpoch (hoa' hI2) hda ?_)
          rw [if_neg (by simp)]
          exact wpAny_pure ⟨rfl, x + 1, hrest, hlt, hI2⟩
        · show wpAny _ _ (if (!false) = true then _ else _) _ _ _
          rw [if_pos (by decide)]
          exact wpAny_pure (wpAny_pure (finF _ hJ))
  · rintro q s' ⟨rfl, i, hr, hi, hI⟩
    have hin : i = es.size := by
      rcases Nat.lt_or_ge i es.size with h | h
      · have e : es.size - i = (es.size - (i + 1)) + 1 := by omega
        rw [e, List.range'_succ] at hr; exact nomatch hr
      · exact Nat.le_antisymm hi h
    refine wpAny_pure ?_
    rw [hin, ← hla] at hI
    exact fin _ hI
theorem dict_eqB {a b : Addr} {ka kb : List (K × Value)} {I : Nat → Shared → Prop} {J : Shared → Prop} {Q : Value → Shared → Prop} (ha : (a == sysModules) = false) (hb : (b == sysModules) = false)
    (da : s.heap.DictOf knd a ka) (db : s.heap.DictOf knd b kb) (hu : A.units < cLine) (t : DTurn prog w A.in1 E s a b ka kb I J) (hlen : ka.length = kb.length) (fin : ∀ s', I ka.length s' → Q (.bool true) s') (finF : ∀ s', J s' → Q (.bool false) s') (h0 : I 0 s) :
    wpAny (model prog w) A (richCompare .Eq (.ref a) (.ref b)) Q E s := by
  refine wpAny_richCompare_same_room (op := .Eq) da.typeIs db.typeIs PySem.F.slot_dict_eq (wpAny_call_entry PySem.F.slot_dict_eq da.typeIs PySem.F.entry_dict_eq ?_ (PySem.F.args_dict_eq_2 _ _)) hu
  show wpAny _ _ (Builtin.Dict.dictSlotArgs "__eq__" ⟨[.ref a, .ref b], []⟩ >>= _) _ _ s
  refine wpAny_bind ?_
  unfold Builtin.Dict.dictSlotArgs
  refine wpAny_bind (wpAny_notOrdered_dict da.typeIs ?_)
  show wpAny _ _ (pure (Value.ref a, Value.ref b)) _ _ s
  refine wpAny_pure ?_
  refine wpAny_bind (wpAny_isInstance (T := "dict") db.typeIs PySem.F.sub_dict_dict ?_)
  simp only [Bool.not_true, Bool.false_eq_true, if_false]
  refine wpAny_bind (wpAny_pure (wpAny_bind (wpAny_pure ?_)))
  refine wpAny_bind (samePairsB ha hb da db t hlen (fun s' q => ?_) (fun s' q => ?_) h0)
  · exact wpAny_pure ⟨_, rfl, (fun x => nomatch x), by simpa using fin s' q⟩
  · exact wpAny_pure ⟨_, rfl, (fun x => nomatch x), by simpa using finF s' q⟩
theorem dict_neB {a b : Addr} {ka kb : List (K × Value)} {I : Nat → Shared → Prop} {J : Shared → Prop} {Q : Value → Shared → Prop} (ha : (a == sysModules) = false) (hb : (b == sysModules) = false)
    (da : s.heap.DictOf knd a ka) (db : s.heap.DictOf knd b kb) (hu : A.units < cLine) (t : DTurn prog w A.in1 E s a b ka kb I J) (hlen : ka.length = kb.length) (fin : ∀ s', I ka.length s' → Q (.bool false) s') (finF : ∀ s', J s' → Q (.bool true) s') (h0 : I 0 s) :
    wpAny (model prog w) A (richCompare .NotEq (.ref a) (.ref b)) Q E s := by
  refine wpAny_richCompare_same_room (op := .NotEq) da.typeIs db.typeIs PySem.F.slot_dict_ne (wpAny_call_entry PySem.F.slot_dict_ne da.typeIs PySem.F.entry_dict_ne ?_ (PySem.F.args_dict_ne_2 _ _)) hu
  show wpAny _ _ (Builtin.Dict.dictSlotArgs "__ne__" ⟨[.ref a, .ref b], []⟩ >>= _) _ _ s
  refine wpAny_bind ?_
  unfold Builtin.Dict.dictSlotArgs
  refine wpAny_bind (wpAny_notOrdered_dict da.typeIs ?_)
  show wpAny _ _ (pure (Value.ref a, Value.ref b)) _ _ s
  refine wpAny_pure ?_
  refine wpAny_bind (wpAny_isInstance (T := "dict") db.typeIs PySem.F.sub_dict_dict ?_)
  simp only [Bool.not_true, Bool.false_eq_true, if_false]
  refine wpAny_bind (wpAny_pure (wpAny_bind (wpAny_pure ?_)))
  refine wpAny_bind (samePairsB ha hb da db t hlen (fun s' q => ?_) (fun s' q => ?_) h0)
  · exact wpAny_pure ⟨_, rfl, (fun x => nomatch x), by simpa using fin s' q⟩
  · exact wpAny_pure ⟨_, rfl, (fun x => nomatch x), by simpa using finF s' q⟩
end
end PySem.W
/-! the same of dicts with tuples as keys -/
namespace PySem.W
open Lean Elab Tactic Meta PySem PySem.Calls PyProof.Rows PyProof.V PySem.Spec
section
variable {prog : Program} {w : World} {K : Type} [DecidableEq K] {knd : HeapKind prog w K} {A : Around} {E : Value → Shared → Prop} {s : Shared}
structure HTurn (prog : Program) (w : World) {K : Type} [DecidableEq K] (knd : HeapKind prog w K) (A : Around) (E : Value → Shared → Prop) (s : Shared) (a b : Addr) (xa xb : List (K × Addr × Value)) (I : Nat → Shared → Prop) (J : Shared → Prop) : Prop where
  keep : ∀ i s', I i s' → s'.heap.get? a = s.heap.get? a ∧ s'.heap.get? b = s.heap.get? b ∧ (∀ x ∈ xa, knd.is s'.heap x.1 x.2.1) ∧ ∀ x ∈ xb, knd.is s'.heap x.1 x.2.1
  turn : ∀ i k p v s', I i s' → xa[i]? = some (k, p, v) → (atKey xb k = none ∧ J s') ∨ ∃ q y, atKey xb k = some (q, y) ∧ wpAny (model prog w) A (eqBool v y) (fun r s2 => (r = true ∧ I (i + 1) s2) ∨ (r = false ∧ J s2)) E s'
theorem samePairsH {nm : String} {a b : Addr} {xa xb : List (K × Addr × Value)} {Q : Bool → Shared → Prop} {I : Nat → Shared → Prop} {J : Shared → Prop} (hu : knd.room A) (ha : (a == sysModules) = false) (hb : (b == sysModules) = false)
    (da : s.heap.DictOfH knd a xa) (db : s.heap.DictOfH knd b xb) (t : HTurn prog w knd A E s a b xa xb I J) (hlen : xa.length = xb.length) (fin : ∀ s', I xa.length s' → Q true s') (finF : ∀ s', J s' → Q false s') (h0 : I 0 s) :
    wpAny (model prog w) A (Builtin.Dict.samePairs nm a b) Q E s := by
  obtain ⟨oa, es, ep, hoa, _, hda, hea, _, hna⟩ := da
  obtain ⟨ob, es', ep', hob, _, hdb, heb, _, hnb⟩ := db
  have hla : es.size = xa.length := by rw [← Array.length_toList, hea, List.length_map]
  have hlb : es'.size = xb.length := by rw [← Array.length_toList, heb, List.length_map]
  have hsz : es.size = es'.size := by rw [hla, hlb, hlen]
  have hoa' : ∀ {i s'}, I i s' → s'.heap.get? a = some oa := fun hi => by rw [(t.keep _ _ hi).1, hoa]
  have hob' : ∀ {i s'}, I i s' → s'.heap.get? b = some ob := fun hi => by rw [(t.keep _ _ hi).2.1, hob]
  unfold Builtin.Dict.samePairs Builtin.Dict.showsAll
  rw [if_neg (show ¬ (a == sysModules) = true by rw [ha]; exact Bool.false_ne_true), if_neg (show ¬ (b == sysModules) = true by rw [hb]; exact Bool.false_ne_true)]
  refine wpAny_bind (wpAny_pure (wpAny_bind (wpAny_pure ?_)))
  refine wpAny_bind (wpAny_dictEntries hoa hda ?_)
  dsimp only
  refine wpAny_bind (wpAny_dictEntries hob hdb ?_)
  rw [if_neg (by rw [hsz]; simp)]
  refine wpAny_bind (wpAny_dictEpoch hoa hda ?_)
  refine wpAny_bind ?_
  rw [Std.Legacy.Range.forIn_eq_forIn_range']
  simp only [Std.Legacy.Range.size, Nat.sub_zero, Nat.add_sub_cancel, Nat.div_one]
  refine wpAny_forIn_list _
    (fun rest q s' => q = (none, ()) ∧ ∃ i, rest = List.range' i (es.size - i) ∧ i ≤ es.size ∧ I i s')
    _ ?_ ?_ _ _ ⟨rfl, 0, by simp, Nat.zero_le _, h0⟩
  · rintro x rest q s' ⟨rfl, i, hr, hi, hI⟩
    have hlt : i < es.size := by
      rcases Nat.lt_or_ge i es.size with h | h
      · exact h
      · rw [Nat.sub_eq_zero_of_le h] at hr; simp at hr
    obtain ⟨rfl, hrest⟩ : x = i ∧ rest = List.range' (i + 1) (es.size - (i + 1)) := by
      have e : es.size - i = (es.size - (i + 1)) + 1 := by omega
      rw [e, List.range'_succ] at hr
      injection hr with h1 h2
      exact ⟨h1, h2⟩
    refine wpAny_bind (wpAny_dictEntries (hoa' hI) hda ?_)
    rw [Array.getElem?_eq_getElem hlt]
    have hlt' : x < xa.length := by rw [← hla]; exact hlt
    obtain ⟨k, p, v, hkv⟩ : ∃ k p v, xa[x] = (k, p, v) := ⟨_, _, _, rfl⟩
    have hge : es[x] = entryOfKey knd (k, p, v) := by
      have h1 : es.toList[x]? = (xa.map (entryOfKey knd))[x]? := by rw [hea]
      rw [Array.getElem?_toList, Array.getElem?_eq_getElem hlt, List.getElem?_map, List.getElem?_eq_getElem hlt', hkv] at h1
      exact Option.some.inj h1
    obtain ⟨_, _, hisa, hisb⟩ := t.keep _ _ hI
    have hmem : (k, p, v) ∈ xa := by rw [← hkv]; exact List.getElem_mem hlt'
    have hkey : knd.is s'.heap k p := hisa _ hmem
    have hturn := t.turn x k p v s' hI (by rw [List.getElem?_eq_getElem hlt', hkv])
    show wpAny _ _ (holding [es[x].key, es[x].val] _ >>= _) _ _ _
    rw [hge]
    refine wpAny_bind (wpAny_holding (wpAny_bind (wpAny_dictFind_heap (xs := xb) hu hkey (hob' hI) hdb heb hisb hnb (fun hno => ?_) (fun j q hj => ?_))))
    · have hn := atKey_none_of_get hno
      rcases hturn with ⟨_, hJ⟩ | ⟨q, y, hy, _⟩
      · refine wpAny_pure ?_
        show wpAny _ _ (if (!false) = true then _ else _) _ _ _
        rw [if_pos (by decide)]
        exact wpAny_pure (wpAny_pure (finF _ hJ))
      · rw [hn] at hy; exact nomatch hy
    · have hat := atKey_of_get hnb hj
      have hjlt : j < es'.size := by
        rw [hlb]
        exact (List.getElem?_eq_some_iff.mp hj).1
      have hge' : es'[j] = entryOfKey knd (k, q) := by
        have h1 : es'.toList[j]? = (xb.map (entryOfKey knd))[j]? := by rw [heb]
        rw [Array.getElem?_toList, Array.getElem?_eq_getElem hjlt, List.getElem?_map, hj] at h1
        exact Option.some.inj h1
      refine wpAny_bind (wpAny_dictEntries (hob' hI) hdb ?_)
      rw [Array.getElem?_eq_getElem hjlt]
      rcases hturn with ⟨hn, _⟩ | ⟨q', y, hy, he⟩
      · rw [hat] at hn; exact nomatch hn
      · have eq' : q = (q', y) := Option.some.inj (hat.symm.trans hy)
        subst eq'
        show wpAny _ _ (holding [es'[j].val] (eqBool v es'[j].val)) _ _ _
        rw [hge']
        refine wpAny_holding (wpAny_mono he (fun r s2 q2 => ?_) fun _ _ x => x)
        rcases q2 with ⟨rfl, hI2⟩ | ⟨rfl, hJ⟩
        · show wpAny _ _ (if (!true) = true then _ else _) _ _ _
          rw [if_neg (by decide)]
          refine wpAny_bind (wpAny_dictEpoch (hoa' hI2) hda ?_)
          rw [if_neg (by simp)]
          exact wpAny_pure ⟨rfl, x + 1, hrest, hlt, hI2⟩
        · show wpAny _ _ (if (!false) = true then _ else _) _ _ _
          rw [if_pos (by decide)]
          exact wpAny_pure (wpAny_pure (finF _ hJ))
  · rintro q s' ⟨rfl, i, hr, hi, hI⟩
    have hin : i = es.size := by
      rcases Nat.lt_or_ge i es.size with h | h
      · have e : es.size - i = (es.size - (i + 1)) + 1 := by omega
        rw [e, List.range'_succ] at hr; exact nomatch hr
      · exact Nat.le_antisymm hi h
    refine wpAny_pure ?_
    rw [hin, hla] at hI
    exact fin _ hI
/-- sizes differ -/
theorem samePairsN {nm : String} {a b : Addr} {oa ob : Obj} {es es' : Array DictEntry} {ep ep' : Nat} {Q : Bool → Shared → Prop} (ha : (a == sysModules) = false) (hb : (b == sysModules) = false) (hoa : s.heap.get? a = some oa) (hda : oa.data = .dict es ep) (hob : s.heap.get? b = some ob) (hdb : ob.data = .dict es' ep') (hsz : es.size ≠ es'.size) (h : Q false s) :
    wpAny (model prog w) A (Builtin.Dict.samePairs nm a b) Q E s := by
  unfold Builtin.Dict.samePairs Builtin.Dict.showsAll
  rw [if_neg (show ¬ (a == sysModules) = true by rw [ha]; exact Bool.false_ne_true), if_neg (show ¬ (b == sysModules) = true by rw [hb]; exact Bool.false_ne_true)]
  refine wpAny_bind (wpAny_pure (wpAny_bind (wpAny_pure ?_)))
  refine wpAny_bind (wpAny_dictEntries hoa hda ?_)
  dsimp only
  refine wpAny_bind (wpAny_dictEntries hob hdb ?_)
  rw [if_pos (by simpa using hsz)]
  exact wpAny_bind (wpAny_rule (wpAny_pure h))
/-- a == b, a != b of two dicts, by their pairs -/
theorem dict_rc {a b : Addr} {Q : Value → Shared → Prop} (ta : s.TypeIs (.ref a) "dict") (tb : s.TypeIs (.ref b) "dict") (hu : A.units < cLine) (h : ∀ nm, wpAny (model prog w) A.in1 (Builtin.Dict.samePairs nm a b) (fun r s' => Q (.bool r) s') E s) :
    wpAny (model prog w) A (richCompare .Eq (.ref a) (.ref b)) Q E s := by
  refine wpAny_richCompare_same_room (op := .Eq) ta tb PySem.F.slot_dict_eq (wpAny_call_entry PySem.F.slot_dict_eq ta PySem.F.entry_dict_eq ?_ (PySem.F.args_dict_eq_2 _ _)) hu
  show wpAny _ _ (Builtin.Dict.dictSlotArgs "__eq__" ⟨[.ref a, .ref b], []⟩ >>= _) _ _ s
  refine wpAny_bind ?_
  unfold Builtin.Dict.dictSlotArgs
  refine wpAny_bind (wpAny_notOrdered_dict ta ?_)
  show wpAny _ _ (pure (Value.ref a, Value.ref b)) _ _ s
  refine wpAny_pure ?_
  refine wpAny_bind (wpAny_isInstance (T := "dict") tb PySem.F.sub_dict_dict ?_)
  simp only [Bool.not_true, Bool.false_eq_true, if_false]
  refine wpAny_bind (wpAny_pure (wpAny_bind (wpAny_pure ?_)))
  refine wpAny_bind (wpAny_mono (h _) (fun r s' q => ?_) fun _ _ x => x)
  exact wpAny_pure ⟨_, rfl, (fun x => nomatch x), by simpa using q⟩
theorem dict_rn {a b : Addr} {Q : Value → Shared → Prop} (ta : s.TypeIs (.ref a) "dict") (tb : s.TypeIs (.ref b) "dict") (hu : A.units < cLine) (h : ∀ nm, wpAny (model prog w) A.in1 (Builtin.Dict.samePairs nm a b) (fun r s' => Q (.bool (!r)) s') E s) :
    wpAny (model prog w) A (richCompare .NotEq (.ref a) (.ref b)) Q E s := by
  refine wpAny_richCompare_same_room (op := .NotEq) ta tb PySem.F.slot_dict_ne (wpAny_call_entry PySem.F.slot_dict_ne ta PySem.F.entry_dict_ne ?_ (PySem.F.args_dict_ne_2 _ _)) hu
  show wpAny _ _ (Builtin.Dict.dictSlotArgs "__ne__" ⟨[.ref a, .ref b], []⟩ >>= _) _ _ s
  refine wpAny_bind ?_
  unfold Builtin.Dict.dictSlotArgs
  refine wpAny_bind (wpAny_notOrdered_dict ta ?_)
  show wpAny _ _ (pure (Value.ref a, Value.ref b)) _ _ s
  refine wpAny_pure ?_
  refine wpAny_bind (wpAny_isInstance (T := "dict") tb PySem.F.sub_dict_dict ?_)
  simp only [Bool.not_true, Bool.false_eq_true, if_false]
  refine wpAny_bind (wpAny_pure (wpAny_bind (wpAny_pure ?_)))
  refine wpAny_bind (wpAny_mono (h _) (fun r s' q => ?_) fun _ _ x => x)
  refine wpAny_pure ⟨_, rfl, (fun x => nomatch x), ?_⟩
  cases r <;> simpa using q
end
end PySem.W
/-! == of data, own classes by their own __eq__ -/
namespace DL
open PySem L2
/-! the same data, class numbers aside -/
mutual
def sameD : D → D → Bool
  | .non, .non => true
  | .bl a, .bl b => a == b
  | .int a, .int b => decide (a = b)
  | .str a, .str b => decide (a = b)
  | .lst xs, .lst ys => sameDs xs ys
  | .tup xs, .tup ys => sameDs xs ys
  | .dK ks xs, .dK ls ys => decide (ks = ls) && sameDs xs ys
  | .dT ks xs, .dT ls ys => decide (ks = ls) && sameDs xs ys
  | .obj _ xs, .obj _ ys => sameDs xs ys
  | .scr _, _ => true
  | .exc _ _, _ => true
  | _, .scr _ => true
  | _, .exc _ _ => true
  | _, _ => false
def sameDs : List D → List D → Bool
  | [], [] => true
  | x :: xs, y :: ys => sameD x y && sameDs xs ys
  | _, _ => false
end
theorem zip_inj {α β : Type} : ∀ {ks : List α} {ls : List α} {vs ws : List β}, ks.length = vs.length → ls.length = ws.length → ks.zip vs = ls.zip ws → ks = ls ∧ vs = ws
  | [], [], [], [], _, _, _ => ⟨rfl, rfl⟩
  | k :: ks, l :: ls, v :: vs, w :: ws, h1, h2, e => by
    simp only [List.zip_cons_cons, List.cons.injEq, Prod.mk.injEq] at e
    obtain ⟨r1, r2⟩ := zip_inj (by simpa using h1) (by simpa using h2) e.2
    rw [e.1.1, e.1.2, r1, r2]
    exact ⟨rfl, rfl⟩
  | [], _ :: _, [], _ :: _, _, _, e => by simp at e
  | _ :: _, [], _ :: _, [], _, _, e => by simp at e
  | [], _, _ :: _, _, h, _, _ => by simp at h
  | _ :: _, _, [], _, h, _, _ => by simp at h
  | _, [], _, _ :: _, _, h, _ => by simp at h
  | _, _ :: _, _, [], _, h, _ => by simp at h
theorem zip_inj2 {α β : Type} : ∀ {ks : List α} {ls : List α} {vs ws : List β}, vs.length ≤ ks.length → ws.length ≤ ls.length → ks.zip vs = ls.zip ws → vs = ws
  | _, _, [], [], _, _, _ => rfl
  | k :: ks, l :: ls, v :: vs, w :: ws, h1, h2, e => by
    simp only [List.zip_cons_cons, List.cons.injEq, Prod.mk.injEq] at e
    have r := zip_inj2 (by simpa using h1) (by simpa using h2) e.2
    rw [e.1.2, r]
  | [], _, _ :: _, _, h, _, _ => by simp at h
  | _, [], _, _ :: _, _, h, _ => by simp at h
  | _ :: _, _ :: _, [], _ :: _, _, _, e => by simp at e
  | _ :: _, _ :: _, _ :: _, [], _, _, e => by simp at e
  | [], _ :: _, [], _ :: _, _, _, e => by simp at e
  | _ :: _, [], _ :: _, [], _, _, e => by simp at e
section
variable {P : Pm} {F H : Hp}
theorem rd_uniq {a : Addr} {u v : HO} (hu : ∀ o w, u ≠ .frz o w) (hv : ∀ o w, v ≠ .frz o w) (h1 : Rd F a u) (h2 : Rd F a v) : u = v := by
  rcases h1 with h1 | ⟨o, h1⟩ <;> rcases h2 with h2 | ⟨o', h2⟩
  · exact Option.some.inj (h1.symm.trans h2)
  · have := Option.some.inj (h1.symm.trans h2)
    exact (hu _ _ this).elim
  · have := Option.some.inj (h1.symm.trans h2)
    exact (hv _ _ this.symm).elim
  · have := Option.some.inj (h1.symm.trans h2)
    injection this
def Shp (P : Pm) (F : Hp) (d : D) (u : HO) : Prop := match d with
  | .lst xs => ∃ vs, u = .lst vs ∧ IsL P F xs vs
  | .tup xs => ∃ vs, u = .tup vs ∧ IsL P F xs vs
  | .dK ks xs => ∃ vs, u = .dK (ks.zip vs) ∧ ks.length = vs.length ∧ IsL P F xs vs
  | .dT ks xs => ∃ vs, u = .dT (ks.zip vs) ∧ ks.length = vs.length ∧ IsL P F xs vs
  | .obj c xs => ∃ dx vs, u = .ins (P.C c) dx ((P.nm c).zip vs) ∧ vs.length ≤ (P.nm c).length ∧ IsL P F xs vs
  | _ => False
def flatD : D → Option V
  | .non => some .non
  | .bl b => some (.bl b)
  | .int i => some (.int i)
  | .str s => some (.str s)
  | _ => none
def isScr : D → Bool
  | .scr _ => true
  | .exc _ _ => true
  | _ => false
theorem is_cases {d : D} {v : V} (h : Is P F d v) : (flatD d = some v) ∨ (∃ a u, v = .ref a ∧ Rd F a u ∧ (∀ o w, u ≠ .frz o w) ∧ Shp P F d u) ∨ isScr d = true := by
  cases d with
  | non => rw [Is] at h; subst h; exact .inl rfl
  | bl b => rw [Is] at h; subst h; exact .inl rfl
  | int i => rw [Is] at h; subst h; exact .inl rfl
  | str s => rw [Is] at h; subst h; exact .inl rfl
  | lst xs =>
    rw [Is] at h
    obtain ⟨a, vs, h1, h2, h3⟩ := h
    exact .inr (.inl ⟨a, .lst vs, h1, h2, (fun _ _ z => by cases z), vs, rfl, h3⟩)
  | tup xs =>
    rw [Is] at h
    obtain ⟨a, vs, h1, h2, h3⟩ := h
    exact .inr (.inl ⟨a, .tup vs, h1, .inl h2, (fun _ _ z => by cases z), vs, rfl, h3⟩)
  | dK ks xs =>
    rw [Is] at h
    obtain ⟨a, o, vs, h1, h2, h3, h4⟩ := h
    exact .inr (.inl ⟨a, .dK (ks.zip vs), h1, .inr ⟨o, h2⟩, (fun _ _ z => by cases z), vs, rfl, h3, h4⟩)
  | dT ks xs =>
    rw [Is] at h
    obtain ⟨a, o, vs, h1, h2, h3, h4⟩ := h
    exact .inr (.inl ⟨a, .dT (ks.zip vs), h1, .inr ⟨o, h2⟩, (fun _ _ z => by cases z), vs, rfl, h3, h4⟩)
  | obj c xs =>
    rw [Is] at h
    obtain ⟨a, dx, vs, h1, h2, h3, h4⟩ := h
    exact .inr (.inl ⟨a, _, h1, .inl h2, (fun _ _ z => by cases z), dx, vs, rfl, h3, h4⟩)
  | scr ns => exact .inr (.inr rfl)
  | exc _ _ => exact .inr (.inr rfl)
theorem flat_same : ∀ {d d' : D} {v : V}, flatD d = some v → flatD d' = some v → sameD d d' = true := by
  intro d d' v h h'
  cases d <;> cases h <;> cases d' <;> cases h' <;> simp [sameD]
theorem same_scr {d d' : D} (h : isScr d = true ∨ isScr d' = true) : sameD d d' = true := by
  rcases h with h | h
  · cases d <;> cases h <;> cases d' <;> simp [sameD]
  · cases d' <;> cases h <;> cases d <;> simp [sameD]
theorem flat_ref {d : D} {a : Addr} (h : flatD d = some (.ref a)) : False := by
  cases d <;> cases h
theorem nil_uniq {es : List D} {vs : List V} (h : IsL P F [] vs) (h' : IsL P F es vs) : sameDs [] es = true := by
  rw [IsL] at h
  subst h
  cases es with
  | nil => rw [sameDs]
  | cons e es =>
    rw [IsL] at h'
    obtain ⟨_, _, h, _⟩ := h'
    cases h
def kids : D → List D
  | .lst xs => xs
  | .tup xs => xs
  | .dK _ xs => xs
  | .dT _ xs => xs
  | .obj _ xs => xs
  | _ => []
theorem shp_core : ∀ (d : D) {d' : D} {u : HO}, (∀ {es : List D} {vs : List V}, IsL P F (kids d) vs → IsL P F es vs → sameDs (kids d) es = true) → Shp P F d u → Shp P F d' u → sameD d d' = true
  | .lst xs, d', u, ih, h, h' => by
    obtain ⟨vs, rfl, i⟩ := h
    cases d' with
    | lst ys =>
      obtain ⟨ws, e, j⟩ := h'
      cases e
      rw [sameD]
      exact ih i j
    | tup ys => obtain ⟨ws, e, j⟩ := h'; cases e
    | dK ls ys => obtain ⟨ws, e, j⟩ := h'; cases e
    | dT ls ys => obtain ⟨ws, e, j⟩ := h'; cases e
    | obj c ys => obtain ⟨dx, ws, e, j⟩ := h'; cases e
    | _ => exact h'.elim
  | .tup xs, d', u, ih, h, h' => by
    obtain ⟨vs, rfl, i⟩ := h
    cases d' with
    | tup ys =>
      obtain ⟨ws, e, j⟩ := h'
      cases e
      rw [sameD]
      exact ih i j
    | lst ys => obtain ⟨ws, e, j⟩ := h'; cases e
    | dK ls ys => obtain ⟨ws, e, j⟩ := h'; cases e
    | dT ls ys => obtain ⟨ws, e, j⟩ := h'; cases e
    | obj c ys => obtain ⟨dx, ws, e, j⟩ := h'; cases e
    | _ => exact h'.elim
  | .dK ks xs, d', u, ih, h, h' => by
    obtain ⟨vs, rfl, l, i⟩ := h
    cases d' with
    | dK ls ys =>
      obtain ⟨ws, e, l', j⟩ := h'
      injection e with e
      obtain ⟨e1, e2⟩ := zip_inj l l' e
      subst e1 e2
      rw [sameD, show sameDs xs ys = true from ih i j]
      simp
    | lst ys => obtain ⟨ws, e, j⟩ := h'; cases e
    | tup ys => obtain ⟨ws, e, j⟩ := h'; cases e
    | dT ls ys => obtain ⟨ws, e, j⟩ := h'; cases e
    | obj c ys => obtain ⟨dx, ws, e, j⟩ := h'; cases e
    | _ => exact h'.elim
  | .dT ks xs, d', u, ih, h, h' => by
    obtain ⟨vs, rfl, l, i⟩ := h
    cases d' with
    | dT ls ys =>
      obtain ⟨ws, e, l', j⟩ := h'
      injection e with e
      obtain ⟨e1, e2⟩ := zip_inj l l' e
      subst e1 e2
      rw [sameD, show sameDs xs ys = true from ih i j]
      simp
    | lst ys => obtain ⟨ws, e, j⟩ := h'; cases e
    | tup ys => obtain ⟨ws, e, j⟩ := h'; cases e
    | dK ls ys => obtain ⟨ws, e, j⟩ := h'; cases e
    | obj c ys => obtain ⟨dx, ws, e, j⟩ := h'; cases e
    | _ => exact h'.elim
  | .obj c xs, d', u, ih, h, h' => by
    obtain ⟨dx, vs, rfl, l, i⟩ := h
    cases d' with
    | obj c' ys =>
      obtain ⟨dx', ws, e, l', j⟩ := h'
      injection e with _ _ e
      have e2 := zip_inj2 l l' e
      subst e2
      rw [sameD]
      exact ih i j
    | lst ys => obtain ⟨ws, e, j⟩ := h'; cases e
    | tup ys => obtain ⟨ws, e, j⟩ := h'; cases e
    | dK ls ys => obtain ⟨ws, e, j⟩ := h'; cases e
    | dT ls ys => obtain ⟨ws, e, j⟩ := h'; cases e
    | _ => exact h'.elim
  | .non, _, _, _, h, _ => h.elim
  | .bl _, _, _, _, h, _ => h.elim
  | .int _, _, _, _, h, _ => h.elim
  | .str _, _, _, _, h, _ => h.elim
  | .scr _, _, _, _, h, _ => h.elim
  | .exc _ _, _, _, _, h, _ => h.elim
theorem is_core (d : D) {d' : D} {v : V} (ih : ∀ {es : List D} {vs : List V}, IsL P F (kids d) vs → IsL P F es vs → sameDs (kids d) es = true) (h : Is P F d v) (h' : Is P F d' v) : sameD d d' = true := by
    rcases is_cases h with c | c | c
    · rcases is_cases h' with c' | c' | c'
      · exact flat_same c c'
      · obtain ⟨a, u, rfl, _⟩ := c'
        exact (flat_ref c).elim
      · exact same_scr (.inr c')
    · rcases is_cases h' with c' | c' | c'
      · obtain ⟨a, u, rfl, _⟩ := c
        exact (flat_ref c').elim
      · obtain ⟨a, u, rfl, r1, n1, s1⟩ := c
        obtain ⟨a', u', e, r2, n2, s2⟩ := c'
        cases e
        have eu := rd_uniq n1 n2 r1 r2
        subst eu
        exact shp_core d ih s1 s2
      · exact same_scr (.inr c')
    · exact same_scr (.inl c)
mutual
theorem is_uniq : ∀ (d : D) {d' : D} {v : V}, Is P F d v → Is P F d' v → sameD d d' = true
  | .lst xs, _, _, h, h' => is_core (.lst xs) (fun i j => isL_uniq xs i j) h h'
  | .tup xs, _, _, h, h' => is_core (.tup xs) (fun i j => isL_uniq xs i j) h h'
  | .dK ks xs, _, _, h, h' => is_core (.dK ks xs) (fun i j => isL_uniq xs i j) h h'
  | .dT ks xs, _, _, h, h' => is_core (.dT ks xs) (fun i j => isL_uniq xs i j) h h'
  | .obj c xs, _, _, h, h' => is_core (.obj c xs) (fun i j => isL_uniq xs i j) h h'
  | .non, _, _, h, h' => is_core .non (fun i j => nil_uniq i j) h h'
  | .bl b, _, _, h, h' => is_core (.bl b) (fun i j => nil_uniq i j) h h'
  | .int b, _, _, h, h' => is_core (.int b) (fun i j => nil_uniq i j) h h'
  | .str b, _, _, h, h' => is_core (.str b) (fun i j => nil_uniq i j) h h'
  | .scr b, _, _, h, h' => is_core (.scr b) (fun i j => nil_uniq i j) h h'
  | .exc c xs, _, _, h, h' => is_core (.exc c xs) (fun i j => nil_uniq i j) h h'
theorem isL_uniq : ∀ (ds : List D) {es : List D} {vs : List V}, IsL P F ds vs → IsL P F es vs → sameDs ds es = true
  | [], es, vs, h, h' => by
    rw [IsL] at h
    subst h
    cases es with
    | nil => rw [sameDs]
    | cons e es =>
      rw [IsL] at h'
      obtain ⟨_, _, h, _⟩ := h'
      cases h
  | d :: ds, es, vs, h, h' => by
    rw [IsL] at h
    obtain ⟨v, r, rfl, h1, h2⟩ := h
    cases es with
    | nil =>
      rw [IsL] at h'
      cases h'
    | cons e es =>
      rw [IsL] at h'
      obtain ⟨v', r', h, h3, h4⟩ := h'
      cases h
      rw [sameDs, is_uniq d h1 h3, isL_uniq ds h2 h4]
      rfl
end
end
/-! ### the comparison -/
def eqOs (f : D → D → Option Bool) : List D → List (Option D) → Option Bool
  | [], _ => some true
  | _ :: _, none :: _ => some false
  | x :: xs, some y :: r => (f x y).bind fun b => if b = true then eqOs f xs r else some false
  | _ :: _, [] => none
/-- an own __eq__ -/
def ownE (GE : Nat → Option (List D → Res D)) (c : Nat) (x y : D) : Option Bool := (GE c).bind fun g => match g [x, y] with
  | .ok (.bl true) => some true
  | .ok (.bl false) => if sameD x y = true then none else some false
  | _ => none
def eqB (GE : Nat → Option (List D → Res D)) : D → D → Option Bool
  | .obj c xs, y => if isScr y = true then none else ownE GE c (.obj c xs) y
  | .int i, .obj c ys => ownE GE c (.obj c ys) (.int i)
  | x, y => eqP x y
def eqDi {κ : Type} [DecidableEq κ] (f : D → D → Option Bool) (ks : List κ) (xs : List D) (ls : List κ) (ys : List D) : Option Bool :=
  if ks.Nodup ∧ ks.length = xs.length ∧ ls.length = ys.length then (if ks.length = ls.length then eqOs f xs (ks.map (valD ls ys)) else some false) else none
def eqC (f : D → D → Option Bool) : D → D → Option Bool
  | .lst xs, .lst ys => if xs.length = ys.length then eqOs f xs (ys.map some) else some false
  | .tup xs, .tup ys => if xs.length = ys.length then eqOs f xs (ys.map some) else none
  | .dT ks xs, .dT ls ys => eqDi f ks xs ls ys
  | .dK ks xs, .dK ls ys => eqDi f ks xs ls ys
  | _, _ => none
def orE (a b : Option Bool) : Option Bool := match a with
  | some x => some x
  | none => b
def eqX (GE : Nat → Option (List D → Res D)) : Nat → D → D → Option Bool
  | 0, x, y => eqB GE x y
  | m + 1, x, y => orE (eqB GE x y) (eqC (eqX GE m) x y)
theorem eqX_s (GE : Nat → Option (List D → Res D)) (m : Nat) (x y : D) : eqX GE (m + 1) x y = orE (eqB GE x y) (eqC (eqX GE m) x y) := rfl
end DL
namespace DL
open PySem L2
mutual
theorem pd_same : ∀ (x : D) {y : D} {p q : PyData}, sameD x y = true → toPD x = some p → toPD y = some q → PyData.eqv p q = true
  | .non, y, p, q, h, h1, h2 => by
    cases y <;> first | (cases h; done) | skip
    · cases h1; cases h2; rfl
    · cases h2
    · cases h2
  | .bl b, y, p, q, h, h1, h2 => by
    cases y <;> first | (cases h; done) | skip
    · cases h1; cases h2; rw [sameD] at h; rw [PyData.eqv]; exact h
    · cases h2
    · cases h2
  | .int b, y, p, q, h, h1, h2 => by
    cases y <;> first | (cases h; done) | skip
    · cases h1; cases h2; rw [sameD] at h; rw [PyData.eqv]; simpa using h
    · cases h2
    · cases h2
  | .str b, y, p, q, h, h1, h2 => by
    cases y <;> first | (cases h; done) | skip
    · cases h1; cases h2; rw [sameD] at h; rw [PyData.eqv]; simpa using h
    · cases h2
    · cases h2
  | .lst xs, y, p, q, h, h1, h2 => by
    cases y with
    | scr _ => cases h2
    | exc _ _ => cases h2
    | lst ys =>
      rw [toPD] at h1 h2
      cases e1 : toPDs xs with
      | none => rw [e1] at h1; cases h1
      | some ps =>
        cases e2 : toPDs ys with
        | none => rw [e2] at h2; cases h2
        | some qs =>
          rw [e1] at h1
          rw [e2] at h2
          cases h1
          cases h2
          rw [sameD] at h
          rw [PyData.eqv]
          exact pds_same xs h e1 e2
    | _ => simp [sameD] at h
  | .tup xs, y, p, q, h, h1, h2 => by
    cases y with
    | scr _ => cases h2
    | exc _ _ => cases h2
    | tup ys =>
      rw [toPD] at h1 h2
      cases e1 : toPDs xs with
      | none => rw [e1] at h1; cases h1
      | some ps =>
        cases e2 : toPDs ys with
        | none => rw [e2] at h2; cases h2
        | some qs =>
          rw [e1] at h1
          rw [e2] at h2
          cases h1
          cases h2
          rw [sameD] at h
          rw [PyData.eqv]
          exact pds_same xs h e1 e2
    | _ => simp [sameD] at h
  | .dK _ _, _, _, _, _, h1, _ => by cases h1
  | .dT _ _, _, _, _, _, h1, _ => by cases h1
  | .obj _ _, _, _, _, _, h1, _ => by cases h1
  | .scr _, _, _, _, _, h1, _ => by cases h1
  | .exc _ _, _, _, _, _, h1, _ => by cases h1
theorem pds_same : ∀ (xs : List D) {ys : List D} {ps qs : List PyData}, sameDs xs ys = true → toPDs xs = some ps → toPDs ys = some qs → PyData.eqvAll ps qs = true
  | [], ys, ps, qs, h, h1, h2 => by
    cases ys with
    | nil => cases h1; cases h2; rfl
    | cons _ _ => cases h
  | x :: xs, ys, ps, qs, h, h1, h2 => by
    cases ys with
    | nil => cases h
    | cons y ys =>
      rw [sameDs, Bool.and_eq_true] at h
      rw [toPDs] at h1 h2
      cases e1 : toPD x with
      | none => rw [e1] at h1; cases h1
      | some p =>
        cases e2 : toPD y with
        | none => rw [e2] at h2; cases h2
        | some q =>
          cases e3 : toPDs xs with
          | none => rw [e1, e3] at h1; cases h1
          | some ps' =>
            cases e4 : toPDs ys with
            | none => rw [e2, e4] at h2; cases h2
            | some qs' =>
              rw [e1, e3] at h1
              rw [e2, e4] at h2
              cases h1
              cases h2
              rw [PyData.eqvAll, pd_same x h.1 e1 e2, pds_same xs h.2 e3 e4]
              rfl
end
theorem eqP_same {x y : D} {b : Bool} (h : eqP x y = some b) (hs : sameD x y = true) : b = true := by
  obtain ⟨p, q, h1, h2, h3, h4, rfl⟩ := eqP_of h
  exact pd_same x hs h1 h2
variable {GE : Nat → Option (List D → Res D)}
theorem ownE_same {c : Nat} {x y : D} {b : Bool} (h : ownE GE c x y = some b) (hs : sameD x y = true) : b = true := by
  unfold ownE at h
  cases hg : GE c with
  | none => rw [hg] at h; cases h
  | some g =>
    rw [hg, Option.bind_some] at h
    split at h
    · cases h; rfl
    · rw [if_pos hs] at h; cases h
    · cases h
theorem eqB_same {x y : D} {b : Bool} (h : eqB GE x y = some b) (hs : sameD x y = true) : b = true := by
  unfold eqB at h
  split at h
  · split at h
    · cases h
    · exact ownE_same h hs
  · simp [sameD] at hs
  · exact eqP_same h hs
theorem sameDs_len : ∀ {xs ys : List D}, sameDs xs ys = true → xs.length = ys.length
  | [], [], _ => rfl
  | [], _ :: _, h => by cases h
  | _ :: _, [], h => by cases h
  | x :: xs, y :: ys, h => by
    rw [sameDs, Bool.and_eq_true] at h
    simp [sameDs_len h.2]
theorem sameDs_get : ∀ {xs ys : List D} {i : Nat} {x y : D}, sameDs xs ys = true → xs[i]? = some x → ys[i]? = some y → sameD x y = true
  | [], _, i, x, y, _, h, _ => by simp at h
  | _ :: _, [], i, x, y, h, _, _ => by cases h
  | a :: xs, b :: ys, 0, x, y, h, h1, h2 => by
    rw [sameDs, Bool.and_eq_true] at h
    simp at h1 h2
    rw [← h1, ← h2]
    exact h.1
  | a :: xs, b :: ys, i + 1, x, y, h, h1, h2 => by
    rw [sameDs, Bool.and_eq_true] at h
    exact sameDs_get h.2 (by simpa using h1) (by simpa using h2)
theorem eqOs_same {f : D → D → Option Bool} (hf : ∀ x y b, f x y = some b → sameD x y = true → b = true) : ∀ {xs : List D} {os : List (Option D)} {b : Bool}, eqOs f xs os = some b → xs.length = os.length → (∀ (i : Nat) x o, xs[i]? = some x → os[i]? = some o → ∃ y, o = some y ∧ sameD x y = true) → b = true
  | [], _, b, h, _, _ => by cases h; rfl
  | x :: xs, [], b, h, hl, _ => by simp at hl
  | x :: xs, o :: os, b, h, hl, hs => by
    obtain ⟨y, rfl, h1⟩ := hs 0 x o rfl rfl
    rw [eqOs] at h
    cases e : f x y with
    | none => rw [e] at h; cases h
    | some k =>
      rw [e, Option.bind_some] at h
      have hk := hf x y k e h1
      rw [if_pos hk] at h
      exact eqOs_same hf h (by simpa using hl) fun i x o hx ho => hs (i + 1) x o (by simpa using hx) (by simpa using ho)
theorem valD_at {κ : Type} [DecidableEq κ] : ∀ {ks : List κ} {ys : List D} {i : Nat} {k : κ} {y : D}, ks.Nodup → ks[i]? = some k → ys[i]? = some y → valD ks ys k = some y
  | [], _, i, k, y, _, h, _ => by simp at h
  | _ :: _, [], i, k, y, _, _, h => by simp at h
  | a :: ks, b :: ys, 0, k, y, _, h1, h2 => by
    simp at h1 h2
    subst h1 h2
    simp [valD]
  | a :: ks, b :: ys, i + 1, k, y, hn, h1, h2 => by
    rw [List.nodup_cons] at hn
    have h1' : ks[i]? = some k := by simpa using h1
    have hne : ¬ a = k := fun e => hn.1 (by rw [e]; exact List.mem_of_getElem? h1')
    have ih := valD_at hn.2 h1' (show ys[i]? = some y by simpa using h2)
    unfold valD at ih ⊢
    rw [List.zip_cons_cons, List.find?_cons]
    simp only [hne, decide_false]
    exact ih
theorem eqDi_same {κ : Type} [DecidableEq κ] {f : D → D → Option Bool} (hf : ∀ x y b, f x y = some b → sameD x y = true → b = true) {ks : List κ} {xs ys : List D} {b : Bool} (h : eqDi f ks xs ks ys = some b) (hs : sameDs xs ys = true) : b = true := by
  unfold eqDi at h
  split at h
  · rename_i hc
    rw [if_pos rfl] at h
    refine eqOs_same hf h (by rw [List.length_map, hc.2.1]) fun i x o hx ho => ?_
    rw [List.getElem?_map] at ho
    cases hk : ks[i]? with
    | none => rw [hk] at ho; cases ho
    | some k =>
      rw [hk] at ho
      cases ho
      have hi : i < ys.length := by
        have := (List.getElem?_eq_some_iff.mp hk).1
        omega
      refine ⟨ys[i], valD_at hc.1 hk (List.getElem?_eq_getElem hi), sameDs_get hs hx (List.getElem?_eq_getElem hi)⟩
  · cases h
theorem eqX_same : ∀ (m : Nat) (x y : D) (b : Bool), eqX GE m x y = some b → sameD x y = true → b = true
  | 0, x, y, b, h, hs => eqB_same h hs
  | m + 1, x, y, b, h, hs => by
    have ih := eqX_same m
    rw [eqX_s] at h
    cases hb : eqB GE x y with
    | some b' =>
      rw [hb] at h
      cases h
      exact eqB_same hb hs
    | none =>
      rw [hb] at h
      replace h : eqC (eqX GE m) x y = some b := h
      unfold eqC at h
      split at h
      · rw [sameD] at hs
        rw [if_pos (sameDs_len hs)] at h
        refine eqOs_same ih h (by rw [List.length_map]; exact sameDs_len hs) fun i x o hx ho => ?_
        rw [List.getElem?_map] at ho
        rename_i ys
        cases hk : ys[i]? with
        | none => rw [hk] at ho; cases ho
        | some y =>
          rw [hk] at ho
          cases ho
          exact ⟨y, rfl, sameDs_get hs hx hk⟩
      · rw [sameD] at hs
        rw [if_pos (sameDs_len hs)] at h
        refine eqOs_same ih h (by rw [List.length_map]; exact sameDs_len hs) fun i x o hx ho => ?_
        rw [List.getElem?_map] at ho
        rename_i ys
        cases hk : ys[i]? with
        | none => rw [hk] at ho; cases ho
        | some y =>
          rw [hk] at ho
          cases ho
          exact ⟨y, rfl, sameDs_get hs hx hk⟩
      · rw [sameD, Bool.and_eq_true] at hs
        have := of_decide_eq_true hs.1
        subst this
        exact eqDi_same ih h hs.2
      · rw [sameD, Bool.and_eq_true] at hs
        have := of_decide_eq_true hs.1
        subst this
        exact eqDi_same ih h hs.2
      · cases h
end DL
namespace DL
open PySem L2
/-- what the top tells of the classes with an __eq__ -/
structure EqCs (K : PySem.W.Frag) (P : Pm) (GE : Nat → Option (List D → Res D)) : Prop where
  nf : ∀ c g d, GE c = some g → isScr d = false → PySem.W.notFirst K (P.C c) (tyD P d) = true
  isi : ∀ c, IsiC K (P.C c)
  s2 : ∀ c g, GE c = some g → PySem.W.subIn K (.ref (P.C c)) (.type "int") = some false
  ne : ∀ c g, GE c = some g → PySem.W.findIn K (.ref (P.C c)) "__ne__" = some (some (.builtin "object.__ne__"))
section
variable {X : Cx} {P : Pm} {GE : Nat → Option (List D → Res D)} {k : Nat} {σ : L2.St} {H F : Hp} {W : WX}
theorem looks_type {M : Model} {h : Heap} {y : Addr} {o : Obj} (ho : h.get? y = some o) (hex : o.ExactDict) : PySem.W.Looks M h (typeOf (.ref y)) (.type "dict") :=
  (PySem.W.Looks.ld ho).andThen (by rw [hex.1]; exact .now)
theorem ty_looksT {pins : List (Addr × Obj)} {s : Shared} {d : D} {v : V} {u : Value} (hI : ∀ c, IsiC X.K (P.C c)) (I : Inv X pins σ H s) (e : Sb P F H) (i : Is P F d v) (r : RelV v u) (hs : isScr d = false) : PySem.W.Looks (model X.prog X.w) s.heap (typeOf u) (tyD P d) := by
  by_cases hd : ∃ ks xs, d = .dT ks xs
  · obtain ⟨ks, xs, rfl⟩ := hd
    obtain ⟨a, o, vs, rfl, h1, h2, h3⟩ := un_dT i
    obtain rfl : u = Value.ref a := r
    obtain ⟨_, _, xs', _, dd⟩ := dt_rd I.hok (.inr ⟨o, e.ex _ _ h1⟩)
    obtain ⟨od, _, _, ho, hex, _⟩ := dd
    exact looks_type ho hex
  · obtain ⟨Pp, kx, hp, _⟩ := kit_of I r ((i.vw e d).ty hI (fun ns q => by subst q; cases hs) (fun ks xs q => hd ⟨ks, xs, q⟩) (fun c xs q => by subst q; cases hs))
    exact kx.ty _ _ I.kIn hp
/-- what a comparison leaves -/
abbrev EqQ (X : Cx) (P : Pm) (pins : List (Addr × Obj)) (σ : L2.St) (F H : Hp) (s' : Shared) : Prop := ∃ F' H', Inv X pins σ H' s' ∧ Grow P F H F' H'
theorem ownE_of {c : Nat} {x y : D} {b : Bool} (h : ownE GE c x y = some b) : ∃ g, GE c = some g ∧ g [x, y] = .ok (.bl b) := by
  unfold ownE at h
  cases hg : GE c with
  | none => rw [hg] at h; cases h
  | some g =>
    rw [hg, Option.bind_some] at h
    refine ⟨g, rfl, ?_⟩
    split at h
    · rename_i e; cases h; exact e
    · rename_i e
      split at h
      · cases h
      · cases h; exact e
    · cases h
/-- the call of an own __eq__ -/
theorem own_call {A : Around} {g : List D → Res D} {b : Bool} {pins : List (Addr × Obj)} {s : Shared} {x y : V} {u v : Value} {dx dy : D} {f : Addr} {fd : FuncData} {ps : List Str} (Fn : FnOk X.prog X.w X.K X.mg X.base (L2.CX X.prog X.w) k f fd ps (spD P 2 g)) (hb : Binds X.K fd ps []) (tk : Takes X W) (sb : Sub X k A) (I : Inv X pins σ H s) (rx : RelV x u) (ry : RelV y v) (e : Sb P F H) (i1 : Is P F dx x) (i2 : Is P F dy y) (hg : g [dx, dy] = .ok (.bl b)) :
    wpAny (model X.prog X.w) A (call (.ref f) [u, v]) (fun r s' => r = .bool b ∧ EqQ X P pins σ F H s') X.xe s := by
  have q : PostG P W (rIs P) (fnG 2 g [dx, dy]) F σ H (fun w H' => w = .bl b ∧ ∃ F', Grow P F H F' H') := by
    have : fnG 2 g [dx, dy] = .ok (.bl b) := by
      show (if [dx, dy].length = 2 then g [dx, dy] else Res.bad) = _
      rw [if_pos (show [dx, dy].length = 2 from rfl), hg]
    rw [this]
    exact fun w F' H' gr i => ⟨un_bl i, F', gr⟩
  refine wpAny_mono (run_at (vs := [x, y]) (ds := [dx, dy]) Fn sb hb tk I (.cons rx (.cons ry .nil)) e (.cons i1 (.cons i2 .nil)) q) (fun r s' z => ?_) fun _ _ z => z
  obtain ⟨w, H', I', rw', hw, F', gr⟩ := z
  subst hw
  exact ⟨rw', F', H', I', gr⟩
theorem cmpBack_eq {Q : Shared → Prop} {b : Bool} {r : Value} {s' : Shared} (h : r = .bool b ∧ Q s') : PySem.W.CmpBack (fun r s' => r = .bool b ∧ Q s') r s' := by
  obtain ⟨rfl, q⟩ := h
  exact ⟨rfl, q⟩
/-- richCompare .Eq by an own __eq__, or of plain data -/
theorem rcB_run (E : EqCs X.K P GE) (hG : ∀ c g, GE c = some g → OwnD X.prog X.w X.K X.mg X.base P k "__eq__" c 2 g) (tk : Takes X W) {A : Around} {pins : List (Addr × Obj)} {s : Shared} {x y : V} {u v : Value} {dx dy : D} {b : Bool} (hb : eqB GE dx dy = some b) (sb : Sub X k A) (I : Inv X pins σ H s) (rx : RelV x u) (ry : RelV y v) (e : Sb P F H) (i1 : Is P F dx x) (i2 : Is P F dy y) :
    wpAny (model X.prog X.w) A (richCompare .Eq u v) (fun r s' => r = .bool b ∧ EqQ X P pins σ F H s') X.xe s := by
  unfold eqB at hb
  split at hb
  · split at hb
    · cases hb
    · rename_i hns
      have hns : isScr dy = false := by simpa using hns
      obtain ⟨g, hg, hgb⟩ := ownE_of hb
      obtain ⟨f, fd, ps, c1, c2, c3⟩ := (hG _ g hg).ex
      obtain ⟨ad, dd, vs, rfl, h1, h2, h3⟩ := obj_of i1
      obtain rfl : u = Value.ref ad := rx
      obtain ⟨ox, od, J, _⟩ := ins_data I (e.ex _ _ h1)
      obtain ⟨mm, Fr⟩ := I.fr
      refine PySem.W.cmp_K (op := .Eq) sb.room.units0 Fr I.ok.mod.kin J (ty_looksT E.isi I e i2 ry hns) (E.nf _ g _ hg hns) c2.at_ c2.fn ?_
      exact wpAny_mono (own_call c1 c3 tk sb I (x := .ref ad) rfl ry e i1 i2 hgb) (fun _ _ z => cmpBack_eq z) fun _ _ z => z
  · obtain ⟨g, hg, hgb⟩ := ownE_of hb
    obtain ⟨f, fd, ps, c1, c2, c3⟩ := (hG _ g hg).ex
    obtain ⟨bd, dd', vs', rfl, h1', h2', h3'⟩ := obj_of i2
    obtain rfl : v = Value.ref bd := ry
    obtain rfl := un_int i1
    obtain ⟨t, rfl⟩ := rx
    obtain ⟨ox', od', J', hp⟩ := ins_data I (e.ex _ _ h1')
    obtain ⟨mm, Fr⟩ := I.fr
    refine PySem.ErrX.req_K sb.room.units0 Fr I.ok.mod.kin J' hp c2.at_ c2.fn (E.s2 _ g hg) ?_
    exact wpAny_mono (own_call c1 c3 tk sb I (x := .ref bd) (y := .int _) rfl ⟨t, rfl⟩ e i2 i1 hgb) (fun _ _ z => cmpBack_eq z) fun _ _ z => z
  · obtain ⟨p1, p2, h1, h2, h3, h4, rfl⟩ := eqP_of hb
    obtain ⟨as, r1⟩ := Dp.reads I p1 x u (i1.dp e dx h1) rx
    obtain ⟨bs, r2⟩ := Dp.reads I p2 y v (i2.dp e dy h2) ry
    exact SeqAt.compareEq_shaped r1 r2 h3 h4 sb.room.units ⟨rfl, F, H, I, .refl e⟩
/-- how == runs at this depth -/
def EqRun (X : Cx) (P : Pm) (n : Nat) (f : D → D → Option Bool) : Prop := ∀ (dx dy : D) (b : Bool), f dx dy = some b → ∀ (A : Around) (pins : List (Addr × Obj)) (s : Shared) (σ : L2.St) (F H : Hp) (x y : V) (u v : Value), L2.Sub X n A → Inv X pins σ H s → RelV x u → RelV y v → Sb P F H → Is P F dx x → Is P F dy y →
  wpAny (model X.prog X.w) A (eqBool u v) (fun r s' => r = b ∧ EqQ X P pins σ F H s') X.xe s
def RcRun (X : Cx) (P : Pm) (n : Nat) (f : D → D → Option Bool) : Prop := ∀ (dx dy : D) (b : Bool), f dx dy = some b → ∀ (A : Around) (pins : List (Addr × Obj)) (s : Shared) (σ : L2.St) (F H : Hp) (x y : V) (u v : Value), L2.Sub X n A → Inv X pins σ H s → RelV x u → RelV y v → Sb P F H → Is P F dx x → Is P F dy y →
  wpAny (model X.prog X.w) A (richCompare .Eq u v) (fun r s' => r = .bool b ∧ EqQ X P pins σ F H s') X.xe s
/-- the turns over two lists of items -/
structure LI (X : Cx) (P : Pm) (f : D → D → Option Bool) (pins : List (Addr × Obj)) (σ : L2.St) (F H : Hp) (xs : List D) (os : List (Option D)) (b : Bool) (i : Nat) (s' : Shared) : Prop where
  q : EqQ X P pins σ F H s'
  e : eqOs f (xs.drop i) (os.drop i) = some b
theorem eqOs_turn {f : D → D → Option Bool} {xs : List D} {os : List (Option D)} {b : Bool} {i : Nat} {x : D} (h : eqOs f (xs.drop i) (os.drop i) = some b) (hx : xs[i]? = some x) : (os[i]? = some none ∧ b = false) ∨ ∃ y r, os[i]? = some (some y) ∧ f x y = some r ∧ ((r = true ∧ eqOs f (xs.drop (i + 1)) (os.drop (i + 1)) = some b) ∨ (r = false ∧ b = false)) := by
  have hi := (List.getElem?_eq_some_iff.mp hx).1
  have e1 : xs.drop i = x :: xs.drop (i + 1) := by
    rw [List.drop_eq_getElem_cons hi]
    congr 1
    exact (List.getElem?_eq_some_iff.mp hx).2
  rw [e1] at h
  cases ho : os[i]? with
  | none =>
    have : os.drop i = [] := List.drop_of_length_le (List.getElem?_eq_none_iff.mp ho)
    rw [this] at h
    cases h
  | some o =>
    have hj := (List.getElem?_eq_some_iff.mp ho).1
    have e2 : os.drop i = o :: os.drop (i + 1) := by
      rw [List.drop_eq_getElem_cons hj]
      congr 1
      exact (List.getElem?_eq_some_iff.mp ho).2
    rw [e2] at h
    cases o with
    | none =>
      rw [eqOs] at h
      cases h
      exact .inl ⟨rfl, rfl⟩
    | some y =>
      rw [eqOs] at h
      cases hf : f x y with
      | none => rw [hf] at h; cases h
      | some r =>
        rw [hf, Option.bind_some] at h
        refine .inr ⟨y, r, rfl, hf, ?_⟩
        cases r with
        | true =>
          rw [if_pos rfl] at h
          exact .inl ⟨rfl, h⟩
        | false =>
          rw [if_neg (by decide)] at h
          cases h
          exact .inr ⟨rfl, rfl⟩
/-- one turn -/
theorem li_turn {n : Nat} {f : D → D → Option Bool} (hf : EqRun X P n f) {A : Around} (sb : L2.Sub X n A) {pins : List (Addr × Obj)} {xs : List D} {os : List (Option D)} {b : Bool} {i : Nat} {s' : Shared} {x y : D} {vx vy : V} {u v : Value} (l : LI X P f pins σ F H xs os b i s') (hx : xs[i]? = some x) (hy : os[i]? = some (some y)) (i1 : Is P F x vx) (i2 : Is P F y vy) (rx : RelV vx u) (ry : RelV vy v) :
    wpAny (model X.prog X.w) A (eqBool u v) (fun r s2 => (r = true ∧ LI X P f pins σ F H xs os b (i + 1) s2) ∨ (r = false ∧ b = false ∧ EqQ X P pins σ F H s2)) X.xe s' := by
  obtain ⟨F1, H1, I1, g1⟩ := l.q
  rcases eqOs_turn l.e hx with ⟨h0, _⟩ | ⟨y', r, hy', hr, hrest⟩
  · rw [hy] at h0
    cases h0
  · rw [hy] at hy'
    cases hy'
    refine wpAny_mono (hf x y r hr A pins s' σ F1 H1 vx vy u v sb I1 rx ry g1.s (i1.mono g1.f x) (i2.mono g1.f y)) (fun r' s2 z => ?_) fun _ _ z => z
    obtain ⟨rfl, F2, H2, I2, g2⟩ := z
    rcases hrest with ⟨h1, h2⟩ | ⟨h1, h2⟩
    · exact .inl ⟨h1, ⟨F2, H2, I2, g1.trans g2⟩, h2⟩
    · exact .inr ⟨h1, h2, F2, H2, I2, g1.trans g2⟩
theorem eqOs_end {f : D → D → Option Bool} {xs : List D} {os : List (Option D)} {b : Bool} (h : eqOs f (xs.drop xs.length) (os.drop xs.length) = some b) : b = true := by
  rw [List.drop_length] at h
  cases h
  rfl
theorem vals_at {vs : List V} {its : List Value} {i : Nat} {v : V} (r : Vals vs its) (hv : vs[i]? = some v) (h : i < its.toArray.size) : RelV v its.toArray[i] := by
  obtain ⟨u, hu, ru⟩ := r.get hv
  have e : its[i]? = some its.toArray[i] := by
    have h1' : i < its.length := by simpa using h
    rw [List.getElem?_eq_getElem h1'] <;> simp
  rw [e] at hu
  cases hu
  exact ru
end
end DL
namespace DL
open PySem L2
section
variable {X : Cx} {P : Pm} {k n : Nat} {σ : L2.St} {H F : Hp} {W : WX} {f : D → D → Option Bool}
theorem paired_get {α β : Type} {R : α → β → Prop} : ∀ {l : List α} {m : List β} {i : Nat} {y : β}, Paired R l m → m[i]? = some y → ∃ x, l[i]? = some x ∧ R x y
  | _, _, i, y, .nil, h => by simp at h
  | _, _, 0, y, .cons r t, h => by
    simp at h
    subst h
    exact ⟨_, rfl, r⟩
  | _, _, i + 1, y, .cons r t, h => by
    obtain ⟨x, hx, rx⟩ := paired_get t (by simpa using h)
    exact ⟨x, by simpa using hx, rx⟩
theorem zip_at {α β : Type} {ks : List α} {vs : List β} {i : Nat} {k : α} {v : β} (h : (ks.zip vs)[i]? = some (k, v)) : ks[i]? = some k ∧ vs[i]? = some v := by
  rw [List.getElem?_zip_eq_some] at h
  exact h
theorem eqBool_rc {A : Around} {s : Shared} {E : Value → Shared → Prop} {prog : Program} {w : World} {u v : Value} {b : Bool} {Q : Shared → Prop} (hne : ¬ (u == v) = true) (hf : ∀ a c, u ≠ .float a c) (h : wpAny (model prog w) A (richCompare .Eq u v) (fun r s' => r = .bool b ∧ Q s') E s) : wpAny (model prog w) A (eqBool u v) (fun r s' => r = b ∧ Q s') E s := by
  unfold eqBool
  refine wpAny_holding ?_
  refine wpAny_ite_split (fun hab => absurd hab hne) (fun _ => ?_)
  have fin : wpAny (model prog w) A (do truthOfDropped (← richCompare .Eq u v)) (fun r s' => r = b ∧ Q s') E s := by
    refine wpAny_bind (wpAny_mono h (fun r s' hv => ?_) fun _ _ x => x)
    obtain ⟨rfl, q⟩ := hv
    exact wpAny_truthy_bool ⟨rfl, q⟩
  cases u with
  | float a c => exact absurd rfl (hf a c)
  | _ => exact fin
/-- what of a comparison is not plain data -/
def refD : D → D → Bool
  | .obj _ _, _ => true
  | .int _, .obj _ _ => true
  | .lst _, _ => true
  | .tup _, _ => true
  | .dT _ _, _ => true
  | .dK _ _, _ => true
  | _, _ => false
theorem ref_ne {dx dy : D} {x y : V} {u v : Value} (hr : refD dx dy = true) (rx : RelV x u) (ry : RelV y v) (i1 : Is P F dx x) (i2 : Is P F dy y) (hid : ¬ ∃ a, x = .ref a ∧ y = .ref a) (hs2 : isScr dy = false) : (¬ (u == v) = true) ∧ ∀ a c, u ≠ .float a c := by
  have hx : (∃ a, x = .ref a) ∨ ((∃ i, x = .int i) ∧ ∃ b, y = .ref b) := by
    rcases is_cases i1 with c | ⟨a, _, h, _⟩ | c
    · cases dx with
      | int i =>
        cases dy with
        | obj c' ys =>
          obtain ⟨b, _, _, h, _⟩ := obj_of i2
          have c2 : some (V.int i) = some x := c
          exact .inr ⟨⟨i, (Option.some.inj c2).symm⟩, b, h⟩
        | _ => cases hr
      | non => cases hr
      | bl _ => cases hr
      | str _ => cases hr
      | _ => cases c
    · exact .inl ⟨a, h⟩
    · cases dx with
      | scr ns => simp [refD] at hr
      | exc _ _ => simp [refD] at hr
      | _ => cases c
  rcases hx with ⟨a, rfl⟩ | ⟨⟨i, rfl⟩, b, rfl⟩
  · obtain rfl : u = Value.ref a := rx
    refine ⟨fun h => ?_, fun _ _ h => by cases h⟩
    have h := eq_of_beq h
    subst h
    cases y with
    | ref b =>
      have : Value.ref a = Value.ref b := ry
      cases this
      exact hid ⟨a, rfl, rfl⟩
    | _ => first | (obtain ⟨t, e⟩ := ry; cases e; done) | cases ry
  · obtain ⟨t, rfl⟩ := rx
    refine ⟨fun h => ?_, fun _ _ h => by cases h⟩
    have h := eq_of_beq h
    subst h
    cases ry
theorem RcRun.eq (hR : RcRun X P n f) (hS : ∀ x y b, f x y = some b → sameD x y = true → b = true) (hp : ∀ x y b, f x y = some b → (eqP x y = some b) ∨ (refD x y = true ∧ isScr y = false)) : EqRun X P n f := by
  intro dx dy b h A pins s σ F H x y u v sb I rx ry e i1 i2
  rcases hp dx dy b h with hp | ⟨hp, hs⟩
  · obtain ⟨p1, p2, h1, h2, h3, h4, rfl⟩ := eqP_of hp
    obtain ⟨as, r1⟩ := Dp.reads I p1 x u (i1.dp e dx h1) rx
    obtain ⟨bs, r2⟩ := Dp.reads I p2 y v (i2.dp e dy h2) ry
    exact SeqAt.eqAt_reads p1 p2 A s u v as bs r1 r2 (SeqAt.canLay_of_shaped h3) (SeqAt.canLay_of_shaped h4) (SeqAt.room_of_shaped h3 sb.room.units) X.prog X.w X.xe _ ⟨rfl, F, H, I, .refl e⟩
  · by_cases hid : ∃ a, x = .ref a ∧ y = .ref a
    · obtain ⟨a, rfl, rfl⟩ := hid
      obtain rfl : u = Value.ref a := rx
      obtain rfl : v = Value.ref a := ry
      have hb := hS dx dy b h (is_uniq dx i1 i2)
      subst hb
      exact SeqAt.EqAt.same (A := A) (s := s) (.ref a) X.prog X.w X.xe _ ⟨rfl, F, H, I, .refl e⟩
    · obtain ⟨h1, h2⟩ := ref_ne hp rx ry i1 i2 hid hs
      exact eqBool_rc h1 h2 (hR dx dy b h A pins s σ F H x y u v sb I rx ry e i1 i2)
/-! ### lists, tuples -/
theorem lst_at {pins : List (Addr × Obj)} {s : Shared} {a : Addr} {vs : List V} (I : Inv X pins σ H s) (h : Rd H a (.lst vs)) : ∃ (its : List Value) (m : Nat), Vals vs its ∧ s.heap.get? a = some { cls := .type "list", data := .seq its.toArray m } := by
  obtain ⟨_, its, m, r, e⟩ := h.ok I.hok
  exact ⟨its, m, r, e⟩
theorem some_at {ys : List D} {i : Nat} {y : D} (h : ys[i]? = some y) : (ys.map some)[i]? = some (some y) := by
  rw [List.getElem?_map, h]
  rfl
theorem get_of_lt {α : Type} {l : List α} {i : Nat} (h : i < l.length) : ∃ x, l[i]? = some x := ⟨l[i], List.getElem?_eq_getElem h⟩
theorem listB_of (hf : EqRun X P n f) {A : Around} (sb : L2.Sub X (n + 1) A) {pins : List (Addr × Obj)} {a b : Addr} {xs ys : List D} {vs ws : List V} {r : Bool} (h1 : Rd F a (.lst vs)) (h2 : Rd F b (.lst ws)) (j1 : IsL P F xs vs) (j2 : IsL P F ys ws) (hl : xs.length = ys.length) :
    GQ.ListB X.prog X.w A X.xe a b xs.length (LI X P f pins σ F H xs (ys.map some) r) (fun s' => r = false ∧ EqQ X P pins σ F H s') := by
  intro i s' l
  obtain ⟨F1, H1, I1, g1⟩ := l.q
  have hv := j1.length
  have hw := j2.length
  obtain ⟨its, m, r1, e1⟩ := lst_at I1 (g1.s.rd (g1.f.rd h1))
  obtain ⟨its2, m2, r2, e2⟩ := lst_at I1 (g1.s.rd (g1.f.rd h2))
  have z1 := r1.length
  have z2 := r2.length
  refine ⟨its.toArray, its2.toArray, m, m2, e1, e2, by rw [List.size_toArray]; omega, by rw [List.size_toArray]; omega, fun h3 h4 => ?_⟩
  rw [List.size_toArray] at h3 h4
  obtain ⟨x, hx⟩ := get_of_lt (l := xs) (i := i) (by omega)
  obtain ⟨y, hy⟩ := get_of_lt (l := ys) (i := i) (by omega)
  obtain ⟨vx, hvx, ix⟩ := j1.get hx
  obtain ⟨vy, hvy, iy⟩ := j2.get hy
  refine wpAny_mono (li_turn hf sb.in1 l hx (some_at hy) ix iy (vals_at r1 hvx (by rw [List.size_toArray]; exact h3)) (vals_at r2 hvy (by rw [List.size_toArray]; exact h4))) (fun r' s2 z => ?_) fun _ _ z => z
  rcases z with z | ⟨q1, q2, q3⟩
  · exact .inl z
  · obtain ⟨F2, H2, I2, g2⟩ := id q3
    obtain ⟨its', m', r1', e1'⟩ := lst_at I2 (g2.s.rd (g2.f.rd h1))
    obtain ⟨its2', m2', r2', e2'⟩ := lst_at I2 (g2.s.rd (g2.f.rd h2))
    have y1 := r1'.length
    have y2 := r2'.length
    exact .inr ⟨q1, ⟨q2, q3⟩, its'.toArray, its2'.toArray, m', m2', e1', e2', by rw [List.size_toArray]; omega, by rw [List.size_toArray]; omega⟩
theorem rc_lst (hf : EqRun X P n f) {A : Around} (sb : L2.Sub X (n + 1) A) {pins : List (Addr × Obj)} {s : Shared} {xs ys : List D} {x y : V} {u v : Value} {r : Bool} (h : eqC f (.lst xs) (.lst ys) = some r) (I : Inv X pins σ H s) (rx : RelV x u) (ry : RelV y v) (e : Sb P F H) (i1 : Is P F (.lst xs) x) (i2 : Is P F (.lst ys) y) :
    wpAny (model X.prog X.w) A (richCompare .Eq u v) (fun q s' => q = .bool r ∧ EqQ X P pins σ F H s') X.xe s := by
  obtain ⟨a, vs, rfl, h1, j1⟩ := un_lst i1
  obtain ⟨b, ws, rfl, h2, j2⟩ := un_lst i2
  obtain rfl : u = Value.ref a := rx
  obtain rfl : v = Value.ref b := ry
  replace h : (if xs.length = ys.length then eqOs f xs (ys.map some) else some false) = some r := h
  by_cases hl : xs.length = ys.length
  · rw [if_pos hl] at h
    refine GQ.rc_listB sb.room.units0 _ _ (listB_of (pins := pins) (H := H) (r := r) hf sb h1 h2 j1 j2 hl) (fun s' l => ?_) (fun s' q => ⟨by rw [q.1], q.2⟩) ⟨⟨F, H, I, .refl e⟩, h⟩
    have := eqOs_end l.e
    subst this
    exact ⟨rfl, l.q⟩
  · rw [if_neg hl] at h
    cases h
    obtain ⟨its, m, r1, e1⟩ := lst_at I (e.rd h1)
    obtain ⟨its2, m2, r2, e2⟩ := lst_at I (e.rd h2)
    have z1 := r1.length
    have z2 := r2.length
    have hv := j1.length
    have hw := j2.length
    exact SeqAt.RcAt.lists_lengths (items := its.toArray) (items2 := its2.toArray) ⟨_, e1, rfl, m, rfl⟩ ⟨_, e2, rfl, m2, rfl⟩ (by simp; omega) sb.room.units0 X.prog X.w X.xe _ ⟨rfl, F, H, I, .refl e⟩
theorem un_tup1 {xs : List D} {v : V} (h : Is P F (.tup xs) v) : ∃ a vs, v = .ref a ∧ F a = some (.tup vs) ∧ IsL P F xs vs := by
  rw [Is] at h
  exact h
theorem rc_tup (hf : EqRun X P n f) {A : Around} (sb : L2.Sub X (n + 1) A) {pins : List (Addr × Obj)} {s : Shared} {xs ys : List D} {x y : V} {u v : Value} {r : Bool} (h : eqC f (.tup xs) (.tup ys) = some r) (I : Inv X pins σ H s) (rx : RelV x u) (ry : RelV y v) (e : Sb P F H) (i1 : Is P F (.tup xs) x) (i2 : Is P F (.tup ys) y) :
    wpAny (model X.prog X.w) A (richCompare .Eq u v) (fun q s' => q = .bool r ∧ EqQ X P pins σ F H s') X.xe s := by
  obtain ⟨a, vs, rfl, h1, j1⟩ := un_tup1 i1
  obtain ⟨b, ws, rfl, h2, j2⟩ := un_tup1 i2
  obtain rfl : u = Value.ref a := rx
  obtain rfl : v = Value.ref b := ry
  replace h : (if xs.length = ys.length then eqOs f xs (ys.map some) else none) = some r := h
  by_cases hl : xs.length = ys.length
  · rw [if_pos hl] at h
    obtain ⟨its, r1, e1, _⟩ := I.tuple (.inl (.inl (e.ex _ _ h1)))
    obtain ⟨its2, r2, e2, _⟩ := I.tuple (.inl (.inl (e.ex _ _ h2)))
    have z1 := r1.length
    have z2 := r2.length
    have hv := j1.length
    have hw := j2.length
    refine GQ.rc_tupB (items := its.toArray) (items2 := its2.toArray) (by rw [List.size_toArray, List.size_toArray]; omega) sb.room.units0 (LI X P f pins σ F H xs (ys.map some) r) (fun s' => r = false ∧ EqQ X P pins σ F H s') e1 e2 (fun i h3 h4 s' l => ?_) (fun s' l => ?_) (fun s' q => ⟨by rw [q.1], q.2⟩) ⟨⟨F, H, I, .refl e⟩, h⟩
    · rw [List.size_toArray] at h3 h4
      obtain ⟨x, hx⟩ := get_of_lt (l := xs) (i := i) (by omega)
      obtain ⟨y, hy⟩ := get_of_lt (l := ys) (i := i) (by omega)
      obtain ⟨vx, hvx, ix⟩ := j1.get hx
      obtain ⟨vy, hvy, iy⟩ := j2.get hy
      exact li_turn hf sb.in1 l hx (some_at hy) ix iy (vals_at r1 hvx (by rw [List.size_toArray]; exact h3)) (vals_at r2 hvy (by rw [List.size_toArray]; exact h4))
    · have l' := l.e
      rw [List.size_toArray, show its.length = xs.length by omega] at l'
      have := eqOs_end l'
      subst this
      exact ⟨rfl, l.q⟩
  · rw [if_neg hl] at h
    cases h
end
end DL
namespace DL
open PySem L2
section
variable {X : Cx} {P : Pm} {k n : Nat} {σ : L2.St} {H F : Hp} {W : WX} {f : D → D → Option Bool}
theorem relO_none {v : Option Value} (h : RelO none v) : v = none := by
  cases v with
  | none => rfl
  | some _ => exact h.elim
theorem relO_some {x : V} {v : Option Value} (h : RelO (some x) v) : ∃ u, v = some u ∧ RelV x u := by
  cases v with
  | none => exact h.elim
  | some u => exact ⟨u, rfl, h⟩
theorem get_map_some {κ : Type} {g : κ → Option D} {ks : List κ} {i : Nat} {k : κ} (h : ks[i]? = some k) : (ks.map g)[i]? = some (g k) := by
  rw [List.getElem?_map, h]
  rfl
/-- the turn at the i-th key -/
theorem di_turn {κ : Type} [DecidableEq κ] (hf : EqRun X P n f) {A : Around} (sb : L2.Sub X n A) {pins : List (Addr × Obj)} {ks ls : List κ} {xs ys : List D} {vs ws : List V} {r : Bool} {i : Nat} {s' : Shared} {q : κ} {vx : V} {u : Value} {o : Option Value}
    (l : LI X P f pins σ F H xs (ks.map (valD ls ys)) r i s') (j1 : IsL P F xs vs) (j2 : IsL P F ys ws) (hq : ks[i]? = some q) (hv : vs[i]? = some vx) (rx : RelV vx u) (ro : RelO (valV (ls.zip ws) q) o) :
    (o = none ∧ r = false ∧ EqQ X P pins σ F H s') ∨ ∃ v, o = some v ∧ wpAny (model X.prog X.w) A (eqBool u v) (fun r' s2 => (r' = true ∧ LI X P f pins σ F H xs (ks.map (valD ls ys)) r (i + 1) s2) ∨ (r' = false ∧ r = false ∧ EqQ X P pins σ F H s2)) X.xe s' := by
  obtain ⟨x, hx, ix⟩ := j1.get' hv
  have ho := get_map_some (g := valD ls ys) hq
  obtain ⟨w1, w2⟩ := valD_is (P := P) (F := F) (k := q) (ks := ls) (xs := ys) (vs := ws) j2
  cases hval : valD ls ys q with
  | none =>
    rw [hval] at ho
    rcases eqOs_turn l.e hx with ⟨_, hr⟩ | ⟨y, _, hy, _⟩
    · rw [w2 hval] at ro
      exact .inl ⟨relO_none ro, hr, l.q⟩
    · rw [ho] at hy
      cases hy
  | some y =>
    rw [hval] at ho
    obtain ⟨vy, hvy, iy⟩ := w1 y hval
    rw [hvy] at ro
    obtain ⟨v, rfl, ry⟩ := relO_some ro
    exact .inr ⟨v, rfl, li_turn hf sb l hx ho ix iy rx ry⟩
theorem frz_get {pins : List (Addr × Obj)} {s : Shared} {a : Addr} {o : Obj} {w : HO} (I : Inv X pins σ H s) (h : H a = some (.frz o w)) : s.heap.get? a = some o := (I.hok a _ h).1
/-- dicts with tuples as keys -/
theorem pairs_dT (hf : EqRun X P n f) {A : Around} (sb : L2.Sub X n A) {pins : List (Addr × Obj)} {s : Shared} {ks ls : List (List Key)} {xs ys : List D} {a b : Addr} {oa ob : Obj} {vs ws : List V} {r : Bool} (h : eqDi f ks xs ls ys = some r) (I : Inv X pins σ H s) (e : Sb P F H)
    (h1 : F a = some (.frz oa (.dT (ks.zip vs)))) (l1 : ks.length = vs.length) (j1 : IsL P F xs vs) (h2 : F b = some (.frz ob (.dT (ls.zip ws)))) (l2 : ls.length = ws.length) (j2 : IsL P F ys ws) (nm : String) :
    wpAny (model X.prog X.w) A (Builtin.Dict.samePairs nm a b) (fun q s' => q = r ∧ EqQ X P pins σ F H s') X.xe s := by
  obtain ⟨z1, m1, xa, ka, da⟩ := dt_rd I.hok (.inr ⟨oa, e.ex _ _ h1⟩)
  obtain ⟨z2, m2, xb, kb, db⟩ := dt_rd I.hok (.inr ⟨ob, e.ex _ _ h2⟩)
  have y1 := j1.length
  have y2 := j2.length
  have la := Paired.length ka
  have lb := Paired.length kb
  rw [List.length_zip] at la lb
  unfold eqDi at h
  split at h
  case isFalse => cases h
  rename_i hc
  by_cases hl : ks.length = ls.length
  · rw [if_pos hl] at h
    have stays : ∀ {F1 H1 : Hp}, Grow P F H F1 H1 → ∀ {kvs : List (List Key × V)} {xs : List (List Key × Addr × Value)}, KT H kvs xs → ∀ {s' : Shared}, Inv X pins σ H1 s' → ∀ x ∈ xs, (tupleKind (mixKind X.prog X.w)).is s'.heap x.1 x.2.1 := by
      intro F1 H1 g kvs xs kt s' I' x hx
      obtain ⟨i, hi⟩ := List.mem_iff_getElem?.mp hx
      obtain ⟨p, _, e1, e2, _⟩ := paired_get kt hi
      have := g.h.dat e2
      rw [e1] at this
      exact key_of I'.hok this
    refine PySem.W.samePairsH (knd := tupleKind (mixKind X.prog X.w)) (I := LI X P f pins σ F H xs (ks.map (valD ls ys)) r) (J := fun s' => r = false ∧ EqQ X P pins σ F H s') sb.room.units0 m1 m2 da db ⟨fun i s' l => ?_, fun i q p v s' l hi => ?_⟩ (by omega) (fun s' l => ?_) (fun s' q => ⟨q.1.symm, q.2⟩) ⟨⟨F, H, I, .refl e⟩, h⟩
    · obtain ⟨F1, H1, I1, g1⟩ := l.q
      have q1 := frz_get I1 (g1.s.ex _ _ (g1.f _ _ h1))
      have q2 := frz_get I1 (g1.s.ex _ _ (g1.f _ _ h2))
      refine ⟨by rw [q1, frz_get I (e.ex _ _ h1)], by rw [q2, frz_get I (e.ex _ _ h2)], stays g1 ka I1, stays g1 kb I1⟩
    · obtain ⟨pp, hpp, e1, e2, e3⟩ := paired_get ka hi
      obtain ⟨g1, g2⟩ := zip_at (k := pp.1) (v := pp.2) hpp
      have e1 : pp.1 = q := e1
      rw [e1] at g1
      rcases di_turn (o := (atKey xb q).map (·.2)) hf sb l j1 j2 g1 g2 e3 (kb.val q) with ⟨o1, o2, o3⟩ | ⟨y, o1, o2⟩
      · left
        refine ⟨?_, o2, o3⟩
        cases hk : atKey xb q with
        | none => rfl
        | some _ => rw [hk] at o1; cases o1
      · right
        cases hk : atKey xb q with
        | none => rw [hk] at o1; cases o1
        | some p' =>
          rw [hk] at o1
          cases o1
          exact ⟨p'.1, p'.2, rfl, o2⟩
    · have l' := l.e
      rw [show xa.length = xs.length by omega] at l'
      have := eqOs_end l'
      exact ⟨this.symm, l.q⟩
  · rw [if_neg hl] at h
    cases h
    obtain ⟨o1, es1, ep1, q1, _, q2, q3, _⟩ := da
    obtain ⟨o2, es2, ep2, q1', _, q2', q3', _⟩ := db
    refine PySem.W.samePairsN m1 m2 q1 q2 q1' q2' ?_ ⟨rfl, F, H, I, .refl e⟩
    rw [← Array.length_toList, ← Array.length_toList, q3, q3', List.length_map, List.length_map]
    omega
theorem rc_dT (hf : EqRun X P n f) {A : Around} (sb : L2.Sub X (n + 1) A) {pins : List (Addr × Obj)} {s : Shared} {ks ls : List (List Key)} {xs ys : List D} {x y : V} {u v : Value} {r : Bool} (h : eqC f (.dT ks xs) (.dT ls ys) = some r) (I : Inv X pins σ H s) (rx : RelV x u) (ry : RelV y v) (e : Sb P F H) (i1 : Is P F (.dT ks xs) x) (i2 : Is P F (.dT ls ys) y) :
    wpAny (model X.prog X.w) A (richCompare .Eq u v) (fun q s' => q = .bool r ∧ EqQ X P pins σ F H s') X.xe s := by
  obtain ⟨a, oa, vs, rfl, h1, l1, j1⟩ := un_dT i1
  obtain ⟨b, ob, ws, rfl, h2, l2, j2⟩ := un_dT i2
  obtain rfl : u = Value.ref a := rx
  obtain rfl : v = Value.ref b := ry
  obtain ⟨_, _, _, _, da⟩ := dt_rd I.hok (.inr ⟨oa, e.ex _ _ h1⟩)
  obtain ⟨_, _, _, _, db⟩ := dt_rd I.hok (.inr ⟨ob, e.ex _ _ h2⟩)
  refine PySem.W.dict_rc da.typeIs db.typeIs sb.room.units0 fun nm => ?_
  exact wpAny_mono (pairs_dT hf sb.in1 h I e h1 l1 j1 h2 l2 j2 nm) (fun q s' z => ⟨by rw [z.1], z.2⟩) fun _ _ z => z
end
end DL
namespace DL
open PySem L2
section
variable {X : Cx} {P : Pm} {k n : Nat} {σ : L2.St} {H F : Hp} {W : WX} {f : D → D → Option Bool} {GE : Nat → Option (List D → Res D)}
theorem pairs_dK (hf : EqRun X P n f) {A : Around} (sb : L2.Sub X n A) {pins : List (Addr × Obj)} {s : Shared} {ks ls : List Key} {xs ys : List D} {a b : Addr} {oa ob : Obj} {vs ws : List V} {r : Bool} (h : eqDi f ks xs ls ys = some r) (I : Inv X pins σ H s) (e : Sb P F H)
    (h1 : F a = some (.frz oa (.dK (ks.zip vs)))) (l1 : ks.length = vs.length) (j1 : IsL P F xs vs) (h2 : F b = some (.frz ob (.dK (ls.zip ws)))) (l2 : ls.length = ws.length) (j2 : IsL P F ys ws) (nm : String) :
    wpAny (model X.prog X.w) A (Builtin.Dict.samePairs nm a b) (fun q s' => q = r ∧ EqQ X P pins σ F H s') X.xe s := by
  obtain ⟨z1, m1, xa, ka, da⟩ := dk_rd I.hok (.inr ⟨oa, e.ex _ _ h1⟩)
  obtain ⟨z2, m2, xb, kb, db⟩ := dk_rd I.hok (.inr ⟨ob, e.ex _ _ h2⟩)
  have y1 := j1.length
  have y2 := j2.length
  have la := Paired.length ka
  have lb := Paired.length kb
  rw [List.length_zip] at la lb
  unfold eqDi at h
  split at h
  case isFalse => cases h
  rename_i hc
  by_cases hl : ks.length = ls.length
  · rw [if_pos hl] at h
    refine PySem.W.samePairsB (I := LI X P f pins σ F H xs (ks.map (valD ls ys)) r) (J := fun s' => r = false ∧ EqQ X P pins σ F H s') m1 m2 da db ⟨fun i s' l => ?_, fun i q v s' l hi => ?_⟩ (by omega) (fun s' l => ?_) (fun s' q => ⟨q.1.symm, q.2⟩) ⟨⟨F, H, I, .refl e⟩, h⟩
    · obtain ⟨F1, H1, I1, g1⟩ := l.q
      have q1 := frz_get I1 (g1.s.ex _ _ (g1.f _ _ h1))
      have q2 := frz_get I1 (g1.s.ex _ _ (g1.f _ _ h2))
      exact ⟨by rw [q1, frz_get I (e.ex _ _ h1)], by rw [q2, frz_get I (e.ex _ _ h2)]⟩
    · obtain ⟨pp, hpp, e1, e3⟩ := paired_get ka hi
      obtain ⟨g1, g2⟩ := zip_at (k := pp.1) (v := pp.2) hpp
      have e1 : pp.1 = q := e1
      rw [e1] at g1
      exact di_turn hf sb l j1 j2 g1 g2 e3 (KV.val kb q)
    · have l' := l.e
      rw [show xa.length = xs.length by omega] at l'
      have := eqOs_end l'
      exact ⟨this.symm, l.q⟩
  · rw [if_neg hl] at h
    cases h
    obtain ⟨o1, es1, ep1, q1, _, q2, _, q3, _⟩ := da
    obtain ⟨o2, es2, ep2, q1', _, q2', _, q3', _⟩ := db
    refine PySem.W.samePairsN m1 m2 q1 q2 q1' q2' ?_ ⟨rfl, F, H, I, .refl e⟩
    have a1 := q3.length
    have a2 := q3'.length
    rw [Array.length_toList] at a1 a2
    omega
theorem dk_ty {s : Shared} {a : Addr} {vs : List (Key × Value)} (h : s.heap.DictOf (mixKind X.prog X.w) a vs) : s.TypeIs (.ref a) "dict" := h.typeIs
theorem rc_dK (hf : EqRun X P n f) {A : Around} (sb : L2.Sub X (n + 1) A) {pins : List (Addr × Obj)} {s : Shared} {ks ls : List Key} {xs ys : List D} {x y : V} {u v : Value} {r : Bool} (h : eqC f (.dK ks xs) (.dK ls ys) = some r) (I : Inv X pins σ H s) (rx : RelV x u) (ry : RelV y v) (e : Sb P F H) (i1 : Is P F (.dK ks xs) x) (i2 : Is P F (.dK ls ys) y) :
    wpAny (model X.prog X.w) A (richCompare .Eq u v) (fun q s' => q = .bool r ∧ EqQ X P pins σ F H s') X.xe s := by
  obtain ⟨a, oa, vs, rfl, h1, l1, j1⟩ := un_dK i1
  obtain ⟨b, ob, ws, rfl, h2, l2, j2⟩ := un_dK i2
  obtain rfl : u = Value.ref a := rx
  obtain rfl : v = Value.ref b := ry
  obtain ⟨_, _, _, _, da⟩ := dk_rd I.hok (.inr ⟨oa, e.ex _ _ h1⟩)
  obtain ⟨_, _, _, _, db⟩ := dk_rd I.hok (.inr ⟨ob, e.ex _ _ h2⟩)
  refine PySem.W.dict_rc da.typeIs db.typeIs sb.room.units0 fun nm => ?_
  exact wpAny_mono (pairs_dK hf sb.in1 h I e h1 l1 j1 h2 l2 j2 nm) (fun q s' z => ⟨by rw [z.1], z.2⟩) fun _ _ z => z
/-- the same of !=, lists -/
theorem rn_lst (hf : EqRun X P n f) {A : Around} (sb : L2.Sub X (n + 1) A) {pins : List (Addr × Obj)} {s : Shared} {xs ys : List D} {x y : V} {u v : Value} {r : Bool} (h : eqC f (.lst xs) (.lst ys) = some r) (I : Inv X pins σ H s) (rx : RelV x u) (ry : RelV y v) (e : Sb P F H) (i1 : Is P F (.lst xs) x) (i2 : Is P F (.lst ys) y) :
    wpAny (model X.prog X.w) A (richCompare .NotEq u v) (fun q s' => q = .bool (!r) ∧ EqQ X P pins σ F H s') X.xe s := by
  obtain ⟨a, vs, rfl, h1, j1⟩ := un_lst i1
  obtain ⟨b, ws, rfl, h2, j2⟩ := un_lst i2
  obtain rfl : u = Value.ref a := rx
  obtain rfl : v = Value.ref b := ry
  replace h : (if xs.length = ys.length then eqOs f xs (ys.map some) else some false) = some r := h
  by_cases hl : xs.length = ys.length
  · rw [if_pos hl] at h
    refine GQ.rn_listB sb.room.units0 _ _ (listB_of (pins := pins) (H := H) (r := r) hf sb h1 h2 j1 j2 hl) (fun s' l => ?_) (fun s' q => ⟨by rw [q.1]; rfl, q.2⟩) ⟨⟨F, H, I, .refl e⟩, h⟩
    have := eqOs_end l.e
    subst this
    exact ⟨rfl, l.q⟩
  · rw [if_neg hl] at h
    cases h
    obtain ⟨its, m, r1, e1⟩ := lst_at I (e.rd h1)
    obtain ⟨its2, m2, r2, e2⟩ := lst_at I (e.rd h2)
    have z1 := r1.length
    have z2 := r2.length
    have hv := j1.length
    have hw := j2.length
    exact SeqAt.RcNeAt.lists_lengths (items := its.toArray) (items2 := its2.toArray) ⟨_, e1, rfl, m, rfl⟩ ⟨_, e2, rfl, m2, rfl⟩ (by simp; omega) sb.room.units0 X.prog X.w X.xe _ ⟨rfl, F, H, I, .refl e⟩
theorem rn_tup (hf : EqRun X P n f) {A : Around} (sb : L2.Sub X (n + 1) A) {pins : List (Addr × Obj)} {s : Shared} {xs ys : List D} {x y : V} {u v : Value} {r : Bool} (h : eqC f (.tup xs) (.tup ys) = some r) (I : Inv X pins σ H s) (rx : RelV x u) (ry : RelV y v) (e : Sb P F H) (i1 : Is P F (.tup xs) x) (i2 : Is P F (.tup ys) y) :
    wpAny (model X.prog X.w) A (richCompare .NotEq u v) (fun q s' => q = .bool (!r) ∧ EqQ X P pins σ F H s') X.xe s := by
  obtain ⟨a, vs, rfl, h1, j1⟩ := un_tup1 i1
  obtain ⟨b, ws, rfl, h2, j2⟩ := un_tup1 i2
  obtain rfl : u = Value.ref a := rx
  obtain rfl : v = Value.ref b := ry
  replace h : (if xs.length = ys.length then eqOs f xs (ys.map some) else none) = some r := h
  by_cases hl : xs.length = ys.length
  · rw [if_pos hl] at h
    obtain ⟨its, r1, e1, _⟩ := I.tuple (.inl (.inl (e.ex _ _ h1)))
    obtain ⟨its2, r2, e2, _⟩ := I.tuple (.inl (.inl (e.ex _ _ h2)))
    have z1 := r1.length
    have z2 := r2.length
    have hv := j1.length
    have hw := j2.length
    refine GQ.rn_tupB (items := its.toArray) (items2 := its2.toArray) (by rw [List.size_toArray, List.size_toArray]; omega) sb.room.units0 (LI X P f pins σ F H xs (ys.map some) r) (fun s' => r = false ∧ EqQ X P pins σ F H s') e1 e2 (fun i h3 h4 s' l => ?_) (fun s' l => ?_) (fun s' q => ⟨by rw [q.1]; rfl, q.2⟩) ⟨⟨F, H, I, .refl e⟩, h⟩
    · rw [List.size_toArray] at h3 h4
      obtain ⟨x, hx⟩ := get_of_lt (l := xs) (i := i) (by omega)
      obtain ⟨y, hy⟩ := get_of_lt (l := ys) (i := i) (by omega)
      obtain ⟨vx, hvx, ix⟩ := j1.get hx
      obtain ⟨vy, hvy, iy⟩ := j2.get hy
      exact li_turn hf sb.in1 l hx (some_at hy) ix iy (vals_at r1 hvx (by rw [List.size_toArray]; exact h3)) (vals_at r2 hvy (by rw [List.size_toArray]; exact h4))
    · have l' := l.e
      rw [List.size_toArray, show its.length = xs.length by omega] at l'
      have := eqOs_end l'
      subst this
      exact ⟨rfl, l.q⟩
  · rw [if_neg hl] at h
    cases h
theorem rn_dT (hf : EqRun X P n f) {A : Around} (sb : L2.Sub X (n + 1) A) {pins : List (Addr × Obj)} {s : Shared} {ks ls : List (List Key)} {xs ys : List D} {x y : V} {u v : Value} {r : Bool} (h : eqC f (.dT ks xs) (.dT ls ys) = some r) (I : Inv X pins σ H s) (rx : RelV x u) (ry : RelV y v) (e : Sb P F H) (i1 : Is P F (.dT ks xs) x) (i2 : Is P F (.dT ls ys) y) :
    wpAny (model X.prog X.w) A (richCompare .NotEq u v) (fun q s' => q = .bool (!r) ∧ EqQ X P pins σ F H s') X.xe s := by
  obtain ⟨a, oa, vs, rfl, h1, l1, j1⟩ := un_dT i1
  obtain ⟨b, ob, ws, rfl, h2, l2, j2⟩ := un_dT i2
  obtain rfl : u = Value.ref a := rx
  obtain rfl : v = Value.ref b := ry
  obtain ⟨_, _, _, _, da⟩ := dt_rd I.hok (.inr ⟨oa, e.ex _ _ h1⟩)
  obtain ⟨_, _, _, _, db⟩ := dt_rd I.hok (.inr ⟨ob, e.ex _ _ h2⟩)
  refine PySem.W.dict_rn da.typeIs db.typeIs sb.room.units0 fun nm => ?_
  exact wpAny_mono (pairs_dT hf sb.in1 h I e h1 l1 j1 h2 l2 j2 nm) (fun q s' z => ⟨by rw [z.1], z.2⟩) fun _ _ z => z
theorem rn_dK (hf : EqRun X P n f) {A : Around} (sb : L2.Sub X (n + 1) A) {pins : List (Addr × Obj)} {s : Shared} {ks ls : List Key} {xs ys : List D} {x y : V} {u v : Value} {r : Bool} (h : eqC f (.dK ks xs) (.dK ls ys) = some r) (I : Inv X pins σ H s) (rx : RelV x u) (ry : RelV y v) (e : Sb P F H) (i1 : Is P F (.dK ks xs) x) (i2 : Is P F (.dK ls ys) y) :
    wpAny (model X.prog X.w) A (richCompare .NotEq u v) (fun q s' => q = .bool (!r) ∧ EqQ X P pins σ F H s') X.xe s := by
  obtain ⟨a, oa, vs, rfl, h1, l1, j1⟩ := un_dK i1
  obtain ⟨b, ob, ws, rfl, h2, l2, j2⟩ := un_dK i2
  obtain rfl : u = Value.ref a := rx
  obtain rfl : v = Value.ref b := ry
  obtain ⟨_, _, _, _, da⟩ := dk_rd I.hok (.inr ⟨oa, e.ex _ _ h1⟩)
  obtain ⟨_, _, _, _, db⟩ := dk_rd I.hok (.inr ⟨ob, e.ex _ _ h2⟩)
  refine PySem.W.dict_rn da.typeIs db.typeIs sb.room.units0 fun nm => ?_
  exact wpAny_mono (pairs_dK hf sb.in1 h I e h1 l1 j1 h2 l2 j2 nm) (fun q s' z => ⟨by rw [z.1], z.2⟩) fun _ _ z => z
/-! ### all together -/
theorem rcC_run (hf : EqRun X P n f) : RcRun X P (n + 1) (eqC f) := by
  intro dx dy b h A pins s σ F H x y u v sb I rx ry e i1 i2
  match dx, dy, h, i1, i2 with
  | .lst xs, .lst ys, h, i1, i2 => exact rc_lst hf sb h I rx ry e i1 i2
  | .tup xs, .tup ys, h, i1, i2 => exact rc_tup hf sb h I rx ry e i1 i2
  | .dT ks xs, .dT ls ys, h, i1, i2 => exact rc_dT hf sb h I rx ry e i1 i2
  | .dK ks xs, .dK ls ys, h, i1, i2 => exact rc_dK hf sb h I rx ry e i1 i2
theorem rnC_run (hf : EqRun X P n f) {dx dy : D} {b : Bool} (h : eqC f dx dy = some b) {A : Around} {pins : List (Addr × Obj)} {s : Shared} {x y : V} {u v : Value} (sb : L2.Sub X (n + 1) A) (I : Inv X pins σ H s) (rx : RelV x u) (ry : RelV y v) (e : Sb P F H) (i1 : Is P F dx x) (i2 : Is P F dy y) :
    wpAny (model X.prog X.w) A (richCompare .NotEq u v) (fun q s' => q = .bool (!b) ∧ EqQ X P pins σ F H s') X.xe s := by
  match dx, dy, h, i1, i2 with
  | .lst xs, .lst ys, h, i1, i2 => exact rn_lst hf sb h I rx ry e i1 i2
  | .tup xs, .tup ys, h, i1, i2 => exact rn_tup hf sb h I rx ry e i1 i2
  | .dT ks xs, .dT ls ys, h, i1, i2 => exact rn_dT hf sb h I rx ry e i1 i2
  | .dK ks xs, .dK ls ys, h, i1, i2 => exact rn_dK hf sb h I rx ry e i1 i2
theorem eqB_ref {x y : D} {b : Bool} (h : eqB GE x y = some b) : (eqP x y = some b) ∨ (refD x y = true ∧ isScr y = false) := by
  unfold eqB at h
  split at h
  · split at h
    · cases h
    · rename_i hs
      exact .inr ⟨rfl, by simpa using hs⟩
  · exact .inr ⟨rfl, rfl⟩
  · exact .inl h
theorem eqC_ref {x y : D} {b : Bool} (h : eqC f x y = some b) : refD x y = true ∧ isScr y = false := by
  unfold eqC at h
  split at h <;> first | exact ⟨rfl, rfl⟩ | cases h
theorem eqX_or {m : Nat} {x y : D} {b : Bool} (h : eqX GE (m + 1) x y = some b) : eqB GE x y = some b ∨ eqC (eqX GE m) x y = some b := by
  rw [eqX_s] at h
  cases hb : eqB GE x y with
  | some b' =>
    rw [hb] at h
    exact .inl h
  | none =>
    rw [hb] at h
    exact .inr h
theorem rcX_run (E : EqCs X.K P GE) (hG : ∀ c g, GE c = some g → OwnD X.prog X.w X.K X.mg X.base P k "__eq__" c 2 g) (tk : Takes X W) : ∀ m : Nat, RcRun X P (m + k) (eqX GE m)
  | 0, dx, dy, b, h, A, pins, s, σ, F, H, x, y, u, v, sb, I, rx, ry, e, i1, i2 => rcB_run E hG tk h (by rw [Nat.zero_add] at sb; exact sb) I rx ry e i1 i2
  | m + 1, dx, dy, b, h, A, pins, s, σ, F, H, x, y, u, v, sb, I, rx, ry, e, i1, i2 => by
    rcases eqX_or h with h | h
    · exact rcB_run E hG tk h (sb.mono (by omega)) I rx ry e i1 i2
    · have ih : EqRun X P (m + k) (eqX GE m) := (rcX_run E hG tk m).eq (eqX_same m) fun x y b h => by
        cases m with
        | zero => exact eqB_ref h
        | succ m =>
          rcases eqX_or h with h | h
          · exact eqB_ref h
          · exact .inr (eqC_ref h)
      exact rcC_run ih dx dy b h A pins s σ F H x y u v (by rw [show m + 1 + k = m + k + 1 by omega] at sb; exact sb) I rx ry e i1 i2
theorem eqX_run (E : EqCs X.K P GE) (hG : ∀ c g, GE c = some g → OwnD X.prog X.w X.K X.mg X.base P k "__eq__" c 2 g) (tk : Takes X W) (m : Nat) : EqRun X P (m + k) (eqX GE m) := (rcX_run E hG tk m).eq (eqX_same m) fun x y b h => by
  cases m with
  | zero => exact eqB_ref h
  | succ m =>
    rcases eqX_or h with h | h
    · exact eqB_ref h
    · exact .inr (eqC_ref h)
/-! ### the rules -/
def eqXR (GE : Nat → Option (List D → Res D)) (m : Nat) (x y : D) : Res D := (opt (eqX GE m x y)) >>= fun b => .ok (.bl b)
def neXR (GE : Nat → Option (List D → Res D)) (m : Nat) (x y : D) : Res D := (opt (eqX GE m x y)) >>= fun b => .ok (.bl (!b))
theorem xr_of {m : Nat} {x y : D} {g : Bool → Bool} {Q : VK} (h : PostG P W (rIs P) ((opt (eqX GE m x y)) >>= fun b => .ok (.bl (g b))) F σ H Q) : ∃ b, eqX GE m x y = some b ∧ ∀ F' H', Grow P F H F' H' → Q (.bl (g b)) H' := by
  cases hb : eqX GE m x y with
  | none =>
    rw [hb] at h
    exact h.elim
  | some b =>
    rw [hb] at h
    exact ⟨b, rfl, fun F' H' gr => h _ F' H' gr is_bl⟩
variable {F0 : Fz} {H0 : Hp} {a b : Expr} {fa fb : Env → Res D}
theorem pc_eqX (m : Nat) (E : EqCs X.K P GE) (hG : ∀ c g, GE c = some g → OwnD X.prog X.w X.K X.mg X.base P k "__eq__" c 2 g) (hr : Room (m + k) X.A) (tk : Takes X W) (ha : PE X a (tE P F0 H0 W fa)) (hb : PE X b (tE P F0 H0 W fb)) : PC X .Eq a b (tE P F0 H0 W (fN (eqXR GE m) fa fb)) := by
  refine ⟨fun pins s σ H Q I h => binT ha hb I (two_ofE h) fun v u s2 x y H2 I2 rx ry ⟨F, dx, dy, e, i1, i2, q⟩ => ?_⟩
  obtain ⟨r, hr', q⟩ := xr_of q
  refine wpAny_mono (rcX_run E hG tk m dx dy r hr' X.A pins s2 σ F H2 x y v u (sub_here hr) I2 rx ry e i1 i2) (fun w s' z => ?_) fun _ _ z => z
  obtain ⟨rfl, F', H', I', g'⟩ := z
  exact ⟨.bl r, H', I', rfl, q F' H' g'⟩
/-- != by an own __eq__, or of plain data -/
theorem rnB_run (E : EqCs X.K P GE) (hG : ∀ c g, GE c = some g → OwnD X.prog X.w X.K X.mg X.base P k "__eq__" c 2 g) (tk : Takes X W) {A : Around} {pins : List (Addr × Obj)} {s : Shared} {x y : V} {u v : Value} {dx dy : D} {b : Bool} (hb : eqB GE dx dy = some b) (sb : L2.Sub X (k + 1) A) (I : Inv X pins σ H s) (rx : RelV x u) (ry : RelV y v) (e : Sb P F H) (i1 : Is P F dx x) (i2 : Is P F dy y) :
    wpAny (model X.prog X.w) A (richCompare .NotEq u v) (fun r s' => r = .bool (!b) ∧ EqQ X P pins σ F H s') X.xe s := by
  unfold eqB at hb
  split at hb
  · split at hb
    · cases hb
    · rename_i hns
      have hns : isScr dy = false := by simpa using hns
      obtain ⟨g, hg, hgb⟩ := ownE_of hb
      obtain ⟨f, fd, ps, c1, c2, c3⟩ := (hG _ g hg).ex
      obtain ⟨ad, dd, vs, rfl, h1, h2, h3⟩ := obj_of i1
      obtain rfl : u = Value.ref ad := rx
      obtain ⟨ox, od, J, _⟩ := ins_data I (e.ex _ _ h1)
      obtain ⟨mm, Fr⟩ := I.fr
      refine PySem.ErrX.ne_K sb.room.units0 sb.in1.room.units0 Fr I.ok.mod.kin J (ty_looksT E.isi I e i2 ry hns) (E.nf _ g _ hg hns) c2.at_ c2.fn (E.ne _ g hg) (E.isi _).hm ?_
      refine wpAny_mono (own_call c1 c3 tk sb.in1 I (x := .ref ad) rfl ry e i1 i2 hgb) (fun r s' z => ?_) fun _ _ z => z
      obtain ⟨rfl, q⟩ := z
      exact ⟨b, rfl, rfl, q⟩
  · obtain ⟨g, hg, hgb⟩ := ownE_of hb
    obtain ⟨f, fd, ps, c1, c2, c3⟩ := (hG _ g hg).ex
    obtain ⟨bd, dd', vs', rfl, h1', h2', h3'⟩ := obj_of i2
    obtain rfl : v = Value.ref bd := ry
    obtain rfl := un_int i1
    obtain ⟨t, rfl⟩ := rx
    obtain ⟨ox', od', J', hp⟩ := ins_data I (e.ex _ _ h1')
    obtain ⟨mm, Fr⟩ := I.fr
    refine PySem.ErrX.rne_K sb.room.units0 sb.in1.room.units0 Fr I.ok.mod.kin J' hp c2.at_ c2.fn (E.ne _ g hg) (E.isi _).hm (E.s2 _ g hg) ?_
    refine wpAny_mono (own_call c1 c3 tk sb.in1 I (x := .ref bd) (y := .int _) rfl ⟨t, rfl⟩ e i2 i1 hgb) (fun r s' z => ?_) fun _ _ z => z
    obtain ⟨rfl, q⟩ := z
    exact ⟨b, rfl, rfl, q⟩
  · obtain ⟨p1, p2, h1, h2, h3, h4, rfl⟩ := eqP_of hb
    obtain ⟨as, r1⟩ := Dp.reads I p1 x u (i1.dp e dx h1) rx
    obtain ⟨bs, r2⟩ := Dp.reads I p2 y v (i2.dp e dy h2) ry
    exact SeqAt.compareNe_shaped r1 r2 h3 h4 sb.room.units ⟨rfl, F, H, I, .refl e⟩
theorem pc_neX (m : Nat) (E : EqCs X.K P GE) (hG : ∀ c g, GE c = some g → OwnD X.prog X.w X.K X.mg X.base P k "__eq__" c 2 g) (hr : Room (m + k + 1) X.A) (tk : Takes X W) (ha : PE X a (tE P F0 H0 W fa)) (hb : PE X b (tE P F0 H0 W fb)) : PC X .NotEq a b (tE P F0 H0 W (fN (neXR GE m) fa fb)) := by
  refine ⟨fun pins s σ H Q I h => binT ha hb I (two_ofE h) fun v u s2 x y H2 I2 rx ry ⟨F, dx, dy, e, i1, i2, q⟩ => ?_⟩
  obtain ⟨r, hr', q⟩ := xr_of q
  have z : wpAny (model X.prog X.w) X.A (richCompare .NotEq v u) (fun q s' => q = .bool (!r) ∧ EqQ X P pins σ F H2 s') X.xe s2 := by
    cases m with
    | zero => exact rnB_run E hG tk hr' ((sub_here hr).mono (by omega)) I2 rx ry e i1 i2
    | succ m =>
      rcases eqX_or hr' with h1 | h1
      · exact rnB_run E hG tk h1 ((sub_here hr).mono (by omega)) I2 rx ry e i1 i2
      · exact rnC_run (eqX_run E hG tk m) h1 ((sub_here hr).mono (by omega)) I2 rx ry e i1 i2
  refine wpAny_mono z (fun w s' z => ?_) fun _ _ z => z
  obtain ⟨rfl, F', H', I', g'⟩ := z
  exact ⟨.bl (!r), H', I', rfl, q F' H' g'⟩
end
end DL
namespace L2
open PySem PySem.Spec PyProof.Rows
open AutoSeq1 (wpAny_loadPart')
/-! ### t * 0, t * 1 -/
theorem tuple_mul1 (l : Addr) (items : Array Value) (n : Nat) (dd : Option Addr) (sl : Array (Option Value)) (u : Tok) :
    Meets (Builtin.«tuple.__mul__» ⟨[.ref l, .int 1 u], []⟩) (fun _ R s => s.heap.get? l = some { cls := .type "tuple", dict := dd, data := .seq items n, slots := sl } ∧ R (.ok (.ret (Value.ref l))) s) :=
  .of_wp fun prog w A R s h => by
    obtain ⟨hp, g, d, tk, os⟩ := s
    obtain ⟨hl, h⟩ := h
    have f1 := AutoSeq1.idx_int
    have c0 : (items.isEmpty || (1 : Int) == 1) = true := by simp
    wp_walk using wpAny_loadPart' hl
    exact ⟨_, rfl, h⟩
theorem tuple_mul0 (l : Addr) (items : Array Value) (n : Nat) (dd : Option Addr) (sl : Array (Option Value)) (u : Tok) (hne : items.isEmpty = false) :
    Meets (Builtin.«tuple.__mul__» ⟨[.ref l, .int 0 u], []⟩) (fun _ R s => s.heap.get? l = some { cls := .type "tuple", dict := dd, data := .seq items n, slots := sl } ∧ R (.ok (.ret (Value.ref s.heap.objs.size))) { s with heap := s.heap.push { cls := Value.type "tuple", data := Data.seq #[] }, toks := s.toks }) :=
  .of_wp fun prog w A R s h => by
    obtain ⟨hp, g, d, tk, os⟩ := s
    obtain ⟨hl, h⟩ := h
    have f1 := AutoSeq1.idx_int
    have c0 : (items.isEmpty || (0 : Int) == 1) = false := by simp [hne]
    wp_walk using wpAny_loadPart' hl
    exact ⟨_, rfl, h⟩
variable {X : Cx}
theorem op_repT1 : OpR X (binaryOp .Mult) (fun x y H Q => ∃ l xs, x = .ref l ∧ y = .int 1 ∧ SqT X.K H l xs ∧ Q (.ref l) H) := by
  intro pins s σ H x y v u Q I rx ry h
  obtain ⟨l, xs, rfl, rfl, hT, q⟩ := h
  cases rx
  obtain ⟨t, rfl⟩ := ry
  obtain ⟨its, r, ⟨⟨cls, dd, data, sl⟩, ho, hc, n, hd⟩, hs⟩ := I.tuple hT
  simp only at hc hd
  subst hc hd
  refine wpAny_binaryOp_repeat_ref (T := "tuple") (U := "int") (by decide) ⟨_, ho, rfl⟩ (fun s' => typeIs_int s' 1 t) noFill_tuple_mul F.fills_int_mul F.slot_int_rmul repeat_tuple F.slot_int_index.lookup
    (call_meets F.slot_int_rmul (typeIs_int s 1 t) F.entry_int_rmul (F.args_int_rmul_2 _ _) (int_rmul_tuple 1 t l its.toArray n dd sl)
      ⟨ho, rfl, ⟨_, ho, rfl⟩, call_meets F.slot_tuple_mul ⟨_, ho, rfl⟩ F.entry_tuple_mul (F.args_tuple_mul_2 _ _) (tuple_mul1 l its.toArray n dd sl t) ⟨ho, ?_⟩⟩)
  exact ⟨.ref l, H, I, rfl, q⟩
theorem op_repT0 : OpR X (binaryOp .Mult) (fun x y H Q => ∃ l xs, x = .ref l ∧ y = .int 0 ∧ SqT X.K H l xs ∧ xs ≠ [] ∧ ∀ p, H p = none → Q (.ref p) (upd H p (.tup []))) := by
  intro pins s σ H x y v u Q I rx ry h
  obtain ⟨l, xs, rfl, rfl, hT, hne, q⟩ := h
  cases rx
  obtain ⟨t, rfl⟩ := ry
  obtain ⟨its, r, ⟨⟨cls, dd, data, sl⟩, ho, hc, n, hd⟩, hs⟩ := I.tuple hT
  simp only at hc hd
  subst hc hd
  have hle : its.length = xs.length := r.length.symm
  have hi : its.toArray.isEmpty = false := by
    cases its with
    | nil => exact absurd (List.eq_nil_of_length_eq_zero hle.symm) hne
    | cons a b => rfl
  refine wpAny_binaryOp_repeat_ref (T := "tuple") (U := "int") (by decide) ⟨_, ho, rfl⟩ (fun s' => typeIs_int s' 0 t) noFill_tuple_mul F.fills_int_mul F.slot_int_rmul repeat_tuple F.slot_int_index.lookup
    (call_meets F.slot_int_rmul (typeIs_int s 0 t) F.entry_int_rmul (F.args_int_rmul_2 _ _) (int_rmul_tuple 0 t l its.toArray n dd sl)
      ⟨ho, rfl, ⟨_, ho, rfl⟩, call_meets F.slot_tuple_mul ⟨_, ho, rfl⟩ F.entry_tuple_mul (F.args_tuple_mul_2 _ _) (tuple_mul0 l its.toArray n dd sl t hi) ⟨ho, ?_⟩⟩)
  refine ⟨.ref s.heap.objs.size, _, I.laid (t' := s.toks) (o := .tup []) (fun b ob q => Heap.get?_push_of_some _ q) (Nat.le_refl _) ?_, rfl, q _ (I.hok.fresh (Nat.le_refl _))⟩
  exact ⟨Nat.zero_le _, [], .nil, IsTup.new _ _⟩
end L2
namespace DL
open PySem L2
section
variable {X : Cx} {P : Pm} {F H : Hp}
def repT : D → D → Option D
  | .tup xs, .int k => if xs ≠ [] ∧ 0 ≤ k ∧ k ≤ 1000 ∧ xs.length ≤ 1000 then some (.tup (List.replicate k.toNat xs).flatten) else none
  | _, _ => none
theorem io_repT : OpR X (binaryOp .Mult) (r2O P repT) := fun pins s σ H x y u v Q I rx ry h => by
  obtain ⟨F, dx, dy, d, e, i1, i2, hd, q⟩ := h
  unfold repT at hd
  split at hd
  · rename_i xs k
    split at hd
    · rename_i hk
      cases hd
      obtain ⟨l, vs, rfl, h0, h1, h2⟩ := i1
      cases (show y = .int k from i2)
      have hl := h2.length
      have hne : vs ≠ [] := fun z => by
        rw [z] at hl
        exact hk.1 (List.eq_nil_of_length_eq_zero hl)
      by_cases k0 : k = 0
      · subst k0
        refine op_repT0 pins s σ H _ _ u v Q I rx ry ⟨l, vs, rfl, rfl, .inl h1, hne, fun p hp => ?_⟩
        exact q _ (upd F p (.tup [])) _ (.new e hp) (by rw [Is]; exact ⟨p, [], rfl, upd_same, .nil⟩)
      · by_cases k1 : k = 1
        · subst k1
          refine op_repT1 pins s σ H _ _ u v Q I rx ry ⟨l, vs, rfl, rfl, .inl h1, ?_⟩
          exact q.here e (by
            rw [Is]
            refine ⟨l, vs, rfl, h0, ?_⟩
            simpa using h2)
        · refine op_repT pins s σ H _ _ u v Q I rx ry ⟨l, k, vs, rfl, rfl, .inl h1, hne, by omega, hk.2.2.1, by omega, fun p hp => ?_⟩
          exact Out.tup q e (isL_rep h2 k.toNat) p hp
    · cases hd
  · cases hd
/-! ### dict(d) -/
/-- the hash of a tuple of integers -/
def hashT (k : List Key) : Int := reduceHash (Builtin.Tuple.tupleHashOf ((k.map kI).map hashInt))
def okCopy (ks : List (List Key)) : Bool := ks.all (fun k => k.all isInl) && decide (ks.map hashT).Nodup
theorem hash_eq {prog : Program} {w : World} {k : List Key} (h : k.all isInl = true) : (tupleKind (mixKind prog w)).hash k = hashT k := by
  show reduceHash (Builtin.Tuple.tupleHashOf (k.map (keyH w))) = reduceHash (Builtin.Tuple.tupleHashOf ((k.map kI).map hashInt))
  rw [List.map_map]
  congr 2
  apply List.map_congr_left
  intro x hx
  have := List.all_eq_true.mp h x hx
  cases x with
  | inl i => rfl
  | inr _ => cases this
theorem call_copyT (hu : X.A.units + 8 < cLine) : CallR X (.type "dict") (fun xs H Q => ∃ (a : Addr) (kvs : List (List Key × V)), xs = [.ref a] ∧ Rd H a (.dT kvs) ∧ okCopy (kvs.map (·.1)) = true ∧ ∀ p, H p = none → Q (.ref p) (upd H p (.dT kvs))) := by
  intro pins s σ H xs us Q I r ⟨a, kvs, ex, hq, hc, q⟩
  subst ex
  obtain ⟨u, eu, rx⟩ := r.one
  subst eu
  cases rx
  obtain ⟨z, hoS, xs, kt, ho⟩ := dt_rd I.hok hq
  unfold okCopy at hc
  rw [Bool.and_eq_true] at hc
  have hkeys : xs.map (·.1) = kvs.map (·.1) := by
    have : ∀ {l : List (List Key × V)} {m : List (List Key × Addr × Value)}, KT H l m → m.map (·.1) = l.map (·.1) := by
      intro l m q
      induction q with
      | nil => rfl
      | cons h t ih => rw [List.map_cons, List.map_cons, ih, h.1]
    exact this kt
  have hap : (xs.map fun x => (tupleKind (mixKind X.prog X.w)).hash x.1).Nodup := by
    have e : (xs.map fun x => (tupleKind (mixKind X.prog X.w)).hash x.1) = (kvs.map (·.1)).map hashT := by
      rw [← hkeys, List.map_map]
      apply List.map_congr_left
      intro x hx
      exact hash_eq (List.all_eq_true.mp hc.1 x.1 (by rw [← hkeys]; exact List.mem_map.mpr ⟨x, hx, rfl⟩))
    rw [e]
    exact of_decide_eq_true hc.2
  have hln : kvs.length = xs.length := Paired.length kt
  have keyAt : ∀ x ∈ xs, (tupleKind (mixKind X.prog X.w)).is s.heap x.1 x.2.1 := let ⟨_, _, _, _, _, _, _, his, _⟩ := ho; his
  refine callType_codes (Q₁ := fun obj s₁ => obj = .ref s.heap.objs.size ∧ s₁ = { s with heap := s.heap.push { cls := .type "dict", data := .dict #[] } }) F.kt_called_dict (F.kt_typeCall_dict_1 _) F.entry_dict_init (kt_code_dict_new _ ⟨rfl, rfl⟩) ?_
  rintro obj s₁ ⟨rfl, rfl⟩
  have hnew : (s.heap.push { cls := .type "dict", data := .dict #[] }).DictOfH (tupleKind (mixKind X.prog X.w)) s.heap.objs.size [] := Heap.DictOfH.new s.heap
  have stay : ∀ x ∈ xs, (tupleKind (mixKind X.prog X.w)).is (s.heap.push { cls := .type "dict", data := .dict #[] }) x.1 x.2.1 := fun x hx => tupleKind_stays.stays (fun b o vs n e _ => Heap.get?_push_of_some _ e) (keyAt x hx)
  have ho' : (s.heap.push { cls := .type "dict", data := .dict #[] }).DictOfH (tupleKind (mixKind X.prog X.w)) a xs := by
    obtain ⟨o, es, ep, h1, h2, h3, h4, h5, h6⟩ := ho
    exact ⟨o, es, ep, Heap.get?_push_of_some _ h1, h2, h3, h4, stay, h6⟩
  have hdo : s.heap.objs.size ≠ a := by
    obtain ⟨_, _, _, hg, _⟩ := ho
    exact fun e => absurd (Heap.lt_size hg) (by rw [e]; exact Nat.lt_irrefl _)
  refine ⟨hnew.typeIs, F.args_dict_init_2 _ _, ?_⟩
  unfold Builtin.«dict.__init__»
  refine wpAny_bind ?_
  unfold Builtin.Dict.selfAndRest
  refine wpAny_bind (wpAny_notOrdered_dict hnew.typeIs ?_)
  show wpAny _ _ (pure (s.heap.objs.size, [Value.ref a])) _ _ _
  refine wpAny_pure ?_
  show wpAny _ _ (Builtin.Dict.updateFrom "dict.__init__" s.heap.objs.size (.ref a) [] .none) _ _ _
  refine updateFrom_dictH (knd := tupleKind (mixKind X.prog X.w)) .none ?_ hdo hoS hnew ho' (.inr ⟨fun x hx => ?_, hap⟩) (by rw [List.length_nil, Nat.zero_add, ← hln]; exact z) fun h' hd' _ hs => ?_
  · show X.A.units + 1 + 1 < cLine
    omega
  · exact tupleKind_stays.tuple (stay x hx)
  · have hn : (xs.map (·.1)).Nodup := Heap.DictOfH.nodup ho
    rw [storedAllH_nil_of_nodup xs hn] at hd'
    have hm : (s.heap.objs.size == sysModules) = false := beq_eq_false_iff_ne.mpr (Nat.ne_of_gt I.big)
    have nS : H s.heap.objs.size = none := I.hok.fresh (Nat.le_refl _)
    obtain ⟨o, es, ep, d1, d2, d3, d4, d5, d6⟩ := hd'
    refine ⟨rfl, .ref s.heap.objs.size, upd H s.heap.objs.size (.dT kvs), I.laid (t' := s.toks) (fun b o e => ?_) (Nat.le_refl _) (show ObjOk X.prog X.w _ _ _ (.dT _) from ⟨z, hm, _, kt.keeps fun b ys e => ?_, o, es, ep, d1, d2, d3, d4, d6⟩), rfl, q _ nS⟩
    · rw [hs.2 b (Nat.ne_of_lt (Heap.lt_size e))]
      exact Heap.get?_push_of_some _ e
    · rw [upd_ne (ne_of_none e nS)]
      exact e
end
end DL
namespace DL
open PySem L2
/-! ### defs whose result is new and the caller's own -/
def spDN (P : Pm) (n : Nat) (G : List D → Res D) : Sp := fun vs H Q E => ∃ F ds, Sb P F H ∧ IsL P F ds vs ∧ ds.length = n ∧ PostG P (WE0 E) (rNw P H) (G ds) F [] H Q
def runO (g : Env → RS) (n : Nat) (ds : List D) : Res D := match g (env0 n ds) with
  | .ro d => .ok d
  | .err c p _ => .err c p
  | _ => .bad
section
variable {prog : Program} {w : World} {K : PySem.W.Frag} {mg : Str → Option Value} {base : Heap} {P : Pm}
theorem fndN {x qual : Str} {st : Stmt} {f : Addr} {fd : FuncData} {N ps : List Str} {k : Nat} {g : Env → RS} (Fu : Fun K x qual st f fd) (S : FnScope N ps (defScope st))
    (hbody : ∀ (cdv : Value) (A : Around) (outer : List PySem.Env) (s : Shared) (H F0 : Hp) (E : XK), Room k (A.deeper (PyProof.Rows.envOfC qual (defScope st) s.heap.objs.size f cdv)) →
      PSs (cxOf (L2.CX prog w) prog w K mg base N qual (defScope st) f cdv A outer s H E) (defBody st) (tS P ⟨F0, none⟩ H (WE0 E) g)) :
    FnOk prog w K mg base (L2.CX prog w) (k + 1) f fd ps (spDN P ps.length (runO g N.length)) := by
  refine Fu.okX S (fun vs H Q E ⟨F, ds, _, i, hl, _⟩ => by rw [← i.length]; exact hl) (fun cdv A outer s H vs Q E hr h => ?_)
  obtain ⟨F, ds, sx, i, hl, z⟩ := h
  refine ⟨_, hbody cdv A outer s H F E hr, F, env0 N.length ds, er_start sx i, ?_⟩
  unfold runO at z
  cases hg : g (env0 N.length ds) with
  | ro d =>
    rw [hg] at z
    exact fun a F' H' gr _ h1 h2 h3 => z (.ref a) F' H' gr ⟨a, rfl, h1, h2, h3⟩
  | err c p ρ =>
    rw [hg] at z
    exact fun σ F' H' y er _ q => z F' H' y er.g q
  | _ =>
    rw [hg] at z
    exact z.elim
end
structure CalN (prog : Program) (w : World) (K : PySem.W.Frag) (mg : Str → Option Value) (base : Heap) (P : Pm) (k : Nat) (x : Str) (n : Nat) (G : List D → Res D) : Prop where
  ex : ∃ f fd ps, FnOk prog w K mg base (L2.CX prog w) k f fd ps (spDN P n G) ∧ mg x = some (.ref f) ∧ PySem.W.keepIn K (.ref f) = true ∧ Binds K fd ps []
section
variable {prog : Program} {w : World} {K : PySem.W.Frag} {mg : Str → Option Value} {base : Heap} {P : Pm}
theorem calN {x y qual : Str} {st : Stmt} {f : Addr} {fd : FuncData} {N ps : List Str} {k : Nat} {g : Env → RS} (Fu : Fun K x qual st f fd) (S : FnScope N ps (defScope st)) (hm : mg y = some (.ref f)) (hb : Binds K fd ps [])
    (hbody : ∀ (cdv : Value) (A : Around) (outer : List PySem.Env) (s : Shared) (H F0 : Hp) (E : XK), Room k (A.deeper (PyProof.Rows.envOfC qual (defScope st) s.heap.objs.size f cdv)) →
      PSs (cxOf (L2.CX prog w) prog w K mg base N qual (defScope st) f cdv A outer s H E) (defBody st) (tS P ⟨F0, none⟩ H (WE0 E) g)) :
    CalN prog w K mg base P (k + 1) y ps.length (runO g N.length) := ⟨f, fd, ps, fndN Fu S hbody, hm, Fu.kp, hb⟩
end
section
variable {X : Cx} {P : Pm} {F0 : Fz} {H0 : Hp} {W : WX} {e : Expr} {es : List Expr} {fs : Env → Res (List D)} {pos p : Pos} {k n : Nat} {x : Str} {G : List D → Res D}
/-- f(e, ..), the result one's own -/
theorem nd_cal (c : CalN X.prog X.w X.K X.mg X.base P k x n G) (hr : Room k X.A) (tk : Takes X W) (ha : PA X (e :: es) (tL P F0 H0 W fs)) (hg : Gl X x := by rfl) (hdb : (x == ("__debug__" : Str)) = false := by decide) (he : starEach (e :: es) X.env = (false, eval e X.env) :: starEach es X.env := by rfl) (hpl : (backTo pos (starEach es X.env)).any (·.1) = false := by rfl) :
    PE X (.Call (.Name x p) (e :: es) [] pos) (tN P F0 H0 W (fun ρ => do let xs ← fs ρ; fnG n G xs)) := by
  obtain ⟨f, fd, ps, Fn, hm, hk, hb⟩ := c.ex
  refine (pe_callSD (E := WE W) Fn hr hg hm hk hb .nil (fun σ => passAt tk σ) ha hdb he hpl).imp fun σ H Q ⟨F, ρ, er, z⟩ => ?_
  refine ⟨F, ρ, er, (PostG.bind (rel := rLs P) z).imp ?_⟩
  rintro vs H1 ⟨F1, ds, g, i, q⟩
  rw [List.append_nil]
  unfold fnG at q
  split at q
  · rename_i hl
    refine ⟨F1, ds, g.s, i, hl, ?_⟩
    cases hG : G ds with
    | ok d =>
      rw [hG] at q
      rintro v F' H' g' ⟨p, rfl, h1, h2, h3⟩
      exact q (.ref p) F' H' g' ⟨p, rfl, g.h.backN h1, h2, h3⟩
    | err c pp =>
      rw [hG] at q
      exact q
    | bad =>
      rw [hG] at q
      exact q.elim
  · exact q.elim
/-! ### one rule of two -/
theorem pd_alt {f g h : Env → Res D} (hf : PE X e (tE P F0 H0 W f)) (hg : PE X e (tE P F0 H0 W g)) (hh : ∀ ρ, h ρ = f ρ ∨ h ρ = g ρ) : PE X e (tE P F0 H0 W h) := ⟨fun pins s σ H Q I ⟨F, ρ, er, z⟩ => by
  rcases hh ρ with e | e
  · rw [e] at z
    exact hf.run pins s σ H Q I ⟨F, ρ, er, z⟩
  · rw [e] at z
    exact hg.run pins s σ H Q I ⟨F, ρ, er, z⟩⟩
theorem nd_alt {f g h : Env → Res D} (hf : PE X e (tN P F0 H0 W f)) (hg : PE X e (tN P F0 H0 W g)) (hh : ∀ ρ, h ρ = f ρ ∨ h ρ = g ρ) : PE X e (tN P F0 H0 W h) := ⟨fun pins s σ H Q I ⟨F, ρ, er, z⟩ => by
  rcases hh ρ with e | e
  · rw [e] at z
    exact hf.run pins s σ H Q I ⟨F, ρ, er, z⟩
  · rw [e] at z
    exact hg.run pins s σ H Q I ⟨F, ρ, er, z⟩⟩
/-! ### dict(d) -/
variable {fa fb fc : Env → Res D}
def cCopy : D → Option D
  | .dK ks xs => some (.dK ks xs)
  | .dT ks xs => if okCopy ks = true then some (.dT ks xs) else none
  | _ => none
theorem nd_copyD (hu : X.A.units + 8 < cLine) (hm : X.mg "dict" = none) (ha : PE X e (tV P F0 H0 W fa)) (hg : Gl X "dict" := by rfl)
    (he : starEach [e] X.env = (false, eval e X.env) :: starEach [] X.env := by rfl) (hpl : (backTo pos (starEach [] X.env)).any (·.1) = false := by rfl) :
    PE X (.Call (.Name "dict" p) [e] [] pos) (tN P F0 H0 W (fun ρ => do let x ← fa ρ; opt (cCopy x))) := by
  have hT := pe_callTy (p := p) (call_copyT hu) hg hm (by decide +kernel) (pa_cons ha pa_nil he) (by decide) (by decide) he hpl
  have hK := pe_callTy (p := p) (call_dictD (X := X)) hg hm (by decide +kernel) (pa_cons ha pa_nil he) (by decide) (by decide) he hpl
  refine ⟨fun pins s σ H Q I ⟨F, ρ, er, z⟩ => ?_⟩
  cases hf : fa ρ with
  | bad =>
    replace z : PostG P W (rNw P H) (fa ρ >>= fun x => opt (cCopy x)) F σ H Q := z
    rw [hf] at z
    exact z.elim
  | err c pp =>
    refine hK.run pins s σ H Q I ⟨F, ρ, er, ?_⟩
    replace z : PostG P W (rNw P H) (fa ρ >>= fun x => opt (cCopy x)) F σ H Q := z
    rw [hf] at z
    rw [hf]
    exact z
  | ok d =>
    replace z : PostG P W (rNw P H) (fa ρ >>= fun x => opt (cCopy x)) F σ H Q := z
    rw [hf] at z
    replace z : PostG P W (rNw P H) (opt (cCopy d)) F σ H Q := z
    cases d with
    | dK ks xs =>
      refine hK.run pins s σ H Q I ⟨F, ρ, er, ?_⟩
      rw [hf]
      rintro v F1 H1 g ⟨a, vs, rfl, h1, h2, h3⟩
      refine ⟨a, _, rfl, h1, fun p hp => ?_⟩
      exact z _ F1 _ (g.trans (.junk g.s (.new hp))) ⟨p, rfl, g.h.back hp, g.s.back hp, vs, upd_same, h2, h3⟩
    | dT ks xs =>
      refine hT.run pins s σ H Q I ⟨F, ρ, er, ?_⟩
      rw [hf]
      replace z : PostG P W (rNw P H) (opt (if okCopy ks = true then some (.dT ks xs) else none)) F σ H Q := z
      by_cases hc : okCopy ks = true
      · rw [if_pos hc] at z
        rintro v F1 H1 g ⟨a, vs, rfl, h1, h2, h3⟩
        refine ⟨a, _, rfl, h1, ?_, fun p hp => ?_⟩
        · rw [List.map_fst_zip (by omega)]
          exact hc
        · exact z _ F1 _ (g.trans (.junk g.s (.new hp))) ⟨p, rfl, g.h.back hp, g.s.back hp, vs, upd_same, h2, h3⟩
      · rw [if_neg hc] at z
        exact z.elim
    | _ => exact z.elim
/-- dict(x): a copy, or of pairs -/
def cDictA (x : D) : Option D := match x with
  | .lst ps => cDictT [.lst ps]
  | x => cCopy x
theorem nd_dictA (hcalm : X.calm = true) (hu : X.A.units + 8 < cLine) (hm : X.mg "dict" = none) (ha : PE X e (tV P F0 H0 W fa)) (hg : Gl X "dict" := by rfl)
    (he : starEach [e] X.env = (false, eval e X.env) :: starEach [] X.env := by rfl) (hpl : (backTo pos (starEach [] X.env)).any (·.1) = false := by rfl) :
    PE X (.Call (.Name "dict" p) [e] [] pos) (tN P F0 H0 W (fun ρ => do let x ← fa ρ; opt (cDictA x))) :=
  nd_alt (nd_dictT hcalm hu hm ha hg he hpl) (nd_copyD hu hm ha hg he hpl) fun ρ => by
    cases hf : fa ρ with
    | ok d =>
      cases d with
      | lst ps => exact .inl rfl
      | _ => exact .inr rfl
    | err c pp => exact .inl rfl
    | bad => exact .inl rfl
end
end DL
namespace DL
open PySem L2
open PyProof.Rows (seqObj)
/-! ### sorted(d), ascending -/
section
variable {X : Cx}
theorem call_sortedT0 (hcalm : X.calm = true) (hu : X.A.units + 8 < cLine) : CallR X (.builtin "sorted") (fun xs H Q => ∃ (a : Addr) (kvs : List (List Key × V)), xs = [.ref a] ∧ Rd H a (.dT kvs) ∧ okSort (kvs.map (·.1)) = true ∧
    ∀ (p : Addr) (L : List (List Key × Addr)), H p = none → L.map (·.1) = (kvs.map (·.1)).mergeSort (PySem.W.dataLe false encT) → (∀ q ∈ L, H q.2 = some (.tup (q.1.map kV))) → Q (.ref p) (upd H p (.lst (L.map fun q => V.ref q.2)))) := by
  intro pins s σ H xs us Q I r ⟨d, kvs, ex, hd, hok, q⟩
  subst ex
  obtain ⟨u, rfl, rx⟩ := r.one
  cases rx
  simp only [okSort, Bool.and_eq_true, Bool.or_eq_true, decide_eq_true_eq] at hok
  obtain ⟨hk1, hk2⟩ := hok
  obtain ⟨z, hs, ks, pr, o, es, ep, ho, hx, hdt, he, hn⟩ := (show ObjOk X.prog X.w H s.heap d (.dT kvs) from hd.ok I.hok)
  have l1 : es.size = ks.length := size_of_entries he
  have l2 : kvs.length = ks.length := Paired.length pr
  have hkeys := isKeys_of pr
  show wpAny _ _ (call (.builtin "sorted") [Value.ref d] []) _ _ _
  refine PyProof.Rows.call_function_entry_kw PyProof.Rows.kind_sorted PyProof.Rows.plain_sorted PyProof.Rows.entry_sorted (PyProof.Rows.args_sorted1 _) ?_
  unfold Builtin.«sorted»
  refine wpAny_bind (m := checkCount "sorted" 1 1 _) (wpAny_pure ?_)
  refine wpAny_bind (PySem.W.kdu_collect (A := X.A.in1) (kdl_raw hs hx hdt) (I.ok.hd hcalm) ho (by omega) fun h' tk acc' kp it => ?_)
  have ea : acc'.toList = (ks.map fun x => x.2.1).map Value.ref := by
    have hl : acc'.toList.length = ks.length := by rw [Array.length_toList, it.1]; exact l1
    apply List.ext_getElem?
    intro j
    rw [List.map_map, List.getElem?_map]
    cases hj : acc'.toList[j]? with
    | none =>
      have h1 := List.getElem?_eq_none_iff.mp hj
      rw [List.getElem?_eq_none (by omega)]
      all_goals rfl
    | some v =>
      obtain ⟨en, hen, hv⟩ := it.2 j v (by rw [← Array.getElem?_toList]; exact hj)
      have qe := entry_at he j
      rw [hen] at qe
      cases hb : ks[j]? with
      | none =>
        rw [hb] at qe
        exact nomatch (show some en = none from qe)
      | some b =>
        rw [hb] at qe
        have e2 : en = entryOfKey (tupleKind (mixKind X.prog X.w)) b := Option.some.inj qe
        rw [hv, e2]
        all_goals rfl
  have I1 : Inv X pins σ H { s with heap := h', toks := tk } := I.kept kp
  have hal : acc'.toList.length ≤ sizeLine := by rw [ea, List.length_map, List.length_map]; omega
  refine wpAny_bind (wpAny_newList ?_ hal)
  have hoL : (h'.push (seqObj "list" acc'.toList.toArray 0)).get? h'.objs.size = some (seqObj "list" acc'.toList.toArray 0) := Heap.get?_push_size _ rfl
  have hol : ∀ b o, h'.get? b = some o → (h'.push (seqObj "list" acc'.toList.toArray 0)).get? b = some o := fun b o e => Heap.get?_push_of_some _ e
  show wpAny _ _ _ _ _ { s with heap := h'.push (seqObj "list" acc'.toList.toArray 0), toks := tk }
  obtain ⟨ee, _⟩ := each_keys_of (h := h') I1 (fun b o e => e) hkeys hk1
  rw [← ea] at ee
  have er : PySem.W.EachIs (fun v (p : List Key × Addr) => ∃ as, Reads (h'.push (seqObj "list" acc'.toList.toArray 0)) v (encT p.1) as ∧ h'.objs.size ∉ as) (acc'.toList) ((kvs.map (·.1)).zip (ks.map fun x => x.2.1)) := by
    refine (PySem.W.each_mem ee).mono fun v p ⟨⟨e1, e2⟩, hm⟩ => ?_
    have hin : p.1 ∈ kvs.map (·.1) := (List.of_mem_zip hm).1
    exact ⟨[], e1 ▸ reads_key I1 hol (List.all_eq_true.mp hk1 _ hin) e2, by simp⟩
  refine wpAny_bind (wpAny_holding (PyProof.Rows.wpAny_call_entry_kw PyProof.Rows.slot_list_sort ⟨_, hoL, rfl⟩ PyProof.Rows.entry_list_sort ?_ (PyProof.Rows.args_list_sort _)))
  have lz : ((kvs.map (·.1)).zip (ks.map fun x => x.2.1)).length = kvs.length := by simp [l2]
  rw [PySem.W.plain_is_rev]
  refine list_sort_any (b := false) (s := { s with heap := h'.push (seqObj "list" acc'.toList.toArray 0), toks := tk }) (enc := fun p => encT p.1) hoL ee er (PySem.W.AllAlike.of fun p p' => alike_encT _ _) ?_ (by rw [lz]; omega) (fun p hp => ?_) fun out hout => ⟨_, rfl, ?_⟩
  · rcases hk2 with h2 | h2
    · left
      rw [lz]
      simpa using h2
    · right
      left
      intro d' hd'
      obtain ⟨p, hp, rfl⟩ := List.mem_map.mp hd'
      have := List.all_eq_true.mp h2 _ (List.of_mem_zip hp).1
      unfold encT
      cases hp1 : p.1 with
      | nil =>
        rw [hp1] at this
        simp at this
      | cons x r => exact ⟨_, _, rfl⟩
  · have := depth_encT p.1
    show X.A.units + 1 + 1 + (encT p.1).depth < cLine
    omega
  · obtain ⟨eo, hL⟩ := each_out hout
    obtain ⟨e', he'⟩ := PyProof.Rows.sortedHeap_at (vs := acc'.toList) (out := out.toArray) hoL
    have hm1 : (((kvs.map (·.1)).zip (ks.map fun x => x.2.1)).mergeSort (PySem.W.dataLe false fun p => encT p.1)).map (·.1) = (kvs.map (·.1)).mergeSort (PySem.W.dataLe false encT) := by
      have := PySem.W.sort_maps (r := PySem.W.dataLe false fun p : List Key × Addr => encT p.1) (s := PySem.W.dataLe false encT) (fun p : List Key × Addr => p.1) (l := (kvs.map (·.1)).zip (ks.map fun x => x.2.1)) (fun _ _ _ _ => rfl)
      rw [this, keys_zip hkeys]
    have hlen : ((((kvs.map (·.1)).zip (ks.map fun x => x.2.1)).mergeSort (PySem.W.dataLe false fun p => encT p.1)).map fun q => V.ref q.2).length ≤ sizeLine := by
      rw [List.length_map, List.length_mergeSort, lz]
      omega
    have rv : Vals ((((kvs.map (·.1)).zip (ks.map fun x => x.2.1)).mergeSort (PySem.W.dataLe false fun p => encT p.1)).map fun q => V.ref q.2) out := by
      rw [eo]
      have := vals_refs ((((kvs.map (·.1)).zip (ks.map fun x => x.2.1)).mergeSort (PySem.W.dataLe false fun p => encT p.1)).map (·.2))
      rw [List.map_map] at this
      exact this
    refine wpAny_pure ⟨_, rfl, .ref h'.objs.size, upd H h'.objs.size (.lst _), I1.laid (t' := tk) (fun b u e => ?_) (Nat.le_refl _)
      (show ObjOk X.prog X.w _ _ _ (.lst _) from ⟨hlen, out, e', rv, he'⟩), rfl, q _ _ (I1.hok.fresh (Nat.le_refl _)) hm1 hL⟩
    have hb : b < h'.objs.size := Heap.lt_size e
    rw [PyProof.Rows.sortedHeap_old (Nat.ne_of_lt hb) (by rw [PyProof.Rows.size_push']; exact Nat.lt_succ_of_lt hb)]
    exact Heap.get?_push_of_some _ e
end
def cSort0 : D → Option D
  | .dT ks xs => if okSort ks = true then some (.lst ((ks.mergeSort (PySem.W.dataLe false encT)).map ktD)) else none
  | _ => none
section
variable {X : Cx} {P : Pm} {F0 : Fz} {H0 : Hp} {W : WX} {e b c o : Expr} {fa fb fc : Env → Res D} {fs : Env → Res (List D)} {p pos kpos apos : Pos}
theorem pd_sort0 (hcalm : X.calm = true) (hu : X.A.units + 8 < cLine) (hm : X.mg "sorted" = none) (ha : PE X e (tV P F0 H0 W fa)) (hg : Gl X "sorted" := by rfl)
    (he : starEach [e] X.env = (false, eval e X.env) :: starEach [] X.env := by rfl) (hpl : (backTo pos (starEach [] X.env)).any (·.1) = false := by rfl) :
    PE X (.Call (.Name "sorted" p) [e] [] pos) (tE P F0 H0 W (fun ρ => do let x ← fa ρ; opt (cSort0 x))) :=
  (pe_callB (call_sortedT0 hcalm hu) hg hm (by decide +kernel) (pa_cons ha pa_nil he) (by decide) (by decide) he hpl).imp fun σ H Q ⟨F, ρ, er, z⟩ => by
  show tV P F0 H0 W fa σ H _
  refine ⟨F, ρ, er, (PostG.bind (rel := rVw P) z).imp ?_⟩
  rintro v H1 ⟨F1, d, g, iv, q⟩
  obtain ⟨d', hd, q'⟩ := opt_of q
  unfold cSort0 at hd
  split at hd
  · rename_i ks xs
    split at hd
    · rename_i hk
      cases hd
      obtain ⟨a, vs, rfl, h1, h2, h3⟩ := iv
      have e1 : (ks.zip vs).map (·.1) = ks := by
        rw [List.map_fst_zip]
        omega
      refine ⟨a, _, rfl, h1, by rw [e1]; exact hk, fun p L hp hL hq => ?_⟩
      rw [e1] at hL
      obtain ⟨F3, g3, i3⟩ := tups_in g.s hq
      rw [hL] at i3
      exact q' _ (upd F3 p (.lst (L.map fun q => V.ref q.2))) _ (g3.trans (.new g3.s hp)) (by rw [rIs, Is]; exact ⟨p, _, rfl, .inl upd_same, i3.mono (.new (g3.s.back hp)) _⟩)
    · cases hd
  · cases hd
end
end DL
namespace DL
open PySem L2
section
variable {X : Cx} {P : Pm} {F0 : Fz} {H0 : Hp} {W : WX} {a e b c o : Expr} {fa fb fc : Env → Res D} {fs : Env → Res (List D)} {p pos kpos apos : Pos} {F H : Hp} {σ : L2.St}
/-! ### x.join(list of texts) -/
def joinD (x y : D) : Option D := match x, y with
  | .str s, .lst ds => (strsD ds).bind fun zs => if (zs.map (·.length)).sum + zs.length * s.length ≤ 1000000 then some (.str (Txt.join s zs)) else none
  | _, _ => none
theorem pd_join (ho : PE X o (tE P F0 H0 W fa)) (he : PE X e (tV P F0 H0 W fb))
    (hbase : attributeBase o "join" X.env (eval o X.env) = eval o X.env := by rfl)
    (hfew : ((backTo pos (starEach [e] X.env)).all (fun x => !x.1) && (backToKw pos (keywordEach [] X.env)).all (fun x => x.1.isSome)
      && decide (([e] : List Expr).length + ([] : List Keyword).length + (if ([] : List Keyword).isEmpty then 0 else 1) < 30)) = true := by rfl)
    (hline : (apos.endLine == pos.line) = true := by rfl) (hs1 : starEach [e] X.env = (false, eval e X.env) :: starEach [] X.env := by rfl) (hplain : (backTo pos (starEach [] X.env)).any (·.1) = false := by rfl) :
    PE X (.Call (.Attribute o "join" apos) [e] [] pos) (tE P F0 H0 W (fun ρ => do let x ← fa ρ; let s ← strD x; let y ← fb ρ; opt (joinD (.str s) y))) :=
  (pe_bm PySem.F.plainAttrs_str PySem.F.slot_str_join PySem.F.type_str_join mt_join ho (pa_cons he pa_nil hs1) hbase hfew hline hs1 hplain).imp fun σ H Q ⟨F, ρ, er, z⟩ => by
  refine ⟨F, ρ, er, (PostG.bind (rel := rIs P) z).imp ?_⟩
  rintro x H1 ⟨F1, d, g1, i1, z1⟩
  obtain ⟨x', rfl, F1', s', g1', e1', z1'⟩ := strD_of g1.s i1 (PostG.bind (rel := rSt) z1)
  cases e1'
  have er1 := (er.grow g1).grow g1'
  refine ⟨rfl, F1', ρ, er1, (PostG.bind (rel := rVw P) z1').imp ?_⟩
  rintro y H2 ⟨F2, d2, g2, i2, z2⟩
  obtain ⟨d', hd, q'⟩ := opt_of z2
  unfold joinD at hd
  split at hd
  · rename_i s ds hs
    cases hs
    cases hz : strsD ds with
    | none => rw [hz] at hd; cases hd
    | some zs =>
      rw [hz, Option.bind_some] at hd
      split at hd
      · rename_i hl
        cases hd
        obtain ⟨l, vs, rfl, h1, h2⟩ := i2
        obtain rfl := strsD_of hz h2
        exact ⟨x', l, zs, rfl, rfl, .inl (.inl h1), Nat.le_trans hl (by decide), Out.str q' g2.s⟩
      · cases hd
  · cases hd
/-! ### str(x), x an instance of the class number cn, or an int -/
def strC (cn : Nat) (G : List D → Res D) : D → Res D
  | .int i => if i.natAbs.log2 < 1920 then .ok (.str (toString i)) else .bad
  | .obj c xs => if c = cn then (do let y ← fnG 1 G [.obj c xs]; let z ← strD y; .ok (.str z)) else .bad
  | _ => .bad
theorem pd_strC {cn k : Nat} {p1 : Pos} {G : List D → Res D} (c : OwnD X.prog X.w X.K X.mg X.base P k "__str__" cn 1 G) (hr : Room (k + 2) X.A) (tk : Takes X W) (hm : X.mg "str" = none) (ha : PE X a (tE P F0 H0 W fa)) (hg : Gl X "str" := by rfl)
    (he : starEach [a] X.env = (false, eval a X.env) :: starEach [] X.env := by rfl) (hpl : (backTo pos (starEach [] X.env)).any (·.1) = false := by rfl) :
    PE X (.Call (.Name "str" p1) [a] [] pos) (tE P F0 H0 W (fM (strC cn G) fa)) := by
  obtain ⟨f, fd, ps, Fn, M, hb⟩ := c.ex
  refine ⟨fun pins s σ H Q I h => ?_⟩
  refine wpAny_Call_Name_kw (ld_blt (u := .type "str") I hg hm (by decide +kernel) ?_)
  obtain ⟨F, ρ, er, z⟩ := h
  refine PyProof.Rows.callWith_type1 (thn ((pa_cons ha pa_nil he).run pos pins s σ H (fun vs H1 => ∃ v, vs = [v] ∧ ∃ F1 d, Grow P F H F1 H1 ∧ Is P F1 d v ∧ PostG P W (rIs P) (strC cn G d) F1 σ H1 Q) I ⟨F, ρ, er, (PostG.bind (rel := rIs P) z).imp fun v H1 q => ⟨v, rfl, q⟩⟩) ?_) he hpl
  rintro us s1 ⟨vs, H1, I1, r1, v, rfl, F1, d, g1, i1, q1⟩
  obtain ⟨u, rfl, rv⟩ := Vals.one r1
  unfold strC at q1
  split at q1
  · have ex := un_int i1
    subst ex
    split at q1
    · rename_i hl
      exact call_str_int pins s1 σ H1 _ _ Q I1 r1 ⟨_, rfl, hl, q1.here g1.s is_str⟩
    · exact q1.elim
  · split at q1
    · rename_i hc
      subst hc
      obtain ⟨ad, dx, vs, rfl, h1, h2, h3⟩ := obj_of i1
      obtain rfl : u = Value.ref ad := rv
      obtain ⟨ox, od, J⟩ := inst_at I1 (g1.s.ex _ _ h1)
      refine PySem.W.kso_call ?_ I1.kIn J M.at_ M.fn ?_
      · have := (hr.in1.in1).units0
        exact this
      · refine thn (run_at (A' := X.A.in1.in1) (vs := [.ref ad]) (ds := [_]) Fn ((sub_here hr).in1.in1) hb tk I1 (.cons rfl .nil) g1.s (.cons i1 .nil) (PostG.bind (rel := rIs P) q1)) ?_
        rintro w s2 ⟨v2, H2, I2, r2, F2, d2, g2, i2, q2⟩
        obtain ⟨x', rfl, F3, t', g3, e3, z3⟩ := strD_of g2.s i2 (PostG.bind (rel := rSt) q2)
        cases e3
        obtain ⟨t, rfl⟩ := r2
        exact ⟨.str x', H2, I2, ⟨t, rfl⟩, z3.here g3.s is_str⟩
    · exact q1.elim
  · exact q1.elim
/-! ### {k: v}, k a tuple -/
def disp1 (x y : D) : Res D := match keyT x with
  | some k => .ok (.dT [k] [y])
  | none => .bad
theorem nd_disp1 {k v : Expr} (hu : X.A.units + 8 < cLine) (hk : PE X k (tE P F0 H0 W fa)) (hv : PE X v (tE P F0 H0 W fb)) :
    PE X (.Dict [some k] [v] pos) (tN P F0 H0 W (fun ρ => do let x ← fa ρ; let y ← fb ρ; disp1 x y)) := by
  refine ⟨fun pins s σ H Q I ⟨F, ρ, er, z⟩ => ?_⟩
  replace z : PostG P W (rNw P H) (do let x ← fa ρ; let y ← fb ρ; disp1 x y) F σ H Q := z
  have hn := I.hok.fresh (Nat.le_refl s.heap.objs.size)
  have I1 := I.laid (a := s.heap.objs.size) (o := .dT []) (h' := s.heap.push { cls := .type "dict", data := .dict #[] }) (t' := s.toks) (fun _ _ q => Heap.get?_push_of_some _ q) (Nat.le_refl _) (dt_empty s.heap I.big)
  rw [PySem.arm_eval_Dict, PySem.zip_pairTrees [some k] [v] X.env pos rfl rfl, PySem.dictDisplay_pairs (PySem.pairTrees [some k] [v] X.env pos) (by intro h; cases h) (by show 1 < 17; decide)]
  refine wpAny_bind (wpAny_standAt (wpAny_bind (PySem.wpAny_subDictH (knd := tupleKind (mixKind X.prog X.w)) (by show X.A.units < cLine; omega) (by show 1 ≤ 15; decide) ?_)))
  have g0 : Grow P F H F (upd H s.heap.objs.size (.dT [])) := .junk er.s (.new hn)
  have pa : PostG P W (rIs P) (fa ρ) F σ (upd H s.heap.objs.size (.dT [])) (fun x H1 => ∃ F1 dx, fa ρ = .ok dx ∧ Grow P F (upd H s.heap.objs.size (.dT [])) F1 H1 ∧ Is P F1 dx x) := by
    cases hfa : fa ρ with
    | ok dx => exact fun x F1 H1 g i => ⟨F1, dx, rfl, g, i⟩
    | err c pp =>
      rw [hfa] at z
      exact fun F' H' y g q => z F' H' y (g0.trans g) q
    | bad =>
      rw [hfa] at z
      exact z.elim
  refine PySem.pairTrees_cons_walk (thn (hk.run pins _ σ _ _ I1 ⟨F, ρ, er.grow g0, pa⟩) ?_)
  rintro u s1 ⟨x, H1, I1', rx, F1, dx, hfa, g1, i1⟩
  rw [hfa, Res.bind_ok] at z
  have pb : PostG P W (rIs P) (fb ρ) F1 σ H1 (fun y H2 => ∃ F2 dy, fb ρ = .ok dy ∧ Grow P F1 H1 F2 H2 ∧ Is P F2 dy y) := by
    cases hfb : fb ρ with
    | ok dy => exact fun x F1 H1 g i => ⟨F1, dy, rfl, g, i⟩
    | err c pp =>
      rw [hfb] at z
      exact fun F' H' y g q => z F' H' y ((g0.trans g1).trans g) q
    | bad =>
      rw [hfb] at z
      exact z.elim
  refine thn (hv.run pins s1 σ H1 _ I1' ⟨F1, ρ, (er.grow g0).grow g1, pb⟩) ?_
  rintro w2 s2 ⟨y, H2, I2, ry, F2, dy, hfb, g2, i2⟩
  rw [hfb, Res.bind_ok] at z
  refine PySem.pairTrees_nil_walk ?_
  unfold disp1 at z
  cases hkk : keyT dx with
  | none =>
    rw [hkk] at z
    exact z.elim
  | some kk =>
    rw [hkk] at z
    obtain ⟨b, rfl, hb⟩ := keyT_is (i1.mono g2.f dx) hkk
    obtain rfl : u = Value.ref b := rx
    have hH : H2 s.heap.objs.size = some (.dT []) := g2.h.dat (g1.h.dat upd_same)
    obtain ⟨_, hsys, xs0, kt0, dd0⟩ := dt_rd I2.hok (.inl hH)
    cases kt0
    have hkey := key_of I2.hok (g2.s.ex _ _ hb)
    refine ⟨[(kk, b, w2)], ⟨rfl, rfl, hkey, trivial⟩, dd0, fun h' tk dd' hs => wpAny_pure ?_⟩
    have ho : ∃ q, h'.get? s.heap.objs.size = some q := let ⟨q, _, _, hq, _⟩ := dd'; ⟨q, hq⟩
    obtain ⟨ob, es, ep, d1, d2, d3, d4, d5, d6⟩ := dd'
    have hbd : H2 b = some (.tup (kk.map kV)) := g2.s.ex _ _ hb
    have hbn : b ≠ s.heap.objs.size := fun e => by
      rw [e, hH] at hbd
      cases hbd
    have I3 : Inv X pins σ (upd H2 s.heap.objs.size (.dT [(kk, y)])) { s2 with heap := h', toks := tk } := d_write I2 (by rw [hH]; exact True.intro) hs ho (show ObjOk X.prog X.w _ _ _ (.dT _) from ⟨by rw [sizeLine_eq]; show 1 ≤ 16777216; decide, hsys, [(kk, b, w2)], .cons ⟨rfl, by rw [upd_ne hbn]; exact hbd, ry⟩ .nil, ob, es, ep, d1, d2, d3, d4, by simp⟩)
    have gg : Grow P F (upd H s.heap.objs.size (.dT [])) F2 H2 := g1.trans g2
    have hF2 : F2 s.heap.objs.size = none := by
      cases q : F2 s.heap.objs.size with
      | none => rfl
      | some o =>
        have hq := g2.s.ex _ _ q
        rw [hH] at hq
        cases hq
        rcases gg.n _ _ q with n | n | ⟨xs, n⟩
        · have := er.s.ex _ _ n
          rw [hn] at this
          cases this
        · exact (n.no upd_same rfl).elim
        · cases n
    refine ⟨.ref s.heap.objs.size, _, I3, rfl, z _ F2 _ ⟨gg.f, ⟨fun a o h hT => ?_⟩, ⟨fun a o h => ?_, g2.s.nt, Tabs.upd g2.s.tabs hH rfl⟩, fun a o h => ?_⟩ ⟨s.heap.objs.size, rfl, .of hn, hF2, [y], by rw [upd_same]; rfl, rfl, .cons i2 .nil⟩⟩
    · have ne : a ≠ s.heap.objs.size := ne_of_none h hn
      rw [upd_ne ne]
      exact gg.h.at_ a o (by rw [upd_ne ne]; exact h) hT
    · rw [upd_ne (fun e => by rw [e, hF2] at h; cases h)]
      exact g2.s.ex a o h
    · exact (g0.trans gg).n a o h
end
end DL
namespace DL
open PySem L2
/-! ### short names, own equality of one class -/
@[simp] abbrev fDictA (f : Env → Res D) : Env → Res D := fun ρ => do let x ← f ρ; opt (cDictA x)
@[simp] abbrev fDisp1 (a b : Env → Res D) : Env → Res D := fun ρ => do let x ← a ρ; let y ← b ρ; disp1 x y
@[simp] abbrev fSort0 (a : Env → Res D) : Env → Res D := fun ρ => do let x ← a ρ; opt (cSort0 x)
@[simp] abbrev fJoin (a b : Env → Res D) : Env → Res D := fun ρ => do let x ← a ρ; let s ← strD x; let y ← b ρ; opt (joinD (.str s) y)
def geOf (c : Nat) (g : List D → Res D) : Nat → Option (List D → Res D) := fun x => if x = c then some g else none
theorem geOf_some {c x : Nat} {g g' : List D → Res D} (h : geOf c g x = some g') : x = c ∧ g' = g := by
  unfold geOf at h
  split at h
  · cases h
    exact ⟨by assumption, rfl⟩
  · cases h
theorem geOf_own {prog : Program} {w : World} {K : PySem.W.Frag} {mg : Str → Option Value} {base : Heap} {P : Pm} {k cn : Nat} {g : List D → Res D} (h : OwnD prog w K mg base P k "__eq__" cn 2 g) :
    ∀ c g', geOf cn g c = some g' → OwnD prog w K mg base P k "__eq__" c 2 g' := fun c g' e => by
  obtain ⟨rfl, rfl⟩ := geOf_some e
  exact h
theorem eqCs_of {K : PySem.W.Frag} {P : Pm} {cn : Nat} (nf : ∀ d, isScr d = false → PySem.W.notFirst K (P.C cn) (tyD P d) = true) (hi : ∀ c, IsiC K (P.C c)) (s2 : PySem.W.subIn K (.ref (P.C cn)) (.type "int") = some false) (ne : PySem.W.findIn K (.ref (P.C cn)) "__ne__" = some (some (.builtin "object.__ne__"))) (g : List D → Res D) : EqCs K P (geOf cn g) where
  nf := fun c g' d e h => by
    obtain ⟨rfl, rfl⟩ := geOf_some e
    exact nf d h
  isi := hi
  s2 := fun c g' e => by
    obtain ⟨rfl, rfl⟩ := geOf_some e
    exact s2
  ne := fun c g' e => by
    obtain ⟨rfl, rfl⟩ := geOf_some e
    exact ne
end DL
namespace DL
open PySem L2
section
variable {X : Cx} {P : Pm} {F0 : Fz} {H0 : Hp} {W : WX} {elt tg iter : Expr} {ifs : List Expr} {scope : Scope} {own : List (Str × Nat)} {pos spos py : Pos} {fi : Env → Res (List D)} {h : D → Env → Option Env} {gt : Env → Res Bool} {fe : Env → Res D}
/-- x = [.. for ..], the list x's own -/
theorem sd_setLc {us : List Nat} {i : Nat} {y : Str} (hc : X.calm = true) (hN : X.N.Nodup) (hi : PI X tg iter (tI P F0 H0 W fi)) (ok : BlkOk X.N X.env.scope scope own) (hu : own.map (·.2) = us)
    (hg : ∀ (s : Shared) (H : Hp) (C : Addr) (cl : List (Str × Addr)) (fp : List Addr), PG (X.blk s H scope (PySem.compEnvC scope cl C X.env) fp) tg (tGt P F0 H0 us h))
    (ht : ∀ (s : Shared) (H : Hp) (C : Addr) (cl : List (Str × Addr)) (fp : List Addr), PTs (X.blk s H scope (PySem.compEnvC scope cl C X.env) fp) ifs (tT P F0 H0 W0 gt))
    (he : ∀ (s : Shared) (H : Hp) (C : Addr) (cl : List (Str × Addr)) (fp : List Addr), PE (X.blk s H scope (PySem.compEnvC scope cl C X.env) fp) elt (tE P F0 H0 W0 fe)) (hy : X.N[i]? = some y := by rfl) (hk : X.env.scope.kind = .function := by rfl) (hyl : X.env.scope.names.lookup y = some .local := by rfl) (hl : (py.line == pos.line) = true := by rfl)
    (hn : (scope.names.any fun (n, k) => n == y && (k == .local || k == .cell)) = false := by rfl) (h0 : F0.S = none ∨ 0 ∉ us := by first | exact Or.inl rfl | exact Or.inr (by decide)) (hi0 : F0.S = none ∨ i ≠ 0 := by first | exact Or.inl rfl | exact Or.inr (by decide))
    (hs : ∀ x, foldedSetIterable iter X.env x = pure x := by intro _; rfl) :
    PS X (.Assign [.Name y py] (.ListComp elt [⟨tg, iter, ifs, 0⟩] scope pos) spos) (tS P F0 H0 W (fun ρ => bindS (do let items ← fi ρ; let ys ← lcD h gt fe (wipeE ρ us) items; mkL ys) ρ fun d => .nx (ρ.set i (some (.ow d))))) :=
  (ps_setLc hc hN hy hyl (sw_true hk hyl hl hn) hi ok hg ht he hs).imp fun N σ H ⟨F, ρ, er, z⟩ => by
  rw [hu]
  refine lc_of (ρ := ρ) h0 er ((PostS.bind (rel := rNw P H) er z).imp ?_)
  rintro v H1 ⟨F1, d, g, ⟨q, rfl, h1, h2, h3⟩, z⟩
  exact z _ F1 H1 (er.putO g i h1 h2 h3 hi0) (.refl F1)
end
end DL
namespace PySem
namespace ErrX
open PySem.W PySem.Calls PyProof.Rows PySem.HandSPX
/-! ### an own error over ListError over ValueError that holds nothing: super().__init__('..') -/
abbrev iArgs0 (p1 : Pos) : Arguments := { posonlyargs := [], args := [{ arg := "self", annotation := none, pos := p1 }], vararg := none, kwonlyargs := [], kw_defaults := [], kwarg := none, defaults := [] }
abbrev iSc0 : Scope := { kind := .function, names := [(PySem.Str.ofString "self", .local), (PySem.Str.ofString "__class__", .free), (PySem.Str.ofString "super", .globalImplicit)], isGenerator := false, isCoroutine := false, more := [] }
/-- what the text of __init__ shows by itself (rfl, each) -/
structure ErrEv0 (fd : FuncData) (fI : Addr) (msg : Str) (j : Nat) (q0 q1 q2 q3 q4 q5 : Pos) : Prop where
  he : ∃ pl : Sem Bool, ∀ L : Addr, eval (.Call (.Attribute (.Call (.Name "super" q0) [] [] q1) "__init__" q2) [.Constant (.str msg) j q3] [] q4) (callEnv fd L fI) = (do
      let ov ← attributeBase (.Call (.Name "super" q0) [] [] q1) "__init__" (callEnv fd L fI) (eval (.Call (.Name "super" q0) [] [] q1) (callEnv fd L fI))
      standAt q2.atName
      let (f, first) ← holding [ov] (getMethod ov "__init__" pl)
      callWith q4 f first (backTo q4 (starEach [.Constant (.str msg) j q3] (callEnv fd L fI))) [])
  hi : ∀ L : Addr, interactive (callEnv fd L fI) = false
  hs : ∀ L : Addr, swapsWith (.Call (.Attribute (.Call (.Name "super" q0) [] [] q1) "__init__" q2) [.Constant (.str msg) j q3] [] q4) none q5.line (callEnv fd L fI) = pure false
  st : ∀ L : Addr, starEach [.Constant (.str msg) j q3] (callEnv fd L fI) = (false, eval (.Constant (.str msg) j q3) (callEnv fd L fI)) :: starEach [] (callEnv fd L fI)
  bind : ∀ u : Value, bindArgs fd ⟨[u], []⟩ = pure [(("self" : Str), u)]
/-- what the text says of such a class at C: x its name -/
structure ErrTxt0 (prog : Program) (K : Frag) (mg : Str → Option Value) (x : Str) (C fI : Addr) : Prop where
  gC : mg x = some (.ref C)
  cls : ∃ nm q N bs bm sn sub ab col dd k0 k1 k2 k3 k5, K.lookup C = some (excClassObj nm q C N bs bm true sn sub ab col dd k0 k1 k2 k3 k5 "ValueError.__new__") ∧ refsVE bm = true
  ga : findIn K (.ref C) "__getattribute__" = some (some (.builtin "BaseException.__getattribute__"))
  gg : findIn K (.ref C) "__getattr__" = some none
  iC : findIn K (.ref C) "__init__" = some (some (.ref fI))
  tC : typeIn K (.ref fI) = some (.type "function")
  kC : keepIn K (.ref C) = true
  exC : subIn K (.ref C) (.type "BaseException") = some true
  veC : subIn K (.ref C) (.type "ValueError") = some true
  tyC : typeIn K (.ref C) = some (.type "type")
  hdC : hasDictIn K C = true
  mro : mroIn K C (.ref C) = some true
  sup : ks_superIn K C C "__init__" = some (some (.builtin "ValueError.__init__"))
  opq : nsIn K cStatics "thirdparty.any" = some none
  hsup : mg "super" = none
  htop : (prog.main.scope.names.lookup ("super" : Str)).isSome = false
  fn : ∃ (oc : Value) (od : Option Addr) (q msg : Str) (j : Nat) (doc pm : Value) (an : Option Addr) (ct : Value) (osl : Array (Option Value)) (cc cda : Addr) (p1 q0 q1 q2 q3 q4 q5 : Pos) (ccl cl : Value) (cdd cld : Option Addr) (vs : Array Value) (ccs csl : Array (Option Value)) (file : Str) (tf : Tok),
    K.lookup fI = some ⟨oc, od, .func (ksFn "__init__" q (iArgs0 p1) [iSuper msg j q0 q1 q2 q3 q4 q5] iSc0 .none .none doc pm an (.ref cda) ct cc), osl⟩ ∧ codeIn K (.ref cda) q = true ∧
    K.lookup cda = some ⟨ccl, cdd, .fields vs, ccs⟩ ∧ vs[2]? = some (.str file tf) ∧ ((prog.main.file : Str) == file) = true ∧ K.lookup cc = some ⟨cl, cld, .cell (some (.ref C)), csl⟩ ∧
    ErrEv0 (ksFn "__init__" q (iArgs0 p1) [iSuper msg j q0 q1 q2 q3 q4 q5] iSc0 .none .none doc pm an (.ref cda) ct cc) fI msg j q0 q1 q2 q3 q4 q5
section
variable {prog : Program} {w : World} {A : Around} {E : Value → Shared → Prop} {R : Result → Shared → Prop} {s : Shared} {K : Frag} {mg mb : Str → Option Value} {C fI : Addr} {xn f : Str}
theorem err_init0 (T : ErrTxt0 prog K mg xn C fI) {x t0 : Addr} (X : K.In s.heap) (G : s.heap.Ns mainGlobals mg) (GB : s.heap.Ns builtinsNs mb) (hmb : mb "super" = some (.type "super")) (hlim : s.heap.NoLimit) (hx : s.heap.get? x = some (excO C t0)) (hnx : K.lookup x = none) (hroom : A.depth < recursionLimit)
    (hq : ∀ h' tk t1, (∀ b o, b ≠ x → s.heap.get? b = some o → h'.get? b = some o) → h'.get? x = some (excO C t1) → R (.ok (.ret .none)) { s with heap := h', toks := tk }) :
    codeAny (model prog w) A (.call (.ref fI) ⟨[.ref x], []⟩) R s := by
  obtain ⟨oc, od, q, msg, j, doc, pm, an, ct, osl, cc, cda, p1, q0, q1, q2, q3, q4, q5, ccl, cl, cdd, cld, vs, ccs, csl, file, tf, ho, hcd, hcode, hvs, hfile, hcell, hev⟩ := T.fn
  obtain ⟨nm, qq, N, bs, bm, sn, sub, ab, col, dd, k0, k1, k2, k3, k5, hC, hbm⟩ := T.cls
  have hcl : clsIn K C = some { name := nm, bases := bs, mro := .ref C :: bm, ns := N, qualname := qq, hasDict := true, slotNames := sn, subclasses := sub, abstract := ab, collection := col, hasDel := false } := by unfold clsIn; rw [hC] <;> rfl
  have c1 : (("__class__" : Str) == ("self" : Str)) = false := by decide
  have c2 : (("super" : Str) == ("self" : Str)) = false := by decide
  have c3 : (("super" : Str) == ("__class__" : Str)) = false := by decide
  have l1 : iSc0.names.lookup ("self" : Str) = some .local := by simp [iSc0, List.lookup]
  have l3 : iSc0.names.lookup ("__class__" : Str) = some .free := by simp [iSc0, List.lookup, c1]
  have l4 : iSc0.names.lookup ("super" : Str) = some .globalImplicit := by simp [iSc0, List.lookup, c2, c3]
  refine ks_codeAny_call_defAt (fd := ksFn "__init__" q (iArgs0 p1) [iSuper msg j q0 q1 q2 q3 q4 q5] iSc0 .none .none doc pm an (.ref cda) ct cc) (body := [iSuper msg j q0 q1 q2 q3 q4 q5]) (binds := [("self", .ref x)]) hroom (X _ _ ho) rfl hlim (codeRec_of X hcd) rfl (BindsTo.of_eq (hev.bind _)) ?_ ?_ (fun h₁ hns hk₁ => ?_)
  · intro y hy
    have hy' : y ∈ iSc0.names := hy
    simp only [iSc0, List.mem_cons, List.not_mem_nil, or_false] at hy'
    rcases hy' with rfl | rfl | rfl <;> (intro z; cases z)
  · intro y hy
    simp only [List.mem_cons, List.not_mem_nil, or_false] at hy
    subst hy
    exact l1
  · have nself : (fun y => [(("self" : Str), Value.ref x)].reverse.lookup y) "self" = some (.ref x) := by
      simp [List.lookup]
    generalize hm : (fun y => [(("self" : Str), Value.ref x)].reverse.lookup y) = m at hns nself
    have X₁ : K.In h₁ := X.keeps hk₁
    have hx₁ := hk₁ _ _ hx
    have hxL : s.heap.objs.size ≠ x := Nat.ne_of_gt (Heap.lt_size hx)
    obtain ⟨hp, gn, dr, tk, os⟩ := s
    -- super().__init__('..')
    obtain ⟨pl, he⟩ := hev.he
    refine ks_wpAt_execs_cons (ks_wpAt_Expr_any (ks_wpAt_MethodCall (pl := pl) ?_ (he _)) (hev.hi _) (hev.hs _))
    · refine ks_wpAt_super_base (f := fI) (cc := cda) l4 l3 (by decide) rfl (X₁ _ _ ho) rfl rfl rfl (X₁ _ _ hcode) rfl hvs hfile T.htop ?_
      refine ks_loadName_global rfl l4 (loadGlobal_builtin (G.keeps hk₁) T.hsup (GB.keeps hk₁) hmb ⟨rfl, ?_⟩)
      refine wpAny_loadName_free rfl l3 rfl ⟨_, X₁ _ _ hcell, rfl⟩ ?_
      refine wpAny_loadName_local rfl l1 hns nself ?_
      refine ks_wpAny_isType_cls (X₁ _ _ hC) rfl ⟨rfl, ?_⟩
      refine ks_wpAny_call_super (X₁ _ _ hC) rfl hx₁ rfl (fun c e => by cases e) (looks_mroIn X₁ T.mro) (fun h₂ e2 k₂ => ?_)
      have X₂ : K.In h₂ := X₁.keeps k₂
      have hx₂ := k₂ _ _ hx₁
      have I₂ : InstAt h₂ x (excO C t0) C none := ⟨hx₂, rfl, rfl, trivial⟩
      have hI : Looks (model prog w) h₂ (isInstance (.ref x) (.type "ValueError")) true := I₂.type.andThen (looks_subIn X₂ T.veC)
      have hm2 := T.sup
      unfold ks_superIn at hm2
      rw [hcl] at hm2
      refine kxs_getMethod kxs_ValueError e2 (looks_opaque X₂ T.opq) (l₀ := .ref C :: bm) ?_ rfl X₂ hm2 hI (ks_ne X₂ I₂ hcl) (by decide) ?_
      · exact fun A Q E s k q => wpAny_bind ((looks_clsIn X₂ hcl) A _ E s k (wpAny_pure q))
      show wpAny _ _ (callWith q4 (.ref h₂.objs.size) [] _ []) _ _ _
      refine kxs_callWith (i := "ValueError.__init__") (x := x) (u := h₂.objs.size) ?_ ?_
      · rw [hev.st]
        rfl
      · rw [hev.st]
        refine evalArgs_plain ?_
        refine Calls.spliced_cons (wpAny_Constant_str (x := msg) (k := j) (pos := q3) (Calls.spliced_nil ?_))
        refine ⟨Heap.get?_push_at rfl rfl, ?_⟩
        have kP : ∀ b o, h₂.get? b = some o → (h₂.push (kxs_mw "ValueError.__init__" x)).get? b = some o := fun b o e => Heap.get?_push_of_some _ e
        refine call_mw (t0 := t0) (kP _ _ (X₂ _ _ hC)) (kP _ _ hx₂) (Heap.get?_push_at rfl rfl) (by show 1 ≤ sizeLine; decide) fun h₃ t1 k₃ hx₃ => ?_
        show _root_.PySem.wpAt _ _ _ (execs _ _) _ _ _
        have keep0 : ∀ b o, b ≠ x → hp.get? b = some o → h₃.get? b = some o := fun b o hb e => k₃ b o hb (kP _ _ (k₂ _ _ (hk₁ _ _ e)))
        refine at_of (wpAny_execs_nil ?_)
        exact hq h₃ _ t1 keep0 hx₃
end
end ErrX
end PySem
namespace PySem
namespace ErrX
open PySem.W PySem.Calls PyProof.Rows PySem.HandSPX
section
variable {prog : Program} {w : World} {A : Around} {E : Value → Shared → Prop} {R : Result → Shared → Prop} {s : Shared} {K : Frag} {mg mb : Str → Option Value} {C fI : Addr} {xn f : Str}
theorem err_made0 (T : ErrTxt0 prog K mg xn C fI) (X : K.In s.heap) (G : s.heap.Ns mainGlobals mg) (GB : s.heap.Ns builtinsNs mb) (hmb : mb "super" = some (.type "super")) (hlim : s.heap.NoLimit) (hroom : A.depth + 1 < recursionLimit)
    (hq : ∀ h' tk e t1, (∀ b o, s.heap.get? b = some o → h'.get? b = some o) → s.heap.objs.size ≤ e → h'.get? e = some (excO C t1) → R (.ok (.ret (.ref e))) { s with heap := h', toks := tk }) :
    codeAny (model prog w) A (.call (.ref C) ⟨[], []⟩) R s := by
  obtain ⟨nm, qq, N, bs, bm, sn, sub, ab, col, dd, k0, k1, k2, k3, k5, hC, hbm⟩ := T.cls
  obtain ⟨hp, gn, dr, tk, os⟩ := s
  have kq : ∀ b o, hp.get? b = some o → ((hp.push (kdv_tup [])).push (excO C hp.objs.size)).get? b = some o := fun b o e => Heap.get?_push_of_some _ (Heap.get?_push_of_some _ e)
  have hg2 : ((hp.push (kdv_tup [])).push (excO C hp.objs.size)).get? (hp.objs.size + 1) = some (excO C hp.objs.size) := by heap_get
  have hnx : K.lookup (hp.objs.size + 1) = none := by
    cases e : K.lookup (hp.objs.size + 1) with
    | none => rfl
    | some o =>
      have z : hp.get? (hp.objs.size + 1) = some o := X _ _ e
      exact absurd (Nat.lt_of_succ_lt (Heap.lt_size z)) (Nat.lt_irrefl _)
  have h1 : ([] : List Value).length ≤ sizeLine := by show 0 ≤ sizeLine; decide
  refine call_own F.excBase_ValueError (fun Z => refsVE_contains Z bm hbm) (X _ _ hC) (looks_findIn X T.iC) (fun self => bind_fn X self T.tC) h1 ?_
  refine err_init0 (s := ⟨(hp.push (kdv_tup [])).push (excO C hp.objs.size), gn, dr, tk, os⟩) T (X.keeps kq) (G.keeps kq) (GB.keeps kq) hmb (hlim.keeps kq) hg2 hnx ?_ fun h' tk' t1 k' hx => ?_
  · show A.depth + 1 < recursionLimit
    exact hroom
  · have old : ∀ b o, hp.get? b = some o → h'.get? b = some o := fun b o e => k' b o (Nat.ne_of_lt (Nat.lt_succ_of_lt (Heap.lt_size e))) (kq b o e)
    exact ⟨rfl, hq h' tk' (hp.objs.size + 1) t1 old (Nat.le_succ _) hx⟩
end
end ErrX
end PySem
namespace DL
open PySem L2 PySem.ErrX
theorem exH_ok {Pg : Program} {w : World} {H : Hp} {h : Heap} {a : Addr} {cls : Value} {d : Option Addr} {oe : Obj} {fv : Array Value} (e : h.get? a = some oe) (z : Zc cls d oe) (hd : oe.data = .fields fv) : ObjOk Pg w H h a (exH cls d a) :=
  ⟨⟨oe, fv, e, z, hd⟩, ⟨oe, e⟩, fun _ _ ⟨o, v, q, r⟩ k => ⟨o, v, k o q, r⟩⟩
section
variable {X : Cx} {P : Pm} {F0 : Fz} {H0 : Hp} {W : WX} {a o : Expr} {fa : Env → Res D} {fs : Env → Res (List D)} {p pos : Pos} {C fI : Addr} {xn f : Str} {c k : Nat}
/-! ### an error made and held -/
def mkX (c : Nat) : List D → Res D
  | [x] => .ok (.exc c [x])
  | _ => .bad
theorem pd_mkX (T : ErrTxt X.prog X.K X.mg xn f C fI) (hc : P.xc c = .ref C) (hf : P.xf c = f) (hfo : FldOk f) (hr : Room k X.A) (ha : PA X [a] (tL P F0 H0 W fs)) (hg : Gl X xn) (hdb : (xn == ("__debug__" : Str)) = false)
    (he : starEach (a :: []) X.env = (false, eval a X.env) :: starEach [] X.env := by rfl) (hpl : (backTo pos (starEach [] X.env)).any (·.1) = false := by rfl) :
    PE X (.Call (.Name xn p) [a] [] pos) (tE P F0 H0 W (fun ρ => do let xs ← fs ρ; mkX c xs)) := by
  refine ⟨fun pins s σ H Q I h => ?_⟩
  obtain ⟨F, ρ, er, z⟩ := h
  refine wpAny_Call_Name_kw (ld_glob I hg T.gC ?_ hdb)
  refine PySem.W.callWith_K (h₀ := X.base) I.ok.mod.kin T.kC (thn (ha.run pos pins s σ H (fun vs H1 => ∃ v, vs = [v] ∧ ∃ F1 d, Grow P F H F1 H1 ∧ Is P F1 d v ∧ PostG P W (rIs P) (.ok (.exc c [d])) F1 σ H1 Q) I ⟨F, ρ, er, (PostG.bind (rel := rLs P) z).imp ?_⟩) fun us s1 hh => ?_) he hpl
  · rintro vs H1 ⟨F1, ds, g, i, q⟩
    unfold mkX at q
    split at q
    · obtain ⟨v, r, rfl, iv, ir⟩ := IsL.uncons i
      obtain rfl := IsL.unnil ir
      exact ⟨v, rfl, F1, _, g, iv, q⟩
    · exact q.elim
  obtain ⟨vs, H1, I1, r1, v, ev, F1, dd, g1, i1, q1⟩ := hh
  subst ev
  refine ⟨I1.kIn, ?_⟩
  cases r1 with
  | cons rv rn =>
    rename_i v' us'
    cases rn
    show wpAny _ _ (call (.ref C) [v']) _ _ _
    have hlim := I1.nolimit
    obtain ⟨mb, hmb1, hmb2⟩ := I1.ok.mod.blt
    have G1 := I1.ok.mod.glob.keeps I1.bk
    have G2 := hmb1.keeps I1.bk
    obtain ⟨hp, g, dr, tk, os⟩ := s1
    refine wpAny_call (err_made T hfo I1.kIn G1 G2 ((hmb2 "super" (by decide)).trans (by decide +kernel)) hlim (by have := hr.dp; omega) fun h' tk' e d M => ?_)
    obtain ⟨oe, fv, hoe, hcl, hd, hdat, h1⟩ := M.obj
    obtain ⟨G', g1', g2⟩ := restrict h' fun b => decide (b ≠ e)
    have gk : ∀ b, b ≠ e → G'.get? b = h'.get? b := fun b hb => g1' b (decide_eq_true hb)
    have ge : G'.get? e = none := g2 e (by simp)
    have old : ∀ b o, hp.get? b = some o → G'.get? b = some o := fun b o q => (gk b (Nat.ne_of_lt (Nat.lt_of_lt_of_le (Heap.lt_size q) M.new))).trans (M.keep b o q)
    have ob : ObjOk X.prog X.w (upd H1 d (.xd [(f, v)])) G' d (.xd [(f, v)]) := ⟨_, M.ns.at (fun o q => (gk d M.dne).trans q), fun y => relO_one rv y⟩
    have J : Inv X pins σ (upd H1 d (.xd [(f, v)])) ⟨G', g, dr, tk', os⟩ := I1.laid (t' := tk') old M.dbig ob
    have hdn : H1 d = none := I1.hok.fresh M.dbig
    have hen : (upd H1 d (.xd [(f, v)])) e = none := by
      rw [upd_ne (Ne.symm M.dne)]
      exact I1.hok.fresh M.new
    have J2 := J.laidN (t' := tk') (h' := h') (a := e) (o := exH (P.xc c) (some d) e) (fun b o q => by
      by_cases hb : b = e
      · have q' : G'.get? b = some o := q
        rw [hb, ge] at q'
        cases q'
      · exact (gk b hb).symm.trans q) ge hen (exH_ok hoe ⟨hcl.trans hc.symm, hd⟩ hdat)
    have gr1 : Grow P F1 H1 (upd F1 d (.xd [(f, v)])) (upd H1 d (.xd [(f, v)])) := .new g1.s hdn
    have gr2 := Grow.new (o := exH (P.xc c) (some d) e) gr1.s hen
    refine ⟨.ref e, _, J2, rfl, q1 (.ref e) _ _ (gr1.trans gr2) ?_⟩
    show Is P _ (.exc c [dd]) (.ref e)
    rw [Is]
    have i2 : Is P (upd (upd F1 d (.xd [(f, v)])) e (exH (P.xc c) (some d) e)) dd v := Is.mono (gr1.f.trans gr2.f) dd i1
    refine ⟨e, some d, [v], rfl, upd_same, ?_, .cons i2 .nil⟩
    show _ = some (HO.xd [(P.xf c, v)])
    rw [hf, upd_ne M.dne, upd_same]
theorem pd_mkX0 (T : ErrTxt0 X.prog X.K X.mg xn C fI) (hc : P.xc c = .ref C) (hr : Room k X.A) (hg : Gl X xn) (hdb : (xn == ("__debug__" : Str)) = false) :
    PE X (.Call (.Name xn p) [] [] pos) (tE P F0 H0 W (fun ρ => .ok (.exc c []))) := by
  refine ⟨fun pins s σ H Q I h => ?_⟩
  obtain ⟨F, ρ, er, z⟩ := h
  refine wpAny_Call_Name_kw (ld_glob I hg T.gC ?_ hdb)
  refine PySem.W.callWith_K0 I.kIn T.kC ?_
  show wpAny _ _ (call (.ref C) []) _ _ _
  have hlim := I.nolimit
  obtain ⟨mb, hmb1, hmb2⟩ := I.ok.mod.blt
  have G1 := I.ok.mod.glob.keeps I.bk
  have G2 := hmb1.keeps I.bk
  obtain ⟨hp, g, dr, tk, os⟩ := s
  refine wpAny_call (err_made0 T I.kIn G1 G2 ((hmb2 "super" (by decide)).trans (by decide +kernel)) hlim (by have := hr.dp; omega) fun h' tk' e t1 old hn hx => ?_)
  have ob : ObjOk X.prog X.w (upd H e (exH (P.xc c) none e)) h' e (exH (P.xc c) none e) := exH_ok hx ⟨hc.symm, rfl⟩ rfl
  have J : Inv X pins σ (upd H e (exH (P.xc c) none e)) ⟨h', g, dr, tk', os⟩ := I.laid (t' := tk') old hn ob
  have hen : H e = none := I.hok.fresh hn
  have gr := Grow.new (o := exH (P.xc c) none e) er.s hen
  refine ⟨.ref e, _, J, rfl, z (.ref e) _ _ gr ?_⟩
  show Is P _ (.exc c []) (.ref e)
  rw [Is]
  exact ⟨e, none, [], rfl, upd_same, True.intro, .nil⟩
/-! ### e.f -/
def fldX (c : Nat) : D → Res D
  | .exc c' [x] => if c' = c then .ok x else .bad
  | _ => .bad
theorem pd_fldX (T : ErrTxt X.prog X.K X.mg xn f C fI) (hc : P.xc c = .ref C) (hf : P.xf c = f) (ho : PE X o (tE P F0 H0 W fa)) (hb : attributeBase o f X.env (eval o X.env) = eval o X.env := by rfl) :
    PE X (.Attribute o f pos) (tE P F0 H0 W (fM (fldX c) fa)) := by
  refine ⟨fun pins s σ H Q I h => ?_⟩
  obtain ⟨F, ρ, er, z⟩ := h
  refine attr_of hb (thn (ho.run pins s σ H (fun v H1 => ∃ F1 d, Grow P F H F1 H1 ∧ Is P F1 d v ∧ PostG P W (rIs P) (fldX c d) F1 σ H1 Q) I ⟨F, ρ, er, PostG.bind (rel := rIs P) z⟩) fun u s1 hh => ?_)
  obtain ⟨x, H1, I1, rx, F1, d, g1, i1, q1⟩ := hh
  unfold fldX at q1
  split at q1
  · rename_i c' y
    split at q1
    · rename_i hcc
      subst hcc
      rw [Is] at i1
      obtain ⟨a, dx, vs, rfl, h1, h2, h3⟩ := i1
      obtain ⟨v, r, rfl, iv, ir⟩ := IsL.uncons h3
      obtain rfl := IsL.unnil ir
      cases dx with
      | none => exact h2.elim
      | some dd =>
        obtain rfl : u = Value.ref a := rx
        have h2 : F1 dd = some (.xd [(P.xf c', v)]) := h2
        rw [hf] at h2
        obtain ⟨⟨oe, fv, ha, hz, hdat⟩, _⟩ := (I1.hok a _ (g1.s.ex _ _ h1) : ObjOk X.prog X.w H1 s1.heap a (exH (P.xc c') (some dd) a))
        obtain ⟨mA, hns, hr⟩ := (I1.hok dd _ (g1.s.ex _ _ h2) : ObjOk X.prog X.w H1 s1.heap dd (.xd [(f, v)]))
        obtain ⟨od, hod, hl⟩ := lookIn_ns hns
        obtain ⟨u, hu, ru⟩ := RelO.some_of (v := v) (o := mA f) (by rw [← (show List.lookup f [(f, v)] = some v by simp [List.lookup])]; exact hr f)
        have J : PySem.W.InstAt s1.heap a oe C (some od) := ⟨ha, hz.1.trans hc, by unfold PySem.W.notCls; rw [hdat] <;> rfl, by rw [hz.2]; exact hod⟩
        exact HandSPX.exc_get I1.kIn J T.ga T.gg T.exC (PySem.W.findObj_own T.hdC T.noN rfl (by rw [hl, hu])) (handed_of ru) ⟨v, H1, I1.tok _, ru, q1.here g1.s iv⟩
    · exact q1.elim
  · exact q1.elim
/-! ### isinstance(e, T) -/
/-- what the class at D must say -/
structure XcC (K : PySem.W.Frag) (D : Addr) : Prop where
  cl : (PySem.W.clsIn K D).isSome = true
  hg : PySem.W.findIn K (.ref D) "__getattribute__" = some (some (.builtin "BaseException.__getattribute__"))
  hk : PySem.W.findIn K (.ref D) "__getattr__" = some none
  hs : PySem.W.subIn K (.ref D) (.type "BaseException") = some true
  ha : PySem.W.findIn K (.ref D) "__class__" = some (some (.builtin "object.__class__"))
  hn : PySem.W.specialIn K (.builtin "object.__class__") "__get__" = some (some (.builtin "getset_descriptor.__get__"))
  ht : PySem.W.takesIn K (.builtin "object.__class__") = some true
  hm : PySem.W.mroIn K D (.type "object") = some true
def isiX (kb : Nat → Option Bool) : D → Res D
  | .exc c _ => match kb c with
    | some b => .ok (.bl b)
    | none => .bad
  | _ => .bad
def rIsX (K : PySem.W.Frag) : List V → Hp → VK → Prop := fun xs H Q => ∃ (a : Addr) (c tv : V) (D : Addr) (d : Option Addr) (u : Value) (b : Bool), xs = [.ref a, tv] ∧ ClsV tv u ∧ XcC K D ∧ H a = some (exH (.ref D) d a) ∧ (∀ p, d = some p → ∃ fs, H p = some (.xd fs)) ∧ PySem.W.kitOne K (.ref D) u = some b ∧ Q (.bl b) H
theorem call_isX : CallR X (.builtin "isinstance") (rIsX X.K) := by
  intro pins s σ H xs us Q I r h
  obtain ⟨a, _, tv, D, d, u, b, rfl, hcl, C, ha, hd, e, q⟩ := h
  obtain ⟨u1, u2, rfl, r1, r2⟩ := vals2 r
  obtain rfl : u1 = Value.ref a := r1
  have ec := hcl.eq r2
  subst ec
  obtain ⟨⟨oe, fv, hget, hz, hdat⟩, _⟩ := (I.hok a _ ha : ObjOk X.prog X.w H s.heap a (exH (.ref D) d a))
  have J : ∃ od, PySem.W.InstAt s.heap a oe D od := by
    cases d with
    | none => exact ⟨none, hget, hz.1, by unfold PySem.W.notCls; rw [hdat] <;> rfl, by rw [hz.2]; trivial⟩
    | some p =>
      obtain ⟨fs, hp⟩ := hd p rfl
      obtain ⟨mA, hns, _⟩ := (I.hok p _ hp : ObjOk X.prog X.w H s.heap p (.xd fs))
      obtain ⟨od, hod, _⟩ := lookIn_ns hns
      exact ⟨some od, hget, hz.1, by unfold PySem.W.notCls; rw [hdat] <;> rfl, by rw [hz.2]; exact hod⟩
  obtain ⟨od, J⟩ := J
  exact PySem.W.kia_one (PySem.W.kitx_exc C.cl C.hg C.hk C.hs C.ha C.hn C.ht C.hm) I.kIn J e (fun z => nomatch z) fun tk => ⟨.bl b, H, I.kept (t' := tk) fun _ _ z => z, rfl, q⟩
theorem pd_isiX {x2 : Str} {tv : V} {u : Value} {kb : Nat → Option Bool} {p1 p2 : Pos} (hX : ∀ c b, kb c = some b → ∃ D, P.xc c = .ref D ∧ XcC X.K D ∧ PySem.W.kitOne X.K (.ref D) u = some b) (hcl : ClsV tv u) (ht : PE X (.Name x2 p2) (tC tv)) (ha : PE X a (tE P F0 H0 W fa)) (hg : Gl X "isinstance") (hm : X.mg "isinstance" = none)
    (h1 : starEach [a, .Name x2 p2] X.env = (false, eval a X.env) :: starEach [.Name x2 p2] X.env := by rfl) (h2 : (backTo pos (starEach [.Name x2 p2] X.env)).any (·.1) = false := by rfl) (h3 : starEach [.Name x2 p2] X.env = (false, eval (.Name x2 p2) X.env) :: starEach [] X.env := by rfl) :
    PE X (.Call (.Name "isinstance" p1) [a, .Name x2 p2] [] pos) (tE P F0 H0 W (fM (isiX kb) fa)) :=
  (pe_callB call_isX hg hm (by decide +kernel) (pa_cons ha (pa_cons ht pa_nil h3) h1) (by decide) (by decide) h1 h2).imp fun σ H Q ⟨F, ρ, er, z⟩ => by
  refine ⟨F, ρ, er, (PostG.bind (rel := rIs P) z).imp ?_⟩
  rintro v H1 ⟨F1, d, g, i, q⟩
  unfold isiX at q
  split at q
  · rename_i c ys
    cases hb : kb c with
    | none =>
      rw [hb] at q
      exact q.elim
    | some b =>
      rw [hb] at q
      obtain ⟨D, e1, e2, e3⟩ := hX c b hb
      have i : Is P F1 (.exc c ys) v := i
      rw [Is] at i
      obtain ⟨a, dx, vs, rfl, h1, h2, h3⟩ := i
      rw [e1] at h1
      refine ⟨a, tv, tv, D, dx, u, b, rfl, hcl, e2, g.s.ex _ _ h1, fun p hp => ?_, e3, q.here g.s is_bl⟩
      subst hp
      unfold xdAt at h2
      split at h2
      · rename_i z
        cases z
      · rename_i p' v' z
        cases z
        exact ⟨_, g.s.ex _ _ h2⟩
      · exact h2.elim
  · exact q.elim
end
end DL
namespace DL
open PySem L2 PySem.ErrX
section
variable {X : Cx} {P : Pm} {F0 : Fz} {H0 : Hp} {W : WX} {a e o : Expr} {fa fb : Env → Res D} {p pos apos : Pos}
/-! ### x.extend(a new list) -/
def extD (i : Nat) (ρ : Env) (d : D) : RS := match ρ[i]?, d with
  | some (some (.ow (.lst xs))), .lst ys => if small (xs.length + ys.length) = true then .nx (ρ.set i (some (.ow (.lst (xs ++ ys))))) else .bad
  | _, _ => .bad
theorem sd_ext (i : Nat) {x : Str} {p1 apos cpos : Pos} (he : PE X e (tN P F0 H0 W fa)) (hN : X.N[i]? = some x := by rfl) (hv : Vis X.env.scope x := by first | exact Or.inl rfl | exact Or.inr (Or.inl rfl) | exact Or.inr (Or.inr rfl)) (hd : (x == ("__debug__" : Str)) = false := by decide)
    (hcd : (x == ("__classdict__" : Str)) = false := by decide)
    (hbase : attributeBase (.Name x p1) "extend" X.env (eval (.Name x p1) X.env) = eval (.Name x p1) X.env := by rfl)
    (hfew : ((backTo cpos (starEach [e] X.env)).all (fun x => !x.1) && (backToKw cpos (keywordEach [] X.env)).all (fun x => x.1.isSome)
      && decide (([e] : List Expr).length + ([] : List Keyword).length + (if ([] : List Keyword).isEmpty then 0 else 1) < 30)) = true := by rfl)
    (hline : (apos.endLine == cpos.line) = true := by rfl) (hs1 : starEach [e] X.env = (false, eval e X.env) :: starEach [] X.env := by rfl) (hplain : (backTo cpos (starEach [] X.env)).any (·.1) = false := by rfl)
    (hs : swapsWith (.Call (.Attribute (.Name x p1) "extend" apos) [e] [] cpos) none pos.line X.env = pure false := by rfl) :
    PS X (.Expr (.Call (.Attribute (.Name x p1) "extend" apos) [e] [] cpos) pos) (tS P F0 H0 W (fun ρ => bindS (isOw i ρ) ρ fun _ => bindS (fa ρ) ρ fun d => extD i ρ d)) :=
  (ps_expr (pe_bm PySem.F.plainAttrs_list PySem.F.slot_list_extend PySem.F.type_list_extend mt_extend (pe_var hN hv hd hcd) (pa_cons he pa_nil hs1) hbase hfew hline hs1 hplain) hs).imp fun N σ H ⟨F, ρ, er, z⟩ => by
  have z' : PostS P F0 H0 W F (bindS (isOw i ρ) ρ fun _ => bindS (fa ρ) ρ fun d => extD i ρ d) N := z
  rcases isOw_cases i ρ with hb | ⟨xs, hb, q⟩
  · rw [hb] at z'
    exact z'.elim
  · rw [hb] at z'
    replace z' : PostS P F0 H0 W F (bindS (fa ρ) ρ fun d => extD i ρ d) N := z'
    obtain ⟨a, h1, h2, h3, vs, h4, h5⟩ := er.ow i _ q
    refine ⟨.ref a, h1, .inl ⟨rfl, vs, SqL.of h4⟩, ?_⟩
    refine ⟨F, ρ, er, (PostS.bind (rel := rNw P H) er z').imp ?_⟩
    rintro v H1 ⟨F1, d, g, ⟨b, rfl, b1, b2, b3⟩, z1⟩
    cases d with
    | lst ys =>
      have ea : extD i ρ (.lst ys) = if small (xs.length + ys.length) = true then .nx (ρ.set i (some (.ow (.lst (xs ++ ys))))) else .bad := by
        unfold extD
        rw [q]
      rw [ea] at z1
      obtain ⟨ws, w1, w2⟩ := b3
      by_cases hz : small (xs.length + ys.length) = true
      · rw [if_pos hz] at z1
        refine ⟨a, b, vs, ws, rfl, rfl, g.h.dat h4, w1, by
          have := small_lt hz
          rw [h5.length, w2.length] at this
          omega, ?_⟩
        refine z1 σ F1 _ ((er.grow g).mut q h1 ⟨vs ++ ws, upd_same, ?_⟩) (.refl F1)
        exact (h5.mono g.f xs).append w2
      · rw [if_neg hz] at z1
        exact z1.elim
    | _ =>
      unfold extD at z1
      rw [q] at z1
      exact z1.elim
/-! ### x.count(b), x a list of truths -/
def eqb (k : Bool) (v : Value) : Bool := match v with
  | .bool n => n == k
  | _ => false
theorem bools_of : ∀ {us : List Value} {bs : List Bool}, Vals (bs.map V.bl) us → us = bs.map Value.bool
  | _, [], h => by cases h; rfl
  | _, b :: bs, h => by
    cases h with
    | cons r t =>
      have e : _ = Value.bool b := r
      rw [e, bools_of t]
      rfl
theorem eqb_count {k : Bool} : ∀ (bs : List Bool), (bs.map Value.bool).countP (eqb k) = bs.count k
  | [] => rfl
  | b :: bs => by
    have ih := eqb_count (k := k) bs
    rw [List.map_cons, List.countP_cons, List.count_cons, ih]
    rfl
def rCntB (K : PySem.W.Frag) : V → List V → Hp → VK → Prop := fun x xs H Q => ∃ (p : Addr) (bs : List Bool) (k : Bool), x = .ref p ∧ xs = [.bl k] ∧ SqL K H p (bs.map V.bl) ∧ Q (.int (bs.count k : Nat)) H
theorem mt_bcount (hu : X.A.units + 8 < cLine) : MtR X "list.count" (rCntB X.K) := by
  intro pins s σ H x xs v us Q I rx rxs h
  obtain ⟨p, bs, k, rfl, rfl, hs, q⟩ := h
  cases rx
  obtain ⟨u, rfl, ru⟩ := rxs.one
  obtain rfl : u = Value.bool k := ru
  obtain ⟨its, rv, ⟨⟨cls, dd, data, sl⟩, n, ho, hc, hdn, hd⟩, hlen⟩ := I.list hs
  simp only at hc hd
  subst hc hd
  have hi := bools_of rv
  refine call_meets PySem.F.slot_list_count ⟨_, ho, rfl⟩ PySem.F.entry_list_count (PySem.F.args_list_count_2 _ _)
    (SeqAt.list_countAt p its.toArray n dd sl (.bool k) (eqb k)) ⟨ho, fun y hy => ?_, ?_⟩
  · have hy' : y ∈ its := by simpa using hy
    rw [hi] at hy'
    obtain ⟨b, _, rfl⟩ := List.mem_map.mp hy'
    have e := SeqAt.eqAt_reads (.bool b) (.bool k) X.A.in1 s (.bool b) (.bool k) [] [] (.bool _) (.bool _) rfl rfl (by
      show X.A.units + 1 + 0 < cLine
      omega)
    exact e
  have ec : its.toArray.toList.countP (eqb k) = bs.count k := by
    rw [List.toList_toArray, hi]
    exact eqb_count bs
  refine ⟨.int (bs.count k : Nat), H, I.tok _, ⟨s.toks, ?_⟩, q⟩
  show Value.int ((its.toArray.toList.countP (eqb k) : Nat) : Int) s.toks = Value.int ((bs.count k : Nat) : Int) s.toks
  rw [ec]
def isLs : D → Res Unit
  | .lst _ => .ok ()
  | _ => .bad
def cntB (x y : D) : Option D := match x, y with
  | .lst ds, .bl b => (bls ds).map fun bs => .int (bs.count b : Nat)
  | _, _ => none
theorem pd_cntB (hu : X.A.units + 8 < cLine) (ho : PE X o (tV P F0 H0 W fa)) (he : PE X e (tE P F0 H0 W fb))
    (hbase : attributeBase o "count" X.env (eval o X.env) = eval o X.env := by rfl)
    (hfew : ((backTo pos (starEach [e] X.env)).all (fun x => !x.1) && (backToKw pos (keywordEach [] X.env)).all (fun x => x.1.isSome)
      && decide (([e] : List Expr).length + ([] : List Keyword).length + (if ([] : List Keyword).isEmpty then 0 else 1) < 30)) = true := by rfl)
    (hline : (apos.endLine == pos.line) = true := by rfl) (hs1 : starEach [e] X.env = (false, eval e X.env) :: starEach [] X.env := by rfl) (hplain : (backTo pos (starEach [] X.env)).any (·.1) = false := by rfl) :
    PE X (.Call (.Attribute o "count" apos) [e] [] pos) (tE P F0 H0 W (fun ρ => do let x ← fa ρ; let _ ← isLs x; let y ← fb ρ; opt (cntB x y))) :=
  (pe_bm PySem.F.plainAttrs_list PySem.F.slot_list_count PySem.F.type_list_count (mt_bcount hu) ho (pa_cons he pa_nil hs1) hbase hfew hline hs1 hplain).imp fun σ H Q ⟨F, ρ, er, z⟩ => by
  refine ⟨F, ρ, er, (PostG.bind (rel := rVw P) z).imp ?_⟩
  rintro x H1 ⟨F1, d, g1, i1, z1⟩
  cases d with
  | lst ds =>
    obtain ⟨l, vs, rfl, h1, h2⟩ := i1
    have z2 : PostG P W (rIs P) (fb ρ >>= fun y => opt (cntB (.lst ds) y)) F1 σ H1 Q := z1
    refine ⟨.inl ⟨rfl, vs, .inl h1⟩, F1, ρ, er.grow g1, (PostG.bind (rel := rIs P) z2).imp ?_⟩
    rintro y H2 ⟨F2, dy, g2, i2, z3⟩
    obtain ⟨d', hd, q'⟩ := opt_of z3
    cases dy with
    | bl b =>
      replace hd : ((bls ds).map fun bs => D.int (bs.count b : Nat)) = some d' := hd
      cases hb : bls ds with
      | none => rw [hb] at hd; cases hd
      | some bs =>
        rw [hb] at hd
        cases hd
        have e3 : y = .bl b := by
          have i2 : Is P F2 (.bl b) y := i2
          rw [Is] at i2
          exact i2
        subst e3
        have e4 := bls_of hb h2
        subst e4
        exact ⟨l, bs, b, rfl, rfl, .inl (g2.h.rd h1), Out.int q' g2.s⟩
    | _ => cases hd
  | _ => exact z1.elim
end
end DL
namespace DL
open PySem L2
@[simp] abbrev fMkX (c : Nat) (fs : Env → Res (List D)) : Env → Res D := fun ρ => do let xs ← fs ρ; mkX c xs
@[simp] abbrev sExt (i : Nat) (a : Env → Res D) : Env → RS := fun ρ => bindS (isOw i ρ) ρ fun _ => bindS (a ρ) ρ fun d => extD i ρ d
@[simp] abbrev fCnt (a b : Env → Res D) : Env → Res D := fun ρ => do let x ← a ρ; let _ ← isLs x; let y ← b ρ; opt (cntB x y)
def kbN (m n : Nat) : Nat → Option Bool := fun c => if c < m then some (c == n) else none
def kbT (m : Nat) : Nat → Option Bool := fun c => if c < m then some true else none
def cStrI : List D → Option D
  | [.int i] => if i.natAbs.log2 < 1920 then some (.str (toString i)) else none
  | _ => none
section
variable {X : Cx} {P : Pm}
theorem ic_strI : CallR X (.type "str") (rcO P cStrI) := fun pins s σ H xs us Q I rx ⟨F, ds, d, e, i, hd, q⟩ => by
  unfold cStrI at hd
  split at hd
  · rename_i z
    split at hd
    · rename_i hl
      cases hd
      obtain ⟨v, r, rfl, iv, ir⟩ := i.uncons
      obtain rfl := ir.unnil
      exact call_str_int pins s σ H _ us Q I rx ⟨_, by rw [show v = V.int _ from iv], hl, q.str e⟩
    · cases hd
  · cases hd
end
end DL
namespace DL.K01
open PySem L2
def g__law_flags : Env → RS := (sSeq (sSetO 1 (fLst (lCons (fM (isiX (kbN 22 0)) (look 0)) (lCons (fM (isiX (kbN 22 1)) (look 0)) (lCons (fM (isiX (kbN 22 2)) (look 0)) (lCons (fM (isiX (kbN 22 3)) (look 0)) lNil))))))
  (sSeq (sExt 1 (fLst (lCons (fM (isiX (kbN 22 4)) (look 0)) (lCons (fM (isiX (kbN 22 5)) (look 0)) (lCons (fM (isiX (kbN 22 6)) (look 0)) (lCons (fM (isiX (kbN 22 7)) (look 0)) lNil))))))
  (sSeq (sExt 1 (fLst (lCons (fM (isiX (kbN 22 8)) (look 0)) (lCons (fM (isiX (kbN 22 9)) (look 0)) (lCons (fM (isiX (kbN 22 10)) (look 0)) (lCons (fM (isiX (kbN 22 11)) (look 0)) lNil))))))
  (sSeq (sExt 1 (fLst (lCons (fM (isiX (kbN 22 12)) (look 0)) (lCons (fM (isiX (kbN 22 13)) (look 0)) (lCons (fM (isiX (kbN 22 14)) (look 0)) (lCons (fM (isiX (kbN 22 15)) (look 0)) lNil))))))
  (sSeq (sExt 1 (fLst (lCons (fM (isiX (kbN 22 16)) (look 0)) (lCons (fM (isiX (kbN 22 17)) (look 0)) (lCons (fM (isiX (kbN 22 18)) (look 0)) lNil)))))
  (sRet (fOp addA (peek 1) (fLst (lCons (fM (isiX (kbN 22 19)) (look 0)) (lCons (fM (isiX (kbN 22 20)) (look 0)) (lCons (fM (isiX (kbN 22 21)) (look 0)) lNil)))))))))))
def G__law_flags : List D → Res D := runB g__law_flags 2
def g__law_alone : Env → RS := (sSeq (sSet 2 (fCall 1 G__law_flags (lCons (look 0) lNil)))
  (sRet (vAnd (fM (isiX (kbT 22)) (look 0)) (vAnd (fM (isiX (kbT 22)) (look 0)) (vAnd (fOp eqD (fCnt (peek 2) (fK (.bl true))) (fK (.int 1))) (fOp itemD (peek 2) (peek 1)))))))
def G__law_alone : List D → Res D := runB g__law_alone 3
def g__law_cell : Env → RS := (sSeq (sIf (tB' (fOp dLt (peek 1) (fB cLenS (lCons (peek 0) lNil))))
  (sRet (fOp itemS (peek 0) (peek 1)))
  .nx)
  (sRet (fK (.int 0))))
def G__law_cell : List D → Res D := runB g__law_cell 2
def g__law_held : Env → RS := (sSeq (sSet 1 (fLst (lCons (fM (fldX 1) (fMkX 1 (lCons (look 0) lNil))) (lCons (fM (fldX 2) (fMkX 2 (lCons (look 0) lNil))) (lCons (fM (fldX 3) (fMkX 3 (lCons (look 0) lNil))) (lCons (fM (fldX 4) (fMkX 4 (lCons (look 0) lNil))) (lCons (fM (fldX 5) (fMkX 5 (lCons (look 0) lNil))) lNil)))))))
  (sSeq (sSet 1 (fOp addA (peek 1) (fLst (lCons (fM (fldX 6) (fMkX 6 (lCons (look 0) lNil))) (lCons (fM (fldX 7) (fMkX 7 (lCons (look 0) lNil))) (lCons (fM (fldX 9) (fMkX 9 (lCons (look 0) lNil))) (lCons (fM (fldX 10) (fMkX 10 (lCons (look 0) lNil))) (lCons (fM (fldX 11) (fMkX 11 (lCons (look 0) lNil))) lNil))))))))
  (sSeq (sSet 1 (fOp addA (peek 1) (fLst (lCons (fM (fldX 12) (fMkX 12 (lCons (look 0) lNil))) (lCons (fM (fldX 13) (fMkX 13 (lCons (look 0) lNil))) (lCons (fM (fldX 14) (fMkX 14 (lCons (look 0) lNil))) (lCons (fM (fldX 15) (fMkX 15 (lCons (look 0) lNil))) (lCons (fM (fldX 17) (fMkX 17 (lCons (look 0) lNil))) lNil))))))))
  (sRet (fOp addA (peek 1) (fLst (lCons (fM (fldX 21) (fMkX 21 (lCons (look 0) lNil))) lNil)))))))
def G__law_held : List D → Res D := runB g__law_held 2
def g__law_valued : Env → RS := (sSeq (sSet 1 (fLst (lCons (fTup (lCons (fMkX 1 (lCons (look 0) lNil)) (lCons (fK (.int 1)) lNil))) (lCons (fTup (lCons (fMkX 2 (lCons (look 0) lNil)) (lCons (fK (.int 2)) lNil))) (lCons (fTup (lCons (fMkX 3 (lCons (look 0) lNil)) (lCons (fK (.int 3)) lNil))) (lCons (fTup (lCons (fMkX 4 (lCons (look 0) lNil)) (lCons (fK (.int 4)) lNil))) (lCons (fTup (lCons (fMkX 5 (lCons (look 0) lNil)) (lCons (fK (.int 5)) lNil))) (lCons (fTup (lCons (fMkX 6 (lCons (look 0) lNil)) (lCons (fK (.int 6)) lNil))) lNil))))))))
  (sSeq (sSet 1 (fOp addA (peek 1) (fLst (lCons (fTup (lCons (fMkX 7 (lCons (look 0) lNil)) (lCons (fK (.int 7)) lNil))) (lCons (fTup (lCons (fMkX 9 (lCons (look 0) lNil)) (lCons (fK (.int 9)) lNil))) (lCons (fTup (lCons (fMkX 10 (lCons (look 0) lNil)) (lCons (fK (.int 10)) lNil))) (lCons (fTup (lCons (fMkX 11 (lCons (look 0) lNil)) (lCons (fK (.int 11)) lNil))) (lCons (fTup (lCons (fMkX 12 (lCons (look 0) lNil)) (lCons (fK (.int 12)) lNil))) lNil))))))))
  (sRet (fOp addA (peek 1) (fLst (lCons (fTup (lCons (fMkX 13 (lCons (look 0) lNil)) (lCons (fK (.int 13)) lNil))) (lCons (fTup (lCons (fMkX 14 (lCons (look 0) lNil)) (lCons (fK (.int 14)) lNil))) (lCons (fTup (lCons (fMkX 15 (lCons (look 0) lNil)) (lCons (fK (.int 15)) lNil))) (lCons (fTup (lCons (fMkX 17 (lCons (look 0) lNil)) (lCons (fK (.int 17)) lNil))) (lCons (fTup (lCons (fMkX 21 (lCons (look 0) lNil)) (lCons (fK (.int 21)) lNil))) lNil))))))))))
def G__law_valued : List D → Res D := runB g__law_valued 2
def fr_law_0 : Env → RS := (sFor (iSq (fLst (lCons (fTup (lCons (fK (.int 0)) (lCons (fK (.exc 0 [])) lNil))) (lCons (fTup (lCons (fK (.int 8)) (lCons (fK (.exc 8 [])) lNil))) (lCons (fTup (lCons (fK (.int 16)) (lCons (fK (.exc 16 [])) lNil))) (lCons (fTup (lCons (fK (.int 18)) (lCons (fK (.exc 18 [])) lNil))) (lCons (fTup (lCons (fK (.int 19)) (lCons (fK (.exc 19 [])) lNil))) lNil))))))) (hTup fun ds ρ => if ds.length = 2 then (hCons (hName 1) (hCons (hName 2) hNil)) ds ρ else none)
  (sIf (tNot' (tB' (fCall 2 G__law_alone (lCons (look 2) (lCons (look 1) lNil)))))
  (sRet (fK (.bl false)))
  .nx))
def lc_law_1 : Env → Res D := (fLc (iSq (fCall 1 G__law_valued (lCons (look 5) lNil))) (hTup fun ds ρ => if ds.length = 2 then (hCons (hName 2) (hCons (hName 1) hNil)) ds ρ else none) tYes' (fCall 2 G__law_alone (lCons (look 2) (lCons (look 1) lNil))) [2, 1])
def fr_law_2 : Env → RS := (sFor (iSq (fTup (lCons (look 4) (lCons (fB cStrI (lCons (peek 4) lNil)) (lCons (fLst (lCons (look 4) (lCons (look 3) lNil))) (lCons (fTup (lCons (look 3) (lCons (fB cStrI (lCons (peek 4) lNil)) lNil))) lNil)))))) (hName 5)
  (sIf (tOr' (tNot' (tB' (fB cAll (lCons lc_law_1 lNil)))) (tB' (fOp neD (fCall 1 G__law_held (lCons (look 5) lNil)) (fOp repD (fLst (lCons (look 5) lNil)) (fK (.int 16))))))
  (sRet (fK (.bl false)))
  .nx))
def fr_law_3 : Env → RS := (sFor (iR1 (lCons (fK (.int 3)) lNil)) (hName 3)
  (sSeq (sSet 4 (fOp dSub (fOp (int2 modC) (fB cInt2 (lCons (fCall 2 G__law_cell (lCons (look 0) (lCons (look 3) lNil))) lNil)) (fOp (int2 powC) (fK (.int 10)) (fK (.int 30)))) (fK (.int 5))))
  fr_law_2))
def g_law : Env → RS := (sSeq fr_law_0
  (sSeq (sIf (tNot' (tB' (fCall 2 G__law_alone (lCons (fK (.exc 20 [])) (lCons (fK (.int 20)) lNil)))))
  (sRet (fK (.bl false)))
  .nx)
  (sSeq fr_law_3
  (sRet (fK (.bl true))))))
def G_law : List D → Res D := runB g_law 6
end DL.K01
namespace DL.K01
open PySem L2 PySem.ErrX
def xfv : Nat → Str
  | 1 => "index"
  | 2 => "name"
  | 3 => "number"
  | 4 => "index"
  | 5 => "text"
  | 6 => "name"
  | 7 => "kind"
  | 9 => "many"
  | 10 => "modulus"
  | 11 => "place"
  | 12 => "number"
  | 13 => "name"
  | 14 => "term"
  | 15 => "text"
  | 17 => "kind"
  | 21 => "count"
  | _ => ""
abbrev pm (K : PySem.W.Frag) (E : Nat → Addr) (TT : List (Addr × Str)) : Pm := ⟨fun _ => 0, fun _ => [], fun c => .ref (E c), xfv, K, TT⟩
def top (i : Nat) : Stmt := PySem.Challenge.pw_everylist_k01_errors.main.body.getD i (.Pass ⟨0, 0, 0, 0⟩)
structure Txt (prog : Program) (K : PySem.W.Frag) (mg : Str → Option Value) (base : Heap) (E FI : Nat → Addr) (L : Addr) (TT : List (Addr × Str)) : Prop where
  e_Alike : ErrTxt0 prog K mg "Alike" (E 0) (FI 0)
  e_BadKind : ErrTxt prog K mg "BadKind" "index" (E 1) (FI 1)
  e_BadName : ErrTxt prog K mg "BadName" "name" (E 2) (FI 2)
  e_BadNumber : ErrTxt prog K mg "BadNumber" "number" (E 3) (FI 3)
  e_BadRow : ErrTxt prog K mg "BadRow" "index" (E 4) (FI 4)
  e_BadSum : ErrTxt prog K mg "BadSum" "text" (E 5) (FI 5)
  e_NameInUse : ErrTxt prog K mg "NameInUse" "name" (E 6) (FI 6)
  e_NoKind : ErrTxt prog K mg "NoKind" "kind" (E 7) (FI 7)
  e_NoLoop : ErrTxt0 prog K mg "NoLoop" (E 8) (FI 8)
  e_NoMany : ErrTxt prog K mg "NoMany" "many" (E 9) (FI 9)
  e_NoModulus : ErrTxt prog K mg "NoModulus" "modulus" (E 10) (FI 10)
  e_NoPlace : ErrTxt prog K mg "NoPlace" "place" (E 11) (FI 11)
  e_NoPrime : ErrTxt prog K mg "NoPrime" "number" (E 12) (FI 12)
  e_NoRegister : ErrTxt prog K mg "NoRegister" "name" (E 13) (FI 13)
  e_NoTerm : ErrTxt prog K mg "NoTerm" "term" (E 14) (FI 14)
  e_NoText : ErrTxt prog K mg "NoText" "text" (E 15) (FI 15)
  e_NotWhole : ErrTxt0 prog K mg "NotWhole" (E 16) (FI 16)
  e_NoWay : ErrTxt prog K mg "NoWay" "kind" (E 17) (FI 17)
  e_OtherFields : ErrTxt0 prog K mg "OtherFields" (E 18) (FI 18)
  e_UnlikeFields : ErrTxt0 prog K mg "UnlikeFields" (E 19) (FI 19)
  e_UnlikeRows : ErrTxt0 prog K mg "UnlikeRows" (E 20) (FI 20)
  e_WrongCount : ErrTxt prog K mg "WrongCount" "count" (E 21) (FI 21)
  g_ListError : mg "ListError" = some (.ref L)
  xcc : ∀ c, c < 22 → XcC K (E c)
  kit : ∀ c t, c < 22 → t < 22 → PySem.W.kitOne K (.ref (E c)) (.ref (E t)) = some (c == t)
  kitL : ∀ c, c < 22 → PySem.W.kitOne K (.ref (E c)) (.ref L) = some true
  kitV : ∀ c, c < 22 → PySem.W.kitOne K (.ref (E c)) (.type "ValueError") = some true
  b_all : mg "all" = none
  b_int : mg "int" = none
  b_isinstance : mg "isinstance" = none
  b_len : mg "len" = none
  b_range : mg "range" = none
  b_str : mg "str" = none
  b_ValueError : mg "ValueError" = none
section
variable {prog : Program} {w : World} {K : PySem.W.Frag} {mg : Str → Option Value} {base : Heap} {E FI : Nat → Addr} {L : Addr} {TT : List (Addr × Str)}
theorem Txt.kx (T : Txt prog K mg base E FI L TT) (t : Nat) (ht : t < 22) : ∀ c b, kbN 22 t c = some b → ∃ D, (pm K E TT).xc c = .ref D ∧ XcC K D ∧ PySem.W.kitOne K (.ref D) (.ref (E t)) = some b := fun c b h => by
  unfold kbN at h
  split at h
  · rename_i hc
    cases h
    exact ⟨E c, rfl, T.xcc c hc, T.kit c t hc ht⟩
  · cases h
theorem Txt.kxL (T : Txt prog K mg base E FI L TT) : ∀ c b, kbT 22 c = some b → ∃ D, (pm K E TT).xc c = .ref D ∧ XcC K D ∧ PySem.W.kitOne K (.ref D) (.ref L) = some b := fun c b h => by
  unfold kbT at h
  split at h
  · rename_i hc
    cases h
    exact ⟨E c, rfl, T.xcc c hc, T.kitL c hc⟩
  · cases h
theorem Txt.kxV (T : Txt prog K mg base E FI L TT) : ∀ c b, kbT 22 c = some b → ∃ D, (pm K E TT).xc c = .ref D ∧ XcC K D ∧ PySem.W.kitOne K (.ref D) (.type "ValueError") = some b := fun c b h => by
  unfold kbT at h
  split at h
  · rename_i hc
    cases h
    exact ⟨E c, rfl, T.xcc c hc, T.kitV c hc⟩
  · cases h
theorem Txt.fo_count (_ : Txt prog K mg base E FI L TT) : PySem.ErrX.FldOk "count" := ⟨by decide, by decide, by decide, by decide⟩
theorem Txt.fo_index (_ : Txt prog K mg base E FI L TT) : PySem.ErrX.FldOk "index" := ⟨by decide, by decide, by decide, by decide⟩
theorem Txt.fo_kind (_ : Txt prog K mg base E FI L TT) : PySem.ErrX.FldOk "kind" := ⟨by decide, by decide, by decide, by decide⟩
theorem Txt.fo_many (_ : Txt prog K mg base E FI L TT) : PySem.ErrX.FldOk "many" := ⟨by decide, by decide, by decide, by decide⟩
theorem Txt.fo_modulus (_ : Txt prog K mg base E FI L TT) : PySem.ErrX.FldOk "modulus" := ⟨by decide, by decide, by decide, by decide⟩
theorem Txt.fo_name (_ : Txt prog K mg base E FI L TT) : PySem.ErrX.FldOk "name" := ⟨by decide, by decide, by decide, by decide⟩
theorem Txt.fo_number (_ : Txt prog K mg base E FI L TT) : PySem.ErrX.FldOk "number" := ⟨by decide, by decide, by decide, by decide⟩
theorem Txt.fo_place (_ : Txt prog K mg base E FI L TT) : PySem.ErrX.FldOk "place" := ⟨by decide, by decide, by decide, by decide⟩
theorem Txt.fo_term (_ : Txt prog K mg base E FI L TT) : PySem.ErrX.FldOk "term" := ⟨by decide, by decide, by decide, by decide⟩
theorem Txt.fo_text (_ : Txt prog K mg base E FI L TT) : PySem.ErrX.FldOk "text" := ⟨by decide, by decide, by decide, by decide⟩
abbrev s__law_flags : Stmt := top 26
theorem sc__law_flags : FnScope ["_law_e", "_law_out"] ["_law_e"] (defScope s__law_flags) := ⟨rfl, rfl, rfl, by decide +kernel, rfl, by decide +kernel, by decide +kernel⟩
theorem b__law_flags (T : Txt prog K mg base E FI L TT) (f : Addr) (cdv : Value) (A : Around) (outer : List PySem.Env) (s : Shared) (H : Hp) (F0 : Hp) (e : XK) (hr : Room 0 (A.deeper (PyProof.Rows.envOfC "_law_flags" (defScope s__law_flags) s.heap.objs.size f cdv))) :
    PSs (cxOf (L2.CX prog w) prog w K mg base ["_law_e", "_law_out"] "_law_flags" (defScope s__law_flags) f cdv A outer s H e) (defBody s__law_flags) (tS (pm K E TT) ⟨F0, none⟩ H (WE0 e) g__law_flags) := by
  have sc := sc__law_flags
  have tk : Takes (cxOf (L2.CX prog w) prog w K mg base ["_law_e", "_law_out"] "_law_flags" (defScope s__law_flags) f cdv A outer s H e) (WE0 e) := takes_of rfl rfl rfl rfl
  have h := ((sd_cons (by exact sd_setN (i := 1) sc.nd rfl (by first | exact Or.inl rfl | exact Or.inr rfl) (by exact nd_lst (by exact ad_cons (by exact pd_isiX (T.kx 0 (by decide)) (.own _) (pe_glob rfl T.e_Alike.gC rfl) (by exact pd_name 0) rfl T.b_isinstance) (by exact ad_cons (by exact pd_isiX (T.kx 1 (by decide)) (.own _) (pe_glob rfl T.e_BadKind.gC rfl) (by exact pd_name 0) rfl T.b_isinstance) (by exact ad_cons (by exact pd_isiX (T.kx 2 (by decide)) (.own _) (pe_glob rfl T.e_BadName.gC rfl) (by exact pd_name 0) rfl T.b_isinstance) (by exact ad_cons (by exact pd_isiX (T.kx 3 (by decide)) (.own _) (pe_glob rfl T.e_BadNumber.gC rfl) (by exact pd_name 0) rfl T.b_isinstance) ad_nil)))))) (sd_cons (by exact sd_ext 1 (by exact nd_lst (by exact ad_cons (by exact pd_isiX (T.kx 4 (by decide)) (.own _) (pe_glob rfl T.e_BadRow.gC rfl) (by exact pd_name 0) rfl T.b_isinstance) (by exact ad_cons (by exact pd_isiX (T.kx 5 (by decide)) (.own _) (pe_glob rfl T.e_BadSum.gC rfl) (by exact pd_name 0) rfl T.b_isinstance) (by exact ad_cons (by exact pd_isiX (T.kx 6 (by decide)) (.own _) (pe_glob rfl T.e_NameInUse.gC rfl) (by exact pd_name 0) rfl T.b_isinstance) (by exact ad_cons (by exact pd_isiX (T.kx 7 (by decide)) (.own _) (pe_glob rfl T.e_NoKind.gC rfl) (by exact pd_name 0) rfl T.b_isinstance) ad_nil)))))) (sd_cons (by exact sd_ext 1 (by exact nd_lst (by exact ad_cons (by exact pd_isiX (T.kx 8 (by decide)) (.own _) (pe_glob rfl T.e_NoLoop.gC rfl) (by exact pd_name 0) rfl T.b_isinstance) (by exact ad_cons (by exact pd_isiX (T.kx 9 (by decide)) (.own _) (pe_glob rfl T.e_NoMany.gC rfl) (by exact pd_name 0) rfl T.b_isinstance) (by exact ad_cons (by exact pd_isiX (T.kx 10 (by decide)) (.own _) (pe_glob rfl T.e_NoModulus.gC rfl) (by exact pd_name 0) rfl T.b_isinstance) (by exact ad_cons (by exact pd_isiX (T.kx 11 (by decide)) (.own _) (pe_glob rfl T.e_NoPlace.gC rfl) (by exact pd_name 0) rfl T.b_isinstance) ad_nil)))))) (sd_cons (by exact sd_ext 1 (by exact nd_lst (by exact ad_cons (by exact pd_isiX (T.kx 12 (by decide)) (.own _) (pe_glob rfl T.e_NoPrime.gC rfl) (by exact pd_name 0) rfl T.b_isinstance) (by exact ad_cons (by exact pd_isiX (T.kx 13 (by decide)) (.own _) (pe_glob rfl T.e_NoRegister.gC rfl) (by exact pd_name 0) rfl T.b_isinstance) (by exact ad_cons (by exact pd_isiX (T.kx 14 (by decide)) (.own _) (pe_glob rfl T.e_NoTerm.gC rfl) (by exact pd_name 0) rfl T.b_isinstance) (by exact ad_cons (by exact pd_isiX (T.kx 15 (by decide)) (.own _) (pe_glob rfl T.e_NoText.gC rfl) (by exact pd_name 0) rfl T.b_isinstance) ad_nil)))))) (sd_cons (by exact sd_ext 1 (by exact nd_lst (by exact ad_cons (by exact pd_isiX (T.kx 16 (by decide)) (.own _) (pe_glob rfl T.e_NotWhole.gC rfl) (by exact pd_name 0) rfl T.b_isinstance) (by exact ad_cons (by exact pd_isiX (T.kx 17 (by decide)) (.own _) (pe_glob rfl T.e_NoWay.gC rfl) (by exact pd_name 0) rfl T.b_isinstance) (by exact ad_cons (by exact pd_isiX (T.kx 18 (by decide)) (.own _) (pe_glob rfl T.e_OtherFields.gC rfl) (by exact pd_name 0) rfl T.b_isinstance) ad_nil))))) (by exact sd_one (by exact sd_ret (by exact pd_op (od_of io_addA) (by exact pd_peek 1) (by exact toV (by exact pd_lst (by exact ad_cons (by exact pd_isiX (T.kx 19 (by decide)) (.own _) (pe_glob rfl T.e_UnlikeFields.gC rfl) (by exact pd_name 0) rfl T.b_isinstance) (by exact ad_cons (by exact pd_isiX (T.kx 20 (by decide)) (.own _) (pe_glob rfl T.e_UnlikeRows.gC rfl) (by exact pd_name 0) rfl T.b_isinstance) (by exact ad_cons (by exact pd_isiX (T.kx 21 (by decide)) (.own _) (pe_glob rfl T.e_WrongCount.gC rfl) (by exact pd_name 0) rfl T.b_isinstance) ad_nil))))))))))))) : PSs (cxOf (L2.CX prog w) prog w K mg base ["_law_e", "_law_out"] "_law_flags" (defScope s__law_flags) f cdv A outer s H e) (defBody s__law_flags) (tS (pm K E TT) ⟨F0, none⟩ H (WE0 e) _))
  exact h
abbrev s__law_alone : Stmt := top 27
theorem sc__law_alone : FnScope ["_law_e", "_law_place", "_law_flags_here"] ["_law_e", "_law_place"] (defScope s__law_alone) := ⟨rfl, rfl, rfl, by decide +kernel, rfl, by decide +kernel, by decide +kernel⟩
theorem b__law_alone (T : Txt prog K mg base E FI L TT) (c__law_flags : CalD prog w K mg base (pm K E TT) 1 "_law_flags" 1 G__law_flags) (f : Addr) (cdv : Value) (A : Around) (outer : List PySem.Env) (s : Shared) (H : Hp) (F0 : Hp) (e : XK) (hr : Room 1 (A.deeper (PyProof.Rows.envOfC "_law_alone" (defScope s__law_alone) s.heap.objs.size f cdv))) :
    PSs (cxOf (L2.CX prog w) prog w K mg base ["_law_e", "_law_place", "_law_flags_here"] "_law_alone" (defScope s__law_alone) f cdv A outer s H e) (defBody s__law_alone) (tS (pm K E TT) ⟨F0, none⟩ H (WE0 e) g__law_alone) := by
  have sc := sc__law_alone
  have tk : Takes (cxOf (L2.CX prog w) prog w K mg base ["_law_e", "_law_place", "_law_flags_here"] "_law_alone" (defScope s__law_alone) f cdv A outer s H e) (WE0 e) := takes_of rfl rfl rfl rfl
  have h := ((sd_cons (by exact sd_set (i := 2) sc.nd rfl (by first | exact Or.inl rfl | exact Or.inr rfl) (by exact pd_cal c__law_flags (hr.mono (by decide)) tk (by exact ad_cons (by exact pd_name 0) ad_nil))) (by exact sd_one (by exact sd_ret (by exact pd_and (by exact pd_isiX T.kxL (.own _) (pe_glob rfl T.g_ListError rfl) (by exact pd_name 0) rfl T.b_isinstance) (by exact pd_and (by exact pd_isiX T.kxV (.ty "ValueError") (pe_bltn rfl T.b_ValueError (by decide +kernel) rfl) (by exact pd_name 0) rfl T.b_isinstance) (by exact pd_and (by exact pd_pcv (by exact pd_pc (od_of (io_eq hr.units)) (by exact toV (by exact pd_cntB (un8 hr) (by exact pd_peek 2) pd_bl)) (by exact toV pd_int)) (nomark _)) (by exact pd_one (by exact pd_ix (by exact pd_peek 2) (by exact pd_peek 1) (fun _ _ => rfl))))))))) : PSs (cxOf (L2.CX prog w) prog w K mg base ["_law_e", "_law_place", "_law_flags_here"] "_law_alone" (defScope s__law_alone) f cdv A outer s H e) (defBody s__law_alone) (tS (pm K E TT) ⟨F0, none⟩ H (WE0 e) _))
  exact h
abbrev s__law_cell : Stmt := top 25
theorem sc__law_cell : FnScope ["_law_script", "_law_k"] ["_law_script", "_law_k"] (defScope s__law_cell) := ⟨rfl, rfl, rfl, by decide +kernel, rfl, by decide +kernel, by decide +kernel⟩
theorem b__law_cell (T : Txt prog K mg base E FI L TT) (f : Addr) (cdv : Value) (A : Around) (outer : List PySem.Env) (s : Shared) (H : Hp) (F0 : Hp) (e : XK) (hr : Room 0 (A.deeper (PyProof.Rows.envOfC "_law_cell" (defScope s__law_cell) s.heap.objs.size f cdv))) :
    PSs (cxOf (L2.CX prog w) prog w K mg base ["_law_script", "_law_k"] "_law_cell" (defScope s__law_cell) f cdv A outer s H e) (defBody s__law_cell) (tS (pm K E TT) ⟨F0, none⟩ H (WE0 e) g__law_cell) := by
  have sc := sc__law_cell
  have tk : Takes (cxOf (L2.CX prog w) prog w K mg base ["_law_script", "_law_k"] "_law_cell" (defScope s__law_cell) f cdv A outer s H e) (WE0 e) := takes_of rfl rfl rfl rfl
  have h := ((sd_cons (by exact sd_if (by exact td_pc (by exact pd_pc (od_of io_lt) (by exact pd_peek 1) (by exact toV (by exact pd_callB (ic_lenS rfl) rfl T.b_len (by decide +kernel) (by exact av_cons (by exact pd_peek 0) av_nil)))) (nomark _)) (by exact sd_one (by exact sd_ret (by exact pd_ixS rfl (by exact pd_peek 0) (by exact pd_peek 1) (fun _ _ => rfl)))) sd_nil) (by exact sd_one (by exact sd_ret pd_int))) : PSs (cxOf (L2.CX prog w) prog w K mg base ["_law_script", "_law_k"] "_law_cell" (defScope s__law_cell) f cdv A outer s H e) (defBody s__law_cell) (tS (pm K E TT) ⟨F0, none⟩ H (WE0 e) _))
  exact h
abbrev s__law_held : Stmt := top 29
theorem sc__law_held : FnScope ["_law_x", "_law_out"] ["_law_x"] (defScope s__law_held) := ⟨rfl, rfl, rfl, by decide +kernel, rfl, by decide +kernel, by decide +kernel⟩
theorem b__law_held (T : Txt prog K mg base E FI L TT) (f : Addr) (cdv : Value) (A : Around) (outer : List PySem.Env) (s : Shared) (H : Hp) (F0 : Hp) (e : XK) (hr : Room 1 (A.deeper (PyProof.Rows.envOfC "_law_held" (defScope s__law_held) s.heap.objs.size f cdv))) :
    PSs (cxOf (L2.CX prog w) prog w K mg base ["_law_x", "_law_out"] "_law_held" (defScope s__law_held) f cdv A outer s H e) (defBody s__law_held) (tS (pm K E TT) ⟨F0, none⟩ H (WE0 e) g__law_held) := by
  have sc := sc__law_held
  have tk : Takes (cxOf (L2.CX prog w) prog w K mg base ["_law_x", "_law_out"] "_law_held" (defScope s__law_held) f cdv A outer s H e) (WE0 e) := takes_of rfl rfl rfl rfl
  have h := ((sd_cons (by exact sd_set (i := 1) sc.nd rfl (by first | exact Or.inl rfl | exact Or.inr rfl) (by exact pd_lst (by exact ad_cons (by exact pd_fldX (c := 1) T.e_BadKind rfl rfl (by exact pd_mkX (c := 1) (k := 1) T.e_BadKind rfl rfl T.fo_index (hr.mono (by decide)) (by exact ad_cons (by exact pd_name 0) ad_nil) rfl (by decide))) (by exact ad_cons (by exact pd_fldX (c := 2) T.e_BadName rfl rfl (by exact pd_mkX (c := 2) (k := 1) T.e_BadName rfl rfl T.fo_name (hr.mono (by decide)) (by exact ad_cons (by exact pd_name 0) ad_nil) rfl (by decide))) (by exact ad_cons (by exact pd_fldX (c := 3) T.e_BadNumber rfl rfl (by exact pd_mkX (c := 3) (k := 1) T.e_BadNumber rfl rfl T.fo_number (hr.mono (by decide)) (by exact ad_cons (by exact pd_name 0) ad_nil) rfl (by decide))) (by exact ad_cons (by exact pd_fldX (c := 4) T.e_BadRow rfl rfl (by exact pd_mkX (c := 4) (k := 1) T.e_BadRow rfl rfl T.fo_index (hr.mono (by decide)) (by exact ad_cons (by exact pd_name 0) ad_nil) rfl (by decide))) (by exact ad_cons (by exact pd_fldX (c := 5) T.e_BadSum rfl rfl (by exact pd_mkX (c := 5) (k := 1) T.e_BadSum rfl rfl T.fo_text (hr.mono (by decide)) (by exact ad_cons (by exact pd_name 0) ad_nil) rfl (by decide))) ad_nil))))))) (sd_cons (by exact sd_set (i := 1) sc.nd rfl (by first | exact Or.inl rfl | exact Or.inr rfl) (by exact pd_op (od_of io_addA) (by exact pd_peek 1) (by exact toV (by exact pd_lst (by exact ad_cons (by exact pd_fldX (c := 6) T.e_NameInUse rfl rfl (by exact pd_mkX (c := 6) (k := 1) T.e_NameInUse rfl rfl T.fo_name (hr.mono (by decide)) (by exact ad_cons (by exact pd_name 0) ad_nil) rfl (by decide))) (by exact ad_cons (by exact pd_fldX (c := 7) T.e_NoKind rfl rfl (by exact pd_mkX (c := 7) (k := 1) T.e_NoKind rfl rfl T.fo_kind (hr.mono (by decide)) (by exact ad_cons (by exact pd_name 0) ad_nil) rfl (by decide))) (by exact ad_cons (by exact pd_fldX (c := 9) T.e_NoMany rfl rfl (by exact pd_mkX (c := 9) (k := 1) T.e_NoMany rfl rfl T.fo_many (hr.mono (by decide)) (by exact ad_cons (by exact pd_name 0) ad_nil) rfl (by decide))) (by exact ad_cons (by exact pd_fldX (c := 10) T.e_NoModulus rfl rfl (by exact pd_mkX (c := 10) (k := 1) T.e_NoModulus rfl rfl T.fo_modulus (hr.mono (by decide)) (by exact ad_cons (by exact pd_name 0) ad_nil) rfl (by decide))) (by exact ad_cons (by exact pd_fldX (c := 11) T.e_NoPlace rfl rfl (by exact pd_mkX (c := 11) (k := 1) T.e_NoPlace rfl rfl T.fo_place (hr.mono (by decide)) (by exact ad_cons (by exact pd_name 0) ad_nil) rfl (by decide))) ad_nil))))))))) (sd_cons (by exact sd_set (i := 1) sc.nd rfl (by first | exact Or.inl rfl | exact Or.inr rfl) (by exact pd_op (od_of io_addA) (by exact pd_peek 1) (by exact toV (by exact pd_lst (by exact ad_cons (by exact pd_fldX (c := 12) T.e_NoPrime rfl rfl (by exact pd_mkX (c := 12) (k := 1) T.e_NoPrime rfl rfl T.fo_number (hr.mono (by decide)) (by exact ad_cons (by exact pd_name 0) ad_nil) rfl (by decide))) (by exact ad_cons (by exact pd_fldX (c := 13) T.e_NoRegister rfl rfl (by exact pd_mkX (c := 13) (k := 1) T.e_NoRegister rfl rfl T.fo_name (hr.mono (by decide)) (by exact ad_cons (by exact pd_name 0) ad_nil) rfl (by decide))) (by exact ad_cons (by exact pd_fldX (c := 14) T.e_NoTerm rfl rfl (by exact pd_mkX (c := 14) (k := 1) T.e_NoTerm rfl rfl T.fo_term (hr.mono (by decide)) (by exact ad_cons (by exact pd_name 0) ad_nil) rfl (by decide))) (by exact ad_cons (by exact pd_fldX (c := 15) T.e_NoText rfl rfl (by exact pd_mkX (c := 15) (k := 1) T.e_NoText rfl rfl T.fo_text (hr.mono (by decide)) (by exact ad_cons (by exact pd_name 0) ad_nil) rfl (by decide))) (by exact ad_cons (by exact pd_fldX (c := 17) T.e_NoWay rfl rfl (by exact pd_mkX (c := 17) (k := 1) T.e_NoWay rfl rfl T.fo_kind (hr.mono (by decide)) (by exact ad_cons (by exact pd_name 0) ad_nil) rfl (by decide))) ad_nil))))))))) (by exact sd_one (by exact sd_ret (by exact pd_op (od_of io_addA) (by exact pd_peek 1) (by exact toV (by exact pd_lst (by exact ad_cons (by exact pd_fldX (c := 21) T.e_WrongCount rfl rfl (by exact pd_mkX (c := 21) (k := 1) T.e_WrongCount rfl rfl T.fo_count (hr.mono (by decide)) (by exact ad_cons (by exact pd_name 0) ad_nil) rfl (by decide))) ad_nil))))))))) : PSs (cxOf (L2.CX prog w) prog w K mg base ["_law_x", "_law_out"] "_law_held" (defScope s__law_held) f cdv A outer s H e) (defBody s__law_held) (tS (pm K E TT) ⟨F0, none⟩ H (WE0 e) _))
  exact h
abbrev s__law_valued : Stmt := top 28
theorem sc__law_valued : FnScope ["_law_x", "_law_out"] ["_law_x"] (defScope s__law_valued) := ⟨rfl, rfl, rfl, by decide +kernel, rfl, by decide +kernel, by decide +kernel⟩
theorem b__law_valued (T : Txt prog K mg base E FI L TT) (f : Addr) (cdv : Value) (A : Around) (outer : List PySem.Env) (s : Shared) (H : Hp) (F0 : Hp) (e : XK) (hr : Room 1 (A.deeper (PyProof.Rows.envOfC "_law_valued" (defScope s__law_valued) s.heap.objs.size f cdv))) :
    PSs (cxOf (L2.CX prog w) prog w K mg base ["_law_x", "_law_out"] "_law_valued" (defScope s__law_valued) f cdv A outer s H e) (defBody s__law_valued) (tS (pm K E TT) ⟨F0, none⟩ H (WE0 e) g__law_valued) := by
  have sc := sc__law_valued
  have tk : Takes (cxOf (L2.CX prog w) prog w K mg base ["_law_x", "_law_out"] "_law_valued" (defScope s__law_valued) f cdv A outer s H e) (WE0 e) := takes_of rfl rfl rfl rfl
  have h := ((sd_cons (by exact sd_set (i := 1) sc.nd rfl (by first | exact Or.inl rfl | exact Or.inr rfl) (by exact pd_lst (by exact ad_cons (by exact pd_tup (by exact ad_cons (by exact pd_mkX (c := 1) (k := 1) T.e_BadKind rfl rfl T.fo_index (hr.mono (by decide)) (by exact ad_cons (by exact pd_name 0) ad_nil) rfl (by decide)) (by exact ad_cons pd_int ad_nil))) (by exact ad_cons (by exact pd_tup (by exact ad_cons (by exact pd_mkX (c := 2) (k := 1) T.e_BadName rfl rfl T.fo_name (hr.mono (by decide)) (by exact ad_cons (by exact pd_name 0) ad_nil) rfl (by decide)) (by exact ad_cons pd_int ad_nil))) (by exact ad_cons (by exact pd_tup (by exact ad_cons (by exact pd_mkX (c := 3) (k := 1) T.e_BadNumber rfl rfl T.fo_number (hr.mono (by decide)) (by exact ad_cons (by exact pd_name 0) ad_nil) rfl (by decide)) (by exact ad_cons pd_int ad_nil))) (by exact ad_cons (by exact pd_tup (by exact ad_cons (by exact pd_mkX (c := 4) (k := 1) T.e_BadRow rfl rfl T.fo_index (hr.mono (by decide)) (by exact ad_cons (by exact pd_name 0) ad_nil) rfl (by decide)) (by exact ad_cons pd_int ad_nil))) (by exact ad_cons (by exact pd_tup (by exact ad_cons (by exact pd_mkX (c := 5) (k := 1) T.e_BadSum rfl rfl T.fo_text (hr.mono (by decide)) (by exact ad_cons (by exact pd_name 0) ad_nil) rfl (by decide)) (by exact ad_cons pd_int ad_nil))) (by exact ad_cons (by exact pd_tup (by exact ad_cons (by exact pd_mkX (c := 6) (k := 1) T.e_NameInUse rfl rfl T.fo_name (hr.mono (by decide)) (by exact ad_cons (by exact pd_name 0) ad_nil) rfl (by decide)) (by exact ad_cons pd_int ad_nil))) ad_nil)))))))) (sd_cons (by exact sd_set (i := 1) sc.nd rfl (by first | exact Or.inl rfl | exact Or.inr rfl) (by exact pd_op (od_of io_addA) (by exact pd_peek 1) (by exact toV (by exact pd_lst (by exact ad_cons (by exact pd_tup (by exact ad_cons (by exact pd_mkX (c := 7) (k := 1) T.e_NoKind rfl rfl T.fo_kind (hr.mono (by decide)) (by exact ad_cons (by exact pd_name 0) ad_nil) rfl (by decide)) (by exact ad_cons pd_int ad_nil))) (by exact ad_cons (by exact pd_tup (by exact ad_cons (by exact pd_mkX (c := 9) (k := 1) T.e_NoMany rfl rfl T.fo_many (hr.mono (by decide)) (by exact ad_cons (by exact pd_name 0) ad_nil) rfl (by decide)) (by exact ad_cons pd_int ad_nil))) (by exact ad_cons (by exact pd_tup (by exact ad_cons (by exact pd_mkX (c := 10) (k := 1) T.e_NoModulus rfl rfl T.fo_modulus (hr.mono (by decide)) (by exact ad_cons (by exact pd_name 0) ad_nil) rfl (by decide)) (by exact ad_cons pd_int ad_nil))) (by exact ad_cons (by exact pd_tup (by exact ad_cons (by exact pd_mkX (c := 11) (k := 1) T.e_NoPlace rfl rfl T.fo_place (hr.mono (by decide)) (by exact ad_cons (by exact pd_name 0) ad_nil) rfl (by decide)) (by exact ad_cons pd_int ad_nil))) (by exact ad_cons (by exact pd_tup (by exact ad_cons (by exact pd_mkX (c := 12) (k := 1) T.e_NoPrime rfl rfl T.fo_number (hr.mono (by decide)) (by exact ad_cons (by exact pd_name 0) ad_nil) rfl (by decide)) (by exact ad_cons pd_int ad_nil))) ad_nil))))))))) (by exact sd_one (by exact sd_ret (by exact pd_op (od_of io_addA) (by exact pd_peek 1) (by exact toV (by exact pd_lst (by exact ad_cons (by exact pd_tup (by exact ad_cons (by exact pd_mkX (c := 13) (k := 1) T.e_NoRegister rfl rfl T.fo_name (hr.mono (by decide)) (by exact ad_cons (by exact pd_name 0) ad_nil) rfl (by decide)) (by exact ad_cons pd_int ad_nil))) (by exact ad_cons (by exact pd_tup (by exact ad_cons (by exact pd_mkX (c := 14) (k := 1) T.e_NoTerm rfl rfl T.fo_term (hr.mono (by decide)) (by exact ad_cons (by exact pd_name 0) ad_nil) rfl (by decide)) (by exact ad_cons pd_int ad_nil))) (by exact ad_cons (by exact pd_tup (by exact ad_cons (by exact pd_mkX (c := 15) (k := 1) T.e_NoText rfl rfl T.fo_text (hr.mono (by decide)) (by exact ad_cons (by exact pd_name 0) ad_nil) rfl (by decide)) (by exact ad_cons pd_int ad_nil))) (by exact ad_cons (by exact pd_tup (by exact ad_cons (by exact pd_mkX (c := 17) (k := 1) T.e_NoWay rfl rfl T.fo_kind (hr.mono (by decide)) (by exact ad_cons (by exact pd_name 0) ad_nil) rfl (by decide)) (by exact ad_cons pd_int ad_nil))) (by exact ad_cons (by exact pd_tup (by exact ad_cons (by exact pd_mkX (c := 21) (k := 1) T.e_WrongCount rfl rfl T.fo_count (hr.mono (by decide)) (by exact ad_cons (by exact pd_name 0) ad_nil) rfl (by decide)) (by exact ad_cons pd_int ad_nil))) ad_nil)))))))))))) : PSs (cxOf (L2.CX prog w) prog w K mg base ["_law_x", "_law_out"] "_law_valued" (defScope s__law_valued) f cdv A outer s H e) (defBody s__law_valued) (tS (pm K E TT) ⟨F0, none⟩ H (WE0 e) _))
  exact h
abbrev s_law : Stmt := top 30
theorem sc_law : FnScope ["_law_script", "_law_place", "_law_e", "_law_k", "_law_cell_here", "_law_x"] ["_law_script"] (defScope s_law) := ⟨rfl, rfl, rfl, by decide +kernel, rfl, by decide +kernel, by decide +kernel⟩
theorem b_law (T : Txt prog K mg base E FI L TT) (c__law_alone : CalD prog w K mg base (pm K E TT) 2 "_law_alone" 2 G__law_alone) (c__law_cell : CalD prog w K mg base (pm K E TT) 1 "_law_cell" 2 G__law_cell) (c__law_held : CalD prog w K mg base (pm K E TT) 2 "_law_held" 1 G__law_held) (c__law_valued : CalD prog w K mg base (pm K E TT) 2 "_law_valued" 1 G__law_valued) (f : Addr) (cdv : Value) (A : Around) (outer : List PySem.Env) (s : Shared) (H : Hp) (F0 : Hp) (e : XK) (hr : Room 2 (A.deeper (PyProof.Rows.envOfC "law" (defScope s_law) s.heap.objs.size f cdv))) :
    PSs (cxOf (L2.CX prog w) prog w K mg base ["_law_script", "_law_place", "_law_e", "_law_k", "_law_cell_here", "_law_x"] "law" (defScope s_law) f cdv A outer s H e) (defBody s_law) (tS (pm K E TT) ⟨F0, none⟩ H (WE0 e) g_law) := by
  have sc := sc_law
  have tk : Takes (cxOf (L2.CX prog w) prog w K mg base ["_law_script", "_law_place", "_law_e", "_law_k", "_law_cell_here", "_law_x"] "law" (defScope s_law) f cdv A outer s H e) (WE0 e) := takes_of rfl rfl rfl rfl
  have h := ((sd_cons (by exact sd_for (passes_of rfl) rfl (by exact id_seq (by exact pd_lst (by exact ad_cons (by exact pd_tup (by exact ad_cons pd_int (by exact ad_cons (by exact pd_mkX0 (c := 0) (k := 1) T.e_Alike rfl (hr.mono (by decide)) rfl (by decide)) ad_nil))) (by exact ad_cons (by exact pd_tup (by exact ad_cons pd_int (by exact ad_cons (by exact pd_mkX0 (c := 8) (k := 1) T.e_NoLoop rfl (hr.mono (by decide)) rfl (by decide)) ad_nil))) (by exact ad_cons (by exact pd_tup (by exact ad_cons pd_int (by exact ad_cons (by exact pd_mkX0 (c := 16) (k := 1) T.e_NotWhole rfl (hr.mono (by decide)) rfl (by decide)) ad_nil))) (by exact ad_cons (by exact pd_tup (by exact ad_cons pd_int (by exact ad_cons (by exact pd_mkX0 (c := 18) (k := 1) T.e_OtherFields rfl (hr.mono (by decide)) rfl (by decide)) ad_nil))) (by exact ad_cons (by exact pd_tup (by exact ad_cons pd_int (by exact ad_cons (by exact pd_mkX0 (c := 19) (k := 1) T.e_UnlikeFields rfl (hr.mono (by decide)) rfl (by decide)) ad_nil))) ad_nil))))))) (by exact gd_tup (n := 2) rfl (by exact gd_cons (by exact gd_name (i := 1) (us := [1, 2]) sc.nd rfl (by first | exact Or.inl rfl | exact Or.inr rfl)) (by exact gd_cons (by exact gd_name (i := 2) (us := [1, 2]) sc.nd rfl (by first | exact Or.inl rfl | exact Or.inr rfl)) gd_nil))) (by exact sd_one (by exact sd_if (by exact td_not (by exact td_val (by exact pd_cal c__law_alone (hr.mono (by decide)) tk (by exact ad_cons (by exact pd_name 2) (by exact ad_cons (by exact pd_name 1) ad_nil))))) (by exact sd_one (by exact sd_ret pd_bl)) sd_nil))) (sd_cons (by exact sd_if (by exact td_not (by exact td_val (by exact pd_cal c__law_alone (hr.mono (by decide)) tk (by exact ad_cons (by exact pd_mkX0 (c := 20) (k := 1) T.e_UnlikeRows rfl (hr.mono (by decide)) rfl (by decide)) (by exact ad_cons pd_int ad_nil))))) (by exact sd_one (by exact sd_ret pd_bl)) sd_nil) (sd_cons (by exact sd_for (passes_of rfl) rfl (by exact id_range1 rfl T.b_range (by exact ad_cons pd_int ad_nil)) (by exact gd_name (i := 3) (us := [3]) sc.nd rfl (by first | exact Or.inl rfl | exact Or.inr rfl)) (sd_cons (by exact sd_set (i := 4) sc.nd rfl (by first | exact Or.inl rfl | exact Or.inr rfl) (by exact pd_op (od_of io_sub) (by exact toV (by exact pd_op (od_of io_mod) (by exact toV (by exact pd_callTy ic_int2 rfl T.b_int (by decide +kernel) (by exact av_cons (by exact toV (by exact pd_cal c__law_cell (hr.mono (by decide)) tk (by exact ad_cons (by exact pd_name 0) (by exact ad_cons (by exact pd_name 3) ad_nil)))) av_nil))) (by exact toV (by exact pd_op (od_of io_pow) (by exact toV pd_int) (by exact toV pd_int))))) (by exact toV pd_int))) (by exact sd_one (by exact sd_for (passes_of rfl) rfl (by exact id_seq (by exact pd_tup (by exact ad_cons (by exact pd_name 4) (by exact ad_cons (by exact pd_callTy ic_strI rfl T.b_str (by decide +kernel) (by exact av_cons (by exact pd_peek 4) av_nil)) (by exact ad_cons (by exact pd_lst (by exact ad_cons (by exact pd_name 4) (by exact ad_cons (by exact pd_name 3) ad_nil))) (by exact ad_cons (by exact pd_tup (by exact ad_cons (by exact pd_name 3) (by exact ad_cons (by exact pd_callTy ic_strI rfl T.b_str (by decide +kernel) (by exact av_cons (by exact pd_peek 4) av_nil)) ad_nil))) ad_nil)))))) (by exact gd_name (i := 5) (us := [5]) sc.nd rfl (by first | exact Or.inl rfl | exact Or.inr rfl)) (by exact sd_one (by exact sd_if (by exact PW.pt (by exact td_or (by exact td_not (by exact td_val (by exact pd_callB (ic_all rfl) rfl T.b_all (by decide +kernel) (by exact av_cons (by exact toV (by exact n2e (by exact nd_lc (own := [("_law_e", 2), ("_law_place", 1)]) (us := [2, 1]) rfl sc.nd (by exact id_seq (by exact pd_cal c__law_valued (hr.mono (by decide)) tk (by exact ad_cons (by exact pd_name 5) ad_nil))) (by show BlkOk ["_law_script", "_law_place", "_law_e", "_law_k", "_law_cell_here", "_law_x"] (defScope s_law) _ [("_law_e", 2), ("_law_place", 1)]; exact ⟨rfl, by decide +kernel, by decide +kernel, by decide +kernel, by decide +kernel⟩) rfl (fun _ _ _ _ _ => (by exact gd_tup (n := 2) rfl (by exact gd_cons (by exact gd_name (i := 2) (us := [2, 1]) sc.nd rfl (by first | exact Or.inl rfl | exact Or.inr rfl)) (by exact gd_cons (by exact gd_name (i := 1) (us := [2, 1]) sc.nd rfl (by first | exact Or.inl rfl | exact Or.inr rfl)) gd_nil)))) (fun _ _ _ _ _ => td_yes) (fun _ _ _ _ _ => (by exact pd_cal c__law_alone (hr.mono (by decide)) takes0 (by exact ad_cons (by exact pd_name 2) (by exact ad_cons (by exact pd_name 1) ad_nil))))))) av_nil)))) (by exact td_or1 (by exact td_pc (by exact pd_pc (od_of (io_ne hr.units)) (by exact toV (by exact pd_cal c__law_held (hr.mono (by decide)) tk (by exact ad_cons (by exact pd_name 5) ad_nil))) (by exact toV (by exact pd_op (od_of io_rep) (by exact toV (by exact pd_lst (by exact ad_cons (by exact pd_name 5) ad_nil))) (by exact toV pd_int)))) (nomark _))))) (by exact sd_one (by exact sd_ret pd_bl)) sd_nil)))))) (by exact sd_one (by exact sd_ret pd_bl))))) : PSs (cxOf (L2.CX prog w) prog w K mg base ["_law_script", "_law_place", "_law_e", "_law_k", "_law_cell_here", "_law_x"] "law" (defScope s_law) f cdv A outer s H e) (defBody s_law) (tS (pm K E TT) ⟨F0, none⟩ H (WE0 e) _))
  exact h
end
end DL.K01
namespace DL.K01
open PySem L2
def gp_g__law_flags : Env → RS := (sSeq (sSetO 1 (fLst (lCons (fM (isiX (kbN 22 0)) (look 0)) (lCons (fM (isiX (kbN 22 1)) (look 0)) (lCons (fM (isiX (kbN 22 2)) (look 0)) (lCons (fM (isiX (kbN 22 3)) (look 0)) lNil)))))) (sSeq (sExt 1 (fLst (lCons (fM (isiX (kbN 22 4)) (look 0)) (lCons (fM (isiX (kbN 22 5)) (look 0)) (lCons (fM (isiX (kbN 22 6)) (look 0)) (lCons (fM (isiX (kbN 22 7)) (look 0)) lNil)))))) (sSeq (sExt 1 (fLst (lCons (fM (isiX (kbN 22 8)) (look 0)) (lCons (fM (isiX (kbN 22 9)) (look 0)) (lCons (fM (isiX (kbN 22 10)) (look 0)) (lCons (fM (isiX (kbN 22 11)) (look 0)) lNil)))))) (sSeq (sExt 1 (fLst (lCons (fM (isiX (kbN 22 12)) (look 0)) (lCons (fM (isiX (kbN 22 13)) (look 0)) (lCons (fM (isiX (kbN 22 14)) (look 0)) (lCons (fM (isiX (kbN 22 15)) (look 0)) lNil)))))) (sSeq (sExt 1 (fLst (lCons (fM (isiX (kbN 22 16)) (look 0)) (lCons (fM (isiX (kbN 22 17)) (look 0)) (lCons (fM (isiX (kbN 22 18)) (look 0)) lNil))))) (sRet (fOp addA (peek 1) (fLst (lCons (fM (isiX (kbN 22 19)) (look 0)) (lCons (fM (isiX (kbN 22 20)) (look 0)) (lCons (fM (isiX (kbN 22 21)) (look 0)) lNil)))))))))))
theorem gp_g__law_flags_eq : g__law_flags = gp_g__law_flags := rfl
def gp_g__law_alone (p_G__law_flags : List D → Res D) : Env → RS := (sSeq (sSet 2 (fCall 1 p_G__law_flags (lCons (look 0) lNil))) (sRet (vAnd (fM (isiX (kbT 22)) (look 0)) (vAnd (fM (isiX (kbT 22)) (look 0)) (vAnd (fOp eqD (fCnt (peek 2) (fK (.bl true))) (fK (.int 1))) (fOp itemD (peek 2) (peek 1)))))))
theorem gp_g__law_alone_eq : g__law_alone = gp_g__law_alone G__law_flags := rfl
def gp_g__law_cell : Env → RS := (sSeq (sIf (tB' (fOp dLt (peek 1) (fB cLenS (lCons (peek 0) lNil)))) (sRet (fOp itemS (peek 0) (peek 1))) .nx) (sRet (fK (.int 0))))
theorem gp_g__law_cell_eq : g__law_cell = gp_g__law_cell := rfl
def gp_g__law_held : Env → RS := (sSeq (sSet 1 (fLst (lCons (fM (fldX 1) (fMkX 1 (lCons (look 0) lNil))) (lCons (fM (fldX 2) (fMkX 2 (lCons (look 0) lNil))) (lCons (fM (fldX 3) (fMkX 3 (lCons (look 0) lNil))) (lCons (fM (fldX 4) (fMkX 4 (lCons (look 0) lNil))) (lCons (fM (fldX 5) (fMkX 5 (lCons (look 0) lNil))) lNil))))))) (sSeq (sSet 1 (fOp addA (peek 1) (fLst (lCons (fM (fldX 6) (fMkX 6 (lCons (look 0) lNil))) (lCons (fM (fldX 7) (fMkX 7 (lCons (look 0) lNil))) (lCons (fM (fldX 9) (fMkX 9 (lCons (look 0) lNil))) (lCons (fM (fldX 10) (fMkX 10 (lCons (look 0) lNil))) (lCons (fM (fldX 11) (fMkX 11 (lCons (look 0) lNil))) lNil)))))))) (sSeq (sSet 1 (fOp addA (peek 1) (fLst (lCons (fM (fldX 12) (fMkX 12 (lCons (look 0) lNil))) (lCons (fM (fldX 13) (fMkX 13 (lCons (look 0) lNil))) (lCons (fM (fldX 14) (fMkX 14 (lCons (look 0) lNil))) (lCons (fM (fldX 15) (fMkX 15 (lCons (look 0) lNil))) (lCons (fM (fldX 17) (fMkX 17 (lCons (look 0) lNil))) lNil)))))))) (sRet (fOp addA (peek 1) (fLst (lCons (fM (fldX 21) (fMkX 21 (lCons (look 0) lNil))) lNil)))))))
theorem gp_g__law_held_eq : g__law_held = gp_g__law_held := rfl
def gp_g__law_valued : Env → RS := (sSeq (sSet 1 (fLst (lCons (fTup (lCons (fMkX 1 (lCons (look 0) lNil)) (lCons (fK (.int 1)) lNil))) (lCons (fTup (lCons (fMkX 2 (lCons (look 0) lNil)) (lCons (fK (.int 2)) lNil))) (lCons (fTup (lCons (fMkX 3 (lCons (look 0) lNil)) (lCons (fK (.int 3)) lNil))) (lCons (fTup (lCons (fMkX 4 (lCons (look 0) lNil)) (lCons (fK (.int 4)) lNil))) (lCons (fTup (lCons (fMkX 5 (lCons (look 0) lNil)) (lCons (fK (.int 5)) lNil))) (lCons (fTup (lCons (fMkX 6 (lCons (look 0) lNil)) (lCons (fK (.int 6)) lNil))) lNil)))))))) (sSeq (sSet 1 (fOp addA (peek 1) (fLst (lCons (fTup (lCons (fMkX 7 (lCons (look 0) lNil)) (lCons (fK (.int 7)) lNil))) (lCons (fTup (lCons (fMkX 9 (lCons (look 0) lNil)) (lCons (fK (.int 9)) lNil))) (lCons (fTup (lCons (fMkX 10 (lCons (look 0) lNil)) (lCons (fK (.int 10)) lNil))) (lCons (fTup (lCons (fMkX 11 (lCons (look 0) lNil)) (lCons (fK (.int 11)) lNil))) (lCons (fTup (lCons (fMkX 12 (lCons (look 0) lNil)) (lCons (fK (.int 12)) lNil))) lNil)))))))) (sRet (fOp addA (peek 1) (fLst (lCons (fTup (lCons (fMkX 13 (lCons (look 0) lNil)) (lCons (fK (.int 13)) lNil))) (lCons (fTup (lCons (fMkX 14 (lCons (look 0) lNil)) (lCons (fK (.int 14)) lNil))) (lCons (fTup (lCons (fMkX 15 (lCons (look 0) lNil)) (lCons (fK (.int 15)) lNil))) (lCons (fTup (lCons (fMkX 17 (lCons (look 0) lNil)) (lCons (fK (.int 17)) lNil))) (lCons (fTup (lCons (fMkX 21 (lCons (look 0) lNil)) (lCons (fK (.int 21)) lNil))) lNil))))))))))
theorem gp_g__law_valued_eq : g__law_valued = gp_g__law_valued := rfl
def gb_fr_law_0 (p_G__law_alone : List D → Res D) : Env → RS := (sIf (tNot' (tB' (fCall 2 p_G__law_alone (lCons (look 2) (lCons (look 1) lNil))))) (sRet (fK (.bl false))) .nx)
theorem gb_fr_law_0_eq : fr_law_0 = sFor (iSq (fLst (lCons (fTup (lCons (fK (.int 0)) (lCons (fK (.exc 0 [])) lNil))) (lCons (fTup (lCons (fK (.int 8)) (lCons (fK (.exc 8 [])) lNil))) (lCons (fTup (lCons (fK (.int 16)) (lCons (fK (.exc 16 [])) lNil))) (lCons (fTup (lCons (fK (.int 18)) (lCons (fK (.exc 18 [])) lNil))) (lCons (fTup (lCons (fK (.int 19)) (lCons (fK (.exc 19 [])) lNil))) lNil))))))) (hTup fun ds ρ => if ds.length = 2 then (hCons (hName 1) (hCons (hName 2) hNil)) ds ρ else none) (gb_fr_law_0 G__law_alone) := rfl
def gp_lc_law_1 (p_G__law_valued : List D → Res D) (p_G__law_alone : List D → Res D) : Env → Res D := (fLc (iSq (fCall 1 p_G__law_valued (lCons (look 5) lNil))) (hTup fun ds ρ => if ds.length = 2 then (hCons (hName 2) (hCons (hName 1) hNil)) ds ρ else none) tYes' (fCall 2 p_G__law_alone (lCons (look 2) (lCons (look 1) lNil))) [2, 1])
theorem gp_lc_law_1_eq : lc_law_1 = gp_lc_law_1 G__law_valued G__law_alone := rfl
def gb_fr_law_2 (p_lc_law_1 : Env → Res D) (p_G__law_held : List D → Res D) : Env → RS := (sIf (tOr' (tNot' (tB' (fB cAll (lCons p_lc_law_1 lNil)))) (tB' (fOp neD (fCall 1 p_G__law_held (lCons (look 5) lNil)) (fOp repD (fLst (lCons (look 5) lNil)) (fK (.int 16)))))) (sRet (fK (.bl false))) .nx)
theorem gb_fr_law_2_eq : fr_law_2 = sFor (iSq (fTup (lCons (look 4) (lCons (fB cStrI (lCons (peek 4) lNil)) (lCons (fLst (lCons (look 4) (lCons (look 3) lNil))) (lCons (fTup (lCons (look 3) (lCons (fB cStrI (lCons (peek 4) lNil)) lNil))) lNil)))))) (hName 5) (gb_fr_law_2 lc_law_1 G__law_held) := rfl
def gb_fr_law_3 (p_G__law_cell : List D → Res D) (p_fr_law_2 : Env → RS) : Env → RS := (sSeq (sSet 4 (fOp dSub (fOp (int2 modC) (fB cInt2 (lCons (fCall 2 p_G__law_cell (lCons (look 0) (lCons (look 3) lNil))) lNil)) (fOp (int2 powC) (fK (.int 10)) (fK (.int 30)))) (fK (.int 5)))) p_fr_law_2)
theorem gb_fr_law_3_eq : fr_law_3 = sFor (iR1 (lCons (fK (.int 3)) lNil)) (hName 3) (gb_fr_law_3 G__law_cell fr_law_2) := rfl
def gp_g_law (p_fr_law_0 : Env → RS) (p_G__law_alone : List D → Res D) (p_fr_law_3 : Env → RS) : Env → RS := (sSeq p_fr_law_0 (sSeq (sIf (tNot' (tB' (fCall 2 p_G__law_alone (lCons (fK (.exc 20 [])) (lCons (fK (.int 20)) lNil))))) (sRet (fK (.bl false))) .nx) (sSeq p_fr_law_3 (sRet (fK (.bl true))))))
theorem gp_g_law_eq : g_law = gp_g_law fr_law_0 G__law_alone fr_law_3 := rfl
end DL.K01
namespace DL
open PySem L2
theorem seq_nx (ρ : Env) (g : Env → RS) : seqS (.nx ρ) g = g ρ := rfl
theorem seq_rt (d : D) (g : Env → RS) : seqS (.rt d) g = .rt d := rfl
theorem seq_err (c : Nat) (p : Option D) (ρ : Env) (g : Env → RS) : seqS (.err c p ρ) g = .err c p ρ := rfl
theorem bnd_ok {α : Type} (d : α) (ρ : Env) (k : α → RS) : bindS (.ok d) ρ k = k d := rfl
theorem bnd_err {α : Type} (c : Nat) (p : Option D) (ρ : Env) (k : α → RS) : bindS (Res.err c p : Res α) ρ k = .err c p ρ := rfl
theorem loop_nx (ρ : Env) (g : Env → RS) : loopK (.nx ρ) g = g ρ := rfl
theorem loop_rt (d : D) (g : Env → RS) : loopK (.rt d) g = .rt d := rfl
theorem for_nil (h : D → Env → Option Env) (g : Env → RS) (ρ : Env) : forD h g [] ρ = .nx ρ := rfl
theorem for_cons (h : D → Env → Option Env) (g : Env → RS) (d : D) (r : List D) (ρ : Env) : forD h g (d :: r) ρ = match h d ρ with | none => .bad | some ρ1 => loopK (g ρ1) (forD h g r) := rfl
theorem int_i (i : Int) : cInt2 [.int i] = some (.int i) := rfl
theorem mod_ok {i j : Int} (h : j ≠ 0) : modC i j = some (.int (i.fmod j)) := if_neg h
theorem fdiv_ok {i j : Int} (h : j ≠ 0) (h2 : j.natAbs.log2 < 9000) : fdivC i j = some (.int (i.fdiv j)) := if_pos ⟨h, h2⟩
theorem mul_ok {i j : Int} (h : i.natAbs.log2 + j.natAbs.log2 < 1000000) : mulC i j = some (.int (i * j)) := if_pos h
theorem log2_lt {n k : Nat} (h : n < 2 ^ k) (hk : 0 < k) : n.log2 < k := by
  by_cases h0 : n = 0
  · subst h0
    simpa using hk
  · exact (Nat.log2_lt h0).mpr h
/-- the greatest common divisor by rests -/
theorem gcd_loop (body : Env → RS) (hb : ∀ a b : Nat, b ≠ 0 → body [some (.sh (.int a)), some (.sh (.int b))] = .nx [some (.sh (.int b)), some (.sh (.int ((a % b : Nat) : Int)))]) :
    ∀ (n a b : Nat), b < n → whileD (tB' (fOp dGt (peek 1) (fK (.int 0)))) body n [some (.sh (.int a)), some (.sh (.int b))] = .nx [some (.sh (.int (Nat.gcd a b))), some (.sh (.int 0))]
  | 0, a, b, h => by omega
  | n + 1, a, b, h => by
    by_cases hz : b = 0
    · subst hz
      rw [Nat.gcd_zero_right]
      rfl
    · have hlt : a % b < b := Nat.mod_lt _ (by omega)
      have ih := gcd_loop body hb n b (a % b) (by omega)
      rw [Nat.gcd_comm b, ← Nat.gcd_rec, Nat.gcd_comm b] at ih
      have hd : decide ((0 : Int) < (b : Int)) = true := by simp; omega
      rw [← ih, whileD]
      simp only [tB', fOp, peek, fK, List.getElem?_cons_succ, List.getElem?_cons_zero, Res.bind_ok, dGt, int2, opt, bo, bnd_ok, hd, if_true, hb a b hz, loop_nx]
end DL
namespace DL
open PySem L2 PySem.PyData
theorem beq_s (x y : Str) : (x == y) = decide (x = y) := by
  by_cases h : x = y
  · subst h
    simp
  · rw [decide_eq_false h]
    exact beq_eq_false_iff_ne.mpr h
theorem beq_i (x y : Int) : (x == y) = decide (x = y) := by
  by_cases h : x = y
  · subst h
    simp
  · rw [decide_eq_false h]
    exact beq_eq_false_iff_ne.mpr h
theorem eq_ii (i j : Int) : eqD (.int i) (.int j) = some (.bl (decide (i = j))) := by
  simp [eqD, eqP, toPD, SeqAt.shaped, PyData.canLay0, PyData.depth, PyData.eqv, beq_i]
theorem ne_ii (i j : Int) : neD (.int i) (.int j) = some (.bl (!decide (i = j))) := by
  simp [neD, eqP, toPD, SeqAt.shaped, PyData.canLay0, PyData.depth, PyData.eqv, beq_i]
theorem eq_ss {x y : Str} (hx : strOk x = true) (hy : strOk y = true) : eqD (.str x) (.str y) = some (.bl (decide (x = y))) := by
  simp [eqD, eqP, toPD, SeqAt.shaped, PyData.canLay0, PyData.depth, PyData.eqv, hx, hy, beq_s]
theorem ne_ss {x y : Str} (hx : strOk x = true) (hy : strOk y = true) : neD (.str x) (.str y) = some (.bl (!decide (x = y))) := by
  simp [neD, eqP, toPD, SeqAt.shaped, PyData.canLay0, PyData.depth, PyData.eqv, hx, hy, beq_s]
theorem toPDs_str (xs : List Str) : toPDs (xs.map .str) = some (xs.map .str) := by
  induction xs with
  | nil => rfl
  | cons a r ih => simp [toPDs, toPD, ih]
theorem canLay_strs : ∀ (xs : List Str), (∀ x ∈ xs, strOk x = true) → PyData.canLayAll0 (xs.map .str) = true
  | [], _ => rfl
  | x :: r, h => by
    simp [PyData.canLayAll0, PyData.canLay0, h x List.mem_cons_self, canLay_strs r fun y hy => h y (List.mem_cons_of_mem _ hy)]
theorem depth_strs : ∀ (xs : List Str), PyData.depthAll (xs.map .str) ≤ 1
  | [] => by simp [PyData.depthAll]
  | x :: r => by
    have := depth_strs r
    simp [PyData.depthAll, PyData.depth]
    omega
theorem eqvAll_strs : ∀ (xs ys : List Str), PyData.eqvAll (xs.map .str) (ys.map .str) = decide (xs = ys)
  | [], [] => rfl
  | [], _ :: _ => rfl
  | _ :: _, [] => rfl
  | x :: r, y :: q => by
    simp [PyData.eqvAll, PyData.eqv, eqvAll_strs r q, beq_s]
theorem eqP_strs {xs ys : List Str} (hx : ∀ x ∈ xs, strOk x = true) (hy : ∀ x ∈ ys, strOk x = true) : eqP (.lst (xs.map .str)) (.lst (ys.map .str)) = some (decide (xs = ys)) := by
  have h1 := depth_strs xs
  have h2 := depth_strs ys
  simp only [eqP, toPD, toPDs_str, Option.map_some, Option.bind_some]
  have s1 : SeqAt.shaped (.list (xs.map .str)) = true := by
    simp [SeqAt.shaped, PyData.canLay0, PyData.depth, canLay_strs xs hx]
    omega
  have s2 : SeqAt.shaped (.list (ys.map .str)) = true := by
    simp [SeqAt.shaped, PyData.canLay0, PyData.depth, canLay_strs ys hy]
    omega
  rw [if_pos ⟨s1, s2⟩, PyData.eqv, eqvAll_strs]
end DL
namespace DL.K01
open PySem L2
theorem held_eq (x : D) : G__law_held [x] = .ok (.lst [x, x, x, x, x, x, x, x, x, x, x, x, x, x, x, x]) := rfl
abbrev vl (x : D) : List (Nat × D) := [(1, .exc 1 [x]), (2, .exc 2 [x]), (3, .exc 3 [x]), (4, .exc 4 [x]), (5, .exc 5 [x]), (6, .exc 6 [x]), (7, .exc 7 [x]), (9, .exc 9 [x]), (10, .exc 10 [x]), (11, .exc 11 [x]), (12, .exc 12 [x]), (13, .exc 13 [x]), (14, .exc 14 [x]), (15, .exc 15 [x]), (17, .exc 17 [x]), (21, .exc 21 [x])]
theorem valued_eq (x : D) : G__law_valued [x] = .ok (.lst ((vl x).map fun q => .tup [q.2, .int (q.1 : Nat)])) := rfl
theorem mkL4 (a b c d : D) : mkL [a, b, c, d] = .ok (.lst [a, b, c, d]) := rfl
theorem mkL3 (a b c : D) : mkL [a, b, c] = .ok (.lst [a, b, c]) := rfl
theorem flags_eq (c : Nat) (hc : c < 22) (xs : List D) : G__law_flags [.exc c xs] = .ok (.lst ((List.range 22).map fun t => .bl (c == t))) := by
  have h : ∀ t, isiX (kbN 22 t) (.exc c xs) = .ok (.bl (c == t)) := fun t => by
    show (match kbN 22 t c with | some b => Res.ok (D.bl b) | none => .bad) = _
    unfold kbN
    rw [if_pos hc]
  have e0 : env0 2 [.exc c xs] = [some (.sh (.exc c xs)), none] := rfl
  have eo : ∀ s ys, isOw 1 [s, some (.ow (.lst ys))] = .ok () := fun _ _ => rfl
  have ex : ∀ s a b ys zs, ys = a :: b :: zs → ys.length ≤ 100 → ∀ ws : List D, ws.length ≤ 100 → extD 1 [s, some (.ow (.lst ys))] (.lst ws) = .nx [s, some (.ow (.lst (ys ++ ws)))] := fun s a b ys zs _ h1 ws h2 => by
    show (if small (ys.length + ws.length) = true then RS.nx _ else .bad) = _
    rw [if_pos (show small (ys.length + ws.length) = true from decide_eq_true (by omega))]
    rfl
  have ea : ∀ ys ws : List D, ys.length ≤ 100 → ws.length ≤ 100 → addA (.lst ys) (.lst ws) = some (.lst (ys ++ ws)) := fun ys ws h1 h2 => by
    show (if small2 ys.length ws.length = true then some (D.lst (ys ++ ws)) else none) = _
    rw [if_pos (by unfold small2; exact decide_eq_true (by omega))]
  unfold G__law_flags runB g__law_flags
  rw [e0]
  simp only [sSeq, sSetO, sExt, sRet, fLst, lCons, lNil, fM, fOp, look, peek, List.getElem?_cons_zero, List.getElem?_cons_succ, List.set_cons_succ, List.set_cons_zero, Res.bind_ok, h, mkL4, mkL3, bnd_ok, seq_nx, eo]
  rw [ex _ _ _ _ _ rfl (by simp) _ (by simp)]
  simp only [sSeq, sExt, sRet, fLst, lCons, lNil, fM, fOp, seq_nx, bnd_ok, List.cons_append, List.nil_append, look, peek, List.getElem?_cons_zero, List.getElem?_cons_succ, Res.bind_ok, h, mkL4, mkL3, eo]
  rw [ex _ _ _ _ _ rfl (by simp) _ (by simp)]
  simp only [sSeq, sExt, sRet, fLst, lCons, lNil, fM, fOp, seq_nx, bnd_ok, List.cons_append, List.nil_append, look, peek, List.getElem?_cons_zero, List.getElem?_cons_succ, Res.bind_ok, h, mkL4, mkL3, eo]
  rw [ex _ _ _ _ _ rfl (by simp) _ (by simp)]
  simp only [sSeq, sExt, sRet, fLst, lCons, lNil, fM, fOp, seq_nx, bnd_ok, List.cons_append, List.nil_append, look, peek, List.getElem?_cons_zero, List.getElem?_cons_succ, Res.bind_ok, h, mkL4, mkL3, eo]
  rw [ex _ _ _ _ _ rfl (by simp) _ (by simp)]
  simp only [sSeq, sExt, sRet, fLst, lCons, lNil, fM, fOp, seq_nx, bnd_ok, List.cons_append, List.nil_append, look, peek, List.getElem?_cons_zero, List.getElem?_cons_succ, Res.bind_ok, h, mkL4, mkL3, eo, opt]
  rw [ea _ _ (by simp) (by simp)]
  rfl
theorem cnt_eq (c : Nat) (hc : c < 22) : cntB (.lst ((List.range 22).map fun t => .bl (c == t))) (.bl true) = some (.int 1) := match c, hc with
  | 0, _ => rfl
  | 1, _ => rfl
  | 2, _ => rfl
  | 3, _ => rfl
  | 4, _ => rfl
  | 5, _ => rfl
  | 6, _ => rfl
  | 7, _ => rfl
  | 8, _ => rfl
  | 9, _ => rfl
  | 10, _ => rfl
  | 11, _ => rfl
  | 12, _ => rfl
  | 13, _ => rfl
  | 14, _ => rfl
  | 15, _ => rfl
  | 16, _ => rfl
  | 17, _ => rfl
  | 18, _ => rfl
  | 19, _ => rfl
  | 20, _ => rfl
  | 21, _ => rfl
  | n + 22, h => absurd h (by omega)
theorem itm_eq (c : Nat) (hc : c < 22) : itemD (.lst ((List.range 22).map fun t => .bl (c == t))) (.int (c : Nat)) = some (.bl true) := match c, hc with
  | 0, _ => rfl
  | 1, _ => rfl
  | 2, _ => rfl
  | 3, _ => rfl
  | 4, _ => rfl
  | 5, _ => rfl
  | 6, _ => rfl
  | 7, _ => rfl
  | 8, _ => rfl
  | 9, _ => rfl
  | 10, _ => rfl
  | 11, _ => rfl
  | 12, _ => rfl
  | 13, _ => rfl
  | 14, _ => rfl
  | 15, _ => rfl
  | 16, _ => rfl
  | 17, _ => rfl
  | 18, _ => rfl
  | 19, _ => rfl
  | 20, _ => rfl
  | 21, _ => rfl
  | n + 22, h => absurd h (by omega)
theorem alone_eq (c : Nat) (hc : c < 22) (xs : List D) : G__law_alone [.exc c xs, .int (c : Nat)] = .ok (.bl true) := by
  have e := flags_eq c hc xs
  have hT : isiX (kbT 22) (.exc c xs) = .ok (.bl true) := by
    show (match kbT 22 c with | some b => Res.ok (D.bl b) | none => .bad) = _
    unfold kbT
    rw [if_pos hc]
  have e1 := eq_ii 1 1
  rw [decide_eq_true rfl] at e1
  have e2 : ∀ ds, isLs (.lst ds) = .ok () := fun _ => rfl
  have e0 : env0 3 [.exc c xs, .int (c : Nat)] = [some (.sh (.exc c xs)), some (.sh (.int (c : Nat))), none] := rfl
  unfold G__law_alone runB g__law_alone
  rw [e0]
  simp only [sSeq, sSet, sRet, vAnd, fM, fCall, fnG, fOp, fCnt, fK, lCons, lNil, look, peek, List.getElem?_cons_zero, List.getElem?_cons_succ, List.set_cons_succ, List.set_cons_zero, List.length_cons, List.length_nil, Res.bind_ok, if_true, e, hT, bo, bnd_ok, seq_nx, e2, opt, cnt_eq c hc, itm_eq c hc, e1]
end DL.K01
namespace DL.K01
open PySem L2
/-! ### the loop over errors that hold nothing -/
abbrev hPE : D → Env → Option Env := hTup fun ds ρ => if ds.length = 2 then (hCons (hName 1) (hCons (hName 2) hNil)) ds ρ else none
theorem stepA (Ga : List D → Res D) (s0 s3 s4 s5 : Option B) (p e : D) (h : Ga [e, p] = .ok (.bl true)) : gb_fr_law_0 Ga [s0, some (.sh p), some (.sh e), s3, s4, s5] = .nx [s0, some (.sh p), some (.sh e), s3, s4, s5] := by
  unfold gb_fr_law_0
  simp only [sIf, tNot', tB', fCall, fnG, lCons, lNil, look, List.getElem?_cons_zero, List.getElem?_cons_succ, Res.bind_ok, List.length_cons, List.length_nil, if_true, h, bo, bnd_ok, Bool.not_true, Bool.false_eq_true, if_false]
theorem loopA (s0 s3 s4 s5 : Option B) : ∀ (cs : List Nat) (v1 v2 : Option B), (∀ c ∈ cs, c < 22) → ∃ w1 w2, forD hPE (gb_fr_law_0 G__law_alone) (cs.map fun c => .tup [.int (c : Nat), .exc c []]) [s0, v1, v2, s3, s4, s5] = .nx [s0, w1, w2, s3, s4, s5]
  | [], v1, v2, _ => ⟨v1, v2, rfl⟩
  | c :: cs, v1, v2, hc => by
    obtain ⟨w1, w2, e⟩ := loopA s0 s3 s4 s5 cs (some (.sh (.int (c : Nat)))) (some (.sh (.exc c []))) fun x hx => hc x (by simp [hx])
    refine ⟨w1, w2, ?_⟩
    rw [List.map_cons, for_cons]
    show loopK (gb_fr_law_0 G__law_alone [s0, some (.sh (.int (c : Nat))), some (.sh (.exc c [])), s3, s4, s5]) _ = _
    rw [stepA G__law_alone s0 s3 s4 s5 _ _ (alone_eq c (hc c (by simp)) []), loop_nx]
    exact e
theorem mkL5 (a b c d e : D) : mkL [a, b, c, d, e] = .ok (.lst [a, b, c, d, e]) := rfl
theorem mkT2 (a b : D) : mkT [a, b] = .ok (.tup [a, b]) := rfl
theorem mkT4 (a b c d : D) : mkT [a, b, c, d] = .ok (.tup [a, b, c, d]) := rfl
theorem mkL2 (a b : D) : mkL [a, b] = .ok (.lst [a, b]) := rfl
theorem mkL1 (a : D) : mkL [a] = .ok (.lst [a]) := rfl
theorem fr0_eq (s0 s3 s4 s5 : Option B) (v1 v2 : Option B) : ∃ w1 w2, fr_law_0 [s0, v1, v2, s3, s4, s5] = .nx [s0, w1, w2, s3, s4, s5] := by
  obtain ⟨w1, w2, e⟩ := loopA s0 s3 s4 s5 [0, 8, 16, 18, 19] v1 v2 (by decide)
  refine ⟨w1, w2, ?_⟩
  rw [gb_fr_law_0_eq]
  simp only [sFor, iSq, fLst, fTup, fK, lCons, lNil, Res.bind_ok, mkL5, mkT2, seqD, bnd_ok]
  exact e
/-! ### what is held -/
structure Pv (x : D) (p : PyData) : Prop where
  to : toPD x = some p
  cl : PyData.canLay0 p = true
  dp : p.depth ≤ 5
abbrev x16 {α : Type} (x : α) : List α := [x, x, x, x, x, x, x, x, x, x, x, x, x, x, x, x]
theorem ne16 {x : D} {p : PyData} (h : Pv x p) : neD (.lst (x16 x)) (.lst (x16 x)) = some (.bl false) := by
  have e1 : toPD (.lst (x16 x)) = some (.list (x16 p)) := by
    simp only [toPD, toPDs, h.to, Option.bind_some, Option.map_some]
  have c1 : PyData.canLay0 (.list (x16 p)) = true := by
    simp only [PyData.canLay0, PyData.canLayAll0, h.cl, Bool.and_true]
  have d1 : (PyData.list (x16 p)).depth ≤ 20 := by
    have := h.dp
    simp only [PyData.depth, PyData.depthAll]
    omega
  have s1 : SeqAt.shaped (.list (x16 p)) = true := by
    unfold SeqAt.shaped
    rw [c1, Bool.true_and]
    exact decide_eq_true (by omega)
  unfold neD eqP
  rw [e1, Option.bind_some, Option.bind_some, if_pos ⟨s1, s1⟩, SeqAt.eqv_refl _ c1]
  rfl
end DL.K01
namespace DL.K01
open PySem L2
theorem lc_fm {α : Type} {h : D → Env → Option Env} {gt : Env → Res Bool} {fe : Env → Res D} {ρ : Env} (f : α → D) (k : α → Env) (b : α → Bool) (y : α → D) : ∀ (us : List α), (∀ u ∈ us, h (f u) ρ = some (k u) ∧ gt (k u) = .ok (b u) ∧ (b u = true → fe (k u) = .ok (y u))) →
    lcD h gt fe ρ (us.map f) = .ok ((us.filter b).map y)
  | [], _ => rfl
  | u :: us, hu => by
    obtain ⟨h1, h2, h3⟩ := hu u List.mem_cons_self
    have ih := lc_fm f k b y us fun x hx => hu x (List.mem_cons_of_mem _ hx)
    rw [List.map_cons]
    unfold lcD
    rw [h1]
    show (noErr (gt (k u)) >>= _) = _
    rw [h2]
    show (if b u = true then _ else _) = _
    by_cases hb : b u = true
    · rw [if_pos hb, h3 hb, List.filter_cons, if_pos hb]
      show (lcD h gt fe ρ (us.map f) >>= _) = _
      rw [ih]
      rfl
    · rw [if_neg hb, List.filter_cons, if_neg hb]
      exact ih
theorem lc_m {α : Type} {h : D → Env → Option Env} {fe : Env → Res D} {ρ : Env} (f : α → D) (k : α → Env) (y : α → D) (us : List α) (hu : ∀ u ∈ us, h (f u) ρ = some (k u) ∧ fe (k u) = .ok (y u)) : lcD h tYes' fe ρ (us.map f) = .ok (us.map y) := by
  have := lc_fm (h := h) (gt := tYes') (fe := fe) (ρ := ρ) f k (fun _ => true) y us fun u m => ⟨(hu u m).1, rfl, fun _ => (hu u m).2⟩
  rw [List.filter_eq_self.mpr (fun _ _ => rfl)] at this
  exact this
theorem mkL_ok {xs : List D} (h : xs.length ≤ 100000) : mkL xs = .ok (.lst xs) := if_pos (decide_eq_true (by omega))
theorem cell_ok (ns : List Int) (k : Nat) : ∃ i : Int, G__law_cell [.scr ns, .int k] = .ok (.int i) := by
  unfold G__law_cell g__law_cell
  by_cases h : (k : Int) < (ns.length : Int)
  · have e : atI ns (k : Int) = some (ns[k]'(by omega)) := atI_nat (by simp)
    exact ⟨ns[k]'(by omega), by simp [fK, fOp, fU, fM, fIsN, fNotN, tB', tNot', tAnd', tOr', vAnd, vOr, vNot, fIf, lNil, lCons, fLst, fTup, fCall, fMk, fB, fSlc, oNo, oSo, fSplit, fLc, iSq, iR1, tYes', zF, zS, fF1, fF3, sSeq, sRet, sIf, sSet, sSetO, sFor, sApp, sPar, sAsg, sRaise, sFld, sFrz, sBad, sTryAs, fN, fRz, tIfx, sPar3, sRaiseB, iZip, iEnu, fMet, fMkd, fMkk, fDict, fSlcL, fSort, fRc, iZipA, iEnuA, iKs, sDrop, sDput, sLput, fDget, fChain, chainK, hLst, look, peek, bo, opt, mkL, mkT, small, fnG, mkG, int2, negC, seqD, hName, hCons, hNil, hTup, par2, appD, isOw, frz, setF, ptI, isiD, notScr, env0, env0I, selfF, runB, runI, cAbs, cLen, isNone, strD, payD, tryD, noErr, cLenS, itemS, dSub, dLt, dLe, dGt, dGe, notB, isO, zipD, zipL, par3, rzD, rcD, zipA, seqB, enuA, keysD, dgetR, dlookD, isOwD, cMax, cTup, Res.bind_ok, Res.bind_err, Res.bind_bad, seq_nx, seq_rt, seq_err, bnd_ok, bnd_err, loop_nx, loop_rt, for_nil, for_cons, int_i, h, e]⟩
  · exact ⟨0, by simp [fK, fOp, fU, fM, fIsN, fNotN, tB', tNot', tAnd', tOr', vAnd, vOr, vNot, fIf, lNil, lCons, fLst, fTup, fCall, fMk, fB, fSlc, oNo, oSo, fSplit, fLc, iSq, iR1, tYes', zF, zS, fF1, fF3, sSeq, sRet, sIf, sSet, sSetO, sFor, sApp, sPar, sAsg, sRaise, sFld, sFrz, sBad, sTryAs, fN, fRz, tIfx, sPar3, sRaiseB, iZip, iEnu, fMet, fMkd, fMkk, fDict, fSlcL, fSort, fRc, iZipA, iEnuA, iKs, sDrop, sDput, sLput, fDget, fChain, chainK, hLst, look, peek, bo, opt, mkL, mkT, small, fnG, mkG, int2, negC, seqD, hName, hCons, hNil, hTup, par2, appD, isOw, frz, setF, ptI, isiD, notScr, env0, env0I, selfF, runB, runI, cAbs, cLen, isNone, strD, payD, tryD, noErr, cLenS, itemS, dSub, dLt, dLe, dGt, dGe, notB, isO, zipD, zipL, par3, rzD, rcD, zipA, seqB, enuA, keysD, dgetR, dlookD, isOwD, cMax, cTup, Res.bind_ok, Res.bind_err, Res.bind_bad, seq_nx, seq_rt, seq_err, bnd_ok, bnd_err, loop_nx, loop_rt, for_nil, for_cons, int_i, h]⟩
theorem fm {i j : Int} (h : 0 < j) : 0 ≤ i.fmod j ∧ i.fmod j < j := by
  rw [Int.fmod_eq_emod_of_nonneg _ (by omega)]
  exact ⟨Int.emod_nonneg _ (by omega), Int.emod_lt_of_pos _ h⟩

theorem chr_lt (c : Char) : c.toNat < 0x110000 := by
  have h := c.valid
  have e : c.toNat = c.val.toNat := rfl
  rcases h with h | h
  · have : c.val.toNat < 0xd800 := h
    omega
  · have : c.val.toNat < 0x110000 := h.2
    omega
theorem sok (s : String) : PyData.strOk (Str.ofString s) = true := by
  rw [Str.ofString_eq_toList]
  show Array.all _ _ = true
  rw [← Array.all_toList, List.all_eq_true]
  intro c hc
  obtain ⟨x, _, rfl⟩ := List.mem_map.mp (by simpa using hc)
  exact decide_eq_true (chr_lt x)
theorem pv_int (a : Int) : Pv (.int a) (.int a) := ⟨rfl, rfl, by simp [PyData.depth]⟩
theorem pv_str (s : String) : Pv (.str (Str.ofString s)) (.str (Str.ofString s)) := ⟨rfl, sok s, by simp [PyData.depth]⟩
theorem pv_lst (a b : Int) : Pv (.lst [.int a, .int b]) (.list [.int a, .int b]) := ⟨rfl, rfl, by simp [PyData.depth, PyData.depthAll]⟩
theorem pv_tup (a : Int) (s : String) : Pv (.tup [.int a, .str (Str.ofString s)]) (.tuple [.int a, .str (Str.ofString s)]) := ⟨rfl, by simp [PyData.canLay0, PyData.canLayAll0, sok], by simp [PyData.depth, PyData.depthAll]⟩
/-! ### all of the valued ones -/
def cs : List Nat := [1, 2, 3, 4, 5, 6, 7, 9, 10, 11, 12, 13, 14, 15, 17, 21]
theorem cs_lt : ∀ c ∈ cs, c < 22 := by decide
theorem val_eq (x : D) : G__law_valued [x] = .ok (.lst (cs.map fun c => .tup [.exc c [x], .int (c : Nat)])) := rfl
theorem lc_all (s0 v1 v2 s3 s4 : Option B) (x : D) : lc_law_1 [s0, v1, v2, s3, s4, some (.sh x)] = .ok (.lst (cs.map fun _ => .bl true)) := by
  have e := lc_m (h := hTup fun ds ρ => if ds.length = 2 then (hCons (hName 2) (hCons (hName 1) hNil)) ds ρ else none) (fe := fCall 2 G__law_alone (lCons (look 2) (lCons (look 1) lNil))) (ρ := [s0, none, none, s3, s4, some (.sh x)]) (fun c : Nat => .tup [.exc c [x], .int (c : Nat)]) (fun c => [s0, some (.sh (.int (c : Nat))), some (.sh (.exc c [x])), s3, s4, some (.sh x)]) (fun _ => .bl true) cs fun c hc => by
    refine ⟨rfl, ?_⟩
    simp only [fCall, fnG, lCons, lNil, look, List.getElem?_cons_zero, List.getElem?_cons_succ, Res.bind_ok, List.length_cons, List.length_nil, if_true, alone_eq c (cs_lt c hc) [x]]
  have ev := val_eq x
  rw [gp_lc_law_1_eq]
  unfold gp_lc_law_1
  simp only [fLc, iSq, fCall, fnG, lCons, lNil, look, List.getElem?_cons_zero, List.getElem?_cons_succ, Res.bind_ok, List.length_cons, List.length_nil, if_true, ev, seqD, wipeE, List.set_cons_succ, List.set_cons_zero]
  rw [e, Res.bind_ok]
  exact mkL_ok (by rw [List.length_map]; decide)
theorem all_cs : cAll [.lst (cs.map fun _ => .bl true)] = some (.bl true) := rfl
theorem stepX (lc : Env → Res D) (Gh : List D → Res D) (s0 v1 v2 s3 s4 : Option B) (x l h h' : D) (e1 : lc [s0, v1, v2, s3, s4, some (.sh x)] = .ok l) (e2 : cAll [l] = some (.bl true)) (e3 : Gh [x] = .ok h) (e4 : repD (.lst [x]) (.int 16) = some h') (e5 : neD h h' = some (.bl false)) :
    gb_fr_law_2 lc Gh [s0, v1, v2, s3, s4, some (.sh x)] = .nx [s0, v1, v2, s3, s4, some (.sh x)] := by
  unfold gb_fr_law_2
  simp only [sIf, tOr', tNot', tB', fB, fOp, fCall, fnG, fLst, fK, lCons, lNil, look, List.getElem?_cons_zero, List.getElem?_cons_succ, Res.bind_ok, List.length_cons, List.length_nil, if_true, e1, opt, e2, bo, Bool.not_true, Bool.false_eq_true, if_false, e3, mkL1, e4, e5, bnd_ok]
theorem loopX (s0 v1 v2 s3 s4 : Option B) : ∀ (xs : List D) (v5 : Option B), (∀ x ∈ xs, ∃ p, Pv x p) → ∃ w5, forD (hName 5) (gb_fr_law_2 lc_law_1 G__law_held) xs [s0, v1, v2, s3, s4, v5] = .nx [s0, v1, v2, s3, s4, w5]
  | [], v5, _ => ⟨v5, rfl⟩
  | x :: xs, v5, hx => by
    obtain ⟨p, hp⟩ := hx x (by simp)
    obtain ⟨w5, e⟩ := loopX s0 v1 v2 s3 s4 xs (some (.sh x)) fun y hy => hx y (by simp [hy])
    refine ⟨w5, ?_⟩
    rw [for_cons]
    show loopK (gb_fr_law_2 lc_law_1 G__law_held [s0, v1, v2, s3, s4, some (.sh x)]) _ = _
    rw [stepX lc_law_1 G__law_held s0 v1 v2 s3 s4 x _ _ _ (lc_all s0 v1 v2 s3 s4 x) all_cs (held_eq x) rfl (ne16 hp), loop_nx]
    exact e
theorem fr2_eq (s0 v1 v2 : Option B) (k a : Int) (v5 : Option B) (ha : a.natAbs.log2 < 1920) : ∃ w5, fr_law_2 [s0, v1, v2, some (.sh (.int k)), some (.sh (.int a)), v5] = .nx [s0, v1, v2, some (.sh (.int k)), some (.sh (.int a)), w5] := by
  obtain ⟨w5, e⟩ := loopX s0 v1 v2 (some (.sh (.int k))) (some (.sh (.int a))) [.int a, .str (toString a), .lst [.int a, .int k], .tup [.int k, .str (toString a)]] v5 (fun x hx => by
    simp only [List.mem_cons, List.not_mem_nil, or_false] at hx
    rcases hx with rfl | rfl | rfl | rfl
    · exact ⟨_, pv_int a⟩
    · exact ⟨_, pv_str _⟩
    · exact ⟨_, pv_lst a k⟩
    · exact ⟨_, pv_tup k _⟩)
  refine ⟨w5, ?_⟩
  have es : cStrI [.int a] = some (.str (toString a)) := if_pos ha
  rw [gb_fr_law_2_eq]
  simp only [sFor, iSq, fTup, fLst, fB, lCons, lNil, look, peek, List.getElem?_cons_zero, List.getElem?_cons_succ, Res.bind_ok, opt, es, mkL2, mkT2, mkT4, seqD, bnd_ok]
  exact e
/-! ### the law -/
theorem p30 : powC 10 30 = some (.int 1000000000000000000000000000000) := by
  unfold powC
  rw [if_pos (by decide)]
  congr 2
theorem lg30 {z : Int} (h0 : 0 ≤ z) (h1 : z < 1000000000000000000000000000000) : (z - 5).natAbs.log2 < 1920 := by
  by_cases hn : (z - 5).natAbs = 0
  · rw [hn]
    decide
  · have : (z - 5).natAbs.log2 < 100 := (Nat.log2_lt hn).mpr (by
      have : (2 : Nat) ^ 100 = 1267650600228229401496703205376 := by decide
      rw [this]
      omega)
    omega
theorem step3 (Gc : List D → Res D) (f2 : Env → RS) (s : D) (v1 v2 v4 v5 w5 : Option B) (k c N z : Int) (hc : Gc [s, .int k] = .ok (.int c)) (h1 : powC 10 30 = some (.int N)) (h2 : modC c N = some (.int z)) (hf : f2 [some (.sh s), v1, v2, some (.sh (.int k)), some (.sh (.int (z - 5))), v5] = .nx [some (.sh s), v1, v2, some (.sh (.int k)), some (.sh (.int (z - 5))), w5]) :
    gb_fr_law_3 Gc f2 [some (.sh s), v1, v2, some (.sh (.int k)), v4, v5] = .nx [some (.sh s), v1, v2, some (.sh (.int k)), some (.sh (.int (z - 5))), w5] := by
  have e1 : cInt2 [.int c] = some (.int c) := rfl
  have e2 : dSub (.int z) (.int 5) = some (.int (z - 5)) := rfl
  unfold gb_fr_law_3
  simp only [sSeq, sSet, fOp, int2, fB, fCall, fnG, fK, lCons, lNil, look, List.getElem?_cons_zero, List.getElem?_cons_succ, List.set_cons_succ, List.set_cons_zero, List.length_cons, List.length_nil, if_true, Res.bind_ok, opt, hc, e1, h1, h2, e2, bnd_ok, seq_nx, hf]
theorem loop3 (ns : List Int) (v1 v2 : Option B) : ∀ (ks : List Nat) (v3 v4 v5 : Option B), ∃ w3 w4 w5, forD (hName 3) (gb_fr_law_3 G__law_cell fr_law_2) (ks.map fun k => .int (k : Nat)) [some (.sh (.scr ns)), v1, v2, v3, v4, v5] = .nx [some (.sh (.scr ns)), v1, v2, w3, w4, w5]
  | [], v3, v4, v5 => ⟨v3, v4, v5, rfl⟩
  | k :: ks, v3, v4, v5 => by
    obtain ⟨c, hc⟩ := cell_ok ns k
    have hm := mod_ok (i := c) (j := 1000000000000000000000000000000) (by decide)
    have hz := fm (i := c) (j := 1000000000000000000000000000000) (by decide)
    have hg := lg30 hz.1 hz.2
    have h1 := p30
    generalize (1000000000000000000000000000000 : Int) = N at *
    generalize c.fmod N = z at *
    obtain ⟨u5, e2⟩ := fr2_eq (some (.sh (.scr ns))) v1 v2 (k : Nat) (z - 5) v5 hg
    obtain ⟨w3, w4, w5, e⟩ := loop3 ns v1 v2 ks (some (.sh (.int (k : Nat)))) (some (.sh (.int (z - 5)))) u5
    refine ⟨w3, w4, w5, ?_⟩
    rw [List.map_cons, for_cons]
    show loopK (gb_fr_law_3 G__law_cell fr_law_2 [some (.sh (.scr ns)), v1, v2, some (.sh (.int (k : Nat))), v4, v5]) _ = _
    rw [step3 G__law_cell fr_law_2 (.scr ns) v1 v2 v4 v5 u5 (k : Nat) c N z hc h1 hm e2, loop_nx]
    exact e
theorem fr3_eq (ns : List Int) (v1 v2 v3 v4 v5 : Option B) : ∃ w3 w4 w5, fr_law_3 [some (.sh (.scr ns)), v1, v2, v3, v4, v5] = .nx [some (.sh (.scr ns)), v1, v2, w3, w4, w5] := by
  obtain ⟨w3, w4, w5, e⟩ := loop3 ns v1 v2 [0, 1, 2] v3 v4 v5
  refine ⟨w3, w4, w5, ?_⟩
  have er : rng1 [.int 3] = .ok ([0, 1, 2].map fun (k : Nat) => D.int (k : Nat)) := rfl
  rw [gb_fr_law_3_eq]
  simp only [sFor, iR1, fK, lCons, lNil, Res.bind_ok, er, bnd_ok]
  exact e
theorem runLaw (f0 f3 : Env → RS) (Ga : List D → Res D) (s : D) (w1 w2 w3 w4 w5 : Option B) (h0 : f0 [some (.sh s), none, none, none, none, none] = .nx [some (.sh s), w1, w2, none, none, none]) (ha : Ga [.exc 20 [], .int 20] = .ok (.bl true)) (h3 : f3 [some (.sh s), w1, w2, none, none, none] = .nx [some (.sh s), w1, w2, w3, w4, w5]) :
    runB (gp_g_law f0 Ga f3) 6 [s] = .ok (.bl true) := by
  have e0 : env0 6 [s] = [some (.sh s), none, none, none, none, none] := rfl
  unfold runB gp_g_law
  rw [e0]
  simp only [sSeq, sIf, sRet, tNot', tB', fCall, fnG, fK, lCons, lNil, List.length_cons, List.length_nil, if_true, Res.bind_ok, h0, seq_nx, ha, bo, Bool.not_true, Bool.false_eq_true, if_false, bnd_ok, h3]
theorem law_true (ns : List Int) : G_law [.scr ns] = .ok (.bl true) := by
  obtain ⟨w1, w2, e0⟩ := fr0_eq (some (.sh (.scr ns))) none none none none none
  obtain ⟨w3, w4, w5, e3⟩ := fr3_eq ns w1 w2 none none none
  exact runLaw fr_law_0 fr_law_3 G__law_alone (.scr ns) w1 w2 w3 w4 w5 e0 (alone_eq 20 (by decide) []) e3
end DL.K01
namespace DL
open PySem L2
theorem cx_false {P : Program} {w : World} {H : Hp} {s : Shared} {u : Value} {s' : Shared} (h : L2.CX P w [] H s (fun _ _ _ => False) u s') : False := by
  obtain ⟨_, _, _, _, _, _, _, _, _, _, _, _, z⟩ := h
  exact z
end DL
namespace DL.K01
open PySem L2
abbrev lw : PySem.W.OpenLaw := PySem.Challenge.rw_everylist_k01_errors
def ev22 (e0 e1 e2 e3 e4 e5 e6 e7 e8 e9 e10 e11 e12 e13 e14 e15 e16 e17 e18 e19 e20 e21 : Addr) : Nat → Addr
  | 0 => e0
  | 1 => e1
  | 2 => e2
  | 3 => e3
  | 4 => e4
  | 5 => e5
  | 6 => e6
  | 7 => e7
  | 8 => e8
  | 9 => e9
  | 10 => e10
  | 11 => e11
  | 12 => e12
  | 13 => e13
  | 14 => e14
  | 15 => e15
  | 16 => e16
  | 17 => e17
  | 18 => e18
  | 19 => e19
  | 20 => e20
  | 21 => e21
  | _ => e0
theorem all_mk {w : World} {K : PySem.W.Frag} {h : Heap} {mg : Str → Option Value} {fa : Addr} (X : K.In h) (G : h.Ns mainGlobals mg) (hfa : mg "law" = some (.ref fa))
    {f0 : Addr} {od0 an0 : Option Addr} {sl0 : Array (Option Value)} {oc0 kV0 dc0 pm0 ct0 : Value} {cd0 : Value}
    {f1 : Addr} {od1 an1 : Option Addr} {sl1 : Array (Option Value)} {oc1 kV1 dc1 pm1 ct1 : Value} {cd1 : Value}
    {f2 : Addr} {od2 an2 : Option Addr} {sl2 : Array (Option Value)} {oc2 kV2 dc2 pm2 ct2 : Value} {cd2 : Value}
    {f3 : Addr} {od3 an3 : Option Addr} {sl3 : Array (Option Value)} {oc3 kV3 dc3 pm3 ct3 : Value} {cd3 : Value}
    {f4 : Addr} {od4 an4 : Option Addr} {sl4 : Array (Option Value)} {oc4 kV4 dc4 pm4 ct4 : Value} {cd4 : Value}
    {f5 : Addr} {od5 an5 : Option Addr} {sl5 : Array (Option Value)} {oc5 kV5 dc5 pm5 ct5 : Value} {cd5 : Value}
    {E0 N0 fI0 cc0 cda0 : Addr} {nm0 q0 qE0 msg0 file0 : Str} {bs0 bm0 sub0 : List Value} {sn0 : List Str} {ab0 : Bool} {col0 : Option Bool} {dd0 odE0 anE0 cddE0 cldE0 : Option Addr} {m0_0 m1_0 m2_0 m3_0 m5_0 : Option Value} {ocE0 docE0 pmE0 ctE0 cclE0 clE0 : Value} {oslE0 ccsE0 cslE0 : Array (Option Value)} {jE0 : Nat} {p1_0 q0_0 q1_0 q2_0 q3_0 q4_0 q5_0 : Pos}  {vsE0 : Array Value} {tf0 : Tok}
    {E1 N1 fI1 cc1 cda1 : Addr} {nm1 q1 qE1 msg1 file1 : Str} {bs1 bm1 sub1 : List Value} {sn1 : List Str} {ab1 : Bool} {col1 : Option Bool} {dd1 odE1 anE1 cddE1 cldE1 : Option Addr} {m0_1 m1_1 m2_1 m3_1 m5_1 : Option Value} {ocE1 docE1 pmE1 ctE1 cclE1 clE1 : Value} {oslE1 ccsE1 cslE1 : Array (Option Value)} {jE1 : Nat} {p1_1 q0_1 q1_1 q2_1 q3_1 q4_1 q5_1 : Pos} {p2_1 r1_1 r2_1 r3_1 r4_1 : Pos}  {vsE1 : Array Value} {tf1 : Tok}
    {E2 N2 fI2 cc2 cda2 : Addr} {nm2 q2 qE2 msg2 file2 : Str} {bs2 bm2 sub2 : List Value} {sn2 : List Str} {ab2 : Bool} {col2 : Option Bool} {dd2 odE2 anE2 cddE2 cldE2 : Option Addr} {m0_2 m1_2 m2_2 m3_2 m5_2 : Option Value} {ocE2 docE2 pmE2 ctE2 cclE2 clE2 : Value} {oslE2 ccsE2 cslE2 : Array (Option Value)} {jE2 : Nat} {p1_2 q0_2 q1_2 q2_2 q3_2 q4_2 q5_2 : Pos} {p2_2 r1_2 r2_2 r3_2 r4_2 : Pos}  {vsE2 : Array Value} {tf2 : Tok}
    {E3 N3 fI3 cc3 cda3 : Addr} {nm3 q3 qE3 msg3 file3 : Str} {bs3 bm3 sub3 : List Value} {sn3 : List Str} {ab3 : Bool} {col3 : Option Bool} {dd3 odE3 anE3 cddE3 cldE3 : Option Addr} {m0_3 m1_3 m2_3 m3_3 m5_3 : Option Value} {ocE3 docE3 pmE3 ctE3 cclE3 clE3 : Value} {oslE3 ccsE3 cslE3 : Array (Option Value)} {jE3 : Nat} {p1_3 q0_3 q1_3 q2_3 q3_3 q4_3 q5_3 : Pos} {p2_3 r1_3 r2_3 r3_3 r4_3 : Pos}  {vsE3 : Array Value} {tf3 : Tok}
    {E4 N4 fI4 cc4 cda4 : Addr} {nm4 q4 qE4 msg4 file4 : Str} {bs4 bm4 sub4 : List Value} {sn4 : List Str} {ab4 : Bool} {col4 : Option Bool} {dd4 odE4 anE4 cddE4 cldE4 : Option Addr} {m0_4 m1_4 m2_4 m3_4 m5_4 : Option Value} {ocE4 docE4 pmE4 ctE4 cclE4 clE4 : Value} {oslE4 ccsE4 cslE4 : Array (Option Value)} {jE4 : Nat} {p1_4 q0_4 q1_4 q2_4 q3_4 q4_4 q5_4 : Pos} {p2_4 r1_4 r2_4 r3_4 r4_4 : Pos}  {vsE4 : Array Value} {tf4 : Tok}
    {E5 N5 fI5 cc5 cda5 : Addr} {nm5 q5 qE5 msg5 file5 : Str} {bs5 bm5 sub5 : List Value} {sn5 : List Str} {ab5 : Bool} {col5 : Option Bool} {dd5 odE5 anE5 cddE5 cldE5 : Option Addr} {m0_5 m1_5 m2_5 m3_5 m5_5 : Option Value} {ocE5 docE5 pmE5 ctE5 cclE5 clE5 : Value} {oslE5 ccsE5 cslE5 : Array (Option Value)} {jE5 : Nat} {p1_5 q0_5 q1_5 q2_5 q3_5 q4_5 q5_5 : Pos} {p2_5 r1_5 r2_5 r3_5 r4_5 : Pos}  {vsE5 : Array Value} {tf5 : Tok}
    {E6 N6 fI6 cc6 cda6 : Addr} {nm6 q6 qE6 msg6 file6 : Str} {bs6 bm6 sub6 : List Value} {sn6 : List Str} {ab6 : Bool} {col6 : Option Bool} {dd6 odE6 anE6 cddE6 cldE6 : Option Addr} {m0_6 m1_6 m2_6 m3_6 m5_6 : Option Value} {ocE6 docE6 pmE6 ctE6 cclE6 clE6 : Value} {oslE6 ccsE6 cslE6 : Array (Option Value)} {jE6 : Nat} {p1_6 q0_6 q1_6 q2_6 q3_6 q4_6 q5_6 : Pos} {p2_6 r1_6 r2_6 r3_6 r4_6 : Pos}  {vsE6 : Array Value} {tf6 : Tok}
    {E7 N7 fI7 cc7 cda7 : Addr} {nm7 q7 qE7 msg7 file7 : Str} {bs7 bm7 sub7 : List Value} {sn7 : List Str} {ab7 : Bool} {col7 : Option Bool} {dd7 odE7 anE7 cddE7 cldE7 : Option Addr} {m0_7 m1_7 m2_7 m3_7 m5_7 : Option Value} {ocE7 docE7 pmE7 ctE7 cclE7 clE7 : Value} {oslE7 ccsE7 cslE7 : Array (Option Value)} {jE7 : Nat} {p1_7 q0_7 q1_7 q2_7 q3_7 q4_7 q5_7 : Pos} {p2_7 r1_7 r2_7 r3_7 r4_7 : Pos}  {vsE7 : Array Value} {tf7 : Tok}
    {E8 N8 fI8 cc8 cda8 : Addr} {nm8 q8 qE8 msg8 file8 : Str} {bs8 bm8 sub8 : List Value} {sn8 : List Str} {ab8 : Bool} {col8 : Option Bool} {dd8 odE8 anE8 cddE8 cldE8 : Option Addr} {m0_8 m1_8 m2_8 m3_8 m5_8 : Option Value} {ocE8 docE8 pmE8 ctE8 cclE8 clE8 : Value} {oslE8 ccsE8 cslE8 : Array (Option Value)} {jE8 : Nat} {p1_8 q0_8 q1_8 q2_8 q3_8 q4_8 q5_8 : Pos}  {vsE8 : Array Value} {tf8 : Tok}
    {E9 N9 fI9 cc9 cda9 : Addr} {nm9 q9 qE9 msg9 file9 : Str} {bs9 bm9 sub9 : List Value} {sn9 : List Str} {ab9 : Bool} {col9 : Option Bool} {dd9 odE9 anE9 cddE9 cldE9 : Option Addr} {m0_9 m1_9 m2_9 m3_9 m5_9 : Option Value} {ocE9 docE9 pmE9 ctE9 cclE9 clE9 : Value} {oslE9 ccsE9 cslE9 : Array (Option Value)} {jE9 : Nat} {p1_9 q0_9 q1_9 q2_9 q3_9 q4_9 q5_9 : Pos} {p2_9 r1_9 r2_9 r3_9 r4_9 : Pos}  {vsE9 : Array Value} {tf9 : Tok}
    {E10 N10 fI10 cc10 cda10 : Addr} {nm10 q10 qE10 msg10 file10 : Str} {bs10 bm10 sub10 : List Value} {sn10 : List Str} {ab10 : Bool} {col10 : Option Bool} {dd10 odE10 anE10 cddE10 cldE10 : Option Addr} {m0_10 m1_10 m2_10 m3_10 m5_10 : Option Value} {ocE10 docE10 pmE10 ctE10 cclE10 clE10 : Value} {oslE10 ccsE10 cslE10 : Array (Option Value)} {jE10 : Nat} {p1_10 q0_10 q1_10 q2_10 q3_10 q4_10 q5_10 : Pos} {p2_10 r1_10 r2_10 r3_10 r4_10 : Pos}  {vsE10 : Array Value} {tf10 : Tok}
    {E11 N11 fI11 cc11 cda11 : Addr} {nm11 q11 qE11 msg11 file11 : Str} {bs11 bm11 sub11 : List Value} {sn11 : List Str} {ab11 : Bool} {col11 : Option Bool} {dd11 odE11 anE11 cddE11 cldE11 : Option Addr} {m0_11 m1_11 m2_11 m3_11 m5_11 : Option Value} {ocE11 docE11 pmE11 ctE11 cclE11 clE11 : Value} {oslE11 ccsE11 cslE11 : Array (Option Value)} {jE11 : Nat} {p1_11 q0_11 q1_11 q2_11 q3_11 q4_11 q5_11 : Pos} {p2_11 r1_11 r2_11 r3_11 r4_11 : Pos}  {vsE11 : Array Value} {tf11 : Tok}
    {E12 N12 fI12 cc12 cda12 : Addr} {nm12 q12 qE12 msg12 file12 : Str} {bs12 bm12 sub12 : List Value} {sn12 : List Str} {ab12 : Bool} {col12 : Option Bool} {dd12 odE12 anE12 cddE12 cldE12 : Option Addr} {m0_12 m1_12 m2_12 m3_12 m5_12 : Option Value} {ocE12 docE12 pmE12 ctE12 cclE12 clE12 : Value} {oslE12 ccsE12 cslE12 : Array (Option Value)} {jE12 : Nat} {p1_12 q0_12 q1_12 q2_12 q3_12 q4_12 q5_12 : Pos} {p2_12 r1_12 r2_12 r3_12 r4_12 : Pos}  {vsE12 : Array Value} {tf12 : Tok}
    {E13 N13 fI13 cc13 cda13 : Addr} {nm13 q13 qE13 msg13 file13 : Str} {bs13 bm13 sub13 : List Value} {sn13 : List Str} {ab13 : Bool} {col13 : Option Bool} {dd13 odE13 anE13 cddE13 cldE13 : Option Addr} {m0_13 m1_13 m2_13 m3_13 m5_13 : Option Value} {ocE13 docE13 pmE13 ctE13 cclE13 clE13 : Value} {oslE13 ccsE13 cslE13 : Array (Option Value)} {jE13 : Nat} {p1_13 q0_13 q1_13 q2_13 q3_13 q4_13 q5_13 : Pos} {p2_13 r1_13 r2_13 r3_13 r4_13 : Pos}  {vsE13 : Array Value} {tf13 : Tok}
    {E14 N14 fI14 cc14 cda14 : Addr} {nm14 q14 qE14 msg14 file14 : Str} {bs14 bm14 sub14 : List Value} {sn14 : List Str} {ab14 : Bool} {col14 : Option Bool} {dd14 odE14 anE14 cddE14 cldE14 : Option Addr} {m0_14 m1_14 m2_14 m3_14 m5_14 : Option Value} {ocE14 docE14 pmE14 ctE14 cclE14 clE14 : Value} {oslE14 ccsE14 cslE14 : Array (Option Value)} {jE14 : Nat} {p1_14 q0_14 q1_14 q2_14 q3_14 q4_14 q5_14 : Pos} {p2_14 r1_14 r2_14 r3_14 r4_14 : Pos}  {vsE14 : Array Value} {tf14 : Tok}
    {E15 N15 fI15 cc15 cda15 : Addr} {nm15 q15 qE15 msg15 file15 : Str} {bs15 bm15 sub15 : List Value} {sn15 : List Str} {ab15 : Bool} {col15 : Option Bool} {dd15 odE15 anE15 cddE15 cldE15 : Option Addr} {m0_15 m1_15 m2_15 m3_15 m5_15 : Option Value} {ocE15 docE15 pmE15 ctE15 cclE15 clE15 : Value} {oslE15 ccsE15 cslE15 : Array (Option Value)} {jE15 : Nat} {p1_15 q0_15 q1_15 q2_15 q3_15 q4_15 q5_15 : Pos} {p2_15 r1_15 r2_15 r3_15 r4_15 : Pos}  {vsE15 : Array Value} {tf15 : Tok}
    {E16 N16 fI16 cc16 cda16 : Addr} {nm16 q16 qE16 msg16 file16 : Str} {bs16 bm16 sub16 : List Value} {sn16 : List Str} {ab16 : Bool} {col16 : Option Bool} {dd16 odE16 anE16 cddE16 cldE16 : Option Addr} {m0_16 m1_16 m2_16 m3_16 m5_16 : Option Value} {ocE16 docE16 pmE16 ctE16 cclE16 clE16 : Value} {oslE16 ccsE16 cslE16 : Array (Option Value)} {jE16 : Nat} {p1_16 q0_16 q1_16 q2_16 q3_16 q4_16 q5_16 : Pos}  {vsE16 : Array Value} {tf16 : Tok}
    {E17 N17 fI17 cc17 cda17 : Addr} {nm17 q17 qE17 msg17 file17 : Str} {bs17 bm17 sub17 : List Value} {sn17 : List Str} {ab17 : Bool} {col17 : Option Bool} {dd17 odE17 anE17 cddE17 cldE17 : Option Addr} {m0_17 m1_17 m2_17 m3_17 m5_17 : Option Value} {ocE17 docE17 pmE17 ctE17 cclE17 clE17 : Value} {oslE17 ccsE17 cslE17 : Array (Option Value)} {jE17 : Nat} {p1_17 q0_17 q1_17 q2_17 q3_17 q4_17 q5_17 : Pos} {p2_17 r1_17 r2_17 r3_17 r4_17 : Pos}  {vsE17 : Array Value} {tf17 : Tok}
    {E18 N18 fI18 cc18 cda18 : Addr} {nm18 q18 qE18 msg18 file18 : Str} {bs18 bm18 sub18 : List Value} {sn18 : List Str} {ab18 : Bool} {col18 : Option Bool} {dd18 odE18 anE18 cddE18 cldE18 : Option Addr} {m0_18 m1_18 m2_18 m3_18 m5_18 : Option Value} {ocE18 docE18 pmE18 ctE18 cclE18 clE18 : Value} {oslE18 ccsE18 cslE18 : Array (Option Value)} {jE18 : Nat} {p1_18 q0_18 q1_18 q2_18 q3_18 q4_18 q5_18 : Pos}  {vsE18 : Array Value} {tf18 : Tok}
    {E19 N19 fI19 cc19 cda19 : Addr} {nm19 q19 qE19 msg19 file19 : Str} {bs19 bm19 sub19 : List Value} {sn19 : List Str} {ab19 : Bool} {col19 : Option Bool} {dd19 odE19 anE19 cddE19 cldE19 : Option Addr} {m0_19 m1_19 m2_19 m3_19 m5_19 : Option Value} {ocE19 docE19 pmE19 ctE19 cclE19 clE19 : Value} {oslE19 ccsE19 cslE19 : Array (Option Value)} {jE19 : Nat} {p1_19 q0_19 q1_19 q2_19 q3_19 q4_19 q5_19 : Pos}  {vsE19 : Array Value} {tf19 : Tok}
    {E20 N20 fI20 cc20 cda20 : Addr} {nm20 q20 qE20 msg20 file20 : Str} {bs20 bm20 sub20 : List Value} {sn20 : List Str} {ab20 : Bool} {col20 : Option Bool} {dd20 odE20 anE20 cddE20 cldE20 : Option Addr} {m0_20 m1_20 m2_20 m3_20 m5_20 : Option Value} {ocE20 docE20 pmE20 ctE20 cclE20 clE20 : Value} {oslE20 ccsE20 cslE20 : Array (Option Value)} {jE20 : Nat} {p1_20 q0_20 q1_20 q2_20 q3_20 q4_20 q5_20 : Pos}  {vsE20 : Array Value} {tf20 : Tok}
    {E21 N21 fI21 cc21 cda21 : Addr} {nm21 q21 qE21 msg21 file21 : Str} {bs21 bm21 sub21 : List Value} {sn21 : List Str} {ab21 : Bool} {col21 : Option Bool} {dd21 odE21 anE21 cddE21 cldE21 : Option Addr} {m0_21 m1_21 m2_21 m3_21 m5_21 : Option Value} {ocE21 docE21 pmE21 ctE21 cclE21 clE21 : Value} {oslE21 ccsE21 cslE21 : Array (Option Value)} {jE21 : Nat} {p1_21 q0_21 q1_21 q2_21 q3_21 q4_21 q5_21 : Pos} {p2_21 r1_21 r2_21 r3_21 r4_21 : Pos}  {vsE21 : Array Value} {tf21 : Tok}
    {L : Addr}
    (a0 : PySem.W.nsIn K mainGlobals "_law_flags" = some (some (.ref f0)))
    (l0 : K.lookup f0 = some ⟨oc0, od0, .func (PySem.W.fnOf "_law_flags" "_law_flags" (defArgs s__law_flags) (defBody s__law_flags) (defScope s__law_flags) .none kV0 dc0 pm0 an0 cd0 ct0), sl0⟩)
    (c0 : PySem.W.codeIn K cd0 "_law_flags" = true)
    (k0 : PySem.W.keepIn K (.ref f0) = true)
    (a1 : PySem.W.nsIn K mainGlobals "_law_alone" = some (some (.ref f1)))
    (l1 : K.lookup f1 = some ⟨oc1, od1, .func (PySem.W.fnOf "_law_alone" "_law_alone" (defArgs s__law_alone) (defBody s__law_alone) (defScope s__law_alone) .none kV1 dc1 pm1 an1 cd1 ct1), sl1⟩)
    (c1 : PySem.W.codeIn K cd1 "_law_alone" = true)
    (k1 : PySem.W.keepIn K (.ref f1) = true)
    (a2 : PySem.W.nsIn K mainGlobals "_law_cell" = some (some (.ref f2)))
    (l2 : K.lookup f2 = some ⟨oc2, od2, .func (PySem.W.fnOf "_law_cell" "_law_cell" (defArgs s__law_cell) (defBody s__law_cell) (defScope s__law_cell) .none kV2 dc2 pm2 an2 cd2 ct2), sl2⟩)
    (c2 : PySem.W.codeIn K cd2 "_law_cell" = true)
    (k2 : PySem.W.keepIn K (.ref f2) = true)
    (a3 : PySem.W.nsIn K mainGlobals "_law_held" = some (some (.ref f3)))
    (l3 : K.lookup f3 = some ⟨oc3, od3, .func (PySem.W.fnOf "_law_held" "_law_held" (defArgs s__law_held) (defBody s__law_held) (defScope s__law_held) .none kV3 dc3 pm3 an3 cd3 ct3), sl3⟩)
    (c3 : PySem.W.codeIn K cd3 "_law_held" = true)
    (k3 : PySem.W.keepIn K (.ref f3) = true)
    (a4 : PySem.W.nsIn K mainGlobals "_law_valued" = some (some (.ref f4)))
    (l4 : K.lookup f4 = some ⟨oc4, od4, .func (PySem.W.fnOf "_law_valued" "_law_valued" (defArgs s__law_valued) (defBody s__law_valued) (defScope s__law_valued) .none kV4 dc4 pm4 an4 cd4 ct4), sl4⟩)
    (c4 : PySem.W.codeIn K cd4 "_law_valued" = true)
    (k4 : PySem.W.keepIn K (.ref f4) = true)
    (a5 : PySem.W.nsIn K mainGlobals "law" = some (some (.ref f5)))
    (l5 : K.lookup f5 = some ⟨oc5, od5, .func (PySem.W.fnOf "law" "law" (defArgs s_law) (defBody s_law) (defScope s_law) .none kV5 dc5 pm5 an5 cd5 ct5), sl5⟩)
    (c5 : PySem.W.codeIn K cd5 "law" = true)
    (k5 : PySem.W.keepIn K (.ref f5) = true)
    (xa0 : PySem.W.nsIn K mainGlobals "Alike" = some (some (.ref E0)))
    (xL0 : K.lookup E0 = some (excClassObj nm0 q0 E0 N0 bs0 bm0 true sn0 sub0 ab0 col0 dd0 m0_0 m1_0 m2_0 m3_0 m5_0 "ValueError.__new__"))
    (xR0 : PySem.HandSPX.refsVE bm0 = true)
    (ga0 : PySem.W.findIn K (.ref E0) "__getattribute__" = some (some (.builtin "BaseException.__getattribute__")))
    (gg0 : PySem.W.findIn K (.ref E0) "__getattr__" = some none)
    (iE0 : PySem.W.findIn K (.ref E0) "__init__" = some (some (.ref fI0)))
    (tE0 : PySem.W.typeIn K (.ref fI0) = some (.type "function"))
    (kE0 : PySem.W.keepIn K (.ref E0) = true)
    (xE0 : PySem.W.subIn K (.ref E0) (.type "BaseException") = some true)
    (vE0 : PySem.W.subIn K (.ref E0) (.type "ValueError") = some true)
    (yE0 : PySem.W.typeIn K (.ref E0) = some (.type "type"))
    (hE0 : PySem.W.hasDictIn K E0 = true)
    (mE0 : PySem.W.mroIn K E0 (.ref E0) = some true)
    (uE0 : PySem.W.ks_superIn K E0 E0 "__init__" = some (some (.builtin "ValueError.__init__")))
    (icE0 : PySem.W.isClsIn K E0 = true)
    (hC0 : PySem.W.findIn K (.ref E0) "__class__" = some (some (.builtin "object.__class__")))
    (hO0 : PySem.W.mroIn K E0 (.type "object") = some true)
    (lI0 : K.lookup fI0 = some ⟨ocE0, odE0, .func (PySem.W.ksFn "__init__" qE0 (PySem.ErrX.iArgs0 p1_0) [PySem.ErrX.iSuper msg0 jE0 q0_0 q1_0 q2_0 q3_0 q4_0 q5_0] PySem.ErrX.iSc0 .none .none docE0 pmE0 anE0 (.ref cda0) ctE0 cc0), oslE0⟩)
    (cI0 : PySem.W.codeIn K (.ref cda0) qE0 = true)
    (ld0 : K.lookup cda0 = some ⟨cclE0, cddE0, .fields vsE0, ccsE0⟩)
    (hv0 : vsE0[2]? = some (.str file0 tf0))
    (hfl0 : ((PySem.Challenge.rw_everylist_k01_errors.prog.main.file : Str) == file0) = true)
    (lc0 : K.lookup cc0 = some ⟨clE0, cldE0, .cell (some (.ref E0)), cslE0⟩)
    (ev0 : PySem.ErrX.ErrEv0 (PySem.W.ksFn "__init__" qE0 (PySem.ErrX.iArgs0 p1_0) [PySem.ErrX.iSuper msg0 jE0 q0_0 q1_0 q2_0 q3_0 q4_0 q5_0] PySem.ErrX.iSc0 .none .none docE0 pmE0 anE0 (.ref cda0) ctE0 cc0) fI0 msg0 jE0 q0_0 q1_0 q2_0 q3_0 q4_0 q5_0)
    (xa1 : PySem.W.nsIn K mainGlobals "BadKind" = some (some (.ref E1)))
    (xL1 : K.lookup E1 = some (excClassObj nm1 q1 E1 N1 bs1 bm1 true sn1 sub1 ab1 col1 dd1 m0_1 m1_1 m2_1 m3_1 m5_1 "ValueError.__new__"))
    (xR1 : PySem.HandSPX.refsVE bm1 = true)
    (ga1 : PySem.W.findIn K (.ref E1) "__getattribute__" = some (some (.builtin "BaseException.__getattribute__")))
    (gg1 : PySem.W.findIn K (.ref E1) "__getattr__" = some none)
    (iE1 : PySem.W.findIn K (.ref E1) "__init__" = some (some (.ref fI1)))
    (tE1 : PySem.W.typeIn K (.ref fI1) = some (.type "function"))
    (kE1 : PySem.W.keepIn K (.ref E1) = true)
    (xE1 : PySem.W.subIn K (.ref E1) (.type "BaseException") = some true)
    (vE1 : PySem.W.subIn K (.ref E1) (.type "ValueError") = some true)
    (yE1 : PySem.W.typeIn K (.ref E1) = some (.type "type"))
    (hE1 : PySem.W.hasDictIn K E1 = true)
    (mE1 : PySem.W.mroIn K E1 (.ref E1) = some true)
    (uE1 : PySem.W.ks_superIn K E1 E1 "__init__" = some (some (.builtin "ValueError.__init__")))
    (icE1 : PySem.W.isClsIn K E1 = true)
    (hC1 : PySem.W.findIn K (.ref E1) "__class__" = some (some (.builtin "object.__class__")))
    (hO1 : PySem.W.mroIn K E1 (.type "object") = some true)
    (sa1 : PySem.W.findIn K (.ref E1) "__setattr__" = some (some (.builtin "object.__setattr__")))
    (nE1 : PySem.W.findIn K (.ref E1) "index" = some none)
    (lI1 : K.lookup fI1 = some ⟨ocE1, odE1, .func (PySem.W.ksFn "__init__" qE1 (PySem.ErrX.iArgs "index" p1_1 p2_1) [PySem.ErrX.iSuper msg1 jE1 q0_1 q1_1 q2_1 q3_1 q4_1 q5_1, PySem.ErrX.iSet "index" r1_1 r2_1 r3_1 r4_1] (PySem.ErrX.iSc "index") .none .none docE1 pmE1 anE1 (.ref cda1) ctE1 cc1), oslE1⟩)
    (cI1 : PySem.W.codeIn K (.ref cda1) qE1 = true)
    (ld1 : K.lookup cda1 = some ⟨cclE1, cddE1, .fields vsE1, ccsE1⟩)
    (hv1 : vsE1[2]? = some (.str file1 tf1))
    (hfl1 : ((PySem.Challenge.rw_everylist_k01_errors.prog.main.file : Str) == file1) = true)
    (lc1 : K.lookup cc1 = some ⟨clE1, cldE1, .cell (some (.ref E1)), cslE1⟩)
    (ev1 : PySem.ErrX.ErrEv (PySem.W.ksFn "__init__" qE1 (PySem.ErrX.iArgs "index" p1_1 p2_1) [PySem.ErrX.iSuper msg1 jE1 q0_1 q1_1 q2_1 q3_1 q4_1 q5_1, PySem.ErrX.iSet "index" r1_1 r2_1 r3_1 r4_1] (PySem.ErrX.iSc "index") .none .none docE1 pmE1 anE1 (.ref cda1) ctE1 cc1) fI1 "index" msg1 jE1 q0_1 q1_1 q2_1 q3_1 q4_1 q5_1 r1_1 r2_1 r3_1 r4_1)
    (xa2 : PySem.W.nsIn K mainGlobals "BadName" = some (some (.ref E2)))
    (xL2 : K.lookup E2 = some (excClassObj nm2 q2 E2 N2 bs2 bm2 true sn2 sub2 ab2 col2 dd2 m0_2 m1_2 m2_2 m3_2 m5_2 "ValueError.__new__"))
    (xR2 : PySem.HandSPX.refsVE bm2 = true)
    (ga2 : PySem.W.findIn K (.ref E2) "__getattribute__" = some (some (.builtin "BaseException.__getattribute__")))
    (gg2 : PySem.W.findIn K (.ref E2) "__getattr__" = some none)
    (iE2 : PySem.W.findIn K (.ref E2) "__init__" = some (some (.ref fI2)))
    (tE2 : PySem.W.typeIn K (.ref fI2) = some (.type "function"))
    (kE2 : PySem.W.keepIn K (.ref E2) = true)
    (xE2 : PySem.W.subIn K (.ref E2) (.type "BaseException") = some true)
    (vE2 : PySem.W.subIn K (.ref E2) (.type "ValueError") = some true)
    (yE2 : PySem.W.typeIn K (.ref E2) = some (.type "type"))
    (hE2 : PySem.W.hasDictIn K E2 = true)
    (mE2 : PySem.W.mroIn K E2 (.ref E2) = some true)
    (uE2 : PySem.W.ks_superIn K E2 E2 "__init__" = some (some (.builtin "ValueError.__init__")))
    (icE2 : PySem.W.isClsIn K E2 = true)
    (hC2 : PySem.W.findIn K (.ref E2) "__class__" = some (some (.builtin "object.__class__")))
    (hO2 : PySem.W.mroIn K E2 (.type "object") = some true)
    (sa2 : PySem.W.findIn K (.ref E2) "__setattr__" = some (some (.builtin "object.__setattr__")))
    (nE2 : PySem.W.findIn K (.ref E2) "name" = some none)
    (lI2 : K.lookup fI2 = some ⟨ocE2, odE2, .func (PySem.W.ksFn "__init__" qE2 (PySem.ErrX.iArgs "name" p1_2 p2_2) [PySem.ErrX.iSuper msg2 jE2 q0_2 q1_2 q2_2 q3_2 q4_2 q5_2, PySem.ErrX.iSet "name" r1_2 r2_2 r3_2 r4_2] (PySem.ErrX.iSc "name") .none .none docE2 pmE2 anE2 (.ref cda2) ctE2 cc2), oslE2⟩)
    (cI2 : PySem.W.codeIn K (.ref cda2) qE2 = true)
    (ld2 : K.lookup cda2 = some ⟨cclE2, cddE2, .fields vsE2, ccsE2⟩)
    (hv2 : vsE2[2]? = some (.str file2 tf2))
    (hfl2 : ((PySem.Challenge.rw_everylist_k01_errors.prog.main.file : Str) == file2) = true)
    (lc2 : K.lookup cc2 = some ⟨clE2, cldE2, .cell (some (.ref E2)), cslE2⟩)
    (ev2 : PySem.ErrX.ErrEv (PySem.W.ksFn "__init__" qE2 (PySem.ErrX.iArgs "name" p1_2 p2_2) [PySem.ErrX.iSuper msg2 jE2 q0_2 q1_2 q2_2 q3_2 q4_2 q5_2, PySem.ErrX.iSet "name" r1_2 r2_2 r3_2 r4_2] (PySem.ErrX.iSc "name") .none .none docE2 pmE2 anE2 (.ref cda2) ctE2 cc2) fI2 "name" msg2 jE2 q0_2 q1_2 q2_2 q3_2 q4_2 q5_2 r1_2 r2_2 r3_2 r4_2)
    (xa3 : PySem.W.nsIn K mainGlobals "BadNumber" = some (some (.ref E3)))
    (xL3 : K.lookup E3 = some (excClassObj nm3 q3 E3 N3 bs3 bm3 true sn3 sub3 ab3 col3 dd3 m0_3 m1_3 m2_3 m3_3 m5_3 "ValueError.__new__"))
    (xR3 : PySem.HandSPX.refsVE bm3 = true)
    (ga3 : PySem.W.findIn K (.ref E3) "__getattribute__" = some (some (.builtin "BaseException.__getattribute__")))
    (gg3 : PySem.W.findIn K (.ref E3) "__getattr__" = some none)
    (iE3 : PySem.W.findIn K (.ref E3) "__init__" = some (some (.ref fI3)))
    (tE3 : PySem.W.typeIn K (.ref fI3) = some (.type "function"))
    (kE3 : PySem.W.keepIn K (.ref E3) = true)
    (xE3 : PySem.W.subIn K (.ref E3) (.type "BaseException") = some true)
    (vE3 : PySem.W.subIn K (.ref E3) (.type "ValueError") = some true)
    (yE3 : PySem.W.typeIn K (.ref E3) = some (.type "type"))
    (hE3 : PySem.W.hasDictIn K E3 = true)
    (mE3 : PySem.W.mroIn K E3 (.ref E3) = some true)
    (uE3 : PySem.W.ks_superIn K E3 E3 "__init__" = some (some (.builtin "ValueError.__init__")))
    (icE3 : PySem.W.isClsIn K E3 = true)
    (hC3 : PySem.W.findIn K (.ref E3) "__class__" = some (some (.builtin "object.__class__")))
    (hO3 : PySem.W.mroIn K E3 (.type "object") = some true)
    (sa3 : PySem.W.findIn K (.ref E3) "__setattr__" = some (some (.builtin "object.__setattr__")))
    (nE3 : PySem.W.findIn K (.ref E3) "number" = some none)
    (lI3 : K.lookup fI3 = some ⟨ocE3, odE3, .func (PySem.W.ksFn "__init__" qE3 (PySem.ErrX.iArgs "number" p1_3 p2_3) [PySem.ErrX.iSuper msg3 jE3 q0_3 q1_3 q2_3 q3_3 q4_3 q5_3, PySem.ErrX.iSet "number" r1_3 r2_3 r3_3 r4_3] (PySem.ErrX.iSc "number") .none .none docE3 pmE3 anE3 (.ref cda3) ctE3 cc3), oslE3⟩)
    (cI3 : PySem.W.codeIn K (.ref cda3) qE3 = true)
    (ld3 : K.lookup cda3 = some ⟨cclE3, cddE3, .fields vsE3, ccsE3⟩)
    (hv3 : vsE3[2]? = some (.str file3 tf3))
    (hfl3 : ((PySem.Challenge.rw_everylist_k01_errors.prog.main.file : Str) == file3) = true)
    (lc3 : K.lookup cc3 = some ⟨clE3, cldE3, .cell (some (.ref E3)), cslE3⟩)
    (ev3 : PySem.ErrX.ErrEv (PySem.W.ksFn "__init__" qE3 (PySem.ErrX.iArgs "number" p1_3 p2_3) [PySem.ErrX.iSuper msg3 jE3 q0_3 q1_3 q2_3 q3_3 q4_3 q5_3, PySem.ErrX.iSet "number" r1_3 r2_3 r3_3 r4_3] (PySem.ErrX.iSc "number") .none .none docE3 pmE3 anE3 (.ref cda3) ctE3 cc3) fI3 "number" msg3 jE3 q0_3 q1_3 q2_3 q3_3 q4_3 q5_3 r1_3 r2_3 r3_3 r4_3)
    (xa4 : PySem.W.nsIn K mainGlobals "BadRow" = some (some (.ref E4)))
    (xL4 : K.lookup E4 = some (excClassObj nm4 q4 E4 N4 bs4 bm4 true sn4 sub4 ab4 col4 dd4 m0_4 m1_4 m2_4 m3_4 m5_4 "ValueError.__new__"))
    (xR4 : PySem.HandSPX.refsVE bm4 = true)
    (ga4 : PySem.W.findIn K (.ref E4) "__getattribute__" = some (some (.builtin "BaseException.__getattribute__")))
    (gg4 : PySem.W.findIn K (.ref E4) "__getattr__" = some none)
    (iE4 : PySem.W.findIn K (.ref E4) "__init__" = some (some (.ref fI4)))
    (tE4 : PySem.W.typeIn K (.ref fI4) = some (.type "function"))
    (kE4 : PySem.W.keepIn K (.ref E4) = true)
    (xE4 : PySem.W.subIn K (.ref E4) (.type "BaseException") = some true)
    (vE4 : PySem.W.subIn K (.ref E4) (.type "ValueError") = some true)
    (yE4 : PySem.W.typeIn K (.ref E4) = some (.type "type"))
    (hE4 : PySem.W.hasDictIn K E4 = true)
    (mE4 : PySem.W.mroIn K E4 (.ref E4) = some true)
    (uE4 : PySem.W.ks_superIn K E4 E4 "__init__" = some (some (.builtin "ValueError.__init__")))
    (icE4 : PySem.W.isClsIn K E4 = true)
    (hC4 : PySem.W.findIn K (.ref E4) "__class__" = some (some (.builtin "object.__class__")))
    (hO4 : PySem.W.mroIn K E4 (.type "object") = some true)
    (sa4 : PySem.W.findIn K (.ref E4) "__setattr__" = some (some (.builtin "object.__setattr__")))
    (nE4 : PySem.W.findIn K (.ref E4) "index" = some none)
    (lI4 : K.lookup fI4 = some ⟨ocE4, odE4, .func (PySem.W.ksFn "__init__" qE4 (PySem.ErrX.iArgs "index" p1_4 p2_4) [PySem.ErrX.iSuper msg4 jE4 q0_4 q1_4 q2_4 q3_4 q4_4 q5_4, PySem.ErrX.iSet "index" r1_4 r2_4 r3_4 r4_4] (PySem.ErrX.iSc "index") .none .none docE4 pmE4 anE4 (.ref cda4) ctE4 cc4), oslE4⟩)
    (cI4 : PySem.W.codeIn K (.ref cda4) qE4 = true)
    (ld4 : K.lookup cda4 = some ⟨cclE4, cddE4, .fields vsE4, ccsE4⟩)
    (hv4 : vsE4[2]? = some (.str file4 tf4))
    (hfl4 : ((PySem.Challenge.rw_everylist_k01_errors.prog.main.file : Str) == file4) = true)
    (lc4 : K.lookup cc4 = some ⟨clE4, cldE4, .cell (some (.ref E4)), cslE4⟩)
    (ev4 : PySem.ErrX.ErrEv (PySem.W.ksFn "__init__" qE4 (PySem.ErrX.iArgs "index" p1_4 p2_4) [PySem.ErrX.iSuper msg4 jE4 q0_4 q1_4 q2_4 q3_4 q4_4 q5_4, PySem.ErrX.iSet "index" r1_4 r2_4 r3_4 r4_4] (PySem.ErrX.iSc "index") .none .none docE4 pmE4 anE4 (.ref cda4) ctE4 cc4) fI4 "index" msg4 jE4 q0_4 q1_4 q2_4 q3_4 q4_4 q5_4 r1_4 r2_4 r3_4 r4_4)
    (xa5 : PySem.W.nsIn K mainGlobals "BadSum" = some (some (.ref E5)))
    (xL5 : K.lookup E5 = some (excClassObj nm5 q5 E5 N5 bs5 bm5 true sn5 sub5 ab5 col5 dd5 m0_5 m1_5 m2_5 m3_5 m5_5 "ValueError.__new__"))
    (xR5 : PySem.HandSPX.refsVE bm5 = true)
    (ga5 : PySem.W.findIn K (.ref E5) "__getattribute__" = some (some (.builtin "BaseException.__getattribute__")))
    (gg5 : PySem.W.findIn K (.ref E5) "__getattr__" = some none)
    (iE5 : PySem.W.findIn K (.ref E5) "__init__" = some (some (.ref fI5)))
    (tE5 : PySem.W.typeIn K (.ref fI5) = some (.type "function"))
    (kE5 : PySem.W.keepIn K (.ref E5) = true)
    (xE5 : PySem.W.subIn K (.ref E5) (.type "BaseException") = some true)
    (vE5 : PySem.W.subIn K (.ref E5) (.type "ValueError") = some true)
    (yE5 : PySem.W.typeIn K (.ref E5) = some (.type "type"))
    (hE5 : PySem.W.hasDictIn K E5 = true)
    (mE5 : PySem.W.mroIn K E5 (.ref E5) = some true)
    (uE5 : PySem.W.ks_superIn K E5 E5 "__init__" = some (some (.builtin "ValueError.__init__")))
    (icE5 : PySem.W.isClsIn K E5 = true)
    (hC5 : PySem.W.findIn K (.ref E5) "__class__" = some (some (.builtin "object.__class__")))
    (hO5 : PySem.W.mroIn K E5 (.type "object") = some true)
    (sa5 : PySem.W.findIn K (.ref E5) "__setattr__" = some (some (.builtin "object.__setattr__")))
    (nE5 : PySem.W.findIn K (.ref E5) "text" = some none)
    (lI5 : K.lookup fI5 = some ⟨ocE5, odE5, .func (PySem.W.ksFn "__init__" qE5 (PySem.ErrX.iArgs "text" p1_5 p2_5) [PySem.ErrX.iSuper msg5 jE5 q0_5 q1_5 q2_5 q3_5 q4_5 q5_5, PySem.ErrX.iSet "text" r1_5 r2_5 r3_5 r4_5] (PySem.ErrX.iSc "text") .none .none docE5 pmE5 anE5 (.ref cda5) ctE5 cc5), oslE5⟩)
    (cI5 : PySem.W.codeIn K (.ref cda5) qE5 = true)
    (ld5 : K.lookup cda5 = some ⟨cclE5, cddE5, .fields vsE5, ccsE5⟩)
    (hv5 : vsE5[2]? = some (.str file5 tf5))
    (hfl5 : ((PySem.Challenge.rw_everylist_k01_errors.prog.main.file : Str) == file5) = true)
    (lc5 : K.lookup cc5 = some ⟨clE5, cldE5, .cell (some (.ref E5)), cslE5⟩)
    (ev5 : PySem.ErrX.ErrEv (PySem.W.ksFn "__init__" qE5 (PySem.ErrX.iArgs "text" p1_5 p2_5) [PySem.ErrX.iSuper msg5 jE5 q0_5 q1_5 q2_5 q3_5 q4_5 q5_5, PySem.ErrX.iSet "text" r1_5 r2_5 r3_5 r4_5] (PySem.ErrX.iSc "text") .none .none docE5 pmE5 anE5 (.ref cda5) ctE5 cc5) fI5 "text" msg5 jE5 q0_5 q1_5 q2_5 q3_5 q4_5 q5_5 r1_5 r2_5 r3_5 r4_5)
    (xa6 : PySem.W.nsIn K mainGlobals "NameInUse" = some (some (.ref E6)))
    (xL6 : K.lookup E6 = some (excClassObj nm6 q6 E6 N6 bs6 bm6 true sn6 sub6 ab6 col6 dd6 m0_6 m1_6 m2_6 m3_6 m5_6 "ValueError.__new__"))
    (xR6 : PySem.HandSPX.refsVE bm6 = true)
    (ga6 : PySem.W.findIn K (.ref E6) "__getattribute__" = some (some (.builtin "BaseException.__getattribute__")))
    (gg6 : PySem.W.findIn K (.ref E6) "__getattr__" = some none)
    (iE6 : PySem.W.findIn K (.ref E6) "__init__" = some (some (.ref fI6)))
    (tE6 : PySem.W.typeIn K (.ref fI6) = some (.type "function"))
    (kE6 : PySem.W.keepIn K (.ref E6) = true)
    (xE6 : PySem.W.subIn K (.ref E6) (.type "BaseException") = some true)
    (vE6 : PySem.W.subIn K (.ref E6) (.type "ValueError") = some true)
    (yE6 : PySem.W.typeIn K (.ref E6) = some (.type "type"))
    (hE6 : PySem.W.hasDictIn K E6 = true)
    (mE6 : PySem.W.mroIn K E6 (.ref E6) = some true)
    (uE6 : PySem.W.ks_superIn K E6 E6 "__init__" = some (some (.builtin "ValueError.__init__")))
    (icE6 : PySem.W.isClsIn K E6 = true)
    (hC6 : PySem.W.findIn K (.ref E6) "__class__" = some (some (.builtin "object.__class__")))
    (hO6 : PySem.W.mroIn K E6 (.type "object") = some true)
    (sa6 : PySem.W.findIn K (.ref E6) "__setattr__" = some (some (.builtin "object.__setattr__")))
    (nE6 : PySem.W.findIn K (.ref E6) "name" = some none)
    (lI6 : K.lookup fI6 = some ⟨ocE6, odE6, .func (PySem.W.ksFn "__init__" qE6 (PySem.ErrX.iArgs "name" p1_6 p2_6) [PySem.ErrX.iSuper msg6 jE6 q0_6 q1_6 q2_6 q3_6 q4_6 q5_6, PySem.ErrX.iSet "name" r1_6 r2_6 r3_6 r4_6] (PySem.ErrX.iSc "name") .none .none docE6 pmE6 anE6 (.ref cda6) ctE6 cc6), oslE6⟩)
    (cI6 : PySem.W.codeIn K (.ref cda6) qE6 = true)
    (ld6 : K.lookup cda6 = some ⟨cclE6, cddE6, .fields vsE6, ccsE6⟩)
    (hv6 : vsE6[2]? = some (.str file6 tf6))
    (hfl6 : ((PySem.Challenge.rw_everylist_k01_errors.prog.main.file : Str) == file6) = true)
    (lc6 : K.lookup cc6 = some ⟨clE6, cldE6, .cell (some (.ref E6)), cslE6⟩)
    (ev6 : PySem.ErrX.ErrEv (PySem.W.ksFn "__init__" qE6 (PySem.ErrX.iArgs "name" p1_6 p2_6) [PySem.ErrX.iSuper msg6 jE6 q0_6 q1_6 q2_6 q3_6 q4_6 q5_6, PySem.ErrX.iSet "name" r1_6 r2_6 r3_6 r4_6] (PySem.ErrX.iSc "name") .none .none docE6 pmE6 anE6 (.ref cda6) ctE6 cc6) fI6 "name" msg6 jE6 q0_6 q1_6 q2_6 q3_6 q4_6 q5_6 r1_6 r2_6 r3_6 r4_6)
    (xa7 : PySem.W.nsIn K mainGlobals "NoKind" = some (some (.ref E7)))
    (xL7 : K.lookup E7 = some (excClassObj nm7 q7 E7 N7 bs7 bm7 true sn7 sub7 ab7 col7 dd7 m0_7 m1_7 m2_7 m3_7 m5_7 "ValueError.__new__"))
    (xR7 : PySem.HandSPX.refsVE bm7 = true)
    (ga7 : PySem.W.findIn K (.ref E7) "__getattribute__" = some (some (.builtin "BaseException.__getattribute__")))
    (gg7 : PySem.W.findIn K (.ref E7) "__getattr__" = some none)
    (iE7 : PySem.W.findIn K (.ref E7) "__init__" = some (some (.ref fI7)))
    (tE7 : PySem.W.typeIn K (.ref fI7) = some (.type "function"))
    (kE7 : PySem.W.keepIn K (.ref E7) = true)
    (xE7 : PySem.W.subIn K (.ref E7) (.type "BaseException") = some true)
    (vE7 : PySem.W.subIn K (.ref E7) (.type "ValueError") = some true)
    (yE7 : PySem.W.typeIn K (.ref E7) = some (.type "type"))
    (hE7 : PySem.W.hasDictIn K E7 = true)
    (mE7 : PySem.W.mroIn K E7 (.ref E7) = some true)
    (uE7 : PySem.W.ks_superIn K E7 E7 "__init__" = some (some (.builtin "ValueError.__init__")))
    (icE7 : PySem.W.isClsIn K E7 = true)
    (hC7 : PySem.W.findIn K (.ref E7) "__class__" = some (some (.builtin "object.__class__")))
    (hO7 : PySem.W.mroIn K E7 (.type "object") = some true)
    (sa7 : PySem.W.findIn K (.ref E7) "__setattr__" = some (some (.builtin "object.__setattr__")))
    (nE7 : PySem.W.findIn K (.ref E7) "kind" = some none)
    (lI7 : K.lookup fI7 = some ⟨ocE7, odE7, .func (PySem.W.ksFn "__init__" qE7 (PySem.ErrX.iArgs "kind" p1_7 p2_7) [PySem.ErrX.iSuper msg7 jE7 q0_7 q1_7 q2_7 q3_7 q4_7 q5_7, PySem.ErrX.iSet "kind" r1_7 r2_7 r3_7 r4_7] (PySem.ErrX.iSc "kind") .none .none docE7 pmE7 anE7 (.ref cda7) ctE7 cc7), oslE7⟩)
    (cI7 : PySem.W.codeIn K (.ref cda7) qE7 = true)
    (ld7 : K.lookup cda7 = some ⟨cclE7, cddE7, .fields vsE7, ccsE7⟩)
    (hv7 : vsE7[2]? = some (.str file7 tf7))
    (hfl7 : ((PySem.Challenge.rw_everylist_k01_errors.prog.main.file : Str) == file7) = true)
    (lc7 : K.lookup cc7 = some ⟨clE7, cldE7, .cell (some (.ref E7)), cslE7⟩)
    (ev7 : PySem.ErrX.ErrEv (PySem.W.ksFn "__init__" qE7 (PySem.ErrX.iArgs "kind" p1_7 p2_7) [PySem.ErrX.iSuper msg7 jE7 q0_7 q1_7 q2_7 q3_7 q4_7 q5_7, PySem.ErrX.iSet "kind" r1_7 r2_7 r3_7 r4_7] (PySem.ErrX.iSc "kind") .none .none docE7 pmE7 anE7 (.ref cda7) ctE7 cc7) fI7 "kind" msg7 jE7 q0_7 q1_7 q2_7 q3_7 q4_7 q5_7 r1_7 r2_7 r3_7 r4_7)
    (xa8 : PySem.W.nsIn K mainGlobals "NoLoop" = some (some (.ref E8)))
    (xL8 : K.lookup E8 = some (excClassObj nm8 q8 E8 N8 bs8 bm8 true sn8 sub8 ab8 col8 dd8 m0_8 m1_8 m2_8 m3_8 m5_8 "ValueError.__new__"))
    (xR8 : PySem.HandSPX.refsVE bm8 = true)
    (ga8 : PySem.W.findIn K (.ref E8) "__getattribute__" = some (some (.builtin "BaseException.__getattribute__")))
    (gg8 : PySem.W.findIn K (.ref E8) "__getattr__" = some none)
    (iE8 : PySem.W.findIn K (.ref E8) "__init__" = some (some (.ref fI8)))
    (tE8 : PySem.W.typeIn K (.ref fI8) = some (.type "function"))
    (kE8 : PySem.W.keepIn K (.ref E8) = true)
    (xE8 : PySem.W.subIn K (.ref E8) (.type "BaseException") = some true)
    (vE8 : PySem.W.subIn K (.ref E8) (.type "ValueError") = some true)
    (yE8 : PySem.W.typeIn K (.ref E8) = some (.type "type"))
    (hE8 : PySem.W.hasDictIn K E8 = true)
    (mE8 : PySem.W.mroIn K E8 (.ref E8) = some true)
    (uE8 : PySem.W.ks_superIn K E8 E8 "__init__" = some (some (.builtin "ValueError.__init__")))
    (icE8 : PySem.W.isClsIn K E8 = true)
    (hC8 : PySem.W.findIn K (.ref E8) "__class__" = some (some (.builtin "object.__class__")))
    (hO8 : PySem.W.mroIn K E8 (.type "object") = some true)
    (lI8 : K.lookup fI8 = some ⟨ocE8, odE8, .func (PySem.W.ksFn "__init__" qE8 (PySem.ErrX.iArgs0 p1_8) [PySem.ErrX.iSuper msg8 jE8 q0_8 q1_8 q2_8 q3_8 q4_8 q5_8] PySem.ErrX.iSc0 .none .none docE8 pmE8 anE8 (.ref cda8) ctE8 cc8), oslE8⟩)
    (cI8 : PySem.W.codeIn K (.ref cda8) qE8 = true)
    (ld8 : K.lookup cda8 = some ⟨cclE8, cddE8, .fields vsE8, ccsE8⟩)
    (hv8 : vsE8[2]? = some (.str file8 tf8))
    (hfl8 : ((PySem.Challenge.rw_everylist_k01_errors.prog.main.file : Str) == file8) = true)
    (lc8 : K.lookup cc8 = some ⟨clE8, cldE8, .cell (some (.ref E8)), cslE8⟩)
    (ev8 : PySem.ErrX.ErrEv0 (PySem.W.ksFn "__init__" qE8 (PySem.ErrX.iArgs0 p1_8) [PySem.ErrX.iSuper msg8 jE8 q0_8 q1_8 q2_8 q3_8 q4_8 q5_8] PySem.ErrX.iSc0 .none .none docE8 pmE8 anE8 (.ref cda8) ctE8 cc8) fI8 msg8 jE8 q0_8 q1_8 q2_8 q3_8 q4_8 q5_8)
    (xa9 : PySem.W.nsIn K mainGlobals "NoMany" = some (some (.ref E9)))
    (xL9 : K.lookup E9 = some (excClassObj nm9 q9 E9 N9 bs9 bm9 true sn9 sub9 ab9 col9 dd9 m0_9 m1_9 m2_9 m3_9 m5_9 "ValueError.__new__"))
    (xR9 : PySem.HandSPX.refsVE bm9 = true)
    (ga9 : PySem.W.findIn K (.ref E9) "__getattribute__" = some (some (.builtin "BaseException.__getattribute__")))
    (gg9 : PySem.W.findIn K (.ref E9) "__getattr__" = some none)
    (iE9 : PySem.W.findIn K (.ref E9) "__init__" = some (some (.ref fI9)))
    (tE9 : PySem.W.typeIn K (.ref fI9) = some (.type "function"))
    (kE9 : PySem.W.keepIn K (.ref E9) = true)
    (xE9 : PySem.W.subIn K (.ref E9) (.type "BaseException") = some true)
    (vE9 : PySem.W.subIn K (.ref E9) (.type "ValueError") = some true)
    (yE9 : PySem.W.typeIn K (.ref E9) = some (.type "type"))
    (hE9 : PySem.W.hasDictIn K E9 = true)
    (mE9 : PySem.W.mroIn K E9 (.ref E9) = some true)
    (uE9 : PySem.W.ks_superIn K E9 E9 "__init__" = some (some (.builtin "ValueError.__init__")))
    (icE9 : PySem.W.isClsIn K E9 = true)
    (hC9 : PySem.W.findIn K (.ref E9) "__class__" = some (some (.builtin "object.__class__")))
    (hO9 : PySem.W.mroIn K E9 (.type "object") = some true)
    (sa9 : PySem.W.findIn K (.ref E9) "__setattr__" = some (some (.builtin "object.__setattr__")))
    (nE9 : PySem.W.findIn K (.ref E9) "many" = some none)
    (lI9 : K.lookup fI9 = some ⟨ocE9, odE9, .func (PySem.W.ksFn "__init__" qE9 (PySem.ErrX.iArgs "many" p1_9 p2_9) [PySem.ErrX.iSuper msg9 jE9 q0_9 q1_9 q2_9 q3_9 q4_9 q5_9, PySem.ErrX.iSet "many" r1_9 r2_9 r3_9 r4_9] (PySem.ErrX.iSc "many") .none .none docE9 pmE9 anE9 (.ref cda9) ctE9 cc9), oslE9⟩)
    (cI9 : PySem.W.codeIn K (.ref cda9) qE9 = true)
    (ld9 : K.lookup cda9 = some ⟨cclE9, cddE9, .fields vsE9, ccsE9⟩)
    (hv9 : vsE9[2]? = some (.str file9 tf9))
    (hfl9 : ((PySem.Challenge.rw_everylist_k01_errors.prog.main.file : Str) == file9) = true)
    (lc9 : K.lookup cc9 = some ⟨clE9, cldE9, .cell (some (.ref E9)), cslE9⟩)
    (ev9 : PySem.ErrX.ErrEv (PySem.W.ksFn "__init__" qE9 (PySem.ErrX.iArgs "many" p1_9 p2_9) [PySem.ErrX.iSuper msg9 jE9 q0_9 q1_9 q2_9 q3_9 q4_9 q5_9, PySem.ErrX.iSet "many" r1_9 r2_9 r3_9 r4_9] (PySem.ErrX.iSc "many") .none .none docE9 pmE9 anE9 (.ref cda9) ctE9 cc9) fI9 "many" msg9 jE9 q0_9 q1_9 q2_9 q3_9 q4_9 q5_9 r1_9 r2_9 r3_9 r4_9)
    (xa10 : PySem.W.nsIn K mainGlobals "NoModulus" = some (some (.ref E10)))
    (xL10 : K.lookup E10 = some (excClassObj nm10 q10 E10 N10 bs10 bm10 true sn10 sub10 ab10 col10 dd10 m0_10 m1_10 m2_10 m3_10 m5_10 "ValueError.__new__"))
    (xR10 : PySem.HandSPX.refsVE bm10 = true)
    (ga10 : PySem.W.findIn K (.ref E10) "__getattribute__" = some (some (.builtin "BaseException.__getattribute__")))
    (gg10 : PySem.W.findIn K (.ref E10) "__getattr__" = some none)
    (iE10 : PySem.W.findIn K (.ref E10) "__init__" = some (some (.ref fI10)))
    (tE10 : PySem.W.typeIn K (.ref fI10) = some (.type "function"))
    (kE10 : PySem.W.keepIn K (.ref E10) = true)
    (xE10 : PySem.W.subIn K (.ref E10) (.type "BaseException") = some true)
    (vE10 : PySem.W.subIn K (.ref E10) (.type "ValueError") = some true)
    (yE10 : PySem.W.typeIn K (.ref E10) = some (.type "type"))
    (hE10 : PySem.W.hasDictIn K E10 = true)
    (mE10 : PySem.W.mroIn K E10 (.ref E10) = some true)
    (uE10 : PySem.W.ks_superIn K E10 E10 "__init__" = some (some (.builtin "ValueError.__init__")))
    (icE10 : PySem.W.isClsIn K E10 = true)
    (hC10 : PySem.W.findIn K (.ref E10) "__class__" = some (some (.builtin "object.__class__")))
    (hO10 : PySem.W.mroIn K E10 (.type "object") = some true)
    (sa10 : PySem.W.findIn K (.ref E10) "__setattr__" = some (some (.builtin "object.__setattr__")))
    (nE10 : PySem.W.findIn K (.ref E10) "modulus" = some none)
    (lI10 : K.lookup fI10 = some ⟨ocE10, odE10, .func (PySem.W.ksFn "__init__" qE10 (PySem.ErrX.iArgs "modulus" p1_10 p2_10) [PySem.ErrX.iSuper msg10 jE10 q0_10 q1_10 q2_10 q3_10 q4_10 q5_10, PySem.ErrX.iSet "modulus" r1_10 r2_10 r3_10 r4_10] (PySem.ErrX.iSc "modulus") .none .none docE10 pmE10 anE10 (.ref cda10) ctE10 cc10), oslE10⟩)
    (cI10 : PySem.W.codeIn K (.ref cda10) qE10 = true)
    (ld10 : K.lookup cda10 = some ⟨cclE10, cddE10, .fields vsE10, ccsE10⟩)
    (hv10 : vsE10[2]? = some (.str file10 tf10))
    (hfl10 : ((PySem.Challenge.rw_everylist_k01_errors.prog.main.file : Str) == file10) = true)
    (lc10 : K.lookup cc10 = some ⟨clE10, cldE10, .cell (some (.ref E10)), cslE10⟩)
    (ev10 : PySem.ErrX.ErrEv (PySem.W.ksFn "__init__" qE10 (PySem.ErrX.iArgs "modulus" p1_10 p2_10) [PySem.ErrX.iSuper msg10 jE10 q0_10 q1_10 q2_10 q3_10 q4_10 q5_10, PySem.ErrX.iSet "modulus" r1_10 r2_10 r3_10 r4_10] (PySem.ErrX.iSc "modulus") .none .none docE10 pmE10 anE10 (.ref cda10) ctE10 cc10) fI10 "modulus" msg10 jE10 q0_10 q1_10 q2_10 q3_10 q4_10 q5_10 r1_10 r2_10 r3_10 r4_10)
    (xa11 : PySem.W.nsIn K mainGlobals "NoPlace" = some (some (.ref E11)))
    (xL11 : K.lookup E11 = some (excClassObj nm11 q11 E11 N11 bs11 bm11 true sn11 sub11 ab11 col11 dd11 m0_11 m1_11 m2_11 m3_11 m5_11 "ValueError.__new__"))
    (xR11 : PySem.HandSPX.refsVE bm11 = true)
    (ga11 : PySem.W.findIn K (.ref E11) "__getattribute__" = some (some (.builtin "BaseException.__getattribute__")))
    (gg11 : PySem.W.findIn K (.ref E11) "__getattr__" = some none)
    (iE11 : PySem.W.findIn K (.ref E11) "__init__" = some (some (.ref fI11)))
    (tE11 : PySem.W.typeIn K (.ref fI11) = some (.type "function"))
    (kE11 : PySem.W.keepIn K (.ref E11) = true)
    (xE11 : PySem.W.subIn K (.ref E11) (.type "BaseException") = some true)
    (vE11 : PySem.W.subIn K (.ref E11) (.type "ValueError") = some true)
    (yE11 : PySem.W.typeIn K (.ref E11) = some (.type "type"))
    (hE11 : PySem.W.hasDictIn K E11 = true)
    (mE11 : PySem.W.mroIn K E11 (.ref E11) = some true)
    (uE11 : PySem.W.ks_superIn K E11 E11 "__init__" = some (some (.builtin "ValueError.__init__")))
    (icE11 : PySem.W.isClsIn K E11 = true)
    (hC11 : PySem.W.findIn K (.ref E11) "__class__" = some (some (.builtin "object.__class__")))
    (hO11 : PySem.W.mroIn K E11 (.type "object") = some true)
    (sa11 : PySem.W.findIn K (.ref E11) "__setattr__" = some (some (.builtin "object.__setattr__")))
    (nE11 : PySem.W.findIn K (.ref E11) "place" = some none)
    (lI11 : K.lookup fI11 = some ⟨ocE11, odE11, .func (PySem.W.ksFn "__init__" qE11 (PySem.ErrX.iArgs "place" p1_11 p2_11) [PySem.ErrX.iSuper msg11 jE11 q0_11 q1_11 q2_11 q3_11 q4_11 q5_11, PySem.ErrX.iSet "place" r1_11 r2_11 r3_11 r4_11] (PySem.ErrX.iSc "place") .none .none docE11 pmE11 anE11 (.ref cda11) ctE11 cc11), oslE11⟩)
    (cI11 : PySem.W.codeIn K (.ref cda11) qE11 = true)
    (ld11 : K.lookup cda11 = some ⟨cclE11, cddE11, .fields vsE11, ccsE11⟩)
    (hv11 : vsE11[2]? = some (.str file11 tf11))
    (hfl11 : ((PySem.Challenge.rw_everylist_k01_errors.prog.main.file : Str) == file11) = true)
    (lc11 : K.lookup cc11 = some ⟨clE11, cldE11, .cell (some (.ref E11)), cslE11⟩)
    (ev11 : PySem.ErrX.ErrEv (PySem.W.ksFn "__init__" qE11 (PySem.ErrX.iArgs "place" p1_11 p2_11) [PySem.ErrX.iSuper msg11 jE11 q0_11 q1_11 q2_11 q3_11 q4_11 q5_11, PySem.ErrX.iSet "place" r1_11 r2_11 r3_11 r4_11] (PySem.ErrX.iSc "place") .none .none docE11 pmE11 anE11 (.ref cda11) ctE11 cc11) fI11 "place" msg11 jE11 q0_11 q1_11 q2_11 q3_11 q4_11 q5_11 r1_11 r2_11 r3_11 r4_11)
    (xa12 : PySem.W.nsIn K mainGlobals "NoPrime" = some (some (.ref E12)))
    (xL12 : K.lookup E12 = some (excClassObj nm12 q12 E12 N12 bs12 bm12 true sn12 sub12 ab12 col12 dd12 m0_12 m1_12 m2_12 m3_12 m5_12 "ValueError.__new__"))
    (xR12 : PySem.HandSPX.refsVE bm12 = true)
    (ga12 : PySem.W.findIn K (.ref E12) "__getattribute__" = some (some (.builtin "BaseException.__getattribute__")))
    (gg12 : PySem.W.findIn K (.ref E12) "__getattr__" = some none)
    (iE12 : PySem.W.findIn K (.ref E12) "__init__" = some (some (.ref fI12)))
    (tE12 : PySem.W.typeIn K (.ref fI12) = some (.type "function"))
    (kE12 : PySem.W.keepIn K (.ref E12) = true)
    (xE12 : PySem.W.subIn K (.ref E12) (.type "BaseException") = some true)
    (vE12 : PySem.W.subIn K (.ref E12) (.type "ValueError") = some true)
    (yE12 : PySem.W.typeIn K (.ref E12) = some (.type "type"))
    (hE12 : PySem.W.hasDictIn K E12 = true)
    (mE12 : PySem.W.mroIn K E12 (.ref E12) = some true)
    (uE12 : PySem.W.ks_superIn K E12 E12 "__init__" = some (some (.builtin "ValueError.__init__")))
    (icE12 : PySem.W.isClsIn K E12 = true)
    (hC12 : PySem.W.findIn K (.ref E12) "__class__" = some (some (.builtin "object.__class__")))
    (hO12 : PySem.W.mroIn K E12 (.type "object") = some true)
    (sa12 : PySem.W.findIn K (.ref E12) "__setattr__" = some (some (.builtin "object.__setattr__")))
    (nE12 : PySem.W.findIn K (.ref E12) "number" = some none)
    (lI12 : K.lookup fI12 = some ⟨ocE12, odE12, .func (PySem.W.ksFn "__init__" qE12 (PySem.ErrX.iArgs "number" p1_12 p2_12) [PySem.ErrX.iSuper msg12 jE12 q0_12 q1_12 q2_12 q3_12 q4_12 q5_12, PySem.ErrX.iSet "number" r1_12 r2_12 r3_12 r4_12] (PySem.ErrX.iSc "number") .none .none docE12 pmE12 anE12 (.ref cda12) ctE12 cc12), oslE12⟩)
    (cI12 : PySem.W.codeIn K (.ref cda12) qE12 = true)
    (ld12 : K.lookup cda12 = some ⟨cclE12, cddE12, .fields vsE12, ccsE12⟩)
    (hv12 : vsE12[2]? = some (.str file12 tf12))
    (hfl12 : ((PySem.Challenge.rw_everylist_k01_errors.prog.main.file : Str) == file12) = true)
    (lc12 : K.lookup cc12 = some ⟨clE12, cldE12, .cell (some (.ref E12)), cslE12⟩)
    (ev12 : PySem.ErrX.ErrEv (PySem.W.ksFn "__init__" qE12 (PySem.ErrX.iArgs "number" p1_12 p2_12) [PySem.ErrX.iSuper msg12 jE12 q0_12 q1_12 q2_12 q3_12 q4_12 q5_12, PySem.ErrX.iSet "number" r1_12 r2_12 r3_12 r4_12] (PySem.ErrX.iSc "number") .none .none docE12 pmE12 anE12 (.ref cda12) ctE12 cc12) fI12 "number" msg12 jE12 q0_12 q1_12 q2_12 q3_12 q4_12 q5_12 r1_12 r2_12 r3_12 r4_12)
    (xa13 : PySem.W.nsIn K mainGlobals "NoRegister" = some (some (.ref E13)))
    (xL13 : K.lookup E13 = some (excClassObj nm13 q13 E13 N13 bs13 bm13 true sn13 sub13 ab13 col13 dd13 m0_13 m1_13 m2_13 m3_13 m5_13 "ValueError.__new__"))
    (xR13 : PySem.HandSPX.refsVE bm13 = true)
    (ga13 : PySem.W.findIn K (.ref E13) "__getattribute__" = some (some (.builtin "BaseException.__getattribute__")))
    (gg13 : PySem.W.findIn K (.ref E13) "__getattr__" = some none)
    (iE13 : PySem.W.findIn K (.ref E13) "__init__" = some (some (.ref fI13)))
    (tE13 : PySem.W.typeIn K (.ref fI13) = some (.type "function"))
    (kE13 : PySem.W.keepIn K (.ref E13) = true)
    (xE13 : PySem.W.subIn K (.ref E13) (.type "BaseException") = some true)
    (vE13 : PySem.W.subIn K (.ref E13) (.type "ValueError") = some true)
    (yE13 : PySem.W.typeIn K (.ref E13) = some (.type "type"))
    (hE13 : PySem.W.hasDictIn K E13 = true)
    (mE13 : PySem.W.mroIn K E13 (.ref E13) = some true)
    (uE13 : PySem.W.ks_superIn K E13 E13 "__init__" = some (some (.builtin "ValueError.__init__")))
    (icE13 : PySem.W.isClsIn K E13 = true)
    (hC13 : PySem.W.findIn K (.ref E13) "__class__" = some (some (.builtin "object.__class__")))
    (hO13 : PySem.W.mroIn K E13 (.type "object") = some true)
    (sa13 : PySem.W.findIn K (.ref E13) "__setattr__" = some (some (.builtin "object.__setattr__")))
    (nE13 : PySem.W.findIn K (.ref E13) "name" = some none)
    (lI13 : K.lookup fI13 = some ⟨ocE13, odE13, .func (PySem.W.ksFn "__init__" qE13 (PySem.ErrX.iArgs "name" p1_13 p2_13) [PySem.ErrX.iSuper msg13 jE13 q0_13 q1_13 q2_13 q3_13 q4_13 q5_13, PySem.ErrX.iSet "name" r1_13 r2_13 r3_13 r4_13] (PySem.ErrX.iSc "name") .none .none docE13 pmE13 anE13 (.ref cda13) ctE13 cc13), oslE13⟩)
    (cI13 : PySem.W.codeIn K (.ref cda13) qE13 = true)
    (ld13 : K.lookup cda13 = some ⟨cclE13, cddE13, .fields vsE13, ccsE13⟩)
    (hv13 : vsE13[2]? = some (.str file13 tf13))
    (hfl13 : ((PySem.Challenge.rw_everylist_k01_errors.prog.main.file : Str) == file13) = true)
    (lc13 : K.lookup cc13 = some ⟨clE13, cldE13, .cell (some (.ref E13)), cslE13⟩)
    (ev13 : PySem.ErrX.ErrEv (PySem.W.ksFn "__init__" qE13 (PySem.ErrX.iArgs "name" p1_13 p2_13) [PySem.ErrX.iSuper msg13 jE13 q0_13 q1_13 q2_13 q3_13 q4_13 q5_13, PySem.ErrX.iSet "name" r1_13 r2_13 r3_13 r4_13] (PySem.ErrX.iSc "name") .none .none docE13 pmE13 anE13 (.ref cda13) ctE13 cc13) fI13 "name" msg13 jE13 q0_13 q1_13 q2_13 q3_13 q4_13 q5_13 r1_13 r2_13 r3_13 r4_13)
    (xa14 : PySem.W.nsIn K mainGlobals "NoTerm" = some (some (.ref E14)))
    (xL14 : K.lookup E14 = some (excClassObj nm14 q14 E14 N14 bs14 bm14 true sn14 sub14 ab14 col14 dd14 m0_14 m1_14 m2_14 m3_14 m5_14 "ValueError.__new__"))
    (xR14 : PySem.HandSPX.refsVE bm14 = true)
    (ga14 : PySem.W.findIn K (.ref E14) "__getattribute__" = some (some (.builtin "BaseException.__getattribute__")))
    (gg14 : PySem.W.findIn K (.ref E14) "__getattr__" = some none)
    (iE14 : PySem.W.findIn K (.ref E14) "__init__" = some (some (.ref fI14)))
    (tE14 : PySem.W.typeIn K (.ref fI14) = some (.type "function"))
    (kE14 : PySem.W.keepIn K (.ref E14) = true)
    (xE14 : PySem.W.subIn K (.ref E14) (.type "BaseException") = some true)
    (vE14 : PySem.W.subIn K (.ref E14) (.type "ValueError") = some true)
    (yE14 : PySem.W.typeIn K (.ref E14) = some (.type "type"))
    (hE14 : PySem.W.hasDictIn K E14 = true)
    (mE14 : PySem.W.mroIn K E14 (.ref E14) = some true)
    (uE14 : PySem.W.ks_superIn K E14 E14 "__init__" = some (some (.builtin "ValueError.__init__")))
    (icE14 : PySem.W.isClsIn K E14 = true)
    (hC14 : PySem.W.findIn K (.ref E14) "__class__" = some (some (.builtin "object.__class__")))
    (hO14 : PySem.W.mroIn K E14 (.type "object") = some true)
    (sa14 : PySem.W.findIn K (.ref E14) "__setattr__" = some (some (.builtin "object.__setattr__")))
    (nE14 : PySem.W.findIn K (.ref E14) "term" = some none)
    (lI14 : K.lookup fI14 = some ⟨ocE14, odE14, .func (PySem.W.ksFn "__init__" qE14 (PySem.ErrX.iArgs "term" p1_14 p2_14) [PySem.ErrX.iSuper msg14 jE14 q0_14 q1_14 q2_14 q3_14 q4_14 q5_14, PySem.ErrX.iSet "term" r1_14 r2_14 r3_14 r4_14] (PySem.ErrX.iSc "term") .none .none docE14 pmE14 anE14 (.ref cda14) ctE14 cc14), oslE14⟩)
    (cI14 : PySem.W.codeIn K (.ref cda14) qE14 = true)
    (ld14 : K.lookup cda14 = some ⟨cclE14, cddE14, .fields vsE14, ccsE14⟩)
    (hv14 : vsE14[2]? = some (.str file14 tf14))
    (hfl14 : ((PySem.Challenge.rw_everylist_k01_errors.prog.main.file : Str) == file14) = true)
    (lc14 : K.lookup cc14 = some ⟨clE14, cldE14, .cell (some (.ref E14)), cslE14⟩)
    (ev14 : PySem.ErrX.ErrEv (PySem.W.ksFn "__init__" qE14 (PySem.ErrX.iArgs "term" p1_14 p2_14) [PySem.ErrX.iSuper msg14 jE14 q0_14 q1_14 q2_14 q3_14 q4_14 q5_14, PySem.ErrX.iSet "term" r1_14 r2_14 r3_14 r4_14] (PySem.ErrX.iSc "term") .none .none docE14 pmE14 anE14 (.ref cda14) ctE14 cc14) fI14 "term" msg14 jE14 q0_14 q1_14 q2_14 q3_14 q4_14 q5_14 r1_14 r2_14 r3_14 r4_14)
    (xa15 : PySem.W.nsIn K mainGlobals "NoText" = some (some (.ref E15)))
    (xL15 : K.lookup E15 = some (excClassObj nm15 q15 E15 N15 bs15 bm15 true sn15 sub15 ab15 col15 dd15 m0_15 m1_15 m2_15 m3_15 m5_15 "ValueError.__new__"))
    (xR15 : PySem.HandSPX.refsVE bm15 = true)
    (ga15 : PySem.W.findIn K (.ref E15) "__getattribute__" = some (some (.builtin "BaseException.__getattribute__")))
    (gg15 : PySem.W.findIn K (.ref E15) "__getattr__" = some none)
    (iE15 : PySem.W.findIn K (.ref E15) "__init__" = some (some (.ref fI15)))
    (tE15 : PySem.W.typeIn K (.ref fI15) = some (.type "function"))
    (kE15 : PySem.W.keepIn K (.ref E15) = true)
    (xE15 : PySem.W.subIn K (.ref E15) (.type "BaseException") = some true)
    (vE15 : PySem.W.subIn K (.ref E15) (.type "ValueError") = some true)
    (yE15 : PySem.W.typeIn K (.ref E15) = some (.type "type"))
    (hE15 : PySem.W.hasDictIn K E15 = true)
    (mE15 : PySem.W.mroIn K E15 (.ref E15) = some true)
    (uE15 : PySem.W.ks_superIn K E15 E15 "__init__" = some (some (.builtin "ValueError.__init__")))
    (icE15 : PySem.W.isClsIn K E15 = true)
    (hC15 : PySem.W.findIn K (.ref E15) "__class__" = some (some (.builtin "object.__class__")))
    (hO15 : PySem.W.mroIn K E15 (.type "object") = some true)
    (sa15 : PySem.W.findIn K (.ref E15) "__setattr__" = some (some (.builtin "object.__setattr__")))
    (nE15 : PySem.W.findIn K (.ref E15) "text" = some none)
    (lI15 : K.lookup fI15 = some ⟨ocE15, odE15, .func (PySem.W.ksFn "__init__" qE15 (PySem.ErrX.iArgs "text" p1_15 p2_15) [PySem.ErrX.iSuper msg15 jE15 q0_15 q1_15 q2_15 q3_15 q4_15 q5_15, PySem.ErrX.iSet "text" r1_15 r2_15 r3_15 r4_15] (PySem.ErrX.iSc "text") .none .none docE15 pmE15 anE15 (.ref cda15) ctE15 cc15), oslE15⟩)
    (cI15 : PySem.W.codeIn K (.ref cda15) qE15 = true)
    (ld15 : K.lookup cda15 = some ⟨cclE15, cddE15, .fields vsE15, ccsE15⟩)
    (hv15 : vsE15[2]? = some (.str file15 tf15))
    (hfl15 : ((PySem.Challenge.rw_everylist_k01_errors.prog.main.file : Str) == file15) = true)
    (lc15 : K.lookup cc15 = some ⟨clE15, cldE15, .cell (some (.ref E15)), cslE15⟩)
    (ev15 : PySem.ErrX.ErrEv (PySem.W.ksFn "__init__" qE15 (PySem.ErrX.iArgs "text" p1_15 p2_15) [PySem.ErrX.iSuper msg15 jE15 q0_15 q1_15 q2_15 q3_15 q4_15 q5_15, PySem.ErrX.iSet "text" r1_15 r2_15 r3_15 r4_15] (PySem.ErrX.iSc "text") .none .none docE15 pmE15 anE15 (.ref cda15) ctE15 cc15) fI15 "text" msg15 jE15 q0_15 q1_15 q2_15 q3_15 q4_15 q5_15 r1_15 r2_15 r3_15 r4_15)
    (xa16 : PySem.W.nsIn K mainGlobals "NotWhole" = some (some (.ref E16)))
    (xL16 : K.lookup E16 = some (excClassObj nm16 q16 E16 N16 bs16 bm16 true sn16 sub16 ab16 col16 dd16 m0_16 m1_16 m2_16 m3_16 m5_16 "ValueError.__new__"))
    (xR16 : PySem.HandSPX.refsVE bm16 = true)
    (ga16 : PySem.W.findIn K (.ref E16) "__getattribute__" = some (some (.builtin "BaseException.__getattribute__")))
    (gg16 : PySem.W.findIn K (.ref E16) "__getattr__" = some none)
    (iE16 : PySem.W.findIn K (.ref E16) "__init__" = some (some (.ref fI16)))
    (tE16 : PySem.W.typeIn K (.ref fI16) = some (.type "function"))
    (kE16 : PySem.W.keepIn K (.ref E16) = true)
    (xE16 : PySem.W.subIn K (.ref E16) (.type "BaseException") = some true)
    (vE16 : PySem.W.subIn K (.ref E16) (.type "ValueError") = some true)
    (yE16 : PySem.W.typeIn K (.ref E16) = some (.type "type"))
    (hE16 : PySem.W.hasDictIn K E16 = true)
    (mE16 : PySem.W.mroIn K E16 (.ref E16) = some true)
    (uE16 : PySem.W.ks_superIn K E16 E16 "__init__" = some (some (.builtin "ValueError.__init__")))
    (icE16 : PySem.W.isClsIn K E16 = true)
    (hC16 : PySem.W.findIn K (.ref E16) "__class__" = some (some (.builtin "object.__class__")))
    (hO16 : PySem.W.mroIn K E16 (.type "object") = some true)
    (lI16 : K.lookup fI16 = some ⟨ocE16, odE16, .func (PySem.W.ksFn "__init__" qE16 (PySem.ErrX.iArgs0 p1_16) [PySem.ErrX.iSuper msg16 jE16 q0_16 q1_16 q2_16 q3_16 q4_16 q5_16] PySem.ErrX.iSc0 .none .none docE16 pmE16 anE16 (.ref cda16) ctE16 cc16), oslE16⟩)
    (cI16 : PySem.W.codeIn K (.ref cda16) qE16 = true)
    (ld16 : K.lookup cda16 = some ⟨cclE16, cddE16, .fields vsE16, ccsE16⟩)
    (hv16 : vsE16[2]? = some (.str file16 tf16))
    (hfl16 : ((PySem.Challenge.rw_everylist_k01_errors.prog.main.file : Str) == file16) = true)
    (lc16 : K.lookup cc16 = some ⟨clE16, cldE16, .cell (some (.ref E16)), cslE16⟩)
    (ev16 : PySem.ErrX.ErrEv0 (PySem.W.ksFn "__init__" qE16 (PySem.ErrX.iArgs0 p1_16) [PySem.ErrX.iSuper msg16 jE16 q0_16 q1_16 q2_16 q3_16 q4_16 q5_16] PySem.ErrX.iSc0 .none .none docE16 pmE16 anE16 (.ref cda16) ctE16 cc16) fI16 msg16 jE16 q0_16 q1_16 q2_16 q3_16 q4_16 q5_16)
    (xa17 : PySem.W.nsIn K mainGlobals "NoWay" = some (some (.ref E17)))
    (xL17 : K.lookup E17 = some (excClassObj nm17 q17 E17 N17 bs17 bm17 true sn17 sub17 ab17 col17 dd17 m0_17 m1_17 m2_17 m3_17 m5_17 "ValueError.__new__"))
    (xR17 : PySem.HandSPX.refsVE bm17 = true)
    (ga17 : PySem.W.findIn K (.ref E17) "__getattribute__" = some (some (.builtin "BaseException.__getattribute__")))
    (gg17 : PySem.W.findIn K (.ref E17) "__getattr__" = some none)
    (iE17 : PySem.W.findIn K (.ref E17) "__init__" = some (some (.ref fI17)))
    (tE17 : PySem.W.typeIn K (.ref fI17) = some (.type "function"))
    (kE17 : PySem.W.keepIn K (.ref E17) = true)
    (xE17 : PySem.W.subIn K (.ref E17) (.type "BaseException") = some true)
    (vE17 : PySem.W.subIn K (.ref E17) (.type "ValueError") = some true)
    (yE17 : PySem.W.typeIn K (.ref E17) = some (.type "type"))
    (hE17 : PySem.W.hasDictIn K E17 = true)
    (mE17 : PySem.W.mroIn K E17 (.ref E17) = some true)
    (uE17 : PySem.W.ks_superIn K E17 E17 "__init__" = some (some (.builtin "ValueError.__init__")))
    (icE17 : PySem.W.isClsIn K E17 = true)
    (hC17 : PySem.W.findIn K (.ref E17) "__class__" = some (some (.builtin "object.__class__")))
    (hO17 : PySem.W.mroIn K E17 (.type "object") = some true)
    (sa17 : PySem.W.findIn K (.ref E17) "__setattr__" = some (some (.builtin "object.__setattr__")))
    (nE17 : PySem.W.findIn K (.ref E17) "kind" = some none)
    (lI17 : K.lookup fI17 = some ⟨ocE17, odE17, .func (PySem.W.ksFn "__init__" qE17 (PySem.ErrX.iArgs "kind" p1_17 p2_17) [PySem.ErrX.iSuper msg17 jE17 q0_17 q1_17 q2_17 q3_17 q4_17 q5_17, PySem.ErrX.iSet "kind" r1_17 r2_17 r3_17 r4_17] (PySem.ErrX.iSc "kind") .none .none docE17 pmE17 anE17 (.ref cda17) ctE17 cc17), oslE17⟩)
    (cI17 : PySem.W.codeIn K (.ref cda17) qE17 = true)
    (ld17 : K.lookup cda17 = some ⟨cclE17, cddE17, .fields vsE17, ccsE17⟩)
    (hv17 : vsE17[2]? = some (.str file17 tf17))
    (hfl17 : ((PySem.Challenge.rw_everylist_k01_errors.prog.main.file : Str) == file17) = true)
    (lc17 : K.lookup cc17 = some ⟨clE17, cldE17, .cell (some (.ref E17)), cslE17⟩)
    (ev17 : PySem.ErrX.ErrEv (PySem.W.ksFn "__init__" qE17 (PySem.ErrX.iArgs "kind" p1_17 p2_17) [PySem.ErrX.iSuper msg17 jE17 q0_17 q1_17 q2_17 q3_17 q4_17 q5_17, PySem.ErrX.iSet "kind" r1_17 r2_17 r3_17 r4_17] (PySem.ErrX.iSc "kind") .none .none docE17 pmE17 anE17 (.ref cda17) ctE17 cc17) fI17 "kind" msg17 jE17 q0_17 q1_17 q2_17 q3_17 q4_17 q5_17 r1_17 r2_17 r3_17 r4_17)
    (xa18 : PySem.W.nsIn K mainGlobals "OtherFields" = some (some (.ref E18)))
    (xL18 : K.lookup E18 = some (excClassObj nm18 q18 E18 N18 bs18 bm18 true sn18 sub18 ab18 col18 dd18 m0_18 m1_18 m2_18 m3_18 m5_18 "ValueError.__new__"))
    (xR18 : PySem.HandSPX.refsVE bm18 = true)
    (ga18 : PySem.W.findIn K (.ref E18) "__getattribute__" = some (some (.builtin "BaseException.__getattribute__")))
    (gg18 : PySem.W.findIn K (.ref E18) "__getattr__" = some none)
    (iE18 : PySem.W.findIn K (.ref E18) "__init__" = some (some (.ref fI18)))
    (tE18 : PySem.W.typeIn K (.ref fI18) = some (.type "function"))
    (kE18 : PySem.W.keepIn K (.ref E18) = true)
    (xE18 : PySem.W.subIn K (.ref E18) (.type "BaseException") = some true)
    (vE18 : PySem.W.subIn K (.ref E18) (.type "ValueError") = some true)
    (yE18 : PySem.W.typeIn K (.ref E18) = some (.type "type"))
    (hE18 : PySem.W.hasDictIn K E18 = true)
    (mE18 : PySem.W.mroIn K E18 (.ref E18) = some true)
    (uE18 : PySem.W.ks_superIn K E18 E18 "__init__" = some (some (.builtin "ValueError.__init__")))
    (icE18 : PySem.W.isClsIn K E18 = true)
    (hC18 : PySem.W.findIn K (.ref E18) "__class__" = some (some (.builtin "object.__class__")))
    (hO18 : PySem.W.mroIn K E18 (.type "object") = some true)
    (lI18 : K.lookup fI18 = some ⟨ocE18, odE18, .func (PySem.W.ksFn "__init__" qE18 (PySem.ErrX.iArgs0 p1_18) [PySem.ErrX.iSuper msg18 jE18 q0_18 q1_18 q2_18 q3_18 q4_18 q5_18] PySem.ErrX.iSc0 .none .none docE18 pmE18 anE18 (.ref cda18) ctE18 cc18), oslE18⟩)
    (cI18 : PySem.W.codeIn K (.ref cda18) qE18 = true)
    (ld18 : K.lookup cda18 = some ⟨cclE18, cddE18, .fields vsE18, ccsE18⟩)
    (hv18 : vsE18[2]? = some (.str file18 tf18))
    (hfl18 : ((PySem.Challenge.rw_everylist_k01_errors.prog.main.file : Str) == file18) = true)
    (lc18 : K.lookup cc18 = some ⟨clE18, cldE18, .cell (some (.ref E18)), cslE18⟩)
    (ev18 : PySem.ErrX.ErrEv0 (PySem.W.ksFn "__init__" qE18 (PySem.ErrX.iArgs0 p1_18) [PySem.ErrX.iSuper msg18 jE18 q0_18 q1_18 q2_18 q3_18 q4_18 q5_18] PySem.ErrX.iSc0 .none .none docE18 pmE18 anE18 (.ref cda18) ctE18 cc18) fI18 msg18 jE18 q0_18 q1_18 q2_18 q3_18 q4_18 q5_18)
    (xa19 : PySem.W.nsIn K mainGlobals "UnlikeFields" = some (some (.ref E19)))
    (xL19 : K.lookup E19 = some (excClassObj nm19 q19 E19 N19 bs19 bm19 true sn19 sub19 ab19 col19 dd19 m0_19 m1_19 m2_19 m3_19 m5_19 "ValueError.__new__"))
    (xR19 : PySem.HandSPX.refsVE bm19 = true)
    (ga19 : PySem.W.findIn K (.ref E19) "__getattribute__" = some (some (.builtin "BaseException.__getattribute__")))
    (gg19 : PySem.W.findIn K (.ref E19) "__getattr__" = some none)
    (iE19 : PySem.W.findIn K (.ref E19) "__init__" = some (some (.ref fI19)))
    (tE19 : PySem.W.typeIn K (.ref fI19) = some (.type "function"))
    (kE19 : PySem.W.keepIn K (.ref E19) = true)
    (xE19 : PySem.W.subIn K (.ref E19) (.type "BaseException") = some true)
    (vE19 : PySem.W.subIn K (.ref E19) (.type "ValueError") = some true)
    (yE19 : PySem.W.typeIn K (.ref E19) = some (.type "type"))
    (hE19 : PySem.W.hasDictIn K E19 = true)
    (mE19 : PySem.W.mroIn K E19 (.ref E19) = some true)
    (uE19 : PySem.W.ks_superIn K E19 E19 "__init__" = some (some (.builtin "ValueError.__init__")))
    (icE19 : PySem.W.isClsIn K E19 = true)
    (hC19 : PySem.W.findIn K (.ref E19) "__class__" = some (some (.builtin "object.__class__")))
    (hO19 : PySem.W.mroIn K E19 (.type "object") = some true)
    (lI19 : K.lookup fI19 = some ⟨ocE19, odE19, .func (PySem.W.ksFn "__init__" qE19 (PySem.ErrX.iArgs0 p1_19) [PySem.ErrX.iSuper msg19 jE19 q0_19 q1_19 q2_19 q3_19 q4_19 q5_19] PySem.ErrX.iSc0 .none .none docE19 pmE19 anE19 (.ref cda19) ctE19 cc19), oslE19⟩)
    (cI19 : PySem.W.codeIn K (.ref cda19) qE19 = true)
    (ld19 : K.lookup cda19 = some ⟨cclE19, cddE19, .fields vsE19, ccsE19⟩)
    (hv19 : vsE19[2]? = some (.str file19 tf19))
    (hfl19 : ((PySem.Challenge.rw_everylist_k01_errors.prog.main.file : Str) == file19) = true)
    (lc19 : K.lookup cc19 = some ⟨clE19, cldE19, .cell (some (.ref E19)), cslE19⟩)
    (ev19 : PySem.ErrX.ErrEv0 (PySem.W.ksFn "__init__" qE19 (PySem.ErrX.iArgs0 p1_19) [PySem.ErrX.iSuper msg19 jE19 q0_19 q1_19 q2_19 q3_19 q4_19 q5_19] PySem.ErrX.iSc0 .none .none docE19 pmE19 anE19 (.ref cda19) ctE19 cc19) fI19 msg19 jE19 q0_19 q1_19 q2_19 q3_19 q4_19 q5_19)
    (xa20 : PySem.W.nsIn K mainGlobals "UnlikeRows" = some (some (.ref E20)))
    (xL20 : K.lookup E20 = some (excClassObj nm20 q20 E20 N20 bs20 bm20 true sn20 sub20 ab20 col20 dd20 m0_20 m1_20 m2_20 m3_20 m5_20 "ValueError.__new__"))
    (xR20 : PySem.HandSPX.refsVE bm20 = true)
    (ga20 : PySem.W.findIn K (.ref E20) "__getattribute__" = some (some (.builtin "BaseException.__getattribute__")))
    (gg20 : PySem.W.findIn K (.ref E20) "__getattr__" = some none)
    (iE20 : PySem.W.findIn K (.ref E20) "__init__" = some (some (.ref fI20)))
    (tE20 : PySem.W.typeIn K (.ref fI20) = some (.type "function"))
    (kE20 : PySem.W.keepIn K (.ref E20) = true)
    (xE20 : PySem.W.subIn K (.ref E20) (.type "BaseException") = some true)
    (vE20 : PySem.W.subIn K (.ref E20) (.type "ValueError") = some true)
    (yE20 : PySem.W.typeIn K (.ref E20) = some (.type "type"))
    (hE20 : PySem.W.hasDictIn K E20 = true)
    (mE20 : PySem.W.mroIn K E20 (.ref E20) = some true)
    (uE20 : PySem.W.ks_superIn K E20 E20 "__init__" = some (some (.builtin "ValueError.__init__")))
    (icE20 : PySem.W.isClsIn K E20 = true)
    (hC20 : PySem.W.findIn K (.ref E20) "__class__" = some (some (.builtin "object.__class__")))
    (hO20 : PySem.W.mroIn K E20 (.type "object") = some true)
    (lI20 : K.lookup fI20 = some ⟨ocE20, odE20, .func (PySem.W.ksFn "__init__" qE20 (PySem.ErrX.iArgs0 p1_20) [PySem.ErrX.iSuper msg20 jE20 q0_20 q1_20 q2_20 q3_20 q4_20 q5_20] PySem.ErrX.iSc0 .none .none docE20 pmE20 anE20 (.ref cda20) ctE20 cc20), oslE20⟩)
    (cI20 : PySem.W.codeIn K (.ref cda20) qE20 = true)
    (ld20 : K.lookup cda20 = some ⟨cclE20, cddE20, .fields vsE20, ccsE20⟩)
    (hv20 : vsE20[2]? = some (.str file20 tf20))
    (hfl20 : ((PySem.Challenge.rw_everylist_k01_errors.prog.main.file : Str) == file20) = true)
    (lc20 : K.lookup cc20 = some ⟨clE20, cldE20, .cell (some (.ref E20)), cslE20⟩)
    (ev20 : PySem.ErrX.ErrEv0 (PySem.W.ksFn "__init__" qE20 (PySem.ErrX.iArgs0 p1_20) [PySem.ErrX.iSuper msg20 jE20 q0_20 q1_20 q2_20 q3_20 q4_20 q5_20] PySem.ErrX.iSc0 .none .none docE20 pmE20 anE20 (.ref cda20) ctE20 cc20) fI20 msg20 jE20 q0_20 q1_20 q2_20 q3_20 q4_20 q5_20)
    (xa21 : PySem.W.nsIn K mainGlobals "WrongCount" = some (some (.ref E21)))
    (xL21 : K.lookup E21 = some (excClassObj nm21 q21 E21 N21 bs21 bm21 true sn21 sub21 ab21 col21 dd21 m0_21 m1_21 m2_21 m3_21 m5_21 "ValueError.__new__"))
    (xR21 : PySem.HandSPX.refsVE bm21 = true)
    (ga21 : PySem.W.findIn K (.ref E21) "__getattribute__" = some (some (.builtin "BaseException.__getattribute__")))
    (gg21 : PySem.W.findIn K (.ref E21) "__getattr__" = some none)
    (iE21 : PySem.W.findIn K (.ref E21) "__init__" = some (some (.ref fI21)))
    (tE21 : PySem.W.typeIn K (.ref fI21) = some (.type "function"))
    (kE21 : PySem.W.keepIn K (.ref E21) = true)
    (xE21 : PySem.W.subIn K (.ref E21) (.type "BaseException") = some true)
    (vE21 : PySem.W.subIn K (.ref E21) (.type "ValueError") = some true)
    (yE21 : PySem.W.typeIn K (.ref E21) = some (.type "type"))
    (hE21 : PySem.W.hasDictIn K E21 = true)
    (mE21 : PySem.W.mroIn K E21 (.ref E21) = some true)
    (uE21 : PySem.W.ks_superIn K E21 E21 "__init__" = some (some (.builtin "ValueError.__init__")))
    (icE21 : PySem.W.isClsIn K E21 = true)
    (hC21 : PySem.W.findIn K (.ref E21) "__class__" = some (some (.builtin "object.__class__")))
    (hO21 : PySem.W.mroIn K E21 (.type "object") = some true)
    (sa21 : PySem.W.findIn K (.ref E21) "__setattr__" = some (some (.builtin "object.__setattr__")))
    (nE21 : PySem.W.findIn K (.ref E21) "count" = some none)
    (lI21 : K.lookup fI21 = some ⟨ocE21, odE21, .func (PySem.W.ksFn "__init__" qE21 (PySem.ErrX.iArgs "count" p1_21 p2_21) [PySem.ErrX.iSuper msg21 jE21 q0_21 q1_21 q2_21 q3_21 q4_21 q5_21, PySem.ErrX.iSet "count" r1_21 r2_21 r3_21 r4_21] (PySem.ErrX.iSc "count") .none .none docE21 pmE21 anE21 (.ref cda21) ctE21 cc21), oslE21⟩)
    (cI21 : PySem.W.codeIn K (.ref cda21) qE21 = true)
    (ld21 : K.lookup cda21 = some ⟨cclE21, cddE21, .fields vsE21, ccsE21⟩)
    (hv21 : vsE21[2]? = some (.str file21 tf21))
    (hfl21 : ((PySem.Challenge.rw_everylist_k01_errors.prog.main.file : Str) == file21) = true)
    (lc21 : K.lookup cc21 = some ⟨clE21, cldE21, .cell (some (.ref E21)), cslE21⟩)
    (ev21 : PySem.ErrX.ErrEv (PySem.W.ksFn "__init__" qE21 (PySem.ErrX.iArgs "count" p1_21 p2_21) [PySem.ErrX.iSuper msg21 jE21 q0_21 q1_21 q2_21 q3_21 q4_21 q5_21, PySem.ErrX.iSet "count" r1_21 r2_21 r3_21 r4_21] (PySem.ErrX.iSc "count") .none .none docE21 pmE21 anE21 (.ref cda21) ctE21 cc21) fI21 "count" msg21 jE21 q0_21 q1_21 q2_21 q3_21 q4_21 q5_21 r1_21 r2_21 r3_21 r4_21)
    (aL : PySem.W.nsIn K mainGlobals "ListError" = some (some (.ref L)))
    (oE : PySem.W.nsIn K cStatics "thirdparty.any" = some none)
    (hnC : PySem.W.specialIn K (.builtin "object.__class__") "__get__" = some (some (.builtin "getset_descriptor.__get__")))
    (htC : PySem.W.takesIn K (.builtin "object.__class__") = some true)
    (hk : ((List.range 22).all fun c => (List.range 22).all fun t => PySem.W.kitOne K (.ref ((ev22 E0 E1 E2 E3 E4 E5 E6 E7 E8 E9 E10 E11 E12 E13 E14 E15 E16 E17 E18 E19 E20 E21) c)) (.ref ((ev22 E0 E1 E2 E3 E4 E5 E6 E7 E8 E9 E10 E11 E12 E13 E14 E15 E16 E17 E18 E19 E20 E21) t)) == some (c == t)) = true)
    (hkL : ((List.range 22).all fun c => PySem.W.kitOne K (.ref ((ev22 E0 E1 E2 E3 E4 E5 E6 E7 E8 E9 E10 E11 E12 E13 E14 E15 E16 E17 E18 E19 E20 E21) c)) (.ref L) == some true) = true)
    (hkV : ((List.range 22).all fun c => PySem.W.kitOne K (.ref ((ev22 E0 E1 E2 E3 E4 E5 E6 E7 E8 E9 E10 E11 E12 E13 E14 E15 E16 E17 E18 E19 E20 E21) c)) (.type "ValueError") == some true) = true)
    (b_all : PySem.W.nsIn K mainGlobals "all" = some none)
    (b_int : PySem.W.nsIn K mainGlobals "int" = some none)
    (b_isinstance : PySem.W.nsIn K mainGlobals "isinstance" = some none)
    (b_len : PySem.W.nsIn K mainGlobals "len" = some none)
    (b_range : PySem.W.nsIn K mainGlobals "range" = some none)
    (b_str : PySem.W.nsIn K mainGlobals "str" = some none)
    (b_ValueError : PySem.W.nsIn K mainGlobals "ValueError" = some none)
    (b_super : PySem.W.nsIn K mainGlobals "super" = some none)
    : LamX.LawAtS lw w K (L2.CX lw.prog w) 3 63 "_law_script" mg fa h := by
  have e0 := hfa.symm.trans (PySem.W.mg_of X G a5)
  cases e0
  obtain ⟨TT, hTT⟩ : ∃ TT : List (Addr × Str), TT = [] := ⟨_, rfl⟩
  have htop : (lw.prog.main.scope.names.lookup ("super" : Str)).isSome = false := by decide +kernel
  have hsup : mg "super" = none := PySem.W.mg_none_of X G b_super
  have F0 := fun_mk (st := s__law_flags) l0 c0 k0
  have B0 := F0.binds (ps := ["_law_e"]) fun _ _ _ _ _ _ us hl => match us, hl with | [_], _ => rfl
  have F1 := fun_mk (st := s__law_alone) l1 c1 k1
  have B1 := F1.binds (ps := ["_law_e", "_law_place"]) fun _ _ _ _ _ _ us hl => match us, hl with | [_, _], _ => rfl
  have F2 := fun_mk (st := s__law_cell) l2 c2 k2
  have B2 := F2.binds (ps := ["_law_script", "_law_k"]) fun _ _ _ _ _ _ us hl => match us, hl with | [_, _], _ => rfl
  have F3 := fun_mk (st := s__law_held) l3 c3 k3
  have B3 := F3.binds (ps := ["_law_x"]) fun _ _ _ _ _ _ us hl => match us, hl with | [_], _ => rfl
  have F4 := fun_mk (st := s__law_valued) l4 c4 k4
  have B4 := F4.binds (ps := ["_law_x"]) fun _ _ _ _ _ _ us hl => match us, hl with | [_], _ => rfl
  have F5 := fun_mk (st := s_law) l5 c5 k5
  have B5 := F5.binds (ps := ["_law_script"]) fun _ _ _ _ _ _ us hl => match us, hl with | [_], _ => rfl
  have T0 : PySem.ErrX.ErrTxt0 lw.prog K mg "Alike" E0 fI0 := ⟨PySem.W.mg_of X G xa0, ⟨nm0, q0, N0, bs0, bm0, sn0, sub0, ab0, col0, dd0, m0_0, m1_0, m2_0, m3_0, m5_0, xL0, xR0⟩, ga0, gg0, iE0, tE0, kE0, xE0, vE0, yE0, hE0, mE0, uE0, oE, hsup, htop, ⟨ocE0, odE0, qE0, msg0, jE0, docE0, pmE0, anE0, ctE0, oslE0, cc0, cda0, p1_0, q0_0, q1_0, q2_0, q3_0, q4_0, q5_0, cclE0, clE0, cddE0, cldE0, vsE0, ccsE0, cslE0, file0, tf0, lI0, cI0, ld0, hv0, hfl0, lc0, ev0⟩⟩
  have XC0 : XcC K E0 := ⟨icE0, ga0, gg0, xE0, hC0, hnC, htC, hO0⟩
  have T1 : PySem.ErrX.ErrTxt lw.prog K mg "BadKind" "index" E1 fI1 := ⟨PySem.W.mg_of X G xa1, ⟨nm1, q1, N1, bs1, bm1, sn1, sub1, ab1, col1, dd1, m0_1, m1_1, m2_1, m3_1, m5_1, xL1, xR1⟩, sa1, ga1, gg1, nE1, iE1, tE1, kE1, xE1, vE1, yE1, hE1, mE1, uE1, oE, hsup, htop, ⟨ocE1, odE1, qE1, msg1, jE1, docE1, pmE1, anE1, ctE1, oslE1, cc1, cda1, p1_1, p2_1, q0_1, q1_1, q2_1, q3_1, q4_1, q5_1, r1_1, r2_1, r3_1, r4_1, cclE1, clE1, cddE1, cldE1, vsE1, ccsE1, cslE1, file1, tf1, lI1, cI1, ld1, hv1, hfl1, lc1, ev1⟩⟩
  have XC1 : XcC K E1 := ⟨icE1, ga1, gg1, xE1, hC1, hnC, htC, hO1⟩
  have T2 : PySem.ErrX.ErrTxt lw.prog K mg "BadName" "name" E2 fI2 := ⟨PySem.W.mg_of X G xa2, ⟨nm2, q2, N2, bs2, bm2, sn2, sub2, ab2, col2, dd2, m0_2, m1_2, m2_2, m3_2, m5_2, xL2, xR2⟩, sa2, ga2, gg2, nE2, iE2, tE2, kE2, xE2, vE2, yE2, hE2, mE2, uE2, oE, hsup, htop, ⟨ocE2, odE2, qE2, msg2, jE2, docE2, pmE2, anE2, ctE2, oslE2, cc2, cda2, p1_2, p2_2, q0_2, q1_2, q2_2, q3_2, q4_2, q5_2, r1_2, r2_2, r3_2, r4_2, cclE2, clE2, cddE2, cldE2, vsE2, ccsE2, cslE2, file2, tf2, lI2, cI2, ld2, hv2, hfl2, lc2, ev2⟩⟩
  have XC2 : XcC K E2 := ⟨icE2, ga2, gg2, xE2, hC2, hnC, htC, hO2⟩
  have T3 : PySem.ErrX.ErrTxt lw.prog K mg "BadNumber" "number" E3 fI3 := ⟨PySem.W.mg_of X G xa3, ⟨nm3, q3, N3, bs3, bm3, sn3, sub3, ab3, col3, dd3, m0_3, m1_3, m2_3, m3_3, m5_3, xL3, xR3⟩, sa3, ga3, gg3, nE3, iE3, tE3, kE3, xE3, vE3, yE3, hE3, mE3, uE3, oE, hsup, htop, ⟨ocE3, odE3, qE3, msg3, jE3, docE3, pmE3, anE3, ctE3, oslE3, cc3, cda3, p1_3, p2_3, q0_3, q1_3, q2_3, q3_3, q4_3, q5_3, r1_3, r2_3, r3_3, r4_3, cclE3, clE3, cddE3, cldE3, vsE3, ccsE3, cslE3, file3, tf3, lI3, cI3, ld3, hv3, hfl3, lc3, ev3⟩⟩
  have XC3 : XcC K E3 := ⟨icE3, ga3, gg3, xE3, hC3, hnC, htC, hO3⟩
  have T4 : PySem.ErrX.ErrTxt lw.prog K mg "BadRow" "index" E4 fI4 := ⟨PySem.W.mg_of X G xa4, ⟨nm4, q4, N4, bs4, bm4, sn4, sub4, ab4, col4, dd4, m0_4, m1_4, m2_4, m3_4, m5_4, xL4, xR4⟩, sa4, ga4, gg4, nE4, iE4, tE4, kE4, xE4, vE4, yE4, hE4, mE4, uE4, oE, hsup, htop, ⟨ocE4, odE4, qE4, msg4, jE4, docE4, pmE4, anE4, ctE4, oslE4, cc4, cda4, p1_4, p2_4, q0_4, q1_4, q2_4, q3_4, q4_4, q5_4, r1_4, r2_4, r3_4, r4_4, cclE4, clE4, cddE4, cldE4, vsE4, ccsE4, cslE4, file4, tf4, lI4, cI4, ld4, hv4, hfl4, lc4, ev4⟩⟩
  have XC4 : XcC K E4 := ⟨icE4, ga4, gg4, xE4, hC4, hnC, htC, hO4⟩
  have T5 : PySem.ErrX.ErrTxt lw.prog K mg "BadSum" "text" E5 fI5 := ⟨PySem.W.mg_of X G xa5, ⟨nm5, q5, N5, bs5, bm5, sn5, sub5, ab5, col5, dd5, m0_5, m1_5, m2_5, m3_5, m5_5, xL5, xR5⟩, sa5, ga5, gg5, nE5, iE5, tE5, kE5, xE5, vE5, yE5, hE5, mE5, uE5, oE, hsup, htop, ⟨ocE5, odE5, qE5, msg5, jE5, docE5, pmE5, anE5, ctE5, oslE5, cc5, cda5, p1_5, p2_5, q0_5, q1_5, q2_5, q3_5, q4_5, q5_5, r1_5, r2_5, r3_5, r4_5, cclE5, clE5, cddE5, cldE5, vsE5, ccsE5, cslE5, file5, tf5, lI5, cI5, ld5, hv5, hfl5, lc5, ev5⟩⟩
  have XC5 : XcC K E5 := ⟨icE5, ga5, gg5, xE5, hC5, hnC, htC, hO5⟩
  have T6 : PySem.ErrX.ErrTxt lw.prog K mg "NameInUse" "name" E6 fI6 := ⟨PySem.W.mg_of X G xa6, ⟨nm6, q6, N6, bs6, bm6, sn6, sub6, ab6, col6, dd6, m0_6, m1_6, m2_6, m3_6, m5_6, xL6, xR6⟩, sa6, ga6, gg6, nE6, iE6, tE6, kE6, xE6, vE6, yE6, hE6, mE6, uE6, oE, hsup, htop, ⟨ocE6, odE6, qE6, msg6, jE6, docE6, pmE6, anE6, ctE6, oslE6, cc6, cda6, p1_6, p2_6, q0_6, q1_6, q2_6, q3_6, q4_6, q5_6, r1_6, r2_6, r3_6, r4_6, cclE6, clE6, cddE6, cldE6, vsE6, ccsE6, cslE6, file6, tf6, lI6, cI6, ld6, hv6, hfl6, lc6, ev6⟩⟩
  have XC6 : XcC K E6 := ⟨icE6, ga6, gg6, xE6, hC6, hnC, htC, hO6⟩
  have T7 : PySem.ErrX.ErrTxt lw.prog K mg "NoKind" "kind" E7 fI7 := ⟨PySem.W.mg_of X G xa7, ⟨nm7, q7, N7, bs7, bm7, sn7, sub7, ab7, col7, dd7, m0_7, m1_7, m2_7, m3_7, m5_7, xL7, xR7⟩, sa7, ga7, gg7, nE7, iE7, tE7, kE7, xE7, vE7, yE7, hE7, mE7, uE7, oE, hsup, htop, ⟨ocE7, odE7, qE7, msg7, jE7, docE7, pmE7, anE7, ctE7, oslE7, cc7, cda7, p1_7, p2_7, q0_7, q1_7, q2_7, q3_7, q4_7, q5_7, r1_7, r2_7, r3_7, r4_7, cclE7, clE7, cddE7, cldE7, vsE7, ccsE7, cslE7, file7, tf7, lI7, cI7, ld7, hv7, hfl7, lc7, ev7⟩⟩
  have XC7 : XcC K E7 := ⟨icE7, ga7, gg7, xE7, hC7, hnC, htC, hO7⟩
  have T8 : PySem.ErrX.ErrTxt0 lw.prog K mg "NoLoop" E8 fI8 := ⟨PySem.W.mg_of X G xa8, ⟨nm8, q8, N8, bs8, bm8, sn8, sub8, ab8, col8, dd8, m0_8, m1_8, m2_8, m3_8, m5_8, xL8, xR8⟩, ga8, gg8, iE8, tE8, kE8, xE8, vE8, yE8, hE8, mE8, uE8, oE, hsup, htop, ⟨ocE8, odE8, qE8, msg8, jE8, docE8, pmE8, anE8, ctE8, oslE8, cc8, cda8, p1_8, q0_8, q1_8, q2_8, q3_8, q4_8, q5_8, cclE8, clE8, cddE8, cldE8, vsE8, ccsE8, cslE8, file8, tf8, lI8, cI8, ld8, hv8, hfl8, lc8, ev8⟩⟩
  have XC8 : XcC K E8 := ⟨icE8, ga8, gg8, xE8, hC8, hnC, htC, hO8⟩
  have T9 : PySem.ErrX.ErrTxt lw.prog K mg "NoMany" "many" E9 fI9 := ⟨PySem.W.mg_of X G xa9, ⟨nm9, q9, N9, bs9, bm9, sn9, sub9, ab9, col9, dd9, m0_9, m1_9, m2_9, m3_9, m5_9, xL9, xR9⟩, sa9, ga9, gg9, nE9, iE9, tE9, kE9, xE9, vE9, yE9, hE9, mE9, uE9, oE, hsup, htop, ⟨ocE9, odE9, qE9, msg9, jE9, docE9, pmE9, anE9, ctE9, oslE9, cc9, cda9, p1_9, p2_9, q0_9, q1_9, q2_9, q3_9, q4_9, q5_9, r1_9, r2_9, r3_9, r4_9, cclE9, clE9, cddE9, cldE9, vsE9, ccsE9, cslE9, file9, tf9, lI9, cI9, ld9, hv9, hfl9, lc9, ev9⟩⟩
  have XC9 : XcC K E9 := ⟨icE9, ga9, gg9, xE9, hC9, hnC, htC, hO9⟩
  have T10 : PySem.ErrX.ErrTxt lw.prog K mg "NoModulus" "modulus" E10 fI10 := ⟨PySem.W.mg_of X G xa10, ⟨nm10, q10, N10, bs10, bm10, sn10, sub10, ab10, col10, dd10, m0_10, m1_10, m2_10, m3_10, m5_10, xL10, xR10⟩, sa10, ga10, gg10, nE10, iE10, tE10, kE10, xE10, vE10, yE10, hE10, mE10, uE10, oE, hsup, htop, ⟨ocE10, odE10, qE10, msg10, jE10, docE10, pmE10, anE10, ctE10, oslE10, cc10, cda10, p1_10, p2_10, q0_10, q1_10, q2_10, q3_10, q4_10, q5_10, r1_10, r2_10, r3_10, r4_10, cclE10, clE10, cddE10, cldE10, vsE10, ccsE10, cslE10, file10, tf10, lI10, cI10, ld10, hv10, hfl10, lc10, ev10⟩⟩
  have XC10 : XcC K E10 := ⟨icE10, ga10, gg10, xE10, hC10, hnC, htC, hO10⟩
  have T11 : PySem.ErrX.ErrTxt lw.prog K mg "NoPlace" "place" E11 fI11 := ⟨PySem.W.mg_of X G xa11, ⟨nm11, q11, N11, bs11, bm11, sn11, sub11, ab11, col11, dd11, m0_11, m1_11, m2_11, m3_11, m5_11, xL11, xR11⟩, sa11, ga11, gg11, nE11, iE11, tE11, kE11, xE11, vE11, yE11, hE11, mE11, uE11, oE, hsup, htop, ⟨ocE11, odE11, qE11, msg11, jE11, docE11, pmE11, anE11, ctE11, oslE11, cc11, cda11, p1_11, p2_11, q0_11, q1_11, q2_11, q3_11, q4_11, q5_11, r1_11, r2_11, r3_11, r4_11, cclE11, clE11, cddE11, cldE11, vsE11, ccsE11, cslE11, file11, tf11, lI11, cI11, ld11, hv11, hfl11, lc11, ev11⟩⟩
  have XC11 : XcC K E11 := ⟨icE11, ga11, gg11, xE11, hC11, hnC, htC, hO11⟩
  have T12 : PySem.ErrX.ErrTxt lw.prog K mg "NoPrime" "number" E12 fI12 := ⟨PySem.W.mg_of X G xa12, ⟨nm12, q12, N12, bs12, bm12, sn12, sub12, ab12, col12, dd12, m0_12, m1_12, m2_12, m3_12, m5_12, xL12, xR12⟩, sa12, ga12, gg12, nE12, iE12, tE12, kE12, xE12, vE12, yE12, hE12, mE12, uE12, oE, hsup, htop, ⟨ocE12, odE12, qE12, msg12, jE12, docE12, pmE12, anE12, ctE12, oslE12, cc12, cda12, p1_12, p2_12, q0_12, q1_12, q2_12, q3_12, q4_12, q5_12, r1_12, r2_12, r3_12, r4_12, cclE12, clE12, cddE12, cldE12, vsE12, ccsE12, cslE12, file12, tf12, lI12, cI12, ld12, hv12, hfl12, lc12, ev12⟩⟩
  have XC12 : XcC K E12 := ⟨icE12, ga12, gg12, xE12, hC12, hnC, htC, hO12⟩
  have T13 : PySem.ErrX.ErrTxt lw.prog K mg "NoRegister" "name" E13 fI13 := ⟨PySem.W.mg_of X G xa13, ⟨nm13, q13, N13, bs13, bm13, sn13, sub13, ab13, col13, dd13, m0_13, m1_13, m2_13, m3_13, m5_13, xL13, xR13⟩, sa13, ga13, gg13, nE13, iE13, tE13, kE13, xE13, vE13, yE13, hE13, mE13, uE13, oE, hsup, htop, ⟨ocE13, odE13, qE13, msg13, jE13, docE13, pmE13, anE13, ctE13, oslE13, cc13, cda13, p1_13, p2_13, q0_13, q1_13, q2_13, q3_13, q4_13, q5_13, r1_13, r2_13, r3_13, r4_13, cclE13, clE13, cddE13, cldE13, vsE13, ccsE13, cslE13, file13, tf13, lI13, cI13, ld13, hv13, hfl13, lc13, ev13⟩⟩
  have XC13 : XcC K E13 := ⟨icE13, ga13, gg13, xE13, hC13, hnC, htC, hO13⟩
  have T14 : PySem.ErrX.ErrTxt lw.prog K mg "NoTerm" "term" E14 fI14 := ⟨PySem.W.mg_of X G xa14, ⟨nm14, q14, N14, bs14, bm14, sn14, sub14, ab14, col14, dd14, m0_14, m1_14, m2_14, m3_14, m5_14, xL14, xR14⟩, sa14, ga14, gg14, nE14, iE14, tE14, kE14, xE14, vE14, yE14, hE14, mE14, uE14, oE, hsup, htop, ⟨ocE14, odE14, qE14, msg14, jE14, docE14, pmE14, anE14, ctE14, oslE14, cc14, cda14, p1_14, p2_14, q0_14, q1_14, q2_14, q3_14, q4_14, q5_14, r1_14, r2_14, r3_14, r4_14, cclE14, clE14, cddE14, cldE14, vsE14, ccsE14, cslE14, file14, tf14, lI14, cI14, ld14, hv14, hfl14, lc14, ev14⟩⟩
  have XC14 : XcC K E14 := ⟨icE14, ga14, gg14, xE14, hC14, hnC, htC, hO14⟩
  have T15 : PySem.ErrX.ErrTxt lw.prog K mg "NoText" "text" E15 fI15 := ⟨PySem.W.mg_of X G xa15, ⟨nm15, q15, N15, bs15, bm15, sn15, sub15, ab15, col15, dd15, m0_15, m1_15, m2_15, m3_15, m5_15, xL15, xR15⟩, sa15, ga15, gg15, nE15, iE15, tE15, kE15, xE15, vE15, yE15, hE15, mE15, uE15, oE, hsup, htop, ⟨ocE15, odE15, qE15, msg15, jE15, docE15, pmE15, anE15, ctE15, oslE15, cc15, cda15, p1_15, p2_15, q0_15, q1_15, q2_15, q3_15, q4_15, q5_15, r1_15, r2_15, r3_15, r4_15, cclE15, clE15, cddE15, cldE15, vsE15, ccsE15, cslE15, file15, tf15, lI15, cI15, ld15, hv15, hfl15, lc15, ev15⟩⟩
  have XC15 : XcC K E15 := ⟨icE15, ga15, gg15, xE15, hC15, hnC, htC, hO15⟩
  have T16 : PySem.ErrX.ErrTxt0 lw.prog K mg "NotWhole" E16 fI16 := ⟨PySem.W.mg_of X G xa16, ⟨nm16, q16, N16, bs16, bm16, sn16, sub16, ab16, col16, dd16, m0_16, m1_16, m2_16, m3_16, m5_16, xL16, xR16⟩, ga16, gg16, iE16, tE16, kE16, xE16, vE16, yE16, hE16, mE16, uE16, oE, hsup, htop, ⟨ocE16, odE16, qE16, msg16, jE16, docE16, pmE16, anE16, ctE16, oslE16, cc16, cda16, p1_16, q0_16, q1_16, q2_16, q3_16, q4_16, q5_16, cclE16, clE16, cddE16, cldE16, vsE16, ccsE16, cslE16, file16, tf16, lI16, cI16, ld16, hv16, hfl16, lc16, ev16⟩⟩
  have XC16 : XcC K E16 := ⟨icE16, ga16, gg16, xE16, hC16, hnC, htC, hO16⟩
  have T17 : PySem.ErrX.ErrTxt lw.prog K mg "NoWay" "kind" E17 fI17 := ⟨PySem.W.mg_of X G xa17, ⟨nm17, q17, N17, bs17, bm17, sn17, sub17, ab17, col17, dd17, m0_17, m1_17, m2_17, m3_17, m5_17, xL17, xR17⟩, sa17, ga17, gg17, nE17, iE17, tE17, kE17, xE17, vE17, yE17, hE17, mE17, uE17, oE, hsup, htop, ⟨ocE17, odE17, qE17, msg17, jE17, docE17, pmE17, anE17, ctE17, oslE17, cc17, cda17, p1_17, p2_17, q0_17, q1_17, q2_17, q3_17, q4_17, q5_17, r1_17, r2_17, r3_17, r4_17, cclE17, clE17, cddE17, cldE17, vsE17, ccsE17, cslE17, file17, tf17, lI17, cI17, ld17, hv17, hfl17, lc17, ev17⟩⟩
  have XC17 : XcC K E17 := ⟨icE17, ga17, gg17, xE17, hC17, hnC, htC, hO17⟩
  have T18 : PySem.ErrX.ErrTxt0 lw.prog K mg "OtherFields" E18 fI18 := ⟨PySem.W.mg_of X G xa18, ⟨nm18, q18, N18, bs18, bm18, sn18, sub18, ab18, col18, dd18, m0_18, m1_18, m2_18, m3_18, m5_18, xL18, xR18⟩, ga18, gg18, iE18, tE18, kE18, xE18, vE18, yE18, hE18, mE18, uE18, oE, hsup, htop, ⟨ocE18, odE18, qE18, msg18, jE18, docE18, pmE18, anE18, ctE18, oslE18, cc18, cda18, p1_18, q0_18, q1_18, q2_18, q3_18, q4_18, q5_18, cclE18, clE18, cddE18, cldE18, vsE18, ccsE18, cslE18, file18, tf18, lI18, cI18, ld18, hv18, hfl18, lc18, ev18⟩⟩
  have XC18 : XcC K E18 := ⟨icE18, ga18, gg18, xE18, hC18, hnC, htC, hO18⟩
  have T19 : PySem.ErrX.ErrTxt0 lw.prog K mg "UnlikeFields" E19 fI19 := ⟨PySem.W.mg_of X G xa19, ⟨nm19, q19, N19, bs19, bm19, sn19, sub19, ab19, col19, dd19, m0_19, m1_19, m2_19, m3_19, m5_19, xL19, xR19⟩, ga19, gg19, iE19, tE19, kE19, xE19, vE19, yE19, hE19, mE19, uE19, oE, hsup, htop, ⟨ocE19, odE19, qE19, msg19, jE19, docE19, pmE19, anE19, ctE19, oslE19, cc19, cda19, p1_19, q0_19, q1_19, q2_19, q3_19, q4_19, q5_19, cclE19, clE19, cddE19, cldE19, vsE19, ccsE19, cslE19, file19, tf19, lI19, cI19, ld19, hv19, hfl19, lc19, ev19⟩⟩
  have XC19 : XcC K E19 := ⟨icE19, ga19, gg19, xE19, hC19, hnC, htC, hO19⟩
  have T20 : PySem.ErrX.ErrTxt0 lw.prog K mg "UnlikeRows" E20 fI20 := ⟨PySem.W.mg_of X G xa20, ⟨nm20, q20, N20, bs20, bm20, sn20, sub20, ab20, col20, dd20, m0_20, m1_20, m2_20, m3_20, m5_20, xL20, xR20⟩, ga20, gg20, iE20, tE20, kE20, xE20, vE20, yE20, hE20, mE20, uE20, oE, hsup, htop, ⟨ocE20, odE20, qE20, msg20, jE20, docE20, pmE20, anE20, ctE20, oslE20, cc20, cda20, p1_20, q0_20, q1_20, q2_20, q3_20, q4_20, q5_20, cclE20, clE20, cddE20, cldE20, vsE20, ccsE20, cslE20, file20, tf20, lI20, cI20, ld20, hv20, hfl20, lc20, ev20⟩⟩
  have XC20 : XcC K E20 := ⟨icE20, ga20, gg20, xE20, hC20, hnC, htC, hO20⟩
  have T21 : PySem.ErrX.ErrTxt lw.prog K mg "WrongCount" "count" E21 fI21 := ⟨PySem.W.mg_of X G xa21, ⟨nm21, q21, N21, bs21, bm21, sn21, sub21, ab21, col21, dd21, m0_21, m1_21, m2_21, m3_21, m5_21, xL21, xR21⟩, sa21, ga21, gg21, nE21, iE21, tE21, kE21, xE21, vE21, yE21, hE21, mE21, uE21, oE, hsup, htop, ⟨ocE21, odE21, qE21, msg21, jE21, docE21, pmE21, anE21, ctE21, oslE21, cc21, cda21, p1_21, p2_21, q0_21, q1_21, q2_21, q3_21, q4_21, q5_21, r1_21, r2_21, r3_21, r4_21, cclE21, clE21, cddE21, cldE21, vsE21, ccsE21, cslE21, file21, tf21, lI21, cI21, ld21, hv21, hfl21, lc21, ev21⟩⟩
  have XC21 : XcC K E21 := ⟨icE21, ga21, gg21, xE21, hC21, hnC, htC, hO21⟩
  have xcc : ∀ c, c < 22 → XcC K ((ev22 E0 E1 E2 E3 E4 E5 E6 E7 E8 E9 E10 E11 E12 E13 E14 E15 E16 E17 E18 E19 E20 E21) c) := fun c hc => match c, hc with
    | 0, _ => XC0
    | 1, _ => XC1
    | 2, _ => XC2
    | 3, _ => XC3
    | 4, _ => XC4
    | 5, _ => XC5
    | 6, _ => XC6
    | 7, _ => XC7
    | 8, _ => XC8
    | 9, _ => XC9
    | 10, _ => XC10
    | 11, _ => XC11
    | 12, _ => XC12
    | 13, _ => XC13
    | 14, _ => XC14
    | 15, _ => XC15
    | 16, _ => XC16
    | 17, _ => XC17
    | 18, _ => XC18
    | 19, _ => XC19
    | 20, _ => XC20
    | 21, _ => XC21
    | n + 22, h => absurd h (by omega)
  have kit : ∀ c t, c < 22 → t < 22 → PySem.W.kitOne K (.ref ((ev22 E0 E1 E2 E3 E4 E5 E6 E7 E8 E9 E10 E11 E12 E13 E14 E15 E16 E17 E18 E19 E20 E21) c)) (.ref ((ev22 E0 E1 E2 E3 E4 E5 E6 E7 E8 E9 E10 E11 E12 E13 E14 E15 E16 E17 E18 E19 E20 E21) t)) = some (c == t) := fun c t hc ht => eq_of_beq (List.all_eq_true.mp (List.all_eq_true.mp hk c (List.mem_range.mpr hc)) t (List.mem_range.mpr ht))
  have kitL : ∀ c, c < 22 → PySem.W.kitOne K (.ref ((ev22 E0 E1 E2 E3 E4 E5 E6 E7 E8 E9 E10 E11 E12 E13 E14 E15 E16 E17 E18 E19 E20 E21) c)) (.ref L) = some true := fun c hc => eq_of_beq (List.all_eq_true.mp hkL c (List.mem_range.mpr hc))
  have kitV : ∀ c, c < 22 → PySem.W.kitOne K (.ref ((ev22 E0 E1 E2 E3 E4 E5 E6 E7 E8 E9 E10 E11 E12 E13 E14 E15 E16 E17 E18 E19 E20 E21) c)) (.type "ValueError") = some true := fun c hc => eq_of_beq (List.all_eq_true.mp hkV c (List.mem_range.mpr hc))
  obtain ⟨Ev, hEv⟩ : ∃ Ev, Ev = (ev22 E0 E1 E2 E3 E4 E5 E6 E7 E8 E9 E10 E11 E12 E13 E14 E15 E16 E17 E18 E19 E20 E21) := ⟨_, rfl⟩
  obtain ⟨Fv, hFv⟩ : ∃ Fv, Fv = (ev22 fI0 fI1 fI2 fI3 fI4 fI5 fI6 fI7 fI8 fI9 fI10 fI11 fI12 fI13 fI14 fI15 fI16 fI17 fI18 fI19 fI20 fI21) := ⟨_, rfl⟩
  rw [← hEv] at xcc kit kitL kitV
  have te0 : E0 = Ev 0 := by rw [hEv]; rfl
  have tf0x : fI0 = Fv 0 := by rw [hFv]; rfl
  rw [te0, tf0x] at T0
  have te1 : E1 = Ev 1 := by rw [hEv]; rfl
  have tf1x : fI1 = Fv 1 := by rw [hFv]; rfl
  rw [te1, tf1x] at T1
  have te2 : E2 = Ev 2 := by rw [hEv]; rfl
  have tf2x : fI2 = Fv 2 := by rw [hFv]; rfl
  rw [te2, tf2x] at T2
  have te3 : E3 = Ev 3 := by rw [hEv]; rfl
  have tf3x : fI3 = Fv 3 := by rw [hFv]; rfl
  rw [te3, tf3x] at T3
  have te4 : E4 = Ev 4 := by rw [hEv]; rfl
  have tf4x : fI4 = Fv 4 := by rw [hFv]; rfl
  rw [te4, tf4x] at T4
  have te5 : E5 = Ev 5 := by rw [hEv]; rfl
  have tf5x : fI5 = Fv 5 := by rw [hFv]; rfl
  rw [te5, tf5x] at T5
  have te6 : E6 = Ev 6 := by rw [hEv]; rfl
  have tf6x : fI6 = Fv 6 := by rw [hFv]; rfl
  rw [te6, tf6x] at T6
  have te7 : E7 = Ev 7 := by rw [hEv]; rfl
  have tf7x : fI7 = Fv 7 := by rw [hFv]; rfl
  rw [te7, tf7x] at T7
  have te8 : E8 = Ev 8 := by rw [hEv]; rfl
  have tf8x : fI8 = Fv 8 := by rw [hFv]; rfl
  rw [te8, tf8x] at T8
  have te9 : E9 = Ev 9 := by rw [hEv]; rfl
  have tf9x : fI9 = Fv 9 := by rw [hFv]; rfl
  rw [te9, tf9x] at T9
  have te10 : E10 = Ev 10 := by rw [hEv]; rfl
  have tf10x : fI10 = Fv 10 := by rw [hFv]; rfl
  rw [te10, tf10x] at T10
  have te11 : E11 = Ev 11 := by rw [hEv]; rfl
  have tf11x : fI11 = Fv 11 := by rw [hFv]; rfl
  rw [te11, tf11x] at T11
  have te12 : E12 = Ev 12 := by rw [hEv]; rfl
  have tf12x : fI12 = Fv 12 := by rw [hFv]; rfl
  rw [te12, tf12x] at T12
  have te13 : E13 = Ev 13 := by rw [hEv]; rfl
  have tf13x : fI13 = Fv 13 := by rw [hFv]; rfl
  rw [te13, tf13x] at T13
  have te14 : E14 = Ev 14 := by rw [hEv]; rfl
  have tf14x : fI14 = Fv 14 := by rw [hFv]; rfl
  rw [te14, tf14x] at T14
  have te15 : E15 = Ev 15 := by rw [hEv]; rfl
  have tf15x : fI15 = Fv 15 := by rw [hFv]; rfl
  rw [te15, tf15x] at T15
  have te16 : E16 = Ev 16 := by rw [hEv]; rfl
  have tf16x : fI16 = Fv 16 := by rw [hFv]; rfl
  rw [te16, tf16x] at T16
  have te17 : E17 = Ev 17 := by rw [hEv]; rfl
  have tf17x : fI17 = Fv 17 := by rw [hFv]; rfl
  rw [te17, tf17x] at T17
  have te18 : E18 = Ev 18 := by rw [hEv]; rfl
  have tf18x : fI18 = Fv 18 := by rw [hFv]; rfl
  rw [te18, tf18x] at T18
  have te19 : E19 = Ev 19 := by rw [hEv]; rfl
  have tf19x : fI19 = Fv 19 := by rw [hFv]; rfl
  rw [te19, tf19x] at T19
  have te20 : E20 = Ev 20 := by rw [hEv]; rfl
  have tf20x : fI20 = Fv 20 := by rw [hFv]; rfl
  rw [te20, tf20x] at T20
  have te21 : E21 = Ev 21 := by rw [hEv]; rfl
  have tf21x : fI21 = Fv 21 := by rw [hFv]; rfl
  rw [te21, tf21x] at T21
  have T : ∀ base : Heap, Txt lw.prog K mg base Ev Fv L TT := fun base => ⟨T0, T1, T2, T3, T4, T5, T6, T7, T8, T9, T10, T11, T12, T13, T14, T15, T16, T17, T18, T19, T20, T21, PySem.W.mg_of X G aL, xcc, kit, kitL, kitV, PySem.W.mg_none_of X G b_all, PySem.W.mg_none_of X G b_int, PySem.W.mg_none_of X G b_isinstance, PySem.W.mg_none_of X G b_len, PySem.W.mg_none_of X G b_range, PySem.W.mg_none_of X G b_str, PySem.W.mg_none_of X G b_ValueError⟩
  have tabs : ∀ H : Hp, (∀ p ∈ ([] : List (Addr × Addr)), H p.2 = some (.tbl #[])) → LamX.Tabs (pm K Ev TT).T H := by
    intro H hcs p hp
    have hp : p ∈ TT := hp
    rw [hTT] at hp
    cases hp
  refine ⟨_, [], spD (pm K Ev TT) 1 G_law, ?hT, ?nT, ?hC, fun s v => .of_eq (?hb : bindArgs (PySem.W.fnOf "law" "law" (defArgs s_law) (defBody s_law) (defScope s_law) .none kV5 dc5 pm5 an5 cd5 ct5) ⟨[v], []⟩ = _), fun H a ns hl _ hcs hS => law_post rfl (fun ns hl => law_true ns) H a ns hl (tabs H hcs) hS, fun base _ _ TB => ?_⟩
  case hb => rfl
  case hT =>
    intro p hp
    cases hp
  case nT =>
    intro p hp
    cases hp
  case hC =>
    intro p hp
    cases hp
  have C_0 : CalD lw.prog w K mg base (pm K Ev TT) 1 "_law_flags" 1 G__law_flags := calD F0 sc__law_flags (PySem.W.mg_of X G a0) B0 (b__law_flags (T base) _)
  have C_1 : CalD lw.prog w K mg base (pm K Ev TT) 2 "_law_alone" 2 G__law_alone := calD F1 sc__law_alone (PySem.W.mg_of X G a1) B1 (b__law_alone (T base) C_0 _)
  have C_2 : CalD lw.prog w K mg base (pm K Ev TT) 1 "_law_cell" 2 G__law_cell := calD F2 sc__law_cell (PySem.W.mg_of X G a2) B2 (b__law_cell (T base) _)
  have C_3 : CalD lw.prog w K mg base (pm K Ev TT) 2 "_law_held" 1 G__law_held := calD F3 sc__law_held (PySem.W.mg_of X G a3) B3 (b__law_held (T base) _)
  have C_4 : CalD lw.prog w K mg base (pm K Ev TT) 2 "_law_valued" 1 G__law_valued := calD F4 sc__law_valued (PySem.W.mg_of X G a4) B4 (b__law_valued (T base) _)
  exact fnd F5 sc_law (b_law (T base) C_1 C_2 C_3 C_4 _)
end DL.K01
open PySem PySem.W PyProof.Rows
set_option maxRecDepth 100000 in
set_option maxHeartbeats 0 in
theorem PySem.Challenge.cw_everylist_k01_errors_holds : PySem.Challenge.rw_everylist_k01_errors.Holds := by
  w_on; o_law; k_head; (case hw => w_witness2)
  k_fill
  refine LamX.walk_ofTs (l := PySem.Challenge.rw_everylist_k01_errors) (n := 63) (k := 3) (x := "_law_script") (CX := fun w => L2.CX PySem.Challenge.pw_everylist_k01_errors w) rfl (by decide) rfl ⟨rfl, by decide, by decide⟩ (fun w h Y => PySem.W.kIn_of Y) ?Fm (fun _ _ _ _ _ z => DL.cx_false z)
  case Fm =>
    intro w mg fa h Y KX G hmg
    refine' DL.K01.all_mk KX G hmg ?a0 ?l0 ?c0 ?k0 ?a1 ?l1 ?c1 ?k1 ?a2 ?l2 ?c2 ?k2 ?a3 ?l3 ?c3 ?k3 ?a4 ?l4 ?c4 ?k4 ?a5 ?l5 ?c5 ?k5 ?xa0 ?xL0 ?xR0 ?ga0 ?gg0 ?iE0 ?tE0 ?kE0 ?xE0 ?vE0 ?yE0 ?hE0 ?mE0 ?uE0 ?icE0 ?hC0 ?hO0 ?lI0 ?cI0 ?ld0 ?hv0 ?hfl0 ?lc0 ?ev0 ?xa1 ?xL1 ?xR1 ?ga1 ?gg1 ?iE1 ?tE1 ?kE1 ?xE1 ?vE1 ?yE1 ?hE1 ?mE1 ?uE1 ?icE1 ?hC1 ?hO1 ?sa1 ?nE1 ?lI1 ?cI1 ?ld1 ?hv1 ?hfl1 ?lc1 ?ev1 ?xa2 ?xL2 ?xR2 ?ga2 ?gg2 ?iE2 ?tE2 ?kE2 ?xE2 ?vE2 ?yE2 ?hE2 ?mE2 ?uE2 ?icE2 ?hC2 ?hO2 ?sa2 ?nE2 ?lI2 ?cI2 ?ld2 ?hv2 ?hfl2 ?lc2 ?ev2 ?xa3 ?xL3 ?xR3 ?ga3 ?gg3 ?iE3 ?tE3 ?kE3 ?xE3 ?vE3 ?yE3 ?hE3 ?mE3 ?uE3 ?icE3 ?hC3 ?hO3 ?sa3 ?nE3 ?lI3 ?cI3 ?ld3 ?hv3 ?hfl3 ?lc3 ?ev3 ?xa4 ?xL4 ?xR4 ?ga4 ?gg4 ?iE4 ?tE4 ?kE4 ?xE4 ?vE4 ?yE4 ?hE4 ?mE4 ?uE4 ?icE4 ?hC4 ?hO4 ?sa4 ?nE4 ?lI4 ?cI4 ?ld4 ?hv4 ?hfl4 ?lc4 ?ev4 ?xa5 ?xL5 ?xR5 ?ga5 ?gg5 ?iE5 ?tE5 ?kE5 ?xE5 ?vE5 ?yE5 ?hE5 ?mE5 ?uE5 ?icE5 ?hC5 ?hO5 ?sa5 ?nE5 ?lI5 ?cI5 ?ld5 ?hv5 ?hfl5 ?lc5 ?ev5 ?xa6 ?xL6 ?xR6 ?ga6 ?gg6 ?iE6 ?tE6 ?kE6 ?xE6 ?vE6 ?yE6 ?hE6 ?mE6 ?uE6 ?icE6 ?hC6 ?hO6 ?sa6 ?nE6 ?lI6 ?cI6 ?ld6 ?hv6 ?hfl6 ?lc6 ?ev6 ?xa7 ?xL7 ?xR7 ?ga7 ?gg7 ?iE7 ?tE7 ?kE7 ?xE7 ?vE7 ?yE7 ?hE7 ?mE7 ?uE7 ?icE7 ?hC7 ?hO7 ?sa7 ?nE7 ?lI7 ?cI7 ?ld7 ?hv7 ?hfl7 ?lc7 ?ev7 ?xa8 ?xL8 ?xR8 ?ga8 ?gg8 ?iE8 ?tE8 ?kE8 ?xE8 ?vE8 ?yE8 ?hE8 ?mE8 ?uE8 ?icE8 ?hC8 ?hO8 ?lI8 ?cI8 ?ld8 ?hv8 ?hfl8 ?lc8 ?ev8 ?xa9 ?xL9 ?xR9 ?ga9 ?gg9 ?iE9 ?tE9 ?kE9 ?xE9 ?vE9 ?yE9 ?hE9 ?mE9 ?uE9 ?icE9 ?hC9 ?hO9 ?sa9 ?nE9 ?lI9 ?cI9 ?ld9 ?hv9 ?hfl9 ?lc9 ?ev9 ?xa10 ?xL10 ?xR10 ?ga10 ?gg10 ?iE10 ?tE10 ?kE10 ?xE10 ?vE10 ?yE10 ?hE10 ?mE10 ?uE10 ?icE10 ?hC10 ?hO10 ?sa10 ?nE10 ?lI10 ?cI10 ?ld10 ?hv10 ?hfl10 ?lc10 ?ev10 ?xa11 ?xL11 ?xR11 ?ga11 ?gg11 ?iE11 ?tE11 ?kE11 ?xE11 ?vE11 ?yE11 ?hE11 ?mE11 ?uE11 ?icE11 ?hC11 ?hO11 ?sa11 ?nE11 ?lI11 ?cI11 ?ld11 ?hv11 ?hfl11 ?lc11 ?ev11 ?xa12 ?xL12 ?xR12 ?ga12 ?gg12 ?iE12 ?tE12 ?kE12 ?xE12 ?vE12 ?yE12 ?hE12 ?mE12 ?uE12 ?icE12 ?hC12 ?hO12 ?sa12 ?nE12 ?lI12 ?cI12 ?ld12 ?hv12 ?hfl12 ?lc12 ?ev12 ?xa13 ?xL13 ?xR13 ?ga13 ?gg13 ?iE13 ?tE13 ?kE13 ?xE13 ?vE13 ?yE13 ?hE13 ?mE13 ?uE13 ?icE13 ?hC13 ?hO13 ?sa13 ?nE13 ?lI13 ?cI13 ?ld13 ?hv13 ?hfl13 ?lc13 ?ev13 ?xa14 ?xL14 ?xR14 ?ga14 ?gg14 ?iE14 ?tE14 ?kE14 ?xE14 ?vE14 ?yE14 ?hE14 ?mE14 ?uE14 ?icE14 ?hC14 ?hO14 ?sa14 ?nE14 ?lI14 ?cI14 ?ld14 ?hv14 ?hfl14 ?lc14 ?ev14 ?xa15 ?xL15 ?xR15 ?ga15 ?gg15 ?iE15 ?tE15 ?kE15 ?xE15 ?vE15 ?yE15 ?hE15 ?mE15 ?uE15 ?icE15 ?hC15 ?hO15 ?sa15 ?nE15 ?lI15 ?cI15 ?ld15 ?hv15 ?hfl15 ?lc15 ?ev15 ?xa16 ?xL16 ?xR16 ?ga16 ?gg16 ?iE16 ?tE16 ?kE16 ?xE16 ?vE16 ?yE16 ?hE16 ?mE16 ?uE16 ?icE16 ?hC16 ?hO16 ?lI16 ?cI16 ?ld16 ?hv16 ?hfl16 ?lc16 ?ev16 ?xa17 ?xL17 ?xR17 ?ga17 ?gg17 ?iE17 ?tE17 ?kE17 ?xE17 ?vE17 ?yE17 ?hE17 ?mE17 ?uE17 ?icE17 ?hC17 ?hO17 ?sa17 ?nE17 ?lI17 ?cI17 ?ld17 ?hv17 ?hfl17 ?lc17 ?ev17 ?xa18 ?xL18 ?xR18 ?ga18 ?gg18 ?iE18 ?tE18 ?kE18 ?xE18 ?vE18 ?yE18 ?hE18 ?mE18 ?uE18 ?icE18 ?hC18 ?hO18 ?lI18 ?cI18 ?ld18 ?hv18 ?hfl18 ?lc18 ?ev18 ?xa19 ?xL19 ?xR19 ?ga19 ?gg19 ?iE19 ?tE19 ?kE19 ?xE19 ?vE19 ?yE19 ?hE19 ?mE19 ?uE19 ?icE19 ?hC19 ?hO19 ?lI19 ?cI19 ?ld19 ?hv19 ?hfl19 ?lc19 ?ev19 ?xa20 ?xL20 ?xR20 ?ga20 ?gg20 ?iE20 ?tE20 ?kE20 ?xE20 ?vE20 ?yE20 ?hE20 ?mE20 ?uE20 ?icE20 ?hC20 ?hO20 ?lI20 ?cI20 ?ld20 ?hv20 ?hfl20 ?lc20 ?ev20 ?xa21 ?xL21 ?xR21 ?ga21 ?gg21 ?iE21 ?tE21 ?kE21 ?xE21 ?vE21 ?yE21 ?hE21 ?mE21 ?uE21 ?icE21 ?hC21 ?hO21 ?sa21 ?nE21 ?lI21 ?cI21 ?ld21 ?hv21 ?hfl21 ?lc21 ?ev21 ?aL ?oE ?hnC ?htC ?hk ?hkL ?hkV ?b_all ?b_int ?b_isinstance ?b_len ?b_range ?b_str ?b_ValueError ?b_super
    (case a0 => first | k_is | rfl)
    (case l0 => first | k_is | rfl)
    (case c0 => first | k_is | rfl)
    (case k0 => first | k_is | rfl)
    (case a1 => first | k_is | rfl)
    (case l1 => first | k_is | rfl)
    (case c1 => first | k_is | rfl)
    (case k1 => first | k_is | rfl)
    (case a2 => first | k_is | rfl)
    (case l2 => first | k_is | rfl)
    (case c2 => first | k_is | rfl)
    (case k2 => first | k_is | rfl)
    (case a3 => first | k_is | rfl)
    (case l3 => first | k_is | rfl)
    (case c3 => first | k_is | rfl)
    (case k3 => first | k_is | rfl)
    (case a4 => first | k_is | rfl)
    (case l4 => first | k_is | rfl)
    (case c4 => first | k_is | rfl)
    (case k4 => first | k_is | rfl)
    (case a5 => first | k_is | rfl)
    (case l5 => first | k_is | rfl)
    (case c5 => first | k_is | rfl)
    (case k5 => first | k_is | rfl)
    (case xa0 => first | k_is | rfl)
    (case xL0 => first | k_is | rfl)
    (case xR0 => first | rfl | decide +kernel)
    (case ga0 => first | k_is | rfl)
    (case gg0 => first | k_is | rfl)
    (case iE0 => first | k_is | rfl)
    (case tE0 => first | k_is | rfl)
    (case kE0 => first | k_is | rfl)
    (case xE0 => first | k_is | rfl)
    (case vE0 => first | k_is | rfl)
    (case yE0 => first | k_is | rfl)
    (case hE0 => first | k_is | rfl)
    (case mE0 => first | k_is | rfl)
    (case uE0 => first | k_is | rfl)
    (case icE0 => first | k_is | rfl)
    (case hC0 => first | k_is | rfl)
    (case hO0 => first | k_is | rfl)
    (case lI0 => first | k_is | rfl)
    (case cI0 => first | k_is | rfl)
    (case ld0 => first | k_is | rfl)
    (case hv0 => first | rfl | decide +kernel)
    (case hfl0 => first | rfl | decide +kernel)
    (case lc0 => first | k_is | rfl)
    (case ev0 => exact ⟨⟨_, fun _ => rfl⟩, fun _ => rfl, fun _ => rfl, fun _ => rfl, fun _ => rfl⟩)
    (case xa1 => first | k_is | rfl)
    (case xL1 => first | k_is | rfl)
    (case xR1 => first | rfl | decide +kernel)
    (case ga1 => first | k_is | rfl)
    (case gg1 => first | k_is | rfl)
    (case iE1 => first | k_is | rfl)
    (case tE1 => first | k_is | rfl)
    (case kE1 => first | k_is | rfl)
    (case xE1 => first | k_is | rfl)
    (case vE1 => first | k_is | rfl)
    (case yE1 => first | k_is | rfl)
    (case hE1 => first | k_is | rfl)
    (case mE1 => first | k_is | rfl)
    (case uE1 => first | k_is | rfl)
    (case icE1 => first | k_is | rfl)
    (case hC1 => first | k_is | rfl)
    (case hO1 => first | k_is | rfl)
    (case sa1 => first | k_is | rfl)
    (case nE1 => first | k_is | rfl)
    (case lI1 => first | k_is | rfl)
    (case cI1 => first | k_is | rfl)
    (case ld1 => first | k_is | rfl)
    (case hv1 => first | rfl | decide +kernel)
    (case hfl1 => first | rfl | decide +kernel)
    (case lc1 => first | k_is | rfl)
    (case ev1 => exact ⟨⟨_, fun _ => rfl⟩, fun _ => rfl, fun _ => rfl, fun _ => rfl, fun _ => rfl, fun _ _ => rfl⟩)
    (case xa2 => first | k_is | rfl)
    (case xL2 => first | k_is | rfl)
    (case xR2 => first | rfl | decide +kernel)
    (case ga2 => first | k_is | rfl)
    (case gg2 => first | k_is | rfl)
    (case iE2 => first | k_is | rfl)
    (case tE2 => first | k_is | rfl)
    (case kE2 => first | k_is | rfl)
    (case xE2 => first | k_is | rfl)
    (case vE2 => first | k_is | rfl)
    (case yE2 => first | k_is | rfl)
    (case hE2 => first | k_is | rfl)
    (case mE2 => first | k_is | rfl)
    (case uE2 => first | k_is | rfl)
    (case icE2 => first | k_is | rfl)
    (case hC2 => first | k_is | rfl)
    (case hO2 => first | k_is | rfl)
    (case sa2 => first | k_is | rfl)
    (case nE2 => first | k_is | rfl)
    (case lI2 => first | k_is | rfl)
    (case cI2 => first | k_is | rfl)
    (case ld2 => first | k_is | rfl)
    (case hv2 => first | rfl | decide +kernel)
    (case hfl2 => first | rfl | decide +kernel)
    (case lc2 => first | k_is | rfl)
    (case ev2 => exact ⟨⟨_, fun _ => rfl⟩, fun _ => rfl, fun _ => rfl, fun _ => rfl, fun _ => rfl, fun _ _ => rfl⟩)
    (case xa3 => first | k_is | rfl)
    (case xL3 => first | k_is | rfl)
    (case xR3 => first | rfl | decide +kernel)
    (case ga3 => first | k_is | rfl)
    (case gg3 => first | k_is | rfl)
    (case iE3 => first | k_is | rfl)
    (case tE3 => first | k_is | rfl)
    (case kE3 => first | k_is | rfl)
    (case xE3 => first | k_is | rfl)
    (case vE3 => first | k_is | rfl)
    (case yE3 => first | k_is | rfl)
    (case hE3 => first | k_is | rfl)
    (case mE3 => first | k_is | rfl)
    (case uE3 => first | k_is | rfl)
    (case icE3 => first | k_is | rfl)
    (case hC3 => first | k_is | rfl)
    (case hO3 => first | k_is | rfl)
    (case sa3 => first | k_is | rfl)
    (case nE3 => first | k_is | rfl)
    (case lI3 => first | k_is | rfl)
    (case cI3 => first | k_is | rfl)
    (case ld3 => first | k_is | rfl)
    (case hv3 => first | rfl | decide +kernel)
    (case hfl3 => first | rfl | decide +kernel)
    (case lc3 => first | k_is | rfl)
    (case ev3 => exact ⟨⟨_, fun _ => rfl⟩, fun _ => rfl, fun _ => rfl, fun _ => rfl, fun _ => rfl, fun _ _ => rfl⟩)
    (case xa4 => first | k_is | rfl)
    (case xL4 => first | k_is | rfl)
    (case xR4 => first | rfl | decide +kernel)
    (case ga4 => first | k_is | rfl)
    (case gg4 => first | k_is | rfl)
    (case iE4 => first | k_is | rfl)
    (case tE4 => first | k_is | rfl)
    (case kE4 => first | k_is | rfl)
    (case xE4 => first | k_is | rfl)
    (case vE4 => first | k_is | rfl)
    (case yE4 => first | k_is | rfl)
    (case hE4 => first | k_is | rfl)
    (case mE4 => first | k_is | rfl)
    (case uE4 => first | k_is | rfl)
    (case icE4 => first | k_is | rfl)
    (case hC4 => first | k_is | rfl)
    (case hO4 => first | k_is | rfl)
    (case sa4 => first | k_is | rfl)
    (case nE4 => first | k_is | rfl)
    (case lI4 => first | k_is | rfl)
    (case cI4 => first | k_is | rfl)
    (case ld4 => first | k_is | rfl)
    (case hv4 => first | rfl | decide +kernel)
    (case hfl4 => first | rfl | decide +kernel)
    (case lc4 => first | k_is | rfl)
    (case ev4 => exact ⟨⟨_, fun _ => rfl⟩, fun _ => rfl, fun _ => rfl, fun _ => rfl, fun _ => rfl, fun _ _ => rfl⟩)
    (case xa5 => first | k_is | rfl)
    (case xL5 => first | k_is | rfl)
    (case xR5 => first | rfl | decide +kernel)
    (case ga5 => first | k_is | rfl)
    (case gg5 => first | k_is | rfl)
    (case iE5 => first | k_is | rfl)
    (case tE5 => first | k_is | rfl)
    (case kE5 => first | k_is | rfl)
    (case xE5 => first | k_is | rfl)
    (case vE5 => first | k_is | rfl)
    (case yE5 => first | k_is | rfl)
    (case hE5 => first | k_is | rfl)
    (case mE5 => first | k_is | rfl)
    (case uE5 => first | k_is | rfl)
    (case icE5 => first | k_is | rfl)
    (case hC5 => first | k_is | rfl)
    (case hO5 => first | k_is | rfl)
    (case sa5 => first | k_is | rfl)
    (case nE5 => first | k_is | rfl)
    (case lI5 => first | k_is | rfl)
    (case cI5 => first | k_is | rfl)
    (case ld5 => first | k_is | rfl)
    (case hv5 => first | rfl | decide +kernel)
    (case hfl5 => first | rfl | decide +kernel)
    (case lc5 => first | k_is | rfl)
    (case ev5 => exact ⟨⟨_, fun _ => rfl⟩, fun _ => rfl, fun _ => rfl, fun _ => rfl, fun _ => rfl, fun _ _ => rfl⟩)
    (case xa6 => first | k_is | rfl)
    (case xL6 => first | k_is | rfl)
    (case xR6 => first | rfl | decide +kernel)
    (case ga6 => first | k_is | rfl)
    (case gg6 => first | k_is | rfl)
    (case iE6 => first | k_is | rfl)
    (case tE6 => first | k_is | rfl)
    (case kE6 => first | k_is | rfl)
    (case xE6 => first | k_is | rfl)
    (case vE6 => first | k_is | rfl)
    (case yE6 => first | k_is | rfl)
    (case hE6 => first | k_is | rfl)
    (case mE6 => first | k_is | rfl)
    (case uE6 => first | k_is | rfl)
    (case icE6 => first | k_is | rfl)
    (case hC6 => first | k_is | rfl)
    (case hO6 => first | k_is | rfl)
    (case sa6 => first | k_is | rfl)
    (case nE6 => first | k_is | rfl)
    (case lI6 => first | k_is | rfl)
    (case cI6 => first | k_is | rfl)
    (case ld6 => first | k_is | rfl)
    (case hv6 => first | rfl | decide +kernel)
    (case hfl6 => first | rfl | decide +kernel)
    (case lc6 => first | k_is | rfl)
    (case ev6 => exact ⟨⟨_, fun _ => rfl⟩, fun _ => rfl, fun _ => rfl, fun _ => rfl, fun _ => rfl, fun _ _ => rfl⟩)
    (case xa7 => first | k_is | rfl)
    (case xL7 => first | k_is | rfl)
    (case xR7 => first | rfl | decide +kernel)
    (case ga7 => first | k_is | rfl)
    (case gg7 => first | k_is | rfl)
    (case iE7 => first | k_is | rfl)
    (case tE7 => first | k_is | rfl)
    (case kE7 => first | k_is | rfl)
    (case xE7 => first | k_is | rfl)
    (case vE7 => first | k_is | rfl)
    (case yE7 => first | k_is | rfl)
    (case hE7 => first | k_is | rfl)
    (case mE7 => first | k_is | rfl)
    (case uE7 => first | k_is | rfl)
    (case icE7 => first | k_is | rfl)
    (case hC7 => first | k_is | rfl)
    (case hO7 => first | k_is | rfl)
    (case sa7 => first | k_is | rfl)
    (case nE7 => first | k_is | rfl)
    (case lI7 => first | k_is | rfl)
    (case cI7 => first | k_is | rfl)
    (case ld7 => first | k_is | rfl)
    (case hv7 => first | rfl | decide +kernel)
    (case hfl7 => first | rfl | decide +kernel)
    (case lc7 => first | k_is | rfl)
    (case ev7 => exact ⟨⟨_, fun _ => rfl⟩, fun _ => rfl, fun _ => rfl, fun _ => rfl, fun _ => rfl, fun _ _ => rfl⟩)
    (case xa8 => first | k_is | rfl)
    (case xL8 => first | k_is | rfl)
    (case xR8 => first | rfl | decide +kernel)
    (case ga8 => first | k_is | rfl)
    (case gg8 => first | k_is | rfl)
    (case iE8 => first | k_is | rfl)
    (case tE8 => first | k_is | rfl)
    (case kE8 => first | k_is | rfl)
    (case xE8 => first | k_is | rfl)
    (case vE8 => first | k_is | rfl)
    (case yE8 => first | k_is | rfl)
    (case hE8 => first | k_is | rfl)
    (case mE8 => first | k_is | rfl)
    (case uE8 => first | k_is | rfl)
    (case icE8 => first | k_is | rfl)
    (case hC8 => first | k_is | rfl)
    (case hO8 => first | k_is | rfl)
    (case lI8 => first | k_is | rfl)
    (case cI8 => first | k_is | rfl)
    (case ld8 => first | k_is | rfl)
    (case hv8 => first | rfl | decide +kernel)
    (case hfl8 => first | rfl | decide +kernel)
    (case lc8 => first | k_is | rfl)
    (case ev8 => exact ⟨⟨_, fun _ => rfl⟩, fun _ => rfl, fun _ => rfl, fun _ => rfl, fun _ => rfl⟩)
    (case xa9 => first | k_is | rfl)
    (case xL9 => first | k_is | rfl)
    (case xR9 => first | rfl | decide +kernel)
    (case ga9 => first | k_is | rfl)
    (case gg9 => first | k_is | rfl)
    (case iE9 => first | k_is | rfl)
    (case tE9 => first | k_is | rfl)
    (case kE9 => first | k_is | rfl)
    (case xE9 => first | k_is | rfl)
    (case vE9 => first | k_is | rfl)
    (case yE9 => first | k_is | rfl)
    (case hE9 => first | k_is | rfl)
    (case mE9 => first | k_is | rfl)
    (case uE9 => first | k_is | rfl)
    (case icE9 => first | k_is | rfl)
    (case hC9 => first | k_is | rfl)
    (case hO9 => first | k_is | rfl)
    (case sa9 => first | k_is | rfl)
    (case nE9 => first | k_is | rfl)
    (case lI9 => first | k_is | rfl)
    (case cI9 => first | k_is | rfl)
    (case ld9 => first | k_is | rfl)
    (case hv9 => first | rfl | decide +kernel)
    (case hfl9 => first | rfl | decide +kernel)
    (case lc9 => first | k_is | rfl)
    (case ev9 => exact ⟨⟨_, fun _ => rfl⟩, fun _ => rfl, fun _ => rfl, fun _ => rfl, fun _ => rfl, fun _ _ => rfl⟩)
    (case xa10 => first | k_is | rfl)
    (case xL10 => first | k_is | rfl)
    (case xR10 => first | rfl | decide +kernel)
    (case ga10 => first | k_is | rfl)
    (case gg10 => first | k_is | rfl)
    (case iE10 => first | k_is | rfl)
    (case tE10 => first | k_is | rfl)
    (case kE10 => first | k_is | rfl)
    (case xE10 => first | k_is | rfl)
    (case vE10 => first | k_is | rfl)
    (case yE10 => first | k_is | rfl)
    (case hE10 => first | k_is | rfl)
    (case mE10 => first | k_is | rfl)
    (case uE10 => first | k_is | rfl)
    (case icE10 => first | k_is | rfl)
    (case hC10 => first | k_is | rfl)
    (case hO10 => first | k_is | rfl)
    (case sa10 => first | k_is | rfl)
    (case nE10 => first | k_is | rfl)
    (case lI10 => first | k_is | rfl)
    (case cI10 => first | k_is | rfl)
    (case ld10 => first | k_is | rfl)
    (case hv10 => first | rfl | decide +kernel)
    (case hfl10 => first | rfl | decide +kernel)
    (case lc10 => first | k_is | rfl)
    (case ev10 => exact ⟨⟨_, fun _ => rfl⟩, fun _ => rfl, fun _ => rfl, fun _ => rfl, fun _ => rfl, fun _ _ => rfl⟩)
    (case xa11 => first | k_is | rfl)
    (case xL11 => first | k_is | rfl)
    (case xR11 => first | rfl | decide +kernel)
    (case ga11 => first | k_is | rfl)
    (case gg11 => first | k_is | rfl)
    (case iE11 => first | k_is | rfl)
    (case tE11 => first | k_is | rfl)
    (case kE11 => first | k_is | rfl)
    (case xE11 => first | k_is | rfl)
    (case vE11 => first | k_is | rfl)
    (case yE11 => first | k_is | rfl)
    (case hE11 => first | k_is | rfl)
    (case mE11 => first | k_is | rfl)
    (case uE11 => first | k_is | rfl)
    (case icE11 => first | k_is | rfl)
    (case hC11 => first | k_is | rfl)
    (case hO11 => first | k_is | rfl)
    (case sa11 => first | k_is | rfl)
    (case nE11 => first | k_is | rfl)
    (case lI11 => first | k_is | rfl)
    (case cI11 => first | k_is | rfl)
    (case ld11 => first | k_is | rfl)
    (case hv11 => first | rfl | decide +kernel)
    (case hfl11 => first | rfl | decide +kernel)
    (case lc11 => first | k_is | rfl)
    (case ev11 => exact ⟨⟨_, fun _ => rfl⟩, fun _ => rfl, fun _ => rfl, fun _ => rfl, fun _ => rfl, fun _ _ => rfl⟩)
    (case xa12 => first | k_is | rfl)
    (case xL12 => first | k_is | rfl)
    (case xR12 => first | rfl | decide +kernel)
    (case ga12 => first | k_is | rfl)
    (case gg12 => first | k_is | rfl)
    (case iE12 => first | k_is | rfl)
    (case tE12 => first | k_is | rfl)
    (case kE12 => first | k_is | rfl)
    (case xE12 => first | k_is | rfl)
    (case vE12 => first | k_is | rfl)
    (case yE12 => first | k_is | rfl)
    (case hE12 => first | k_is | rfl)
    (case mE12 => first | k_is | rfl)
    (case uE12 => first | k_is | rfl)
    (case icE12 => first | k_is | rfl)
    (case hC12 => first | k_is | rfl)
    (case hO12 => first | k_is | rfl)
    (case sa12 => first | k_is | rfl)
    (case nE12 => first | k_is | rfl)
    (case lI12 => first | k_is | rfl)
    (case cI12 => first | k_is | rfl)
    (case ld12 => first | k_is | rfl)
    (case hv12 => first | rfl | decide +kernel)
    (case hfl12 => first | rfl | decide +kernel)
    (case lc12 => first | k_is | rfl)
    (case ev12 => exact ⟨⟨_, fun _ => rfl⟩, fun _ => rfl, fun _ => rfl, fun _ => rfl, fun _ => rfl, fun _ _ => rfl⟩)
    (case xa13 => first | k_is | rfl)
    (case xL13 => first | k_is | rfl)
    (case xR13 => first | rfl | decide +kernel)
    (case ga13 => first | k_is | rfl)
    (case gg13 => first | k_is | rfl)
    (case iE13 => first | k_is | rfl)
    (case tE13 => first | k_is | rfl)
    (case kE13 => first | k_is | rfl)
    (case xE13 => first | k_is | rfl)
    (case vE13 => first | k_is | rfl)
    (case yE13 => first | k_is | rfl)
    (case hE13 => first | k_is | rfl)
    (case mE13 => first | k_is | rfl)
    (case uE13 => first | k_is | rfl)
    (case icE13 => first | k_is | rfl)
    (case hC13 => first | k_is | rfl)
    (case hO13 => first | k_is | rfl)
    (case sa13 => first | k_is | rfl)
    (case nE13 => first | k_is | rfl)
    (case lI13 => first | k_is | rfl)
    (case cI13 => first | k_is | rfl)
    (case ld13 => first | k_is | rfl)
    (case hv13 => first | rfl | decide +kernel)
    (case hfl13 => first | rfl | decide +kernel)
    (case lc13 => first | k_is | rfl)
    (case ev13 => exact ⟨⟨_, fun _ => rfl⟩, fun _ => rfl, fun _ => rfl, fun _ => rfl, fun _ => rfl, fun _ _ => rfl⟩)
    (case xa14 => first | k_is | rfl)
    (case xL14 => first | k_is | rfl)
    (case xR14 => first | rfl | decide +kernel)
    (case ga14 => first | k_is | rfl)
    (case gg14 => first | k_is | rfl)
    (case iE14 => first | k_is | rfl)
    (case tE14 => first | k_is | rfl)
    (case kE14 => first | k_is | rfl)
    (case xE14 => first | k_is | rfl)
    (case vE14 => first | k_is | rfl)
    (case yE14 => first | k_is | rfl)
    (case hE14 => first | k_is | rfl)
    (case mE14 => first | k_is | rfl)
    (case uE14 => first | k_is | rfl)
    (case icE14 => first | k_is | rfl)
    (case hC14 => first | k_is | rfl)
    (case hO14 => first | k_is | rfl)
    (case sa14 => first | k_is | rfl)
    (case nE14 => first | k_is | rfl)
    (case lI14 => first | k_is | rfl)
    (case cI14 => first | k_is | rfl)
    (case ld14 => first | k_is | rfl)
    (case hv14 => first | rfl | decide +kernel)
    (case hfl14 => first | rfl | decide +kernel)
    (case lc14 => first | k_is | rfl)
    (case ev14 => exact ⟨⟨_, fun _ => rfl⟩, fun _ => rfl, fun _ => rfl, fun _ => rfl, fun _ => rfl, fun _ _ => rfl⟩)
    (case xa15 => first | k_is | rfl)
    (case xL15 => first | k_is | rfl)
    (case xR15 => first | rfl | decide +kernel)
    (case ga15 => first | k_is | rfl)
    (case gg15 => first | k_is | rfl)
    (case iE15 => first | k_is | rfl)
    (case tE15 => first | k_is | rfl)
    (case kE15 => first | k_is | rfl)
    (case xE15 => first | k_is | rfl)
    (case vE15 => first | k_is | rfl)
    (case yE15 => first | k_is | rfl)
    (case hE15 => first | k_is | rfl)
    (case mE15 => first | k_is | rfl)
    (case uE15 => first | k_is | rfl)
    (case icE15 => first | k_is | rfl)
    (case hC15 => first | k_is | rfl)
    (case hO15 => first | k_is | rfl)
    (case sa15 => first | k_is | rfl)
    (case nE15 => first | k_is | rfl)
    (case lI15 => first | k_is | rfl)
    (case cI15 => first | k_is | rfl)
    (case ld15 => first | k_is | rfl)
    (case hv15 => first | rfl | decide +kernel)
    (case hfl15 => first | rfl | decide +kernel)
    (case lc15 => first | k_is | rfl)
    (case ev15 => exact ⟨⟨_, fun _ => rfl⟩, fun _ => rfl, fun _ => rfl, fun _ => rfl, fun _ => rfl, fun _ _ => rfl⟩)
    (case xa16 => first | k_is | rfl)
    (case xL16 => first | k_is | rfl)
    (case xR16 => first | rfl | decide +kernel)
    (case ga16 => first | k_is | rfl)
    (case gg16 => first | k_is | rfl)
    (case iE16 => first | k_is | rfl)
    (case tE16 => first | k_is | rfl)
    (case kE16 => first | k_is | rfl)
    (case xE16 => first | k_is | rfl)
    (case vE16 => first | k_is | rfl)
    (case yE16 => first | k_is | rfl)
    (case hE16 => first | k_is | rfl)
    (case mE16 => first | k_is | rfl)
    (case uE16 => first | k_is | rfl)
    (case icE16 => first | k_is | rfl)
    (case hC16 => first | k_is | rfl)
    (case hO16 => first | k_is | rfl)
    (case lI16 => first | k_is | rfl)
    (case cI16 => first | k_is | rfl)
    (case ld16 => first | k_is | rfl)
    (case hv16 => first | rfl | decide +kernel)
    (case hfl16 => first | rfl | decide +kernel)
    (case lc16 => first | k_is | rfl)
    (case ev16 => exact ⟨⟨_, fun _ => rfl⟩, fun _ => rfl, fun _ => rfl, fun _ => rfl, fun _ => rfl⟩)
    (case xa17 => first | k_is | rfl)
    (case xL17 => first | k_is | rfl)
    (case xR17 => first | rfl | decide +kernel)
    (case ga17 => first | k_is | rfl)
    (case gg17 => first | k_is | rfl)
    (case iE17 => first | k_is | rfl)
    (case tE17 => first | k_is | rfl)
    (case kE17 => first | k_is | rfl)
    (case xE17 => first | k_is | rfl)
    (case vE17 => first | k_is | rfl)
    (case yE17 => first | k_is | rfl)
    (case hE17 => first | k_is | rfl)
    (case mE17 => first | k_is | rfl)
    (case uE17 => first | k_is | rfl)
    (case icE17 => first | k_is | rfl)
    (case hC17 => first | k_is | rfl)
    (case hO17 => first | k_is | rfl)
    (case sa17 => first | k_is | rfl)
    (case nE17 => first | k_is | rfl)
    (case lI17 => first | k_is | rfl)
    (case cI17 => first | k_is | rfl)
    (case ld17 => first | k_is | rfl)
    (case hv17 => first | rfl | decide +kernel)
    (case hfl17 => first | rfl | decide +kernel)
    (case lc17 => first | k_is | rfl)
    (case ev17 => exact ⟨⟨_, fun _ => rfl⟩, fun _ => rfl, fun _ => rfl, fun _ => rfl, fun _ => rfl, fun _ _ => rfl⟩)
    (case xa18 => first | k_is | rfl)
    (case xL18 => first | k_is | rfl)
    (case xR18 => first | rfl | decide +kernel)
    (case ga18 => first | k_is | rfl)
    (case gg18 => first | k_is | rfl)
    (case iE18 => first | k_is | rfl)
    (case tE18 => first | k_is | rfl)
    (case kE18 => first | k_is | rfl)
    (case xE18 => first | k_is | rfl)
    (case vE18 => first | k_is | rfl)
    (case yE18 => first | k_is | rfl)
    (case hE18 => first | k_is | rfl)
    (case mE18 => first | k_is | rfl)
    (case uE18 => first | k_is | rfl)
    (case icE18 => first | k_is | rfl)
    (case hC18 => first | k_is | rfl)
    (case hO18 => first | k_is | rfl)
    (case lI18 => first | k_is | rfl)
    (case cI18 => first | k_is | rfl)
    (case ld18 => first | k_is | rfl)
    (case hv18 => first | rfl | decide +kernel)
    (case hfl18 => first | rfl | decide +kernel)
    (case lc18 => first | k_is | rfl)
    (case ev18 => exact ⟨⟨_, fun _ => rfl⟩, fun _ => rfl, fun _ => rfl, fun _ => rfl, fun _ => rfl⟩)
    (case xa19 => first | k_is | rfl)
    (case xL19 => first | k_is | rfl)
    (case xR19 => first | rfl | decide +kernel)
    (case ga19 => first | k_is | rfl)
    (case gg19 => first | k_is | rfl)
    (case iE19 => first | k_is | rfl)
    (case tE19 => first | k_is | rfl)
    (case kE19 => first | k_is | rfl)
    (case xE19 => first | k_is | rfl)
    (case vE19 => first | k_is | rfl)
    (case yE19 => first | k_is | rfl)
    (case hE19 => first | k_is | rfl)
    (case mE19 => first | k_is | rfl)
    (case uE19 => first | k_is | rfl)
    (case icE19 => first | k_is | rfl)
    (case hC19 => first | k_is | rfl)
    (case hO19 => first | k_is | rfl)
    (case lI19 => first | k_is | rfl)
    (case cI19 => first | k_is | rfl)
    (case ld19 => first | k_is | rfl)
    (case hv19 => first | rfl | decide +kernel)
    (case hfl19 => first | rfl | decide +kernel)
    (case lc19 => first | k_is | rfl)
    (case ev19 => exact ⟨⟨_, fun _ => rfl⟩, fun _ => rfl, fun _ => rfl, fun _ => rfl, fun _ => rfl⟩)
    (case xa20 => first | k_is | rfl)
    (case xL20 => first | k_is | rfl)
    (case xR20 => first | rfl | decide +kernel)
    (case ga20 => first | k_is | rfl)
    (case gg20 => first | k_is | rfl)
    (case iE20 => first | k_is | rfl)
    (case tE20 => first | k_is | rfl)
    (case kE20 => first | k_is | rfl)
    (case xE20 => first | k_is | rfl)
    (case vE20 => first | k_is | rfl)
    (case yE20 => first | k_is | rfl)
    (case hE20 => first | k_is | rfl)
    (case mE20 => first | k_is | rfl)
    (case uE20 => first | k_is | rfl)
    (case icE20 => first | k_is | rfl)
    (case hC20 => first | k_is | rfl)
    (case hO20 => first | k_is | rfl)
    (case lI20 => first | k_is | rfl)
    (case cI20 => first | k_is | rfl)
    (case ld20 => first | k_is | rfl)
    (case hv20 => first | rfl | decide +kernel)
    (case hfl20 => first | rfl | decide +kernel)
    (case lc20 => first | k_is | rfl)
    (case ev20 => exact ⟨⟨_, fun _ => rfl⟩, fun _ => rfl, fun _ => rfl, fun _ => rfl, fun _ => rfl⟩)
    (case xa21 => first | k_is | rfl)
    (case xL21 => first | k_is | rfl)
    (case xR21 => first | rfl | decide +kernel)
    (case ga21 => first | k_is | rfl)
    (case gg21 => first | k_is | rfl)
    (case iE21 => first | k_is | rfl)
    (case tE21 => first | k_is | rfl)
    (case kE21 => first | k_is | rfl)
    (case xE21 => first | k_is | rfl)
    (case vE21 => first | k_is | rfl)
    (case yE21 => first | k_is | rfl)
    (case hE21 => first | k_is | rfl)
    (case mE21 => first | k_is | rfl)
    (case uE21 => first | k_is | rfl)
    (case icE21 => first | k_is | rfl)
    (case hC21 => first | k_is | rfl)
    (case hO21 => first | k_is | rfl)
    (case sa21 => first | k_is | rfl)
    (case nE21 => first | k_is | rfl)
    (case lI21 => first | k_is | rfl)
    (case cI21 => first | k_is | rfl)
    (case ld21 => first | k_is | rfl)
    (case hv21 => first | rfl | decide +kernel)
    (case hfl21 => first | rfl | decide +kernel)
    (case lc21 => first | k_is | rfl)
    (case ev21 => exact ⟨⟨_, fun _ => rfl⟩, fun _ => rfl, fun _ => rfl, fun _ => rfl, fun _ => rfl, fun _ _ => rfl⟩)
    (case aL => first | k_is | rfl)
    (case oE => first | k_is | rfl)
    (case hnC => first | k_is | rfl)
    (case htC => first | k_is | rfl)
    (case hk => kernel_rfl)
    (case hkL => kernel_rfl)
    (case hkV => kernel_rfl)
    (case b_all => first | k_is | rfl)
    (case b_int => first | k_is | rfl)
    (case b_isinstance => first | k_is | rfl)
    (case b_len => first | k_is | rfl)
    (case b_range => first | k_is | rfl)
    (case b_str => first | k_is | rfl)
    (case b_ValueError => first | k_is | rfl)
    (case b_super => first | k_is | rfl)
