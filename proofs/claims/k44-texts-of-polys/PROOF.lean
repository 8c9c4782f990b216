import PyProof.Rows.All
import Wide.All
import OpenK.AllK
import Wide.FinOn
import HandS.ForMost
import HandS.Exc
import HandS.TryOnly
import HandS.ExcOwn
import HandS.WordsExc
import HandS.CallSlots
import HandS.IsInst
import HandS.OwnEq
import HandS.Wide
import HandS.Style
import HandS.Lambda
import HandS.EndTab
import HandS.Zip
import HandS.ExcBuiltin
import KE.KExcSuper
import HandS.FStr
import HandS.TupAny
import KE.KOpsOwn
import KE.KCallOwn
import HandS.Defaults
import PyProof.TwoTypes
import HandS.Deep
import HandS.MakeKwOnly
import HandS.Dict
import HandS.Iter
import HandS.Conv
import HandS.TupLen
import KE.KDictKeyed
import KE.SortData
import HandS.SortKw
import HandS.NoneIn
import KE.GoesZip
import KE.GoesMore
import KE.GoesEnum
import KE.KEqNest
import PyProof.NeKinds
import HandS.TupMul
import KE.KDictOf
import KE.KDictCopyH
import KE.KDictDisplayH
import HandS.More
import KE.KIntText
import HandS.Codes
import KE.KNestM
import PySem.Challenge.RW_everylist_k44_texts_of_polys
set_option Elab.async false
set_option linter.all false
set_option maxRecDepth 100000
set_option maxHeartbeats 8000000
namespace DL
open PySem L2

/-- data: what a value is, by itself -/
inductive D where
  | non
  | bl (b : Bool)
  | int (i : Int)
  | str (s : Str)
  | lst (xs : List D)
  | tup (xs : List D)
  | dK (ks : List Key) (xs : List D)
  | dT (ks : List (List Key)) (xs : List D)
  | obj (c : Nat) (xs : List D)
  | scr (ns : List Int)

/-- what the program's own classes and errors are -/
structure Pm where
  C : Nat → Addr
  nm : Nat → List Str
  xc : Nat → Value
  xf : Nat → Str
  K : PySem.W.Frag
  T : List (Addr × Str)

mutual
def Is (P : Pm) (F : Hp) : D → V → Prop
  | .non, v => v = .non
  | .bl b, v => v = .bl b
  | .int i, v => v = .int i
  | .str s, v => v = .str s
  | .lst xs, v => ∃ a vs, v = .ref a ∧ Rd F a (.lst vs) ∧ IsL P F xs vs
  | .tup xs, v => ∃ a vs, v = .ref a ∧ F a = some (.tup vs) ∧ IsL P F xs vs
  | .dK ks xs, v => ∃ a o vs, v = .ref a ∧ F a = some (.frz o (.dK (ks.zip vs))) ∧ ks.length = vs.length ∧ IsL P F xs vs
  | .dT ks xs, v => ∃ a o vs, v = .ref a ∧ F a = some (.frz o (.dT (ks.zip vs))) ∧ ks.length = vs.length ∧ IsL P F xs vs
  | .obj c xs, v => ∃ a dx vs, v = .ref a ∧ F a = some (.ins (P.C c) dx ((P.nm c).zip vs)) ∧ vs.length ≤ (P.nm c).length ∧ IsL P F xs vs
  | .scr ns, v => ∃ a, v = .ref a ∧ SqL P.K F a (ns.map V.int)
def IsL (P : Pm) (F : Hp) : List D → List V → Prop
  | [], vs => vs = []
  | d :: ds, vs => ∃ v r, vs = v :: r ∧ Is P F d v ∧ IsL P F ds r
end

/-- the heap has grown -/
def Ex (H H' : Hp) : Prop := ∀ a o, H a = some o → H' a = some o
theorem Ex.refl (H : Hp) : Ex H H := fun _ _ h => h
theorem Ex.trans {H H1 H2 : Hp} (a : Ex H H1) (b : Ex H1 H2) : Ex H H2 := fun x o h => b x o (a x o h)
theorem Ex.new {H : Hp} {p : Addr} {o : HO} (h : H p = none) : Ex H (upd H p o) := fun a u e => by
  rw [upd_ne (ne_of_none e h)]
  exact e
theorem Ex.back {H H' : Hp} {p : Addr} (e : Ex H H') (h : H' p = none) : H p = none := by
  cases h1 : H p with
  | none => rfl
  | some o =>
    rw [e p o h1] at h
    cases h
theorem Ex.rd {H H' : Hp} {a : Addr} {u : HO} (e : Ex H H') (h : Rd H a u) : Rd H' a u := by
  rcases h with h | ⟨o, h⟩
  · exact Or.inl (e a _ h)
  · exact Or.inr ⟨o, e a _ h⟩
theorem Ex.sq {H H' : Hp} {K : PySem.W.Frag} {a : Addr} {xs : List V} (e : Ex H H') (h : SqL K H a xs) : SqL K H' a xs := by
  rcases h with h | h
  · exact Or.inl (e.rd h)
  · exact Or.inr h
/-- an object of data: no table of code, no outer fact -/
def isD : HO → Bool
  | .tbl _ => false
  | .ext _ => false
  | _ => true
def isT : HO → Bool
  | .tbl _ => true
  | _ => false
theorem isD_T {o : HO} (h : isD o = true) : isT o = false := by
  cases o <;> first | rfl | cases h
/-- all stays but what the tables hold -/
structure ExT (H H' : Hp) : Prop where
  at_ : ∀ a o, H a = some o → isT o = false → H' a = some o
theorem ExT.refl (H : Hp) : ExT H H := ⟨fun _ _ h _ => h⟩
theorem ExT.trans {H H1 H2 : Hp} (a : ExT H H1) (b : ExT H1 H2) : ExT H H2 := ⟨fun x o h n => b.at_ x o (a.at_ x o h n) n⟩
theorem Ex.t {H H' : Hp} (e : Ex H H') : ExT H H' := ⟨fun a o h _ => e a o h⟩
theorem ExT.new {H : Hp} {p : Addr} {o : HO} (h : H p = none) : ExT H (upd H p o) := (Ex.new h).t
/-- nothing of data stands at p -/
def NoD (H : Hp) (p : Addr) : Prop := ∀ o, H p = some o → isT o = true
theorem NoD.of {H : Hp} {p : Addr} (h : H p = none) : NoD H p := fun o e => by
  rw [h] at e
  cases e
theorem NoD.no {H : Hp} {p : Addr} {o : HO} (n : NoD H p) (e : H p = some o) (h : isT o = false) : False := by
  rw [n o e] at h
  cases h
theorem NoD.ne {H : Hp} {a p : Addr} {o : HO} (n : NoD H p) (e : H a = some o) (h : isT o = false) : a ≠ p := fun z => by
  subst z
  exact n.no e h
theorem ExT.backN {H H' : Hp} {p : Addr} (e : ExT H H') (h : NoD H' p) : NoD H p := fun o e1 => by
  cases q : isT o with
  | true => rfl
  | false => exact (h.no (e.at_ p o e1 q) q).elim
theorem ExT.back {H H' : Hp} {p : Addr} (e : ExT H H') (h : H' p = none) : NoD H p := e.backN (.of h)
theorem ExT.dat {H H' : Hp} {a : Addr} {u : HO} (e : ExT H H') (h : H a = some u) (hn : isT u = false := by rfl) : H' a = some u := e.at_ a u h hn
theorem ExT.rd {H H' : Hp} {a : Addr} {u : HO} (e : ExT H H') (h : Rd H a u) (hn : isT u = false := by rfl) : Rd H' a u := by
  rcases h with h | ⟨o, h⟩
  · exact Or.inl (e.at_ a _ h hn)
  · exact Or.inr ⟨o, e.at_ a _ h rfl⟩
theorem ExT.sq {H H' : Hp} {K : PySem.W.Frag} {a : Addr} {xs : List V} (e : ExT H H') (h : SqL K H a xs) : SqL K H' a xs := by
  rcases h with h | h
  · exact Or.inl (e.rd h)
  · exact Or.inr h
/-- F is a part of H, of data alone; H's tables are in order -/
structure Sb (P : Pm) (F H : Hp) : Prop where
  ex : Ex F H
  nt : ∀ a o, F a = some o → isT o = false
  tabs : LamX.Tabs P.T H
theorem Sb.back {P : Pm} {F H : Hp} {p : Addr} (s : Sb P F H) (h : H p = none) : F p = none := s.ex.back h
theorem Sb.rd {P : Pm} {F H : Hp} {a : Addr} {u : HO} (s : Sb P F H) (h : Rd F a u) : Rd H a u := s.ex.rd h
theorem Sb.sq {P : Pm} {F H : Hp} {K : PySem.W.Frag} {a : Addr} {xs : List V} (s : Sb P F H) (h : SqL K F a xs) : SqL K H a xs := s.ex.sq h
/-- the heap grew, wholly -/
theorem Sb.ext {P : Pm} {F H H' : Hp} (s : Sb P F H) (e : Ex H H') : Sb P F H' := ⟨s.ex.trans e, s.nt, s.tabs.ext e⟩
/-- the tables grew -/
theorem Sb.ext' {P : Pm} {F H H' : Hp} (s : Sb P F H) (e : ExT H H') (t : LamX.Tabs P.T H') : Sb P F H' := ⟨fun a o h => e.at_ a o (s.ex a o h) (s.nt a o h), s.nt, t⟩
/-- less is frozen -/
theorem Sb.sub {P : Pm} {F F1 H : Hp} (s : Sb P F1 H) (e : Ex F F1) : Sb P F H := ⟨e.trans s.ex, fun a o h => s.nt a o (e a o h), s.tabs⟩
theorem Tabs.upd {T : List (Addr × Str)} {H : Hp} {a : Addr} {u o : HO} (t : LamX.Tabs T H) (h : H a = some u) (hd : isD u = true) : LamX.Tabs T (upd H a o) := fun p hp => by
  obtain ⟨ps, h1, h2, h3⟩ := t p hp
  have n1 : p.1 ≠ a := fun z => by
    rw [z, h] at h1
    cases h1
    cases hd
  refine ⟨ps, by rw [upd_ne n1]; exact h1, h2, fun pos cv hc => ?_⟩
  obtain ⟨c, e1, e2⟩ := h3 pos cv hc
  refine ⟨c, e1, ?_⟩
  rw [upd_ne]
  · exact e2
  · intro z
    rw [z, h] at e2
    have e2 : u = LamX.CodeO a p.2 := Option.some.inj e2
    rw [e2] at hd
    cases hd

section
variable {P : Pm} {F F' : Hp}
mutual
theorem Is.mono (e : Ex F F') : ∀ (d : D) {v : V}, Is P F d v → Is P F' d v
  | .non, _, h => by simpa [Is] using h
  | .bl b, _, h => by simpa [Is] using h
  | .int i, _, h => by simpa [Is] using h
  | .str s, _, h => by simpa [Is] using h
  | .lst xs, _, h => by
    rw [Is] at h ⊢
    obtain ⟨a, vs, h1, h2, h3⟩ := h
    exact ⟨a, vs, h1, e.rd h2, IsL.mono e xs h3⟩
  | .tup xs, _, h => by
    rw [Is] at h ⊢
    obtain ⟨a, vs, h1, h2, h3⟩ := h
    exact ⟨a, vs, h1, e _ _ h2, IsL.mono e xs h3⟩
  | .dK ks xs, _, h => by
    rw [Is] at h ⊢
    obtain ⟨a, o, vs, h1, h2, h3, h4⟩ := h
    exact ⟨a, o, vs, h1, e _ _ h2, h3, IsL.mono e xs h4⟩
  | .dT ks xs, _, h => by
    rw [Is] at h ⊢
    obtain ⟨a, o, vs, h1, h2, h3, h4⟩ := h
    exact ⟨a, o, vs, h1, e _ _ h2, h3, IsL.mono e xs h4⟩
  | .obj c xs, _, h => by
    rw [Is] at h ⊢
    obtain ⟨a, dx, vs, h1, h2, h3, h4⟩ := h
    exact ⟨a, dx, vs, h1, e _ _ h2, h3, IsL.mono e xs h4⟩
  | .scr ns, _, h => by
    rw [Is] at h ⊢
    obtain ⟨a, h1, h2⟩ := h
    exact ⟨a, h1, e.sq h2⟩
theorem IsL.mono (e : Ex F F') : ∀ (ds : List D) {vs : List V}, IsL P F ds vs → IsL P F' ds vs
  | [], _, h => by simpa [IsL] using h
  | d :: ds, _, h => by
    rw [IsL] at h ⊢
    obtain ⟨v, r, h1, h2, h3⟩ := h
    exact ⟨v, r, h1, Is.mono e d h2, IsL.mono e ds h3⟩
end
theorem IsL.nil : IsL P F [] [] := by rw [IsL]
theorem IsL.cons {d : D} {ds : List D} {v : V} {vs : List V} (h : Is P F d v) (t : IsL P F ds vs) : IsL P F (d :: ds) (v :: vs) := by
  rw [IsL]
  exact ⟨v, vs, rfl, h, t⟩
theorem IsL.length : ∀ {ds : List D} {vs : List V}, IsL P F ds vs → ds.length = vs.length
  | [], _, h => by
    rw [IsL] at h
    subst h
    rfl
  | d :: ds, _, h => by
    rw [IsL] at h
    obtain ⟨v, r, rfl, _, h3⟩ := h
    simp [IsL.length h3]
theorem IsL.get : ∀ {ds : List D} {vs : List V} {i : Nat} {d : D}, IsL P F ds vs → ds[i]? = some d → ∃ v, vs[i]? = some v ∧ Is P F d v
  | [], _, _, _, _, e => by simp at e
  | d :: ds, _, i, x, h, e => by
    rw [IsL] at h
    obtain ⟨v, r, rfl, h2, h3⟩ := h
    cases i with
    | zero =>
      simp at e
      subst e
      exact ⟨v, by simp, h2⟩
    | succ i =>
      simp at e
      obtain ⟨v', h4, h5⟩ := IsL.get h3 e
      exact ⟨v', by simpa using h4, h5⟩
theorem IsL.get' : ∀ {ds : List D} {vs : List V} {i : Nat} {v : V}, IsL P F ds vs → vs[i]? = some v → ∃ d, ds[i]? = some d ∧ Is P F d v := by
  intro ds vs i v h e
  have hl := h.length
  have hi : i < vs.length := by
    rcases Nat.lt_or_ge i vs.length with q | q
    · exact q
    · rw [List.getElem?_eq_none q] at e
      cases e
  obtain ⟨d, hd⟩ : ∃ d, ds[i]? = some d := ⟨ds[i]'(by omega), List.getElem?_eq_getElem (by omega)⟩
  obtain ⟨v', h1, h2⟩ := h.get hd
  rw [e] at h1
  cases h1
  exact ⟨d, hd, h2⟩
theorem IsL.append : ∀ {ds es : List D} {vs ws : List V}, IsL P F ds vs → IsL P F es ws → IsL P F (ds ++ es) (vs ++ ws)
  | [], _, _, _, h, t => by
    rw [IsL] at h
    subst h
    exact t
  | d :: ds, _, _, _, h, t => by
    rw [IsL] at h
    obtain ⟨v, r, rfl, h2, h3⟩ := h
    exact .cons h2 (IsL.append h3 t)
theorem IsL.drop : ∀ (n : Nat) {ds : List D} {vs : List V}, IsL P F ds vs → IsL P F (ds.drop n) (vs.drop n)
  | 0, _, _, h => h
  | n + 1, [], _, h => by
    rw [IsL] at h
    subst h
    exact .nil
  | n + 1, d :: ds, _, h => by
    rw [IsL] at h
    obtain ⟨v, r, rfl, h2, h3⟩ := h
    exact IsL.drop n h3
theorem IsL.take : ∀ (n : Nat) {ds : List D} {vs : List V}, IsL P F ds vs → IsL P F (ds.take n) (vs.take n)
  | 0, _, _, h => .nil
  | n + 1, [], _, h => by
    rw [IsL] at h
    subst h
    exact .nil
  | n + 1, d :: ds, _, h => by
    rw [IsL] at h
    obtain ⟨v, r, rfl, h2, h3⟩ := h
    exact .cons h2 (IsL.take n h3)
theorem IsL.set : ∀ (i : Nat) {ds : List D} {vs : List V} {d : D} {v : V}, IsL P F ds vs → Is P F d v → IsL P F (ds.set i d) (vs.set i v)
  | i, [], _, _, _, h, _ => by
    rw [IsL] at h
    subst h
    exact .nil
  | 0, d :: ds, _, _, _, h, q => by
    rw [IsL] at h
    obtain ⟨v, r, rfl, h2, h3⟩ := h
    exact .cons q h3
  | i + 1, d :: ds, _, _, _, h, q => by
    rw [IsL] at h
    obtain ⟨v, r, rfl, h2, h3⟩ := h
    exact .cons h2 (IsL.set i h3 q)
end

/-- F is the part that stands still, H all; from (F, H) to (F', H') objects only came, F' took none of those that H had beside F -/
structure Grow (P : Pm) (F H F' H' : Hp) : Prop where
  f : Ex F F'
  h : ExT H H'
  s : Sb P F' H'
  n : ∀ a o, F' a = some o → F a = some o ∨ NoD H a ∨ ∃ xs, o = .tup xs
section
variable {P : Pm}
theorem Grow.refl {F H : Hp} (s : Sb P F H) : Grow P F H F H := ⟨.refl F, .refl H, s, fun _ _ e => .inl e⟩
theorem Grow.trans {F H F1 H1 F2 H2 : Hp} (a : Grow P F H F1 H1) (b : Grow P F1 H1 F2 H2) : Grow P F H F2 H2 :=
  ⟨a.f.trans b.f, a.h.trans b.h, b.s, fun x o e => by
    rcases b.n x o e with q | q | q
    · exact a.n x o q
    · exact .inr (.inl (a.h.backN q))
    · exact .inr (.inr q)⟩
/-- a new object, kept still -/
theorem Grow.new {F H : Hp} {p : Addr} {o : HO} (s : Sb P F H) (h : H p = none) (ho : isT o = false := by rfl) : Grow P F H (upd F p o) (upd H p o) :=
  ⟨.new (s.back h), .new h, ⟨fun a u e => by
    by_cases q : a = p
    · subst q
      rw [upd_same] at e
      rw [upd_same]
      exact e
    · rw [upd_ne q] at e
      rw [upd_ne q]
      exact s.ex a u e, fun a u e => by
    by_cases q : a = p
    · subst q
      rw [upd_same] at e
      cases e
      exact ho
    · rw [upd_ne q] at e
      exact s.nt a u e, s.tabs.ext (Ex.new h)⟩, fun a u e => by
    by_cases q : a = p
    · subst q
      exact .inr (.inl (.of h))
    · rw [upd_ne q] at e
      exact .inl e⟩
/-- a new object that nobody keeps -/
theorem Grow.junk {F H H' : Hp} (s : Sb P F H) (e : Ex H H') : Grow P F H F H' := ⟨.refl F, e.t, s.ext e, fun _ _ e => .inl e⟩
end

/-! ### results -/
inductive Res (α : Type) where
  | ok (a : α)
  | err (c : Nat) (p : Option D)
  | bad
instance : Monad Res where
  pure := Res.ok
  bind r k := match r with
    | .ok a => k a
    | .err c p => .err c p
    | .bad => .bad
theorem Res.bind_ok {α β : Type} (a : α) (k : α → Res β) : ((Res.ok a : Res α) >>= k) = k a := rfl
theorem Res.bind_err {α β : Type} (c : Nat) (p : Option D) (k : α → Res β) : ((Res.err c p : Res α) >>= k) = Res.err c p := rfl
theorem Res.bind_bad {α β : Type} (k : α → Res β) : ((Res.bad : Res α) >>= k) = Res.bad := rfl
theorem Res.pure_eq {α : Type} (a : α) : (pure a : Res α) = .ok a := rfl

/-- an error of the program lies in the heap -/
def ErrAt (P : Pm) (F H : Hp) (c : Nat) : Option D → Option Addr → Prop
  | none, x => x = none
  | some d, x => ∃ a v, x = some a ∧ H a = some (.xd [(P.xf c, v)]) ∧ Is P F d v

/-! ### names -/
inductive B where
  | sh (d : D)
  | ow (d : D)
  | bw (d : D)
abbrev Env := List (Option B)
/-- an object of one's own: its content -/
def Own (P : Pm) (F H : Hp) (a : Addr) : D → Prop
  | .lst xs => ∃ vs, H a = some (.lst vs) ∧ IsL P F xs vs
  | .dK ks xs => ∃ vs, H a = some (.dK (ks.zip vs)) ∧ ks.length = vs.length ∧ IsL P F xs vs
  | .dT ks xs => ∃ vs, H a = some (.dT (ks.zip vs)) ∧ ks.length = vs.length ∧ IsL P F xs vs
  | .obj c xs => ∃ dx vs, H a = some (.ins (P.C c) dx ((P.nm c).zip vs)) ∧ vs.length ≤ (P.nm c).length ∧ IsL P F xs vs
  | _ => False
theorem Own.mono {P : Pm} {F F' H H' : Hp} {a : Addr} (e : Ex F F') (g : ExT H H') : ∀ {d : D}, Own P F H a d → Own P F' H' a d
  | .lst xs, ⟨vs, h1, h2⟩ => ⟨vs, g.dat h1, h2.mono e xs⟩
  | .dK ks xs, ⟨vs, h1, h2, h3⟩ => ⟨vs, g.dat h1, h2, h3.mono e xs⟩
  | .dT ks xs, ⟨vs, h1, h2, h3⟩ => ⟨vs, g.dat h1, h2, h3.mono e xs⟩
  | .obj c xs, ⟨dx, vs, h1, h2, h3⟩ => ⟨dx, vs, g.dat h1, h2, h3.mono e xs⟩
  | .non, h => h.elim
  | .bl _, h => h.elim
  | .int _, h => h.elim
  | .str _, h => h.elim
  | .tup _, h => h.elim
  | .scr _, h => h.elim

/-- a def's entry: what stood still, and self of an __init__ -/
structure Fz where
  F : Hp
  S : Option Addr
/-- the names' values by data. F0, H0: the def's entry -/
structure ER (P : Pm) (F0 : Fz) (H0 F : Hp) (ρ : Env) (σ : St) (H : Hp) : Prop where
  g : Grow P F0.F H0 F H
  self : ∀ x, F0.S = some x → σ[0]? = some (some (.ref x))
  len : ρ.length = σ.length
  sh : ∀ (i : Nat) d, ρ[i]? = some (some (.sh d)) → ∃ v, σ[i]? = some (some v) ∧ Is P F d v
  bw : ∀ (i : Nat) d, ρ[i]? = some (some (.bw d)) → ∃ v, σ[i]? = some (some v) ∧ Is P H0 d v
  ow : ∀ (i : Nat) d, ρ[i]? = some (some (.ow d)) → ∃ a, σ[i]? = some (some (.ref a)) ∧ NoD H0 a ∧ F a = none ∧ Own P F H a d
  nd : ∀ (i j : Nat) d e a, ρ[i]? = some (some (.ow d)) → ρ[j]? = some (some (.ow e)) → σ[i]? = some (some (.ref a)) → σ[j]? = some (some (.ref a)) → i = j
section
variable {P : Pm} {F0 : Fz} {H0 F F' H H' : Hp} {ρ : Env} {σ : St}
theorem Own.there {a : Addr} : ∀ {d : D}, Own P F H a d → ∃ o, H a = some o ∧ isD o = true
  | .lst xs, ⟨vs, h1, h2⟩ => ⟨_, h1, rfl⟩
  | .dK ks xs, ⟨vs, h1, h2, h3⟩ => ⟨_, h1, rfl⟩
  | .dT ks xs, ⟨vs, h1, h2, h3⟩ => ⟨_, h1, rfl⟩
  | .obj c xs, ⟨dx, vs, h1, h2, h3⟩ => ⟨_, h1, rfl⟩
  | .non, h => h.elim
  | .bl _, h => h.elim
  | .int _, h => h.elim
  | .str _, h => h.elim
  | .tup _, h => h.elim
  | .scr _, h => h.elim
theorem Own.notup {a : Addr} {H' : Hp} {o : HO} {xs : List V} (g : ExT H H') (e : H' a = some o) (z : o = .tup xs) : ∀ {d : D}, Own P F H a d → False
  | .lst _, ⟨vs, h1, h2⟩ => by
    have := g.dat h1
    rw [e, z] at this
    cases this
  | .dK _ _, ⟨vs, h1, h2, h3⟩ => by
    have := g.dat h1
    rw [e, z] at this
    cases this
  | .dT _ _, ⟨vs, h1, h2, h3⟩ => by
    have := g.dat h1
    rw [e, z] at this
    cases this
  | .obj _ _, ⟨dx, vs, h1, h2, h3⟩ => by
    have := g.dat h1
    rw [e, z] at this
    cases this
  | .non, h => h.elim
  | .bl _, h => h.elim
  | .int _, h => h.elim
  | .str _, h => h.elim
  | .tup _, h => h.elim
  | .scr _, h => h.elim
theorem ER.grow (r : ER P F0 H0 F ρ σ H) (g : Grow P F H F' H') : ER P F0 H0 F' ρ σ H' where
  g := r.g.trans g
  self := r.self
  len := r.len
  sh := fun i d e => by
    obtain ⟨v, h1, h2⟩ := r.sh i d e
    exact ⟨v, h1, h2.mono g.f d⟩
  bw := r.bw
  ow := fun i d e => by
    obtain ⟨a, h1, h2, h3, h4⟩ := r.ow i d e
    refine ⟨a, h1, h2, ?_, h4.mono g.f g.h⟩
    cases q : F' a with
    | none => rfl
    | some o =>
      rcases g.n a o q with z | z | ⟨xs, z⟩
      · rw [h3] at z
        cases z
      · obtain ⟨o', ho, hd⟩ := h4.there
        exact (z.no ho (isD_T hd)).elim
      · exact (h4.notup (g.h) (g.s.ex _ _ q) z).elim
  nd := r.nd
theorem get_set_self {α : Type} {l : List α} {i : Nat} {x : α} (h : i < l.length) : (l.set i x)[i]? = some x := by simp [h]
/-- a name gets a value -/
theorem ER.put (r : ER P F0 H0 F ρ σ H) (i : Nat) {d : D} {v : V} (h : Is P F d v) (hi0 : F0.S = none ∨ i ≠ 0) : ER P F0 H0 F (ρ.set i (some (.sh d))) (σ.set i (some v)) H where
  g := r.g
  self := fun x hx => by
    rcases hi0 with q | q
    · rw [q] at hx
      cases hx
    · rw [List.getElem?_set_ne q]
      exact r.self x hx
  len := by simp [r.len]
  sh := fun j e q => by
    by_cases hj : i = j
    · subst hj
      have hl : i < ρ.length := by
        rcases Nat.lt_or_ge i ρ.length with z | z
        · exact z
        · rw [List.getElem?_eq_none (by simpa using z)] at q
          cases q
      rw [get_set_self hl] at q
      cases q
      exact ⟨v, get_set_self (r.len ▸ hl), h⟩
    · rw [List.getElem?_set_ne hj] at q
      rw [List.getElem?_set_ne hj]
      exact r.sh j e q
  bw := fun j e q => by
    by_cases hj : i = j
    · subst hj
      have hl : i < ρ.length := by
        rcases Nat.lt_or_ge i ρ.length with z | z
        · exact z
        · rw [List.getElem?_eq_none (by simpa using z)] at q
          cases q
      rw [get_set_self hl] at q
      cases q
    · rw [List.getElem?_set_ne hj] at q
      rw [List.getElem?_set_ne hj]
      exact r.bw j e q
  ow := fun j e q => by
    by_cases hj : i = j
    · subst hj
      have hl : i < ρ.length := by
        rcases Nat.lt_or_ge i ρ.length with z | z
        · exact z
        · rw [List.getElem?_eq_none (by simpa using z)] at q
          cases q
      rw [get_set_self hl] at q
      cases q
    · rw [List.getElem?_set_ne hj] at q
      rw [List.getElem?_set_ne hj]
      exact r.ow j e q
  nd := fun j k d' e' a q1 q2 q3 q4 => by
    by_cases hj : i = j
    · subst hj
      have hl : i < ρ.length := by
        rcases Nat.lt_or_ge i ρ.length with z | z
        · exact z
        · rw [List.getElem?_eq_none (by simpa using z)] at q1
          cases q1
      rw [get_set_self hl] at q1
      cases q1
    · by_cases hk : i = k
      · subst hk
        have hl : i < ρ.length := by
          rcases Nat.lt_or_ge i ρ.length with z | z
          · exact z
          · rw [List.getElem?_eq_none (by simpa using z)] at q2
            cases q2
        rw [get_set_self hl] at q2
        cases q2
      · rw [List.getElem?_set_ne hj] at q1 q3
        rw [List.getElem?_set_ne hk] at q2 q4
        exact r.nd j k d' e' a q1 q2 q3 q4
/-- a name gets a borrowed value -/
theorem ER.putB (r : ER P F0 H0 F ρ σ H) (i : Nat) {d : D} {v : V} (h : Is P H0 d v) (hi0 : F0.S = none ∨ i ≠ 0) : ER P F0 H0 F (ρ.set i (some (.bw d))) (σ.set i (some v)) H where
  g := r.g
  self := fun x hx => by
    rcases hi0 with q | q
    · rw [q] at hx
      cases hx
    · rw [List.getElem?_set_ne q]
      exact r.self x hx
  len := by simp [r.len]
  sh := fun j e q => by
    by_cases hj : i = j
    · subst hj
      have hl : i < ρ.length := by
        rcases Nat.lt_or_ge i ρ.length with z | z
        · exact z
        · rw [List.getElem?_eq_none (by simpa using z)] at q
          cases q
      rw [get_set_self hl] at q
      cases q
    · rw [List.getElem?_set_ne hj] at q
      rw [List.getElem?_set_ne hj]
      exact r.sh j e q
  bw := fun j e q => by
    by_cases hj : i = j
    · subst hj
      have hl : i < ρ.length := by
        rcases Nat.lt_or_ge i ρ.length with z | z
        · exact z
        · rw [List.getElem?_eq_none (by simpa using z)] at q
          cases q
      rw [get_set_self hl] at q
      cases q
      exact ⟨v, get_set_self (r.len ▸ hl), h⟩
    · rw [List.getElem?_set_ne hj] at q
      rw [List.getElem?_set_ne hj]
      exact r.bw j e q
  ow := fun j e q => by
    by_cases hj : i = j
    · subst hj
      have hl : i < ρ.length := by
        rcases Nat.lt_or_ge i ρ.length with z | z
        · exact z
        · rw [List.getElem?_eq_none (by simpa using z)] at q
          cases q
      rw [get_set_self hl] at q
      cases q
    · rw [List.getElem?_set_ne hj] at q
      rw [List.getElem?_set_ne hj]
      exact r.ow j e q
  nd := fun j k d' e' a q1 q2 q3 q4 => by
    by_cases hj : i = j
    · subst hj
      have hl : i < ρ.length := by
        rcases Nat.lt_or_ge i ρ.length with z | z
        · exact z
        · rw [List.getElem?_eq_none (by simpa using z)] at q1
          cases q1
      rw [get_set_self hl] at q1
      cases q1
    · by_cases hk : i = k
      · subst hk
        have hl : i < ρ.length := by
          rcases Nat.lt_or_ge i ρ.length with z | z
          · exact z
          · rw [List.getElem?_eq_none (by simpa using z)] at q2
            cases q2
        rw [get_set_self hl] at q2
        cases q2
      · rw [List.getElem?_set_ne hj] at q1 q3
        rw [List.getElem?_set_ne hk] at q2 q4
        exact r.nd j k d' e' a q1 q2 q3 q4
end
end DL
namespace DL
open PySem L2

/-- a container as it stands in H, its items in F -/
def Vw (P : Pm) (F H : Hp) : D → V → Prop
  | .lst xs, v => ∃ a vs, v = .ref a ∧ Rd H a (.lst vs) ∧ IsL P F xs vs
  | .tup xs, v => ∃ a vs, v = .ref a ∧ F a = some (.tup vs) ∧ Rd H a (.tup vs) ∧ IsL P F xs vs
  | .dK ks xs, v => ∃ a vs, v = .ref a ∧ Rd H a (.dK (ks.zip vs)) ∧ ks.length = vs.length ∧ IsL P F xs vs
  | .dT ks xs, v => ∃ a vs, v = .ref a ∧ Rd H a (.dT (ks.zip vs)) ∧ ks.length = vs.length ∧ IsL P F xs vs
  | .obj c xs, v => ∃ a dx vs, v = .ref a ∧ H a = some (.ins (P.C c) dx ((P.nm c).zip vs)) ∧ vs.length ≤ (P.nm c).length ∧ IsL P F xs vs
  | .scr ns, v => ∃ a, v = .ref a ∧ SqL P.K H a (ns.map V.int)
  | .non, v => v = .non
  | .bl b, v => v = .bl b
  | .int i, v => v = .int i
  | .str s, v => v = .str s
section
variable {P : Pm} {F F' H H' : Hp}
theorem Is.vw (e : Sb P F H) : ∀ (d : D) {v : V}, Is P F d v → Vw P F H d v
  | .non, _, h => by rw [Is] at h; exact h
  | .bl b, _, h => by rw [Is] at h; exact h
  | .int i, _, h => by rw [Is] at h; exact h
  | .str s, _, h => by rw [Is] at h; exact h
  | .lst xs, _, h => by
    rw [Is] at h
    obtain ⟨a, vs, h1, h2, h3⟩ := h
    exact ⟨a, vs, h1, e.rd h2, h3⟩
  | .tup xs, _, h => by
    rw [Is] at h
    obtain ⟨a, vs, h1, h2, h3⟩ := h
    exact ⟨a, vs, h1, h2, .inl (e.ex _ _ h2), h3⟩
  | .dK ks xs, _, h => by
    rw [Is] at h
    obtain ⟨a, o, vs, h1, h2, h3, h4⟩ := h
    exact ⟨a, vs, h1, .inr ⟨o, e.ex _ _ h2⟩, h3, h4⟩
  | .dT ks xs, _, h => by
    rw [Is] at h
    obtain ⟨a, o, vs, h1, h2, h3, h4⟩ := h
    exact ⟨a, vs, h1, .inr ⟨o, e.ex _ _ h2⟩, h3, h4⟩
  | .obj c xs, _, h => by
    rw [Is] at h
    obtain ⟨a, dx, vs, h1, h2, h3, h4⟩ := h
    exact ⟨a, dx, vs, h1, e.ex _ _ h2, h3, h4⟩
  | .scr ns, _, h => by
    rw [Is] at h
    obtain ⟨a, h1, h2⟩ := h
    exact ⟨a, h1, e.sq h2⟩
theorem Own.vw {a : Addr} : ∀ {d : D}, Own P F H a d → Vw P F H d (.ref a)
  | .lst xs, ⟨vs, h1, h2⟩ => ⟨a, vs, rfl, .inl h1, h2⟩
  | .dK ks xs, ⟨vs, h1, h2, h3⟩ => ⟨a, vs, rfl, .inl h1, h2, h3⟩
  | .dT ks xs, ⟨vs, h1, h2, h3⟩ => ⟨a, vs, rfl, .inl h1, h2, h3⟩
  | .obj c xs, ⟨dx, vs, h1, h2, h3⟩ => ⟨a, dx, vs, rfl, h1, h2, h3⟩
  | .non, h => h.elim
  | .bl _, h => h.elim
  | .int _, h => h.elim
  | .str _, h => h.elim
  | .tup _, h => h.elim
  | .scr _, h => h.elim
theorem Vw.mono (e : Ex F F') (g : ExT H H') : ∀ (d : D) {v : V}, Vw P F H d v → Vw P F' H' d v
  | .non, _, h => h
  | .bl b, _, h => h
  | .int i, _, h => h
  | .str s, _, h => h
  | .lst xs, _, ⟨a, vs, h1, h2, h3⟩ => ⟨a, vs, h1, g.rd h2, h3.mono e xs⟩
  | .tup xs, _, ⟨a, vs, h1, h0, h2, h3⟩ => ⟨a, vs, h1, e _ _ h0, g.rd h2, h3.mono e xs⟩
  | .dK ks xs, _, ⟨a, vs, h1, h2, h3, h4⟩ => ⟨a, vs, h1, g.rd h2, h3, h4.mono e xs⟩
  | .dT ks xs, _, ⟨a, vs, h1, h2, h3, h4⟩ => ⟨a, vs, h1, g.rd h2, h3, h4.mono e xs⟩
  | .obj c xs, _, ⟨a, dx, vs, h1, h2, h3, h4⟩ => ⟨a, dx, vs, h1, g.dat h2, h3, h4.mono e xs⟩
  | .scr ns, _, ⟨a, h1, h2⟩ => ⟨a, h1, g.sq h2⟩
end

/-! ### what is wanted behind a result -/
abbrev Rel (α β : Type) := Hp → Hp → α → β → Prop
def PostG {α β : Type} (P : Pm) (W : WX) (rel : Rel α β) (r : Res α) (F : Hp) (σ : St) (H : Hp) (Q : β → Hp → Prop) : Prop :=
  match r with
  | .ok a => ∀ v F' H', Grow P F H F' H' → rel F' H' a v → Q v H'
  | .err c p => ∀ F' H' x, Grow P F H F' H' → ErrAt P F' H' c p x → W (P.xc c) x σ H'
  | .bad => False
section
variable {α β γ δ : Type} {P : Pm} {W : WX} {rel : Rel α β} {rel' : Rel γ δ} {F0 : Fz} {F F1 H H1 H0 : Hp} {σ : St}
theorem PostG.shift {r : Res α} {Q : β → Hp → Prop} (h : PostG P W rel r F σ H Q) (g : Grow P F H F1 H1) : PostG P W rel r F1 σ H1 Q := by
  cases r with
  | ok a => exact fun v F' H' g' q => h v F' H' (g.trans g') q
  | err c p => exact fun F' H' x g' q => h F' H' x (g.trans g') q
  | bad => exact h
theorem PostG.bind {r : Res α} {k : α → Res γ} {Q : δ → Hp → Prop} (h : PostG P W rel' (r >>= k) F σ H Q) :
    PostG P W rel r F σ H (fun v H1 => ∃ F1 a, Grow P F H F1 H1 ∧ rel F1 H1 a v ∧ PostG P W rel' (k a) F1 σ H1 Q) := by
  cases r with
  | ok a => exact fun v F' H' g' q => ⟨F', a, g', q, PostG.shift (r := k a) h g'⟩
  | err c p => exact h
  | bad => exact h
theorem PostG.imp {r : Res α} {Q Q' : β → Hp → Prop} (h : PostG P W rel r F σ H Q) (q : ∀ v H', Q v H' → Q' v H') : PostG P W rel r F σ H Q' := by
  cases r with
  | ok a => exact fun v F' H' g' z => q _ _ (h v F' H' g' z)
  | err c p => exact h
  | bad => exact h
theorem PostG.here {a : α} {Q : β → Hp → Prop} {v : β} (h : PostG P W rel (.ok a) F σ H Q) (s : Sb P F H) (q : rel F H a v) : Q v H := h v F H (.refl s) q
end
/-- readings by data -/
def tG {α β : Type} (P : Pm) (F0 : Fz) (H0 : Hp) (W : WX) (rel : Rel α β) (f : Env → Res α) : St → Hp → (β → Hp → Prop) → Prop :=
  fun σ H Q => ∃ F ρ, ER P F0 H0 F ρ σ H ∧ PostG P W rel (f ρ) F σ H Q
abbrev rIs (P : Pm) : Rel D V := fun F _ d v => Is P F d v
abbrev rVw (P : Pm) : Rel D V := fun F H d v => Vw P F H d v
abbrev rLs (P : Pm) : Rel (List D) (List V) := fun F _ d v => IsL P F d v
abbrev rBo : Rel Bool Bool := fun _ _ d v => v = d
abbrev tE (P : Pm) (F0 : Fz) (H0 : Hp) (W : WX) (f : Env → Res D) : TE := tG P F0 H0 W (rIs P) f
abbrev tV (P : Pm) (F0 : Fz) (H0 : Hp) (W : WX) (f : Env → Res D) : TE := tG P F0 H0 W (rVw P) f
abbrev tL (P : Pm) (F0 : Fz) (H0 : Hp) (W : WX) (f : Env → Res (List D)) : TA := tG P F0 H0 W (rLs P) f
abbrev tT (P : Pm) (F0 : Fz) (H0 : Hp) (W : WX) (f : Env → Res Bool) : TT := tG P F0 H0 W rBo f
theorem tG.bind {α β γ δ : Type} {P : Pm} {F0 : Fz} {H0 : Hp} {W : WX} {rel : Rel α β} {rel' : Rel γ δ} {f : Env → Res α} {k : Env → α → Res γ} {σ : St} {H : Hp} {Q : δ → Hp → Prop}
    (h : tG P F0 H0 W rel' (fun ρ => f ρ >>= k ρ) σ H Q) :
    tG P F0 H0 W rel f σ H (fun v H1 => ∃ F1 ρ a, ER P F0 H0 F1 ρ σ H1 ∧ rel F1 H1 a v ∧ PostG P W rel' (k ρ a) F1 σ H1 Q) := by
  obtain ⟨F, ρ, er, h⟩ := h
  exact ⟨F, ρ, er, (PostG.bind (rel := rel) h).imp fun v H1 ⟨F1, a, g, q, z⟩ => ⟨F1, ρ, a, er.grow g, q, z⟩⟩
theorem ER.s {P : Pm} {F0 : Fz} {H0 F H : Hp} {ρ : Env} {σ : St} (r : ER P F0 H0 F ρ σ H) : Sb P F H := r.g.s

/-! ### rules -/
theorem _root_.L2.PE.imp {X : Cx} {e : Expr} {t t' : TE} (h : PE X e t) (q : ∀ σ H Q, t' σ H Q → t σ H Q) : PE X e t' := ⟨fun pins s σ H Q I z => h.run pins s σ H Q I (q σ H Q z)⟩
theorem _root_.L2.PT.imp {X : Cx} {e : Expr} {t t' : TT} (h : PT X e t) (q : ∀ σ H Q, t' σ H Q → t σ H Q) : PT X e t' := ⟨fun pins s σ H Q I z => h.run pins s σ H Q I (q σ H Q z)⟩
theorem _root_.L2.PW.imp {X : Cx} {e : Expr} {t t' : TT} (h : PW X e t) (q : ∀ σ H Q, t' σ H Q → t σ H Q) : PW X e t' := ⟨fun w pins s σ H Q I z => h.run w pins s σ H Q I (q σ H Q z)⟩
theorem _root_.L2.PA.imp {X : Cx} {e : List Expr} {t t' : TA} (h : PA X e t) (q : ∀ σ H Q, t' σ H Q → t σ H Q) : PA X e t' := ⟨fun p pins s σ H Q I z => h.run p pins s σ H Q I (q σ H Q z)⟩
theorem _root_.L2.PS.imp {X : Cx} {e : Stmt} {t t' : TS} (h : PS X e t) (q : ∀ D σ H, t' D σ H → t D σ H) : PS X e t' := ⟨fun pins s σ H Q I z => h.run pins s σ H Q I (q Q σ H z)⟩
theorem _root_.L2.PSs.imp {X : Cx} {e : List Stmt} {t t' : TS} (h : PSs X e t) (q : ∀ D σ H, t' D σ H → t D σ H) : PSs X e t' := ⟨fun pins s σ H Q I z => h.run pins s σ H Q I (q Q σ H z)⟩

section
variable {X : Cx} {P : Pm} {F0 : Fz} {H0 : Hp} {W : WX} {a b c e : Expr} {es : List Expr} {fa fb fc : Env → Res D} {pos : Pos}
/-- a value may be looked at -/
theorem toV (h : PE X a (tE P F0 H0 W fa)) : PE X a (tV P F0 H0 W fa) := h.imp fun σ H Q ⟨F, ρ, er, z⟩ => ⟨F, ρ, er, by
  cases q : fa ρ with
  | ok d =>
    rw [q] at z
    exact fun v F' H' g i => z v F' H' g (i.vw g.s d)
  | err c p =>
    rw [q] at z
    exact z
  | bad =>
    rw [q] at z
    exact z⟩
def look (i : Nat) : Env → Res D := fun ρ => match ρ[i]? with
  | some (some (.sh d)) => .ok d
  | _ => .bad
def peek (i : Nat) : Env → Res D := fun ρ => match ρ[i]? with
  | some (some (.sh d)) => .ok d
  | some (some (.ow d)) => .ok d
  | _ => .bad
theorem pd_name (i : Nat) {x : Str} (hN : X.N[i]? = some x := by rfl) (hv : Vis X.env.scope x := by first | exact Or.inl rfl | exact Or.inr (Or.inl rfl) | exact Or.inr (Or.inr rfl)) (hd : (x == ("__debug__" : Str)) = false := by decide)
    (hcd : (x == ("__classdict__" : Str)) = false := by decide) : PE X (.Name x pos) (tE P F0 H0 W (look i)) := (pe_var hN hv hd hcd).imp fun σ H Q ⟨F, ρ, er, z⟩ => by
  unfold look at z
  split at z
  · rename_i d q
    obtain ⟨v, h1, h2⟩ := er.sh i d q
    exact ⟨v, h1, z.here er.s h2⟩
  · exact z.elim
theorem pd_peek (i : Nat) {x : Str} (hN : X.N[i]? = some x := by rfl) (hv : Vis X.env.scope x := by first | exact Or.inl rfl | exact Or.inr (Or.inl rfl) | exact Or.inr (Or.inr rfl)) (hd : (x == ("__debug__" : Str)) = false := by decide)
    (hcd : (x == ("__classdict__" : Str)) = false := by decide) : PE X (.Name x pos) (tV P F0 H0 W (peek i)) := (pe_var hN hv hd hcd).imp fun σ H Q ⟨F, ρ, er, z⟩ => by
  unfold peek at z
  split at z
  · rename_i d q
    obtain ⟨v, h1, h2⟩ := er.sh i d q
    exact ⟨v, h1, z.here er.s (h2.vw er.s d)⟩
  · rename_i d q
    obtain ⟨a, h1, _, _, h2⟩ := er.ow i d q
    exact ⟨.ref a, h1, z.here er.s h2.vw⟩
  · exact z.elim
theorem pd_const {v : V} {d : D} (h : PE X e (tC v)) (q : ∀ F, Is P F d v) : PE X e (tE P F0 H0 W (fun _ => .ok d)) := h.imp fun σ H Q ⟨F, ρ, er, z⟩ => z.here er.s (q F)
theorem pd_int {i j} : PE X (.Constant (.int i) j pos) (tE P F0 H0 W (fun _ => .ok (.int i))) := pd_const pe_int fun F => by rw [Is]
theorem pd_bl {i j} : PE X (.Constant (.bool i) j pos) (tE P F0 H0 W (fun _ => .ok (.bl i))) := pd_const pe_bl fun F => by rw [Is]
theorem pd_non {j} : PE X (.Constant .none j pos) (tE P F0 H0 W (fun _ => .ok .non)) := pd_const pe_non fun F => by rw [Is]
theorem pd_str {i j} : PE X (.Constant (.str i) j pos) (tE P F0 H0 W (fun _ => .ok (.str i))) := pd_const pe_str fun F => by rw [Is]

/-- a two-place operation by data -/
def OpD (X : Cx) (P : Pm) (W : WX) (f : Value → Value → Sem Value) (r : D → D → Res D) : Prop :=
  ∀ (pins : List (Addr × Obj)) (s : Shared) (σ : St) (F H : Hp) (x y : V) (u v : Value) (dx dy : D) (Q : VK), Inv X pins σ H s → RelV x u → RelV y v → Sb P F H → Vw P F H dx x → Vw P F H dy y → PostG P W (rIs P) (r dx dy) F σ H Q →
    wpAny (model X.prog X.w) X.A (f u v) (EP X pins σ Q) X.xe s
def UnD (X : Cx) (P : Pm) (W : WX) (f : Value → Sem Value) (r : D → Res D) : Prop :=
  ∀ (pins : List (Addr × Obj)) (s : Shared) (σ : St) (F H : Hp) (x : V) (u : Value) (dx : D) (Q : VK), Inv X pins σ H s → RelV x u → Sb P F H → Vw P F H dx x → PostG P W (rIs P) (r dx) F σ H Q →
    wpAny (model X.prog X.w) X.A (f u) (EP X pins σ Q) X.xe s
def CallD (X : Cx) (P : Pm) (W : WX) (f : Value) (r : List D → Res D) : Prop :=
  ∀ (pins : List (Addr × Obj)) (s : Shared) (σ : St) (F H : Hp) (xs : List V) (us : List Value) (ds : List D) (Q : VK), Inv X pins σ H s → Vals xs us → Sb P F H → IsL P F ds xs → PostG P W (rIs P) (r ds) F σ H Q →
    wpAny (model X.prog X.w) X.A (call f us) (EP X pins σ Q) X.xe s
variable {op : Operator} {cop : CmpOp} {r : D → D → Res D}
/-- what two operands ask -/
theorem two_of {k : D → D → Res D} {σ : St} {H : Hp} {Q : VK} (h : tE P F0 H0 W (fun ρ => do let x ← fa ρ; let y ← fb ρ; k x y) σ H Q) :
    tV P F0 H0 W fa σ H fun x H1 => tV P F0 H0 W fb σ H1 fun y H2 => ∃ F dx dy, Sb P F H2 ∧ Vw P F H2 dx x ∧ Vw P F H2 dy y ∧ PostG P W (rIs P) (k dx dy) F σ H2 Q := by
  obtain ⟨F, ρ, er, z⟩ := h
  refine ⟨F, ρ, er, (PostG.bind (rel := rVw P) z).imp ?_⟩
  rintro x H1 ⟨F1, dx, g1, i1, z1⟩
  refine ⟨F1, ρ, er.grow g1, (PostG.bind (rel := rVw P) z1).imp ?_⟩
  rintro y H2 ⟨F2, dy, g2, i2, z2⟩
  exact ⟨F2, dx, dy, g2.s, i1.mono g2.f g2.h dx, i2, z2⟩
theorem pd_op (ho : OpD X P W (binaryOp op) r) (ha : PE X a (tV P F0 H0 W fa)) (hb : PE X b (tV P F0 H0 W fb)) : PE X (.BinOp a op b pos) (tE P F0 H0 W (fun ρ => do let x ← fa ρ; let y ← fb ρ; r x y)) := by
  refine ⟨fun pins s σ H Q I h => ?_⟩
  exact wpAny_BinOp (binT ha hb I (two_of h) fun v u s2 x y H2 I2 rx ry ⟨F, dx, dy, e, i1, i2, q⟩ => ho pins s2 σ F H2 x y v u dx dy Q I2 rx ry e i1 i2 q)
theorem pd_un {op : UnaryOp} {r : D → Res D} (ho : UnD X P W (unaryOp op) r) (ha : PE X a (tV P F0 H0 W fa)) : PE X (.UnaryOp op a pos) (tE P F0 H0 W (fun ρ => do let x ← fa ρ; r x)) := by
  refine ⟨fun pins s σ H Q I h => ?_⟩
  exact PyProof.Rows.UnaryOp_ (thn (ha.run pins s σ H _ I (tG.bind (rel := rVw P) (f := fa) (k := fun _ x => r x) h)) fun v s1 ⟨x, H1, I1, r1, F1, ρ, d, er, i1, q1⟩ => ho pins s1 σ F1 H1 x v d Q I1 r1 er.s i1 q1)
/-- the same of a comparison -/
theorem pd_cmp (ho : OpD X P W (compareOp cop) r) (ha : PE X a (tV P F0 H0 W fa)) (hb : PE X b (tV P F0 H0 W fb)) (hm : behindInMarks cop b = false) : PE X (.Compare a [cop] [b] pos) (tE P F0 H0 W (fun ρ => do let x ← fa ρ; let y ← fb ρ; r x y)) := by
  refine pe_cmp (t := tE P F0 H0 W (fun ρ => do let x ← fa ρ; let y ← fb ρ; r x y)) ⟨fun pins s σ H Q I h => ?_⟩ hm
  exact binT ha hb I (two_of h) fun v u s2 x y H2 I2 rx ry ⟨F, dx, dy, e, i1, i2, q⟩ => ho pins s2 σ F H2 x y v u dx dy Q I2 rx ry e i1 i2 q
end
end DL
namespace DL
open PySem L2

def bo : D → Res Bool
  | .bl b => .ok b
  | _ => .bad
def opt {α : Type} : Option α → Res α
  | some a => .ok a
  | none => .bad
section
variable {X : Cx} {P : Pm} {F0 : Fz} {H0 : Hp} {W : WX} {a b c e : Expr} {es : List Expr} {fa fb fc : Env → Res D} {ga gb gc : Env → Res Bool} {pos : Pos} {σ : St} {H F : Hp}
theorem bo_of {x : D} {v : V} {Q : Bool → Hp → Prop} (s : Sb P F H) (i : Is P F x v) (h : PostG P W rBo (bo x) F σ H Q) : ∃ k, v = .bl k ∧ Q k H := by
  cases x with
  | bl k =>
    rw [Is] at i
    exact ⟨k, i, h.here s rfl⟩
  | _ => exact h.elim
/-! ### tests -/
theorem tB_of {f : Env → Res D} {Q : Bool → Hp → Prop} (h : tT P F0 H0 W (fun ρ => f ρ >>= bo) σ H Q) : tB (tE P F0 H0 W f) σ H Q := by
  obtain ⟨F, ρ, er, z⟩ := h
  refine ⟨F, ρ, er, (PostG.bind (rel := rIs P) z).imp ?_⟩
  rintro v H1 ⟨F1, d, g, i, q⟩
  exact bo_of g.s i q
theorem td_val (h : PE X e (tE P F0 H0 W fa)) (he : ∀ whole, isTrue e X.env whole = (do let v ← whole; standAt e.pos; holding [v] (truthy v)) := by intro _; rfl) : PT X e (tT P F0 H0 W (fun ρ => fa ρ >>= bo)) :=
  (pt_val h he).imp fun _ _ _ z => tB_of z
theorem pd_pc {cop : CmpOp} {r : D → D → Res D} (ho : OpD X P W (compareOp cop) r) (ha : PE X a (tV P F0 H0 W fa)) (hb : PE X b (tV P F0 H0 W fb)) : PC X cop a b (tE P F0 H0 W (fun ρ => do let x ← fa ρ; let y ← fb ρ; r x y)) :=
  ⟨fun pins s σ H Q I h => binT ha hb I (two_of h) fun v u s2 x y H2 I2 rx ry ⟨F, dx, dy, e, i1, i2, q⟩ => ho pins s2 σ F H2 x y v u dx dy Q I2 rx ry e i1 i2 q⟩
theorem td_cmp {cop : CmpOp} {r : D → D → Res D} (ho : OpD X P W (compareOp cop) r) (ha : PE X a (tV P F0 H0 W fa)) (hb : PE X b (tV P F0 H0 W fb)) (hm : behindInMarks cop b = false) :
    PT X (.Compare a [cop] [b] pos) (tT P F0 H0 W (fun ρ => (do let x ← fa ρ; let y ← fb ρ; r x y) >>= bo)) := (pt_cmp (pd_pc ho ha hb) hm).imp fun _ _ _ z => tB_of z
theorem td_not (h : PT X a (tT P F0 H0 W ga)) : PT X (.UnaryOp .Not a pos) (tT P F0 H0 W (fun ρ => do let x ← ga ρ; .ok (!x))) := (pt_not h).imp fun σ H Q ⟨F, ρ, er, z⟩ => by
  refine ⟨F, ρ, er, (PostG.bind (rel := rBo) z).imp ?_⟩
  rintro v H1 ⟨F1, d, g, i, q⟩
  subst i
  exact q.here g.s rfl
theorem td_and1 (h : PT X a (tT P F0 H0 W ga)) : PW X (.BoolOp .And [a] pos) (tT P F0 H0 W ga) := pw_and1 h
theorem td_or1 (h : PT X a (tT P F0 H0 W ga)) : PW X (.BoolOp .Or [a] pos) (tT P F0 H0 W ga) := pw_or1 h
theorem td_and {rest : List Expr} (ha : PT X a (tT P F0 H0 W ga)) (hb : PW X (.BoolOp .And (b :: rest) pos) (tT P F0 H0 W gb)) : PW X (.BoolOp .And (a :: b :: rest) pos) (tT P F0 H0 W (fun ρ => do let x ← ga ρ; if x = true then gb ρ else .ok false)) :=
  (pw_and ha hb).imp fun σ H Q ⟨F, ρ, er, z⟩ => by
  refine ⟨F, ρ, er, (PostG.bind (rel := rBo) z).imp ?_⟩
  rintro v H1 ⟨F1, d, g, i, q⟩
  subst i
  split
  · rename_i hv
    rw [if_pos hv] at q
    exact ⟨F1, ρ, er.grow g, q⟩
  · rename_i hv
    rw [if_neg hv] at q
    exact q.here g.s rfl
theorem td_or {rest : List Expr} (ha : PT X a (tT P F0 H0 W ga)) (hb : PW X (.BoolOp .Or (b :: rest) pos) (tT P F0 H0 W gb)) : PW X (.BoolOp .Or (a :: b :: rest) pos) (tT P F0 H0 W (fun ρ => do let x ← ga ρ; if x = true then .ok true else gb ρ)) :=
  (pw_or ha hb).imp fun σ H Q ⟨F, ρ, er, z⟩ => by
  refine ⟨F, ρ, er, (PostG.bind (rel := rBo) z).imp ?_⟩
  rintro v H1 ⟨F1, d, g, i, q⟩
  subst i
  split
  · rename_i hv
    rw [if_pos hv] at q
    exact q.here g.s rfl
  · rename_i hv
    rw [if_neg hv] at q
    exact ⟨F1, ρ, er.grow g, q⟩
/-! ### and, or, not as values (bools), a if t else b -/
theorem pd_one {op} (h : PE X a (tE P F0 H0 W fa)) : PE X (.BoolOp op [a] pos) (tE P F0 H0 W fa) := pe_one h
theorem pd_and {rest : List Expr} (ha : PE X a (tE P F0 H0 W fa)) (hb : PE X (.BoolOp .And (b :: rest) pos) (tE P F0 H0 W fb)) : PE X (.BoolOp .And (a :: b :: rest) pos) (tE P F0 H0 W (fun ρ => do let x ← fa ρ; let k ← bo x; if k = true then fb ρ else .ok (.bl false))) :=
  (pe_and ha hb).imp fun σ H Q ⟨F, ρ, er, z⟩ => by
  refine ⟨F, ρ, er, (PostG.bind (rel := rIs P) z).imp ?_⟩
  rintro v H1 ⟨F1, d, g, i, q⟩
  obtain ⟨k, hk, F2, k', g2, e2, q⟩ := bo_of g.s i (PostG.bind (rel := rBo) q)
  subst e2
  refine ⟨k, hk, ?_⟩
  split
  · rename_i hv
    rw [if_pos hv] at q
    exact ⟨F2, ρ, (er.grow g).grow g2, q⟩
  · rename_i hv
    rw [if_neg hv] at q
    exact q.here g2.s (by show Is P F2 (.bl false) _; rw [Is])
theorem pd_or {rest : List Expr} (ha : PE X a (tE P F0 H0 W fa)) (hb : PE X (.BoolOp .Or (b :: rest) pos) (tE P F0 H0 W fb)) : PE X (.BoolOp .Or (a :: b :: rest) pos) (tE P F0 H0 W (fun ρ => do let x ← fa ρ; let k ← bo x; if k = true then .ok (.bl true) else fb ρ)) :=
  (pe_or ha hb).imp fun σ H Q ⟨F, ρ, er, z⟩ => by
  refine ⟨F, ρ, er, (PostG.bind (rel := rIs P) z).imp ?_⟩
  rintro v H1 ⟨F1, d, g, i, q⟩
  obtain ⟨k, hk, F2, k', g2, e2, q⟩ := bo_of g.s i (PostG.bind (rel := rBo) q)
  subst e2
  refine ⟨k, hk, ?_⟩
  split
  · rename_i hv
    rw [if_pos hv] at q
    exact q.here g2.s (by show Is P F2 (.bl true) _; rw [Is])
  · rename_i hv
    rw [if_neg hv] at q
    exact ⟨F2, ρ, (er.grow g).grow g2, q⟩
theorem pd_not (ha : PE X a (tE P F0 H0 W fa)) : PE X (.UnaryOp .Not a pos) (tE P F0 H0 W (fun ρ => do let x ← fa ρ; let k ← bo x; .ok (.bl (!k)))) :=
  (pe_not ha).imp fun σ H Q ⟨F, ρ, er, z⟩ => by
  refine ⟨F, ρ, er, (PostG.bind (rel := rIs P) z).imp ?_⟩
  rintro v H1 ⟨F1, d, g, i, q⟩
  obtain ⟨k, hk, F2, k', g2, e2, q⟩ := bo_of g.s i (PostG.bind (rel := rBo) q)
  subst e2
  exact ⟨k, hk, q.here g2.s (by show Is P F2 (.bl _) _; rw [Is])⟩
theorem pd_if (hc : PT X c (tT P F0 H0 W gc)) (ha : PE X a (tE P F0 H0 W fa)) (hb : PE X b (tE P F0 H0 W fb)) : PE X (.IfExp c a b pos) (tE P F0 H0 W (fun ρ => do let k ← gc ρ; if k = true then fa ρ else fb ρ)) :=
  (pe_ifExp hc ha hb).imp fun σ H Q ⟨F, ρ, er, z⟩ => by
  refine ⟨F, ρ, er, (PostG.bind (rel := rBo) z).imp ?_⟩
  rintro v H1 ⟨F1, d, g, i, q⟩
  subst i
  split
  · rename_i hv
    rw [if_pos hv] at q
    exact ⟨F1, ρ, er.grow g, q⟩
  · rename_i hv
    rw [if_neg hv] at q
    exact ⟨F1, ρ, er.grow g, q⟩
end

/-! ### argument lists -/
def VwL (P : Pm) (F H : Hp) : List D → List V → Prop
  | [], vs => vs = []
  | d :: ds, vs => ∃ v r, vs = v :: r ∧ Vw P F H d v ∧ VwL P F H ds r
abbrev rVs (P : Pm) : Rel (List D) (List V) := fun F H d v => VwL P F H d v
abbrev tW (P : Pm) (F0 : Fz) (H0 : Hp) (W : WX) (f : Env → Res (List D)) : TA := tG P F0 H0 W (rVs P) f
theorem VwL.mono {P : Pm} {F F' H H' : Hp} (e : Ex F F') (g : ExT H H') : ∀ (ds : List D) {vs : List V}, VwL P F H ds vs → VwL P F' H' ds vs
  | [], _, h => h
  | d :: ds, _, ⟨v, r, h1, h2, h3⟩ => ⟨v, r, h1, h2.mono e g d, VwL.mono e g ds h3⟩
theorem IsL.vw {P : Pm} {F H : Hp} (e : Sb P F H) : ∀ (ds : List D) {vs : List V}, IsL P F ds vs → VwL P F H ds vs
  | [], _, h => by rw [IsL] at h; exact h
  | d :: ds, _, h => by
    rw [IsL] at h
    obtain ⟨v, r, h1, h2, h3⟩ := h
    exact ⟨v, r, h1, h2.vw e d, IsL.vw e ds h3⟩
section
variable {X : Cx} {P : Pm} {F0 : Fz} {H0 : Hp} {W : WX} {a b c e : Expr} {es : List Expr} {fa fb fc : Env → Res D} {fs : Env → Res (List D)} {pos p : Pos} {σ : St} {H F : Hp}
theorem ad_nil : PA X [] (tL P F0 H0 W (fun _ => .ok [])) := pa_nil.imp fun σ H Q ⟨F, ρ, er, z⟩ => z.here er.s .nil
theorem ad_cons (ha : PE X e (tE P F0 H0 W fa)) (hr : PA X es (tL P F0 H0 W fs)) (hs : starEach (e :: es) X.env = (false, eval e X.env) :: starEach es X.env := by rfl) :
    PA X (e :: es) (tL P F0 H0 W (fun ρ => do let x ← fa ρ; let xs ← fs ρ; .ok (x :: xs))) := (pa_cons ha hr hs).imp fun σ H Q ⟨F, ρ, er, z⟩ => by
  refine ⟨F, ρ, er, (PostG.bind (rel := rIs P) z).imp ?_⟩
  rintro v H1 ⟨F1, d, g, i, q⟩
  refine ⟨F1, ρ, er.grow g, (PostG.bind (rel := rLs P) q).imp ?_⟩
  rintro vs H2 ⟨F2, ds, g2, i2, q2⟩
  exact q2.here g2.s (.cons (i.mono g2.f d) i2)
theorem av_nil : PA X [] (tW P F0 H0 W (fun _ => .ok [])) := pa_nil.imp fun σ H Q ⟨F, ρ, er, z⟩ => z.here er.s rfl
theorem av_cons (ha : PE X e (tV P F0 H0 W fa)) (hr : PA X es (tW P F0 H0 W fs)) (hs : starEach (e :: es) X.env = (false, eval e X.env) :: starEach es X.env := by rfl) :
    PA X (e :: es) (tW P F0 H0 W (fun ρ => do let x ← fa ρ; let xs ← fs ρ; .ok (x :: xs))) := (pa_cons ha hr hs).imp fun σ H Q ⟨F, ρ, er, z⟩ => by
  refine ⟨F, ρ, er, (PostG.bind (rel := rVw P) z).imp ?_⟩
  rintro v H1 ⟨F1, d, g, i, q⟩
  refine ⟨F1, ρ, er.grow g, (PostG.bind (rel := rVs P) q).imp ?_⟩
  rintro vs H2 ⟨F2, ds, g2, i2, q2⟩
  exact q2.here g2.s ⟨_, _, rfl, i.mono g2.f g2.h d, i2⟩

/-! ### new containers -/
/-- a new object at p, nobody's yet -/
def rNw (P : Pm) (H : Hp) : Rel D V := fun F' H' d v => ∃ p, v = .ref p ∧ NoD H p ∧ F' p = none ∧ Own P F' H' p d
def tN (P : Pm) (F0 : Fz) (H0 : Hp) (W : WX) (f : Env → Res D) : TE := fun σ H Q => ∃ F ρ, ER P F0 H0 F ρ σ H ∧ PostG P W (rNw P H) (f ρ) F σ H Q
def notDict : D → Bool
  | .dK _ _ => false
  | .dT _ _ => false
  | _ => true
/-- an object of one's own is kept still from now on -/
theorem Sb.keep {P : Pm} {F H : Hp} {p : Addr} {o : HO} (s : Sb P F H) (h0 : F p = none) (h1 : H p = some o) (ho : isT o = false) : Sb P (upd F p o) H := ⟨fun a u e => by
    by_cases q : a = p
    · subst q; rw [upd_same] at e; cases e; exact h1
    · rw [upd_ne q] at e; exact s.ex a u e, fun a u e => by
    by_cases q : a = p
    · subst q; rw [upd_same] at e; cases e; exact ho
    · rw [upd_ne q] at e; exact s.nt a u e, s.tabs⟩
theorem upd_or {F : Hp} {p : Addr} {o : HO} : ∀ a u, upd F p o a = some u → F a = some u ∨ a = p := fun a u e => by
  by_cases q : a = p
  · exact .inr q
  · rw [upd_ne q] at e; exact .inl e
theorem Own.still {P : Pm} {F H : Hp} {p : Addr} (s : Sb P F H) (h0 : F p = none) : ∀ {d : D}, notDict d = true → Own P F H p d → ∃ F', Ex F F' ∧ Sb P F' H ∧ Is P F' d (.ref p) ∧ ∀ a o, F' a = some o → F a = some o ∨ a = p
  | .lst xs, _, ⟨vs, h1, h2⟩ => ⟨upd F p (.lst vs), .new h0, s.keep h0 h1 rfl, by rw [Is]; exact ⟨p, vs, rfl, .inl upd_same, h2.mono (.new h0) xs⟩, upd_or⟩
  | .obj c xs, _, ⟨dx, vs, h1, h2, h3⟩ => ⟨upd F p (.ins (P.C c) dx ((P.nm c).zip vs)), .new h0, s.keep h0 h1 rfl, by rw [Is]; exact ⟨p, dx, vs, rfl, upd_same, h2, h3.mono (.new h0) xs⟩, upd_or⟩
  | .dK _ _, z, _ => by cases z
  | .dT _ _, z, _ => by cases z
  | .non, _, h => h.elim
  | .bl _, _, h => h.elim
  | .int _, _, h => h.elim
  | .str _, _, h => h.elim
  | .tup _, _, h => h.elim
  | .scr _, _, h => h.elim
theorem Sb.lock {P : Pm} {F H : Hp} {p : Addr} {u : HO} {od : Obj} (s : Sb P F H) (h0 : F p = none) (h1 : H p = some u) (hu : isD u = true) : Sb P (upd F p (.frz od u)) (upd H p (.frz od u)) := ⟨fun a v e => by
    by_cases q : a = p
    · subst q; rw [upd_same] at e; rw [upd_same]; exact e
    · rw [upd_ne q] at e; rw [upd_ne q]; exact s.ex a v e, fun a v e => by
    by_cases q : a = p
    · subst q; rw [upd_same] at e; cases e; rfl
    · rw [upd_ne q] at e; exact s.nt a v e, Tabs.upd s.tabs h1 hu⟩
/-- the same with the heap's reading: a dict is locked -/
theorem Own.stillI {X : Cx} {pins : List (Addr × Obj)} {σ : St} {s : Shared} {P : Pm} {F H : Hp} {p : Addr} (I : Inv X pins σ H s) (sb : Sb P F H) (h0 : F p = none) : ∀ {d : D}, Own P F H p d → ∃ F' H', Inv X pins σ H' s ∧ Ex F F' ∧ Sb P F' H' ∧ Is P F' d (.ref p) ∧ (∀ a o, F' a = some o → F a = some o ∨ a = p) ∧ ∀ b, b ≠ p → H' b = H b
  | .lst xs, h => by
    obtain ⟨F', a1, a2, a3, a4⟩ := h.still sb h0 rfl
    exact ⟨F', H, I, a1, a2, a3, a4, fun _ _ => rfl⟩
  | .obj c xs, h => by
    obtain ⟨F', a1, a2, a3, a4⟩ := h.still sb h0 rfl
    exact ⟨F', H, I, a1, a2, a3, a4, fun _ _ => rfl⟩
  | .dK ks xs, ⟨vs, h1, h2, h3⟩ => by
    obtain ⟨od, I2⟩ := I.lock h1 True.intro
    exact ⟨_, _, I2, .new h0, sb.lock h0 h1 rfl, by rw [Is]; exact ⟨p, od, vs, rfl, upd_same, h2, h3.mono (.new h0) xs⟩, upd_or, fun b hb => upd_ne hb⟩
  | .dT ks xs, ⟨vs, h1, h2, h3⟩ => by
    obtain ⟨od, I2⟩ := I.lock h1 True.intro
    exact ⟨_, _, I2, .new h0, sb.lock h0 h1 rfl, by rw [Is]; exact ⟨p, od, vs, rfl, upd_same, h2, h3.mono (.new h0) xs⟩, upd_or, fun b hb => upd_ne hb⟩
  | .non, h => h.elim
  | .bl _, h => h.elim
  | .int _, h => h.elim
  | .str _, h => h.elim
  | .tup _, h => h.elim
  | .scr _, h => h.elim
theorem Grow.still {P : Pm} {F H F1 H1 F2 H2 : Hp} {p : Addr} (g : Grow P F H F1 H1) (hp : NoD H p) (e1 : Ex F1 F2) (e2 : Sb P F2 H2) (n : ∀ a o, F2 a = some o → F1 a = some o ∨ a = p) (off : ∀ b, b ≠ p → H2 b = H1 b) : Grow P F H F2 H2 :=
  ⟨g.f.trans e1, ⟨fun a o h hn => by rw [off a (hp.ne h hn)]; exact g.h.at_ a o h hn⟩, e2, fun a o ha => by
    rcases n a o ha with y | y
    · exact g.n a o y
    · exact .inr (.inl (y ▸ hp))⟩
theorem n2e (h : PE X e (tN P F0 H0 W fa)) : PE X e (tE P F0 H0 W fa) := by
  refine ⟨fun pins s σ H Q I h0 => ?_⟩
  obtain ⟨F, ρ, er, z⟩ := h0
  refine thn (h.run pins s σ H (fun v H1 => ∃ F1 d, fa ρ = .ok d ∧ Grow P F H F1 H1 ∧ rNw P H F1 H1 d v) I ⟨F, ρ, er, ?_⟩) ?_
  · cases q : fa ρ with
    | ok d => exact fun v F' H' g r => ⟨F', d, rfl, g, r⟩
    | err c p =>
      rw [q] at z
      exact z
    | bad =>
      rw [q] at z
      exact z
  · rintro u s1 ⟨v, H1, I1, r, F1, d, hf, g, p, rfl, hp, hF, ho⟩
    obtain ⟨F2, H2, I2, a1, a2, a3, a4, a5⟩ := ho.stillI I1 g.s hF
    replace z : PostG P W (rIs P) (fa ρ) F σ H Q := z
    rw [hf] at z
    exact ⟨_, H2, I2, r, z _ F2 H2 (g.still hp a1 a2 a4 a5) a3⟩
def small (n : Nat) : Bool := decide (n ≤ 1000000)
theorem small_le {n : Nat} (h : small n = true) : n ≤ sizeLine := Nat.le_trans (of_decide_eq_true h) (by decide)
theorem small_lt {n : Nat} (h : small n = true) : n < sizeLine := Nat.lt_of_le_of_lt (of_decide_eq_true h) (by decide)
def mkL (xs : List D) : Res D := if small xs.length = true then .ok (.lst xs) else .bad
def mkT (xs : List D) : Res D := if small xs.length = true then .ok (.tup xs) else .bad
theorem nd_lst (h : PA X es (tL P F0 H0 W fs)) : PE X (.List es pos) (tN P F0 H0 W (fun ρ => fs ρ >>= mkL)) := (pe_lst h).imp fun σ H Q ⟨F, ρ, er, z⟩ => by
  refine ⟨F, ρ, er, (PostG.bind (rel := rLs P) z).imp ?_⟩
  rintro vs H1 ⟨F1, ds, g, i, q⟩
  unfold mkL at q
  split at q
  · rename_i hz
    refine ⟨by rw [← i.length]; exact small_le hz, fun p hp => ?_⟩
    exact q _ F1 _ (.junk g.s (.new hp)) ⟨p, rfl, g.h.back hp, g.s.back hp, vs, upd_same, i⟩
  · exact q.elim
theorem pd_lst (h : PA X es (tL P F0 H0 W fs)) : PE X (.List es pos) (tE P F0 H0 W (fun ρ => fs ρ >>= mkL)) := n2e (nd_lst h)
theorem pd_tup {x1} (h : PA X es (tL P F0 H0 W fs)) : PE X (.Tuple es x1 pos) (tE P F0 H0 W (fun ρ => fs ρ >>= mkT)) := (pe_tup h).imp fun σ H Q ⟨F, ρ, er, z⟩ => by
  refine ⟨F, ρ, er, (PostG.bind (rel := rLs P) z).imp ?_⟩
  rintro vs H1 ⟨F1, ds, g, i, q⟩
  unfold mkT at q
  split at q
  · rename_i hz
    refine ⟨by rw [← i.length]; exact small_le hz, fun p hp => ?_⟩
    exact q _ (upd F1 p (.tup vs)) _ (.new g.s hp) (by show Is P _ (.tup ds) _; rw [Is]; exact ⟨p, vs, rfl, upd_same, i.mono (.new (g.s.back hp)) ds⟩)
  · exact q.elim
end
end DL
namespace DL
open PySem L2

/-! ### promises by data -/
def fnG (n : Nat) (G : List D → Res D) (ds : List D) : Res D := if ds.length = n then G ds else .bad
abbrev WE0 (E : XK) : WX := fun cls x _ H => E cls x H
def spD (P : Pm) (n : Nat) (G : List D → Res D) : Sp := fun vs H Q E => ∃ F ds, Sb P F H ∧ IsL P F ds vs ∧ ds.length = n ∧ PostG P (WE0 E) (rIs P) (G ds) F [] H Q
def minus (H : Hp) (x : Addr) : Hp := fun a => if a = x then none else H a
theorem minus_same {H : Hp} {x : Addr} : minus H x x = none := by unfold minus; rw [if_pos rfl]
theorem minus_ne {H : Hp} {x a : Addr} (h : a ≠ x) : minus H x a = H a := by unfold minus; rw [if_neg h]
theorem minus_ex {H : Hp} {x : Addr} : Ex (minus H x) H := fun a o e => by
  by_cases q : a = x
  · subst q
    rw [minus_same] at e
    cases e
  · rw [minus_ne q] at e
    exact e
/-- __init__: the attributes that it sets -/
def spI (P : Pm) (c n : Nat) (G : List D → Res (List D)) : Sp := fun vs H Q E => ∃ x dx args F ds, vs = .ref x :: args ∧ H x = some (.ins (P.C c) dx []) ∧ F x = none ∧ Sb P F H ∧ IsL P F ds args ∧ ds.length = n ∧
  PostG P (WE0 E) (fun F' _ fs v => v = .non ∧ Is P F' (.obj c fs) (.ref x)) (G ds) F [] (minus H x) Q
section
variable {X : Cx} {P : Pm} {F0 : Fz} {H0 : Hp} {W : WX} {a b c e o : Expr} {es : List Expr} {fa fb fc : Env → Res D} {fs : Env → Res (List D)} {pos p apos : Pos} {σ : St} {H F : Hp}
variable {k n : Nat} {f C : Addr} {fd : FuncData} {ps : List Str} {dvs : List V} {dds : List D} {dv : List Value} {x m : Str} {G : List D → Res D} {GI : List D → Res (List D)}
/-- defaults as data -/
def Dfl (P : Pm) (dvs : List V) (dds : List D) : Prop := ∀ F : Hp, IsL P F dds dvs
theorem Dfl.nil : Dfl P [] [] := fun _ => .nil
theorem Dfl.int {i : Int} : Dfl P [.int i] [.int i] := fun _ => .cons (by rw [Is]) .nil
theorem PostG.sig {α β : Type} {rel : Rel α β} {r : Res α} {Q : β → Hp → Prop} (h : PostG P W rel r F σ H Q) : PostG P (WE0 fun cls x H => W cls x σ H) rel r F [] H Q := by
  cases r with
  | ok a => exact h
  | err c p => exact h
  | bad => exact h
theorem fnG_of {ds : List D} {F H : Hp} {Q : VK} {vs : List V} {E : XK} (hd : Dfl P dvs dds) (s : Sb P F H) (i : IsL P F ds vs) (h : PostG P (WE0 E) (rIs P) (fnG n G (ds ++ dds)) F [] H Q) : spD P n G (vs ++ dvs) H Q E := by
  unfold fnG at h
  split at h
  · rename_i hl
    exact ⟨F, ds ++ dds, s, i.append (hd F), hl, h⟩
  · exact h.elim
/-- f(e, ..) -/
theorem pd_call (Fn : FnOk X.prog X.w X.K X.mg X.base (L2.CX X.prog X.w) k f fd ps (spD P n G)) (hr : Room k X.A) (hg : Gl X x) (hm : X.mg x = some (.ref f)) (hk : PySem.W.keepIn X.K (.ref f) = true) (hb : Binds X.K fd ps dv) (hd : Vals dvs dv) (hdd : Dfl P dvs dds)
    (tk : Takes X W) (ha : PA X (e :: es) (tL P F0 H0 W fs)) (hdb : (x == ("__debug__" : Str)) = false := by decide) (he : starEach (e :: es) X.env = (false, eval e X.env) :: starEach es X.env := by rfl) (hpl : (backTo pos (starEach es X.env)).any (·.1) = false := by rfl) :
    PE X (.Call (.Name x p) (e :: es) [] pos) (tE P F0 H0 W (fun ρ => do let xs ← fs ρ; fnG n G (xs ++ dds))) :=
  (pe_callSD (E := WE W) Fn hr hg hm hk hb hd (fun σ => passAt tk σ) ha hdb he hpl).imp fun σ H Q ⟨F, ρ, er, z⟩ => by
  refine ⟨F, ρ, er, (PostG.bind (rel := rLs P) z).imp ?_⟩
  rintro vs H1 ⟨F1, ds, g, i, q⟩
  exact fnG_of hdd g.s i q.sig
/-- f() -/
theorem pd_call0 (Fn : FnOk X.prog X.w X.K X.mg X.base (L2.CX X.prog X.w) k f fd ps (spD P n G)) (hr : Room k X.A) (hg : Gl X x) (hm : X.mg x = some (.ref f)) (hk : PySem.W.keepIn X.K (.ref f) = true) (hb : Binds X.K fd ps dv) (hd : Vals dvs dv) (hdd : Dfl P dvs dds)
    (tk : Takes X W) (hdb : (x == ("__debug__" : Str)) = false := by decide) :
    PE X (.Call (.Name x p) [] [] pos) (tE P F0 H0 W (fun ρ => fnG n G dds)) := by
  refine ⟨fun pins s σ H Q I h => ?_⟩
  refine wpAny_Call_Name_kw (ld_glob I hg hm ?_ hdb)
  obtain ⟨F, ρ, er, z⟩ := h
  refine PySem.W.callWith_K0 I.kIn hk ?_
  exact run_fnSD (vs := []) (us := []) Fn hr hb hd (passAt tk σ) I .nil (fnG_of (ds := []) hdd er.s .nil z.sig)
/-- o.m(e, ..) -/
theorem run_methD {pins : List (Addr × Obj)} {s : Shared} {Q : VK} {us : List Value} {vs : List V} {ds : List D} (Fn : FnOk X.prog X.w X.K X.mg X.base (L2.CX X.prog X.w) k f fd ps (spD P n G)) (hr : Room k X.A) (hb : Binds X.K fd ps dv) (hd : Vals dvs dv) (hdd : Dfl P dvs dds)
    (tk : Takes X W) (I : Inv X pins σ H s) (r : Vals vs us) (sx : Sb P F H) (i : IsL P F ds vs) (z : PostG P W (rIs P) (fnG n G (ds ++ dds)) F σ H Q) : wpAny (model X.prog X.w) X.A (call (.ref f) us) (EP X pins σ Q) X.xe s :=
  run_fnSD (E := WE W) Fn hr hb hd (passAt tk σ) I r (fnG_of hdd sx i z.sig)
theorem obj_of {c : Nat} {xs : List D} {v : V} (i : Is P F (.obj c xs) v) : ∃ a dx vs, v = .ref a ∧ F a = some (.ins (P.C c) dx ((P.nm c).zip vs)) ∧ vs.length ≤ (P.nm c).length ∧ IsL P F xs vs := by
  rw [Is] at i
  exact i
theorem zip_none {β : Type} {m : Str} : ∀ {ks : List Str} {vs : List β}, m ∉ ks → (ks.zip vs).lookup m = none
  | [], _, _ => rfl
  | _ :: _, [], _ => rfl
  | k :: ks, v :: vs, h => by
    have h1 : (m == k) = false := by
      rw [beq_eq_false_iff_ne]
      exact fun q => h (q ▸ List.mem_cons_self)
    show (match m == k with | true => some v | false => (ks.zip vs).lookup m) = none
    rw [h1]
    exact zip_none fun q => h (List.mem_cons_of_mem _ q)
/-- x is an instance of the class number c -/
def isO (c : Nat) (x : D) : Res D := match x with
  | .obj c' ys => if c' = c then .ok x else .bad
  | _ => .bad
theorem isO_of {cn : Nat} {d : D} {v : V} {Q : VK} (s : Sb P F H) (i : Is P F d v) (h : PostG P W (rIs P) (isO cn d) F σ H Q) : ∃ xs a dx fs, d = .obj cn xs ∧ v = .ref a ∧ H a = some (.ins (P.C cn) dx ((P.nm cn).zip fs)) ∧ Q v H := by
  cases d with
  | obj c ys =>
    by_cases q : c = cn
    · subst q
      have e : isO c (.obj c ys) = .ok (.obj c ys) := if_pos rfl
      rw [e] at h
      obtain ⟨a, dx, vs, h1, h2, h3, h4⟩ := obj_of i
      exact ⟨ys, a, dx, vs, rfl, h1, s.ex _ _ h2, h.here s i⟩
    · have e : isO cn (.obj c ys) = .bad := if_neg q
      rw [e] at h
      exact h.elim
  | _ => exact h.elim
theorem pd_meth {cn : Nat} {pl : Sem Bool} (ho : PE X o (tE P F0 H0 W fa)) (cl : Cls X.K (P.C cn)) (hm : Meth X.K (P.C cn) m f) (hno : m ∉ P.nm cn) (Fn : FnOk X.prog X.w X.K X.mg X.base (L2.CX X.prog X.w) k f fd ps (spD P n G)) (hr : Room k X.A) (hb : Binds X.K fd ps dv) (hd : Vals dvs dv) (hdd : Dfl P dvs dds)
    (tk : Takes X W) (ha : PA X (e :: es) (tL P F0 H0 W fs))
    (hst : starEach (e :: es) X.env = (false, eval e X.env) :: starEach es X.env := by rfl) (hpl : (backTo pos (starEach es X.env)).any (·.1) = false := by rfl)
    (ht : eval (.Call (.Attribute o m apos) (e :: es) [] pos) X.env = (do
      let ov ← eval o X.env
      standAt apos.atName
      let (f, first) ← holding [ov] (getMethod ov m pl)
      callWith pos f first (backTo pos (starEach (e :: es) X.env)) (backToKw pos (keywordEach [] X.env))) := by rfl) :
    PE X (.Call (.Attribute o m apos) (e :: es) [] pos) (tE P F0 H0 W (fun ρ => do let x ← fa ρ; let y ← isO cn x; let xs ← fs ρ; fnG n G (y :: xs ++ dds))) := by
  refine ⟨fun pins s σ H Q I h => ?_⟩
  obtain ⟨F, ρ, er, z⟩ := h
  refine PySem.W.methodCall_KW (pl := pl) (thn (ho.run pins s σ H _ I ⟨F, ρ, er, PostG.bind (rel := rIs P) z⟩) ?_) ht
  rintro u s1 ⟨x, H1, I1, rx, F1, d, g1, i1, z1⟩
  obtain ⟨xs, a, dx, fs', rfl, rfl, ha1, F2, d2, g2, i2, z2⟩ := isO_of g1.s i1 (PostG.bind (rel := rIs P) z1)
  obtain rfl : u = Value.ref a := rx
  refine getmeth_ok I1 ha1 cl hm (zip_none hno) ?_
  refine PySem.W.callWith_K (first := [.ref a]) (h₀ := X.base) I.ok.mod.kin hm.kp (thn (ha.run pos pins s1 σ H1 _ I1 ⟨F2, ρ, (er.grow g1).grow g2, PostG.bind (rel := rLs P) z2⟩) ?_) hst hpl
  rintro us s2 ⟨vs, H2, I2, r, F3, ds, g3, i3, z3⟩
  exact ⟨I2.kIn, run_methD (vs := .ref a :: vs) (ds := d2 :: ds) Fn hr hb hd hdd tk I2 (.cons rfl r) g3.s (.cons (i2.mono g3.f _) i3) z3⟩
/-- o.m() -/
theorem pd_meth0 {cn : Nat} {pl : Sem Bool} (ho : PE X o (tE P F0 H0 W fa)) (cl : Cls X.K (P.C cn)) (hm : Meth X.K (P.C cn) m f) (hno : m ∉ P.nm cn) (Fn : FnOk X.prog X.w X.K X.mg X.base (L2.CX X.prog X.w) k f fd ps (spD P n G)) (hr : Room k X.A) (hb : Binds X.K fd ps dv) (hd : Vals dvs dv) (hdd : Dfl P dvs dds)
    (tk : Takes X W)
    (ht : eval (.Call (.Attribute o m apos) [] [] pos) X.env = (do
      let ov ← eval o X.env
      standAt apos.atName
      let (f, first) ← holding [ov] (getMethod ov m pl)
      callWith pos f first (backTo pos (starEach [] X.env)) (backToKw pos (keywordEach [] X.env))) := by rfl) :
    PE X (.Call (.Attribute o m apos) [] [] pos) (tE P F0 H0 W (fun ρ => do let x ← fa ρ; let y ← isO cn x; fnG n G (y :: dds))) := by
  refine ⟨fun pins s σ H Q I h => ?_⟩
  obtain ⟨F, ρ, er, z⟩ := h
  refine PySem.W.methodCall_KW (pl := pl) (thn (ho.run pins s σ H _ I ⟨F, ρ, er, PostG.bind (rel := rIs P) z⟩) ?_) ht
  rintro u s1 ⟨x, H1, I1, rx, F1, d, g1, i1, z1⟩
  obtain ⟨xs, a, dx, fs', rfl, rfl, ha1, F2, d2, g2, i2, z2⟩ := isO_of g1.s i1 (PostG.bind (rel := rIs P) z1)
  obtain rfl : u = Value.ref a := rx
  refine getmeth_ok I1 ha1 cl hm (zip_none hno) ?_
  refine PySem.W.callWith_K0 (first := [.ref a]) I1.kIn hm.kp ?_
  exact run_methD (vs := [.ref a]) (ds := [d2]) (dds := dds) Fn hr hb hd hdd tk I1 (.cons rfl .nil) g2.s (.cons i2 .nil) z2
/-! ### C(e, ..) -/
theorem run_makeS {CX : CXT} {sp : Sp} {E : XK} {pins : List (Addr × Obj)} {s : Shared} {Q : VK} {us : List Value} {vs : List V} (M : Mk X.K C f) (Fn : FnOk X.prog X.w X.K X.mg X.base CX k f fd ps sp) (hr : Room (k + 1) X.A) (hb : Binds X.K fd ps dv) (hd : Vals dvs dv)
    (hx : PassesAt CX X σ E) (I : Inv X pins σ H s) (r : Vals vs us)
    (h : ∀ x dx, H x = none → H dx = none → dx ≠ x → sp (.ref x :: (vs ++ dvs)) (upd (upd H dx (.own x)) x (.ins C dx [])) (fun v H2 => v = .non ∧ Q (.ref x) H2) E) :
    wpAny (model X.prog X.w) X.A (call (.ref C) us) (EP X pins σ Q) X.xe s := by
  have hq := h (s.heap.objs.size + 1) s.heap.objs.size (I.hok.fresh (Nat.le_succ _)) (I.hok.fresh (Nat.le_refl _)) (Nat.ne_of_lt (Nat.lt_succ_self _))
  have I2 := Inv.made (C := C) I
  have r2 : Vals (V.ref (s.heap.objs.size + 1) :: (vs ++ dvs)) (Value.ref (s.heap.objs.size + 1) :: (us ++ dv)) := .cons rfl (r.append hd)
  have hl : (Value.ref (s.heap.objs.size + 1) :: us ++ dv).length = ps.length := by
    have e := r2.length
    rw [Fn.len _ _ _ _ hq] at e
    exact e.symm
  refine wpAny_call (make_map (f := f) I.kIn M.makes M.init (beq_iff_eq.mp M.fn) (codeAny_mono (Fn.run _ X.stack _ _ ⟨Value.ref (s.heap.objs.size + 1) :: us, []⟩ (Value.ref (s.heap.objs.size + 1) :: (us ++ dv)) _ _ E (hr.make C us [])
    (I2.env0.make C us []) (hb _ (Value.ref (s.heap.objs.size + 1) :: us) I2.kIn hl) r2 hq) fun r s' hq' => ?_))
  cases r with
  | error e => exact hx pins _ _ e s' I2 hq'
  | ok fl =>
    cases fl with
    | ret u =>
      obtain ⟨v, H', I3, rv, ev, q3⟩ := I2.after hq'
      subst ev
      exact ⟨rv, ⟨V.ref (s.heap.objs.size + 1), H', I3, rfl, q3⟩⟩
    | next => exact False.elim hq'
    | brk => exact False.elim hq'
    | cont => exact False.elim hq'
def mkG (c n : Nat) (G : List D → Res (List D)) (ds : List D) : Res D := if ds.length = n then (do let fs ← G ds; .ok (.obj c fs)) else .bad
theorem mkG_of {cn : Nat} {ds : List D} {Q : VK} {vs : List V} (hdd : Dfl P dvs dds) (s : Sb P F H) (i : IsL P F ds vs) (h : PostG P W (rIs P) (mkG cn n GI (ds ++ dds)) F σ H Q) :
    ∀ x dx, H x = none → H dx = none → dx ≠ x → spI P cn n GI (.ref x :: (vs ++ dvs)) (upd (upd H dx (.own x)) x (.ins (P.C cn) dx [])) (fun v H2 => v = .non ∧ Q (.ref x) H2) (fun cls d H' => W cls d σ H') := by
  intro x dx hx hdx hne
  unfold mkG at h
  split at h
  · rename_i hl
    have e1 : minus (upd (upd H dx (.own x)) x (.ins (P.C cn) dx [])) x = upd H dx (.own x) := by
      funext a
      by_cases q : a = x
      · subst q
        rw [minus_same, upd_ne (Ne.symm hne), hx]
      · rw [minus_ne q, upd_ne q]
    refine ⟨x, dx, vs ++ dvs, F, ds ++ dds, rfl, upd_same, s.back hx, s.ext ((Ex.new hdx).trans (Ex.new ?_)), i.append (hdd F), hl, ?_⟩
    · rw [upd_ne (Ne.symm hne)]
      exact hx
    · rw [e1]
      have g0 : Grow P F H F (upd H dx (.own x)) := .junk s (.new hdx)
      cases hG : GI (ds ++ dds) with
      | ok fs =>
        rw [hG] at h
        rintro v F' H' g ⟨hv, i'⟩
        exact ⟨hv, h _ F' H' (g0.trans g) i'⟩
      | err c p =>
        rw [hG] at h
        exact fun F' H' y g q => h F' H' y (g0.trans g) q
      | bad =>
        rw [hG] at h
        exact h
  · exact h.elim
theorem pd_make {cn : Nat} (M : Mk X.K (P.C cn) f) (Fn : FnOk X.prog X.w X.K X.mg X.base (L2.CX X.prog X.w) k f fd ps (spI P cn n GI)) (hr : Room (k + 1) X.A) (hg : Gl X x) (hm : X.mg x = some (.ref (P.C cn))) (hb : Binds X.K fd ps dv) (hd : Vals dvs dv) (hdd : Dfl P dvs dds)
    (tk : Takes X W) (ha : PA X (e :: es) (tL P F0 H0 W fs)) (hdb : (x == ("__debug__" : Str)) = false := by decide) (he : starEach (e :: es) X.env = (false, eval e X.env) :: starEach es X.env := by rfl) (hpl : (backTo pos (starEach es X.env)).any (·.1) = false := by rfl) :
    PE X (.Call (.Name x p) (e :: es) [] pos) (tE P F0 H0 W (fun ρ => do let xs ← fs ρ; mkG cn n GI (xs ++ dds))) := by
  refine ⟨fun pins s σ H Q I h => ?_⟩
  obtain ⟨F, ρ, er, z⟩ := h
  refine wpAny_Call_Name_kw (ld_glob I hg hm ?_ hdb)
  refine PySem.W.callWith_K (h₀ := X.base) I.ok.mod.kin M.kp (thn (ha.run pos pins s σ H _ I ⟨F, ρ, er, PostG.bind (rel := rLs P) z⟩) ?_) he hpl
  rintro us s1 ⟨vs, H1, I1, r, F1, ds, g, i, q⟩
  exact ⟨I1.kIn, run_makeS (E := WE W σ) M Fn hr hb hd (passAt tk σ) I1 r (mkG_of hdd g.s i q)⟩
end
end DL
namespace DL
open PySem L2

/-! ### operations that raise nothing: D in, Option D out -/
/-- what is wanted of a value that comes out -/
abbrev Out (P : Pm) (F H : Hp) (d : D) (Q : VK) : Prop := ∀ v F' H', Grow P F H F' H' → Is P F' d v → Q v H'
def r2O (P : Pm) (r : D → D → Option D) : R2 := fun x y H Q => ∃ F dx dy d, Sb P F H ∧ Vw P F H dx x ∧ Vw P F H dy y ∧ r dx dy = some d ∧ Out P F H d Q
def r1O (P : Pm) (r : D → Option D) : V → Hp → VK → Prop := fun x H Q => ∃ F dx d, Sb P F H ∧ Vw P F H dx x ∧ r dx = some d ∧ Out P F H d Q
def rcO (P : Pm) (r : List D → Option D) : List V → Hp → VK → Prop := fun xs H Q => ∃ F ds d, Sb P F H ∧ VwL P F H ds xs ∧ r ds = some d ∧ Out P F H d Q
section
variable {X : Cx} {P : Pm} {F0 : Fz} {H0 : Hp} {W : WX} {a b c e o : Expr} {es : List Expr} {fa fb fc : Env → Res D} {fs : Env → Res (List D)} {pos p apos : Pos} {σ : St} {H F : Hp}
variable {f : Value → Value → Sem Value} {r : D → D → Option D} {x : Str} {id T : String}
theorem opt_of {α β : Type} {rel : Rel α β} {y : Option α} {Q : β → Hp → Prop} (h : PostG P W rel (opt y) F σ H Q) : ∃ d, y = some d ∧ ∀ v F' H', Grow P F H F' H' → rel F' H' d v → Q v H' := by
  cases y with
  | none => exact h.elim
  | some d => exact ⟨d, rfl, h⟩
theorem od_of (h : OpR X f (r2O P r)) : OpD X P W f (fun x y => opt (r x y)) := fun pins s σ F H x y u v dx dy Q I rx ry e i1 i2 z => by
  obtain ⟨d, hd, q⟩ := opt_of z
  exact h pins s σ H x y u v Q I rx ry ⟨F, dx, dy, d, e, i1, i2, hd, q⟩
theorem ud_of {f : Value → Sem Value} {r : D → Option D} (h : UnR X f (r1O P r)) : UnD X P W f (fun x => opt (r x)) := fun pins s σ F H x u dx Q I rx e i1 z => by
  obtain ⟨d, hd, q⟩ := opt_of z
  exact h pins s σ H x u Q I rx ⟨F, dx, d, e, i1, hd, q⟩
theorem Out.here {d : D} {Q : VK} {v : V} (q : Out P F H d Q) (s : Sb P F H) (i : Is P F d v) : Q v H := q v F H (.refl s) i
theorem Out.int {i : Int} {Q : VK} (q : Out P F H (.int i) Q) (s : Sb P F H) : Q (.int i) H := q.here s (by rw [Is])
theorem Out.bl {i : Bool} {Q : VK} (q : Out P F H (.bl i) Q) (s : Sb P F H) : Q (.bl i) H := q.here s (by rw [Is])
theorem Out.str {i : Str} {Q : VK} (q : Out P F H (.str i) Q) (s : Sb P F H) : Q (.str i) H := q.here s (by rw [Is])
theorem Out.lst {ds : List D} {vs : List V} {Q : VK} (q : Out P F H (.lst ds) Q) (s : Sb P F H) (i : IsL P F ds vs) : ∀ p, H p = none → Q (.ref p) (upd H p (.lst vs)) := fun p hp =>
  q _ (upd F p (.lst vs)) _ (.new s hp) (by rw [Is]; exact ⟨p, vs, rfl, .inl upd_same, i.mono (.new (s.back hp)) ds⟩)
theorem Out.tup {ds : List D} {vs : List V} {Q : VK} (q : Out P F H (.tup ds) Q) (s : Sb P F H) (i : IsL P F ds vs) : ∀ p, H p = none → Q (.ref p) (upd H p (.tup vs)) := fun p hp =>
  q _ (upd F p (.tup vs)) _ (.new s hp) (by rw [Is]; exact ⟨p, vs, rfl, upd_same, i.mono (.new (s.back hp)) ds⟩)

/-! ### ints -/
def int2 (g : Int → Int → Option D) : D → D → Option D
  | .int i, .int j => g i j
  | _, _ => none
theorem int2_of {g : Int → Int → Option D} {dx dy d : D} (h : int2 g dx dy = some d) : ∃ i j, dx = .int i ∧ dy = .int j ∧ g i j = some d := by
  unfold int2 at h
  split at h
  · exact ⟨_, _, rfl, rfl, h⟩
  · cases h
theorem op_int2 {g : Int → Int → Option D} {r' : R2} (h : OpR X f r') (hr : ∀ i j d H Q, g i j = some d → (∀ v, (∀ F, Is P F d v) → Q v H) → r' (.int i) (.int j) H Q) : OpR X f (r2O P (int2 g)) := fun pins s σ H x y u v Q I rx ry ⟨F, dx, dy, d, e, i1, i2, hd, q⟩ => by
  obtain ⟨i, j, rfl, rfl, hg⟩ := int2_of hd
  have e1 : x = .int i := i1
  have e2 : y = .int j := i2
  subst e1 e2
  exact h pins s σ H _ _ u v Q I rx ry (hr i j d H Q hg fun v hv => q.here e (hv F))
theorem is_int {F : Hp} {i : Int} : Is P F (.int i) (.int i) := by rw [Is]
theorem is_bl {F : Hp} {i : Bool} : Is P F (.bl i) (.bl i) := by rw [Is]
theorem is_str {F : Hp} {i : Str} : Is P F (.str i) (.str i) := by rw [Is]
theorem is_non {F : Hp} : Is P F .non .non := by rw [Is]
theorem io_add : OpR X (binaryOp .Add) (r2O P (int2 fun i j => some (.int (i + j)))) := op_int2 op_add fun i j d H Q hg q => ⟨i, j, rfl, rfl, q _ fun F => by cases hg; exact is_int⟩
theorem io_sub : OpR X (binaryOp .Sub) (r2O P (int2 fun i j => some (.int (i - j)))) := op_int2 op_sub fun i j d H Q hg q => ⟨i, j, rfl, rfl, q _ fun F => by cases hg; exact is_int⟩
def mulC (i j : Int) : Option D := if i.natAbs.log2 + j.natAbs.log2 < 1000000 then some (.int (i * j)) else none
theorem io_mul : OpR X (binaryOp .Mult) (r2O P (int2 mulC)) := op_int2 op_mulW fun i j d H Q hg q => by
  unfold mulC at hg
  split at hg
  · rename_i hc
    cases hg
    exact ⟨i, j, rfl, rfl, hc, q _ fun F => is_int⟩
  · cases hg
def modC (i j : Int) : Option D := if j = 0 then none else some (.int (i.fmod j))
theorem io_mod : OpR X (binaryOp .Mod) (r2O P (int2 modC)) := op_int2 op_modN fun i j d H Q hg q => by
  unfold modC at hg
  split at hg
  · cases hg
  · rename_i hc
    cases hg
    exact ⟨i, j, rfl, rfl, hc, q _ fun F => is_int⟩
def powC (i j : Int) : Option D := if 0 ≤ j ∧ j ≤ 1000000 ∧ i.natAbs < 2 ^ 64 then some (.int (i ^ j.toNat)) else none
theorem io_pow : OpR X (binaryOp .Pow) (r2O P (int2 powC)) := op_int2 op_pow fun i j d H Q hg q => by
  unfold powC at hg
  split at hg
  · rename_i hc
    cases hg
    exact ⟨i, j, rfl, rfl, hc, q _ fun F => is_int⟩
  · cases hg
theorem io_lt : OpR X (compareOp .Lt) (r2O P (int2 fun i j => some (.bl (decide (i < j))))) := op_int2 op_lt fun i j d H Q hg q => ⟨i, j, rfl, rfl, q _ fun F => by cases hg; exact is_bl⟩
theorem io_le : OpR X (compareOp .LtE) (r2O P (int2 fun i j => some (.bl (decide (i ≤ j))))) := op_int2 op_le fun i j d H Q hg q => ⟨i, j, rfl, rfl, q _ fun F => by cases hg; exact is_bl⟩
theorem io_gt : OpR X (compareOp .Gt) (r2O P (int2 fun i j => some (.bl (decide (j < i))))) := op_int2 op_gt fun i j d H Q hg q => ⟨i, j, rfl, rfl, q _ fun F => by cases hg; exact is_bl⟩
theorem io_ge : OpR X (compareOp .GtE) (r2O P (int2 fun i j => some (.bl (decide (j ≤ i))))) := op_int2 op_ge fun i j d H Q hg q => ⟨i, j, rfl, rfl, q _ fun F => by cases hg; exact is_bl⟩
def negC : D → Option D
  | .int i => some (.int (-i))
  | _ => none
theorem io_neg : UnR X (unaryOp .USub) (r1O P negC) := fun pins s σ H x u Q I rx ⟨F, dx, d, e, i1, hd, q⟩ => by
  cases dx with
  | int i =>
    have e1 : x = .int i := i1
    subst e1
    cases hd
    exact un_neg pins s σ H _ u Q I rx ⟨i, rfl, q.int e⟩
  | _ => cases hd
/-! ### a[b] of lists, tuples, texts -/
def itemD : D → D → Option D
  | .lst xs, .int i => atI xs i
  | .tup xs, .int i => atI xs i
  | .str z, .int i => if z.length ≤ 1000000 then (atI z.cps.toList i).map fun c => .str ⟨#[c]⟩ else none
  | _, _ => none
theorem IsL.atI {ds : List D} {vs : List V} {i : Int} {d : D} (h : IsL P F ds vs) (e : atI ds i = some d) : ∃ v, L2.atI vs i = some v ∧ Is P F d v := by
  unfold L2.atI at e ⊢
  rw [h.length] at e
  cases q : ixN vs.length i with
  | none =>
    rw [q] at e
    cases e
  | some j =>
    rw [q] at e
    exact h.get e
theorem pd_ix (ha : PE X a (tV P F0 H0 W fa)) (hb : PE X b (tV P F0 H0 W fb)) (hs : PlainIx b) : PE X (.Subscript a b pos) (tE P F0 H0 W (fun ρ => do let x ← fa ρ; let y ← fb ρ; opt (itemD x y))) :=
  (pe_ix ix_seq ha hb hs).imp fun σ H Q z => by
  obtain ⟨F, ρ, er, z⟩ := two_of z
  refine ⟨F, ρ, er, z.imp fun x H1 ⟨F1, ρ1, er1, z1⟩ => ⟨F1, ρ1, er1, z1.imp ?_⟩⟩
  rintro y H2 ⟨F2, dx, dy, s2, i1, i2, z2⟩
  obtain ⟨d, hd, q⟩ := opt_of z2
  unfold itemD at hd
  split at hd
  · obtain ⟨p, vs, rfl, h1, h2⟩ := i1
    obtain ⟨v, h3, h4⟩ := h2.atI hd
    exact .inl ⟨p, vs, _, v, rfl, i2, .inl h1, h3, Out.here q s2 h4⟩
  · obtain ⟨p, vs, rfl, h0, h1, h2⟩ := i1
    obtain ⟨v, h3, h4⟩ := h2.atI hd
    exact .inr (.inl ⟨p, vs, _, v, rfl, i2, .inl h1, h3, Out.here q s2 h4⟩)
  · rename_i z i
    split at hd
    · rename_i hl
      cases hc : atI z.cps.toList i with
      | none =>
        rw [hc] at hd
        cases hd
      | some ch =>
        rw [hc] at hd
        cases hd
        exact .inr (.inr ⟨z, i, ch, i1, i2, Nat.le_trans hl (by decide), hc, Out.str q s2⟩)
    · cases hd
  · cases hd
/-! ### o.f -/
def fldD (nm : Nat → List Str) (f : Str) : D → Option D
  | .obj c xs => ((nm c).zip xs).lookup f
  | _ => none
theorem IsL.lookup {f : Str} {d : D} : ∀ {ks : List Str} {ds : List D} {vs : List V}, IsL P F ds vs → (ks.zip ds).lookup f = some d → ∃ v, (ks.zip vs).lookup f = some v ∧ Is P F d v
  | [], _, _, _, e => by simp at e
  | _ :: _, [], _, _, e => by simp at e
  | k :: ks, d0 :: ds, _, h, e => by
    rw [IsL] at h
    obtain ⟨v, r, rfl, h2, h3⟩ := h
    have e' : (match f == k with | true => some d0 | false => (ks.zip ds).lookup f) = some d := e
    show ∃ v', (match f == k with | true => some v | false => (ks.zip r).lookup f) = some v' ∧ _
    cases q : f == k with
    | true =>
      rw [q] at e'
      cases e'
      exact ⟨v, rfl, h2⟩
    | false =>
      rw [q] at e'
      exact IsL.lookup h3 e'
theorem pd_fld {fl : Str} (ha : PE X a (tV P F0 H0 W fa)) (hcl : ∀ c d, ((P.nm c).zip d).lookup fl ≠ (none : Option D) → Cls X.K (P.C c) ∧ NoAttr X.K (P.C c) fl) (hb : attributeBase a fl X.env (eval a X.env) = eval a X.env := by rfl) :
    PE X (.Attribute a fl pos) (tE P F0 H0 W (fun ρ => do let x ← fa ρ; opt (fldD P.nm fl x))) := (pe_fld ha hb).imp fun σ H Q ⟨F, ρ, er, z⟩ => by
  refine ⟨F, ρ, er, (PostG.bind (rel := rVw P) z).imp ?_⟩
  rintro v H1 ⟨F1, d, g, i, q⟩
  obtain ⟨d', hd, q'⟩ := opt_of q
  cases d with
  | obj c xs =>
    have hd' : ((P.nm c).zip xs).lookup fl = some d' := hd
    obtain ⟨p, dx, vs, rfl, h1, h2, h3⟩ := i
    obtain ⟨v, h4, h5⟩ := h3.lookup hd'
    obtain ⟨k1, k2⟩ := hcl c xs (by rw [hd']; simp)
    exact ⟨p, _, dx, _, v, rfl, h1, k1, k2, h4, Out.here q' g.s h5⟩
  | _ => cases hd
/-! ### calls of built-ins -/
variable {rc : List D → Option D}
theorem pd_callB (hc : CallR X (.builtin id) (rcO P rc)) (hg : Gl X x) (hm : X.mg x = none) (hv : bootBuiltins x = some (.builtin id)) (ha : PA X (e :: es) (tW P F0 H0 W fs)) (hn : x ≠ "__name__" := by decide) (hdb : (x == ("__debug__" : Str)) = false := by decide)
    (he : starEach (e :: es) X.env = (false, eval e X.env) :: starEach es X.env := by rfl) (hpl : (backTo pos (starEach es X.env)).any (·.1) = false := by rfl) : PE X (.Call (.Name x p) (e :: es) [] pos) (tE P F0 H0 W (fun ρ => do let xs ← fs ρ; opt (rc xs))) :=
  (pe_callB hc hg hm hv ha hn hdb he hpl).imp fun σ H Q ⟨F, ρ, er, z⟩ => by
  refine ⟨F, ρ, er, (PostG.bind (rel := rVs P) z).imp ?_⟩
  rintro vs H1 ⟨F1, ds, g, i, q⟩
  obtain ⟨d, hd, q⟩ := opt_of q
  exact ⟨F1, ds, d, g.s, i, hd, q⟩
theorem pd_callTy (hc : CallR X (.type T) (rcO P rc)) (hg : Gl X x) (hm : X.mg x = none) (hv : bootBuiltins x = some (.type T)) (ha : PA X (e :: es) (tW P F0 H0 W fs)) (hn : x ≠ "__name__" := by decide) (hdb : (x == ("__debug__" : Str)) = false := by decide)
    (he : starEach (e :: es) X.env = (false, eval e X.env) :: starEach es X.env := by rfl) (hpl : (backTo pos (starEach es X.env)).any (·.1) = false := by rfl) : PE X (.Call (.Name x p) (e :: es) [] pos) (tE P F0 H0 W (fun ρ => do let xs ← fs ρ; opt (rc xs))) :=
  (pe_callTy hc hg hm hv ha hn hdb he hpl).imp fun σ H Q ⟨F, ρ, er, z⟩ => by
  refine ⟨F, ρ, er, (PostG.bind (rel := rVs P) z).imp ?_⟩
  rintro vs H1 ⟨F1, ds, g, i, q⟩
  obtain ⟨d, hd, q⟩ := opt_of q
  exact ⟨F1, ds, d, g.s, i, hd, q⟩
end
end DL
namespace DL
open PySem L2

/-! ### statements -/
inductive RS where
  | nx (ρ : Env) | rt (d : D) | ro (d : D) | bk (ρ : Env) | ct (ρ : Env) | err (c : Nat) (p : Option D) (ρ : Env) | bad
def PostS (P : Pm) (F0 : Fz) (H0 : Hp) (W : WX) (F : Hp) (r : RS) (N : Ends) : Prop :=
  match r with
  | .nx ρ => ∀ σ F' H', ER P F0 H0 F' ρ σ H' → Ex F F' → N.nx σ H'
  | .rt d => ∀ v F' H', Grow P F0.F H0 F' H' → Ex F F' → Is P F' d v → N.rt v H'
  | .ro d => ∀ a F' H', Grow P F0.F H0 F' H' → Ex F F' → NoD H0 a → F' a = none → Own P F' H' a d → N.rt (.ref a) H'
  | .bk ρ => ∀ σ F' H', ER P F0 H0 F' ρ σ H' → Ex F F' → N.bk σ H'
  | .ct ρ => ∀ σ F' H', ER P F0 H0 F' ρ σ H' → Ex F F' → N.ct σ H'
  | .err c p ρ => ∀ σ F' H' x, ER P F0 H0 F' ρ σ H' → Ex F F' → ErrAt P F' H' c p x → W (P.xc c) x σ H'
  | .bad => False
def tS (P : Pm) (F0 : Fz) (H0 : Hp) (W : WX) (g : Env → RS) : TS := fun N σ H => ∃ F ρ, ER P F0 H0 F ρ σ H ∧ PostS P F0 H0 W F (g ρ) N
def bindS {α : Type} (r : Res α) (ρ : Env) (k : α → RS) : RS := match r with
  | .ok a => k a
  | .err c p => .err c p ρ
  | .bad => .bad
def seqS (r : RS) (k : Env → RS) : RS := match r with
  | .nx ρ => k ρ
  | r => r
section
variable {P : Pm} {F0 : Fz} {H0 F F1 H H1 : Hp} {W : WX} {σ : St} {ρ : Env} {N : Ends}
theorem PostS.shift {r : RS} (h : PostS P F0 H0 W F r N) (e : Ex F F1) : PostS P F0 H0 W F1 r N := by
  cases r with
  | nx ρ => exact fun σ F' H' er x => h σ F' H' er (e.trans x)
  | rt d => exact fun v F' H' g x i => h v F' H' g (e.trans x) i
  | ro d => exact fun v F' H' g x i j k => h v F' H' g (e.trans x) i j k
  | bk ρ => exact fun σ F' H' er x => h σ F' H' er (e.trans x)
  | ct ρ => exact fun σ F' H' er x => h σ F' H' er (e.trans x)
  | err c p ρ => exact fun σ F' H' y er x q => h σ F' H' y er (e.trans x) q
  | bad => exact h
theorem PostS.bind {α β : Type} {rel : Rel α β} {r : Res α} {k : α → RS} (er : ER P F0 H0 F ρ σ H) (h : PostS P F0 H0 W F (bindS r ρ k) N) :
    PostG P W rel r F σ H (fun v H1 => ∃ F1 a, Grow P F H F1 H1 ∧ rel F1 H1 a v ∧ PostS P F0 H0 W F1 (k a) N) := by
  cases r with
  | ok a => exact fun v F' H' g q => ⟨F', a, g, q, PostS.shift (r := k a) h g.f⟩
  | err c p => exact fun F' H' x g q => h σ F' H' x (er.grow g) g.f q
  | bad => exact h
end
section
variable {X : Cx} {P : Pm} {F0 : Fz} {H0 : Hp} {W : WX} {a b c e o : Expr} {es : List Expr} {fa fb fc : Env → Res D} {gc : Env → Res Bool} {fs : Env → Res (List D)} {pos p apos : Pos} {st : Stmt} {sts tts : List Stmt} {g g1 g2 : Env → RS}
theorem sd_nil : PSs X [] (tS P F0 H0 W .nx) := pss_nil.imp fun N σ H ⟨F, ρ, er, z⟩ => z σ F H er (.refl F)
theorem PostS.seq {F : Hp} {r : RS} {N : Ends} (z : PostS P F0 H0 W F (seqS r g2) N) : PostS P F0 H0 W F r { N with nx := tS P F0 H0 W g2 N } := by
  cases r with
  | nx ρ' => exact fun σ' F' H' er' x => ⟨F', ρ', er', PostS.shift (r := g2 ρ') z x⟩
  | rt d => exact z
  | ro d => exact z
  | bk ρ' => exact z
  | ct ρ' => exact z
  | err c p ρ' => exact z
  | bad => exact z
theorem sd_cons (h1 : PS X st (tS P F0 H0 W g1)) (h2 : PSs X sts (tS P F0 H0 W g2)) : PSs X (st :: sts) (tS P F0 H0 W (fun ρ => seqS (g1 ρ) g2)) := (pss_cons h1 h2).imp fun N σ H ⟨F, ρ, er, z⟩ =>
  ⟨F, ρ, er, PostS.seq (r := g1 ρ) z⟩
theorem sd_one (h1 : PS X st (tS P F0 H0 W g1)) : PSs X [st] (tS P F0 H0 W g1) := pss_one h1
theorem sd_pass : PS X (.Pass pos) (tS P F0 H0 W .nx) := ps_pass.imp fun N σ H ⟨F, ρ, er, z⟩ => z σ F H er (.refl F)
theorem sd_break : PS X (.Break pos) (tS P F0 H0 W .bk) := ps_break.imp fun N σ H ⟨F, ρ, er, z⟩ => z σ F H er (.refl F)
theorem sd_cont : PS X (.Continue pos) (tS P F0 H0 W .ct) := ps_continue.imp fun N σ H ⟨F, ρ, er, z⟩ => z σ F H er (.refl F)
theorem sd_ret (h : PE X e (tE P F0 H0 W fa)) : PS X (.Return (some e) pos) (tS P F0 H0 W (fun ρ => bindS (fa ρ) ρ .rt)) := (ps_ret h).imp fun N σ H ⟨F, ρ, er, z⟩ => by
  refine ⟨F, ρ, er, (PostS.bind (rel := rIs P) er z).imp ?_⟩
  rintro v H1 ⟨F1, d, g, i, q⟩
  exact q v F1 H1 (er.g.trans g) (.refl F1) i
/-- return x, x one's own: it stays so -/
def retO (i : Nat) (ρ : Env) : RS := match ρ[i]? with
  | some (some (.ow d)) => .ro d
  | _ => .bad
theorem sd_retO (i : Nat) {x : Str} (hN : X.N[i]? = some x := by rfl) (hv : Vis X.env.scope x := by first | exact Or.inl rfl | exact Or.inr (Or.inl rfl) | exact Or.inr (Or.inr rfl)) (hd : (x == ("__debug__" : Str)) = false := by decide)
    (hcd : (x == ("__classdict__" : Str)) = false := by decide) : PS X (.Return (some (.Name x p)) pos) (tS P F0 H0 W (retO i)) := (ps_ret (pe_var hN hv hd hcd)).imp fun N σ H ⟨F, ρ, er, z⟩ => by
  unfold retO at z
  split at z
  · rename_i d q
    obtain ⟨a, h1, h2, h3, h4⟩ := er.ow i d q
    exact ⟨.ref a, h1, z a F H er.g (.refl F) h2 h3 h4⟩
  · exact z.elim
theorem sd_expr (h : PE X e (tE P F0 H0 W fa)) (hs : swapsWith e none pos.line X.env = pure false := by rfl) : PS X (.Expr e pos) (tS P F0 H0 W (fun ρ => bindS (fa ρ) ρ fun _ => .nx ρ)) := (ps_expr h hs).imp fun N σ H ⟨F, ρ, er, z⟩ => by
  refine ⟨F, ρ, er, (PostS.bind (rel := rIs P) er z).imp ?_⟩
  rintro v H1 ⟨F1, d, g, i, q⟩
  exact q σ F1 H1 (er.grow g) (.refl F1)
theorem sd_if (hc : PT X c (tT P F0 H0 W gc)) (h1 : PSs X sts (tS P F0 H0 W g1)) (h2 : PSs X tts (tS P F0 H0 W g2)) : PS X (.If c sts tts pos) (tS P F0 H0 W (fun ρ => bindS (gc ρ) ρ fun k => if k = true then g1 ρ else g2 ρ)) :=
  (ps_if hc h1 h2).imp fun N σ H ⟨F, ρ, er, z⟩ => by
  refine ⟨F, ρ, er, (PostS.bind (rel := rBo) er z).imp ?_⟩
  rintro v H1 ⟨F1, d, g, i, q⟩
  subst i
  split
  · rename_i hv
    rw [if_pos hv] at q
    exact ⟨F1, ρ, er.grow g, q⟩
  · rename_i hv
    rw [if_neg hv] at q
    exact ⟨F1, ρ, er.grow g, q⟩
theorem sd_set {i : Nat} {x : Str} {pos' : Pos} (hN : X.N.Nodup) (hi : X.N[i]? = some x) (hx : Loc X.env.scope x) (he : PE X e (tE P F0 H0 W fa)) (hs : swapsWith e (some (.Name x pos')) pos.line X.env = pure false := by rfl) (hi0 : F0.S = none ∨ i ≠ 0 := by first | exact Or.inl rfl | exact Or.inr (by decide)) (hf : X.fn x = true ∨ X.env.scope.names.lookup x = some .local := by first | exact .inl rfl | exact .inr rfl | assumption) :
    PS X (.Assign [.Name x pos'] e pos) (tS P F0 H0 W (fun ρ => bindS (fa ρ) ρ fun d => .nx (ρ.set i (some (.sh d))))) := (ps_set hN hi hx he hs hf).imp fun N σ H ⟨F, ρ, er, z⟩ => by
  refine ⟨F, ρ, er, (PostS.bind (rel := rIs P) er z).imp ?_⟩
  rintro v H1 ⟨F1, d, g, j, q⟩
  exact q _ F1 H1 ((er.grow g).put i j hi0) (.refl F1)
/-! ### while -/
/-- a turn has ended -/
def loopK (r : RS) (k : Env → RS) : RS := match r with
  | .nx ρ => k ρ
  | .ct ρ => k ρ
  | .bk ρ => .nx ρ
  | r => r
def whileD (gc : Env → Res Bool) (gb : Env → RS) : Nat → Env → RS
  | 0, _ => .bad
  | n + 1, ρ => bindS (gc ρ) ρ fun k => if k = true then loopK (gb ρ) (whileD gc gb n) else .nx ρ
theorem PostS.loop {F : Hp} {r : RS} {k : Env → RS} {N : Ends} (z : PostS P F0 H0 W F (loopK r k) N) :
    PostS P F0 H0 W F r { N with nx := fun σ H => ∃ F' ρ, ER P F0 H0 F' ρ σ H ∧ Ex F F' ∧ PostS P F0 H0 W F' (k ρ) N, ct := fun σ H => ∃ F' ρ, ER P F0 H0 F' ρ σ H ∧ Ex F F' ∧ PostS P F0 H0 W F' (k ρ) N, bk := N.nx } := by
  cases r with
  | nx ρ' => exact fun σ' F' H' er' x => ⟨F', ρ', er', x, PostS.shift (r := k ρ') z x⟩
  | rt d => exact z
  | ro d => exact z
  | bk ρ' => exact z
  | ct ρ' => exact fun σ' F' H' er' x => ⟨F', ρ', er', x, PostS.shift (r := k ρ') z x⟩
  | err c p ρ' => exact z
  | bad => exact z
theorem sd_while (n : Nat) (hp : PassesOwn (model X.prog X.w) X.A X.env X.xe) (hc : PT X c (tT P F0 H0 W gc)) (hb : PSs X sts (tS P F0 H0 W g)) : PS X (.While c sts [] pos) (tS P F0 H0 W (whileD gc g n)) :=
  (ps_while hp hc hb).imp fun N σ H h => by
  refine ⟨fun m σ H => ∃ F ρ, ER P F0 H0 F ρ σ H ∧ PostS P F0 H0 W F (whileD gc g m ρ) N, ⟨n, h⟩, ?_⟩
  rintro m σ H ⟨F, ρ, er, z⟩
  cases m with
  | zero => exact z.elim
  | succ m =>
    refine ⟨F, ρ, er, (PostS.bind (rel := rBo) er z).imp ?_⟩
    rintro v H1 ⟨F1, d, gr, i, q⟩
    subst i
    split
    · rename_i hv
      rw [if_pos hv] at q
      refine ⟨fun σ H => ∃ F ρ, ER P F0 H0 F ρ σ H ∧ Ex F1 F ∧ PostS P F0 H0 W F (whileD gc g m ρ) N, fun σ' H' ⟨F', ρ', er', _, n'⟩ => ⟨m, Nat.lt_succ_self m, F', ρ', er', n'⟩, F1, ρ, er.grow gr, ?_⟩
      exact PostS.loop q
    · rename_i hv
      rw [if_neg hv] at q
      exact q σ F1 H1 (er.grow gr) (.refl F1)
/-! ### targets -/
def tGt (P : Pm) (F0 : Fz) (H0 : Hp) (vs : List Nat) (h : D → Env → Option Env) : TG := fun v σ H Q => ∃ F ρ d ρ', ER P F0 H0 F ρ σ H ∧ Is P F d v ∧ h d ρ = some ρ' ∧ ∀ σ', ER P F0 H0 F ρ' σ' H → wipe σ' vs = wipe σ vs → Q σ' H
def tGts (P : Pm) (F0 : Fz) (H0 : Hp) (us : List Nat) (h : List D → Env → Option Env) : TGs := fun vs σ H Q => ∃ F ρ ds ρ', ER P F0 H0 F ρ σ H ∧ IsL P F ds vs ∧ h ds ρ = some ρ' ∧ ∀ σ', ER P F0 H0 F ρ' σ' H → wipe σ' us = wipe σ us → Q σ' H
def hName (i : Nat) : D → Env → Option Env := fun d ρ => some (ρ.set i (some (.sh d)))
def hNil : List D → Env → Option Env := fun ds ρ => match ds with
  | [] => some ρ
  | _ => none
def hCons (h : D → Env → Option Env) (hs : List D → Env → Option Env) : List D → Env → Option Env := fun ds ρ => match ds with
  | d :: r => (h d ρ).bind (hs r)
  | [] => none
def hTup (hs : List D → Env → Option Env) : D → Env → Option Env := fun d ρ => match d with
  | .tup ds => hs ds ρ
  | _ => none
variable {h : D → Env → Option Env} {hs : List D → Env → Option Env} {us : List Nat}
theorem wipe_set {σ : St} {i : Nat} {v : Option V} : ∀ {us : List Nat}, i ∈ us → wipe (σ.set i v) us = wipe σ us
  | u :: us, h => by
    by_cases q : i ∈ us
    · show (wipe (σ.set i v) us).set u none = (wipe σ us).set u none
      rw [wipe_set q]
    · have e : i = u := by
        rcases List.mem_cons.mp h with z | z
        · exact z
        · exact absurd z q
      subst e
      show (wipe (σ.set i v) us).set i none = (wipe σ us).set i none
      have k : ∀ (us : List Nat), wipe (σ.set i v) us = wipe σ us ∨ wipe (σ.set i v) us = (wipe σ us).set i v := by
        intro us
        induction us with
        | nil => exact .inr rfl
        | cons w ws ih =>
          show (wipe (σ.set i v) ws).set w none = (wipe σ ws).set w none ∨ (wipe (σ.set i v) ws).set w none = ((wipe σ ws).set w none).set i v
          rcases ih with z | z
          · exact .inl (by rw [z])
          · by_cases hw : w = i
            · subst hw
              exact .inl (by rw [z, List.set_set])
            · exact .inr (by rw [z, List.set_comm _ _ (fun q => hw q.symm)])
      rcases k us with z | z
      · rw [z]
      · rw [z, List.set_set]
theorem _root_.L2.PG.imp {t t' : TG} (h : PG X e t) (q : ∀ v σ H Q, t' v σ H Q → t v σ H Q) : PG X e t' := ⟨fun pins s σ H v u Q I r z => h.run pins s σ H v u Q I r (q v σ H Q z)⟩
theorem _root_.L2.PGs.imp {t t' : TGs} (h : PGs X es t) (q : ∀ v σ H Q, t' v σ H Q → t v σ H Q) : PGs X es t' := ⟨fun pins s σ H v u Q I r z => h.run pins s σ H v u Q I r (q v σ H Q z)⟩
theorem gd_name {us : List Nat} {i : Nat} {x : Str} (hN : X.N.Nodup) (hi : X.N[i]? = some x) (hx : Loc X.env.scope x) (hu : i ∈ us := by decide) (hi0 : F0.S = none ∨ i ≠ 0 := by first | exact Or.inl rfl | exact Or.inr (by decide)) (hf : X.fn x = true ∨ X.env.scope.names.lookup x = some .local := by first | exact .inl rfl | exact .inr rfl | assumption) : PG X (.Name x pos) (tGt P F0 H0 us (hName i)) :=
  (pg_name hN hi hx hf).imp fun v σ H Q ⟨F, ρ, d, ρ', er, i1, e, q⟩ => by
  cases e
  exact q _ (er.put i i1 hi0) (wipe_set hu)
theorem gd_nil : PGs X [] (tGts P F0 H0 us hNil) := pgs_nil.imp fun vs σ H Q ⟨F, ρ, ds, ρ', er, i1, e, q⟩ => by
  cases ds with
  | nil =>
    rw [IsL] at i1
    cases e
    exact ⟨i1, q _ er rfl⟩
  | cons d r => cases e
theorem gd_cons (h1 : PG X e (tGt P F0 H0 us h)) (h2 : PGs X es (tGts P F0 H0 us hs)) (hq : (assignEach (e :: es) X.env).map (·.2) = assign e X.env :: (assignEach es X.env).map (·.2) := by rfl) : PGs X (e :: es) (tGts P F0 H0 us (hCons h hs)) :=
  (pgs_cons h1 h2 hq).imp fun vs σ H Q ⟨F, ρ, ds, ρ', er, i1, e, q⟩ => by
  cases ds with
  | nil => cases e
  | cons d r =>
    rw [IsL] at i1
    obtain ⟨v, r', rfl, i2, i3⟩ := i1
    have e' : (h d ρ).bind (hs r) = some ρ' := e
    cases hd : h d ρ with
    | none =>
      rw [hd] at e'
      cases e'
    | some ρ1 =>
      rw [hd] at e'
      exact ⟨v, r', rfl, F, ρ, d, ρ1, er, i2, hd, fun σ' er' w1 => ⟨F, ρ1, r, ρ', er', i3, e', fun σ2 er2 w2 => q σ2 er2 (w2.trans w1)⟩⟩
theorem gd_tup {k n : Nat} (hc : X.calm = true) (h : PGs X es (tGts P F0 H0 us hs)) (hn : (assignEach es X.env).length = n := by rfl) (hst : (assignEach es X.env).findIdx? (·.1) = none := by rfl) :
    PG X (.Tuple es k pos) (tGt P F0 H0 us (hTup fun ds ρ => if ds.length = n then hs ds ρ else none)) := (pg_tup hc h hn hst).imp fun v σ H Q ⟨F, ρ, d, ρ', er, i1, e, q⟩ => by
  cases d with
  | tup ds =>
    have e' : (if ds.length = n then hs ds ρ else none) = some ρ' := e
    split at e'
    · rename_i hl
      rw [Is] at i1
      obtain ⟨a, vs, rfl, h1, h2⟩ := i1
      exact ⟨a, vs, rfl, .inl (.inl (er.s.ex _ _ h1)), by rw [← h2.length]; exact hl, F, ρ, ds, ρ', er, h2, e', q⟩
    · cases e'
  | _ => cases e
/-! ### for -/
def ItD (P : Pm) : Rel (List D) It := fun F _ items J => ∀ i F1 H1, Ex F F1 → Sb P F1 H1 →
  (∀ d, items[i]? = some d → J.go i H1 ∧ ∀ x H2, J.yld i H1 x H2 → ∃ F2, Grow P F1 H1 F2 H2 ∧ Is P F2 d x) ∧ (items.length ≤ i → J.stop i H1)
def tI (P : Pm) (F0 : Fz) (H0 : Hp) (W : WX) (f : Env → Res (List D)) : TI := fun σ H R => ∃ F ρ, ER P F0 H0 F ρ σ H ∧ PostG P W (ItD P) (f ρ) F σ H R
def forD (h : D → Env → Option Env) (gb : Env → RS) : List D → Env → RS
  | [], ρ => .nx ρ
  | d :: r, ρ => match h d ρ with
    | none => .bad
    | some ρ1 => loopK (gb ρ1) (forD h gb r)
theorem sd_for {tg iter : Expr} {fi : Env → Res (List D)} (hp : PassesOwn (model X.prog X.w) X.A X.env X.xe) (hc : X.calm = true) (hi : PI X tg iter (tI P F0 H0 W fi)) (hg : PG X tg (tGt P F0 H0 us h)) (hb : PSs X sts (tS P F0 H0 W g))
    (hs : ∀ x, foldedSetIterable iter X.env x = pure x := by intro _; rfl) : PS X (.For tg iter sts [] pos) (tS P F0 H0 W (fun ρ => bindS (fi ρ) ρ fun items => forD h g items ρ)) :=
  (ps_for hp hc hi hg hb hs).imp fun N σ H ⟨F, ρ, er, z⟩ => by
  refine ⟨F, ρ, er, (PostS.bind (rel := ItD P) er z).imp ?_⟩
  rintro J H1 ⟨FJ, items, gr, hJ, q⟩
  refine ⟨fun i m σ H => m = items.length - i ∧ ∃ F ρ, ER P F0 H0 F ρ σ H ∧ Ex FJ F ∧ PostS P F0 H0 W F (forD h g (items.drop i) ρ) N, ⟨_, rfl, FJ, ρ, er.grow gr, .refl FJ, q⟩, ?_⟩
  rintro i m σ H ⟨rfl, F, ρ, er, ej, q⟩
  obtain ⟨j1, j2⟩ := hJ i F H ej er.s
  rcases Nat.lt_or_ge i items.length with hi | hi
  · obtain ⟨k1, k2⟩ := j1 items[i] (List.getElem?_eq_getElem hi)
    rw [List.drop_eq_getElem_cons hi] at q
    cases hh : h items[i] ρ with
    | none =>
      have q3 : PostS P F0 H0 W F (match h items[i] ρ with | none => .bad | some ρ1 => loopK (g ρ1) (forD h g (items.drop (i + 1)))) N := q
      rw [hh] at q3
      exact q3.elim
    | some ρ1 =>
      have q3 : PostS P F0 H0 W F (match h items[i] ρ with | none => .bad | some ρ1 => loopK (g ρ1) (forD h g (items.drop (i + 1)))) N := q
      rw [hh] at q3
      replace q3 : PostS P F0 H0 W F (loopK (g ρ1) (forD h g (items.drop (i + 1)))) N := q3
      refine .inr ⟨k1, fun σ H => ∃ F2 ρ, ER P F0 H0 F2 ρ σ H ∧ Ex F F2 ∧ PostS P F0 H0 W F2 (forD h g (items.drop (i + 1)) ρ) N, fun σ' H' ⟨F', ρ', er', x, n'⟩ => ⟨items.length - (i + 1), by omega, rfl, F', ρ', er', ej.trans x, n'⟩, ?_⟩
      intro x H2 hy
      obtain ⟨F2, g2, i2⟩ := k2 x H2 hy
      refine ⟨F2, ρ, items[i], ρ1, er.grow g2, i2, hh, fun σ' er' _ => ⟨F2, ρ1, er', ?_⟩⟩
      have q4 := PostS.loop (q3.shift g2.f)
      cases hg : g ρ1 with
      | nx ρ' =>
        rw [hg] at q4
        exact fun σ' F' H' er' y => by
          obtain ⟨F3, ρ3, e3, x3, z3⟩ := q4 σ' F' H' er' y
          exact ⟨F3, ρ3, e3, g2.f.trans x3, z3⟩
      | ct ρ' =>
        rw [hg] at q4
        exact fun σ' F' H' er' y => by
          obtain ⟨F3, ρ3, e3, x3, z3⟩ := q4 σ' F' H' er' y
          exact ⟨F3, ρ3, e3, g2.f.trans x3, z3⟩
      | bk ρ' =>
        rw [hg] at q4
        exact q4
      | rt d =>
        rw [hg] at q4
        exact q4
      | ro d =>
        rw [hg] at q4
        exact q4
      | err c p ρ' =>
        rw [hg] at q4
        exact q4
      | bad =>
        rw [hg] at q4
        exact q4
  · rw [List.drop_eq_nil_of_le hi] at q
    exact .inl ⟨j2 hi, q σ F H er (.refl F)⟩
end
end DL
namespace DL
open PySem L2

/-! ### a def by its body -/
def env0 (n : Nat) (ds : List D) : Env := ds.map (fun d => some (.sh d)) ++ List.replicate (n - ds.length) none
def runB (g : Env → RS) (n : Nat) (ds : List D) : Res D := match g (env0 n ds) with
  | .rt d => .ok d
  | .nx _ => .ok .non
  | .err c p _ => .err c p
  | _ => .bad
section
variable {P : Pm} {F H : Hp} {N : List Str} {ds : List D} {vs : List V}
theorem er_start (s : Sb P F H) (i : IsL P F ds vs) : ER P ⟨F, none⟩ H F (env0 N.length ds) (L2.start N vs) H where
  g := .refl s
  self := fun x hx => by cases hx
  len := by
    unfold env0 L2.start
    simp [i.length]
  sh := fun j d e => by
    unfold env0 at e
    unfold L2.start
    have hj : j < ds.length := by
      rcases Nat.lt_or_ge j ds.length with q | q
      · exact q
      · rw [List.getElem?_append_right (by simpa using q)] at e
        rw [List.getElem?_replicate] at e
        split at e <;> cases e
    rw [List.getElem?_append_left (by simpa using hj), List.getElem?_map] at e
    cases hd : ds[j]? with
    | none =>
      rw [hd] at e
      cases e
    | some d' =>
      rw [hd] at e
      cases e
      obtain ⟨v, h1, h2⟩ := i.get hd
      refine ⟨v, ?_, h2⟩
      rw [List.getElem?_append_left (by simpa [← i.length] using hj), List.getElem?_map, h1]
      rfl
  bw := fun j d e => by
    unfold env0 at e
    exfalso
    rcases Nat.lt_or_ge j ds.length with q | q
    · rw [List.getElem?_append_left (by simpa using q), List.getElem?_map] at e
      cases hd : ds[j]? with
      | none =>
        rw [hd] at e
        cases e
      | some d' =>
        rw [hd] at e
        cases e
    · rw [List.getElem?_append_right (by simpa using q)] at e
      rw [List.getElem?_replicate] at e
      split at e <;> cases e
  ow := fun j d e => by
    unfold env0 at e
    exfalso
    rcases Nat.lt_or_ge j ds.length with q | q
    · rw [List.getElem?_append_left (by simpa using q), List.getElem?_map] at e
      cases hd : ds[j]? with
      | none =>
        rw [hd] at e
        cases e
      | some d' =>
        rw [hd] at e
        cases e
    · rw [List.getElem?_append_right (by simpa using q)] at e
      rw [List.getElem?_replicate] at e
      split at e <;> cases e
  nd := fun j k d e a h1 => by
    unfold env0 at h1
    exfalso
    rcases Nat.lt_or_ge j ds.length with q | q
    · rw [List.getElem?_append_left (by simpa using q), List.getElem?_map] at h1
      cases hd : ds[j]? with
      | none =>
        rw [hd] at h1
        cases h1
      | some d' =>
        rw [hd] at h1
        cases h1
    · rw [List.getElem?_append_right (by simpa using q)] at h1
      rw [List.getElem?_replicate] at h1
      split at h1 <;> cases h1
end
section
variable {prog : Program} {w : World} {K : PySem.W.Frag} {mg : Str → Option Value} {base : Heap} {P : Pm}
theorem fnd {x qual : Str} {st : Stmt} {f : Addr} {fd : FuncData} {N ps : List Str} {k : Nat} {g : Env → RS} (Fu : Fun K x qual st f fd) (S : FnScope N ps (defScope st))
    (hbody : ∀ (cdv : Value) (A : Around) (outer : List PySem.Env) (s : Shared) (H F0 : Hp) (E : XK), Room k (A.deeper (PyProof.Rows.envOfC qual (defScope st) s.heap.objs.size f cdv)) →
      PSs (cxOf (L2.CX prog w) prog w K mg base N qual (defScope st) f cdv A outer s H E) (defBody st) (tS P ⟨F0, none⟩ H (WE0 E) g)) :
    FnOk prog w K mg base (L2.CX prog w) (k + 1) f fd ps (spD P ps.length (runB g N.length)) := by
  refine Fu.okX S (fun vs H Q E ⟨F, ds, _, i, hl, _⟩ => by rw [← i.length]; exact hl) (fun cdv A outer s H vs Q E hr h => ?_)
  obtain ⟨F, ds, sx, i, hl, z⟩ := h
  refine ⟨_, hbody cdv A outer s H F E hr, F, env0 N.length ds, er_start sx i, ?_⟩
  unfold runB at z
  cases hg : g (env0 N.length ds) with
  | nx ρ =>
    rw [hg] at z
    exact fun σ F' H' er _ => z .non F' H' er.g is_non
  | rt d =>
    rw [hg] at z
    exact fun v F' H' gr _ i' => z v F' H' gr i'
  | ro d =>
    rw [hg] at z
    exact z.elim
  | bk ρ =>
    rw [hg] at z
    exact z.elim
  | ct ρ =>
    rw [hg] at z
    exact z.elim
  | err c p ρ =>
    rw [hg] at z
    exact fun σ F' H' y er _ q => z F' H' y er.g q
  | bad =>
    rw [hg] at z
    exact z.elim
/-! ### __init__ by its body: self is one's own -/
def env0I (c n : Nat) (ds : List D) : Env := some (.ow (.obj c [])) :: env0 (n - 1) ds
def selfF (c : Nat) : Env → Res (List D)
  | some (.ow (.obj c' xs)) :: _ => if c' = c then .ok xs else .bad
  | some (.sh (.obj c' xs)) :: _ => if c' = c then .ok xs else .bad
  | _ => .bad
def runI (c : Nat) (g : Env → RS) (n : Nat) (ds : List D) : Res (List D) := match g (env0I c n ds) with
  | .nx ρ => selfF c ρ
  | .err c p _ => .err c p
  | _ => .bad
theorem selfF_of {c : Nat} {ρ : Env} {xs : List D} (h : selfF c ρ = .ok xs) : ρ[0]? = some (some (.ow (.obj c xs))) ∨ ρ[0]? = some (some (.sh (.obj c xs))) := by
  unfold selfF at h
  split at h
  · split at h
    · rename_i q
      cases h
      subst q
      exact .inl rfl
    · cases h
  · split at h
    · rename_i q
      cases h
      subst q
      exact .inr rfl
    · cases h
  · cases h
theorem selfF_noerr {c : Nat} {ρ : Env} {e : Nat} {p : Option D} : selfF c ρ ≠ .err e p := by
  unfold selfF
  split <;> (try split) <;> (intro h; cases h)
theorem env0_nob {n j : Nat} {ds : List D} {d : D} (e : (env0 n ds)[j]? = some (some (.bw d))) : False := by
  unfold env0 at e
  rcases Nat.lt_or_ge j ds.length with q | q
  · rw [List.getElem?_append_left (by simpa using q), List.getElem?_map] at e
    cases hd : ds[j]? with
    | none =>
      rw [hd] at e
      cases e
    | some d' =>
      rw [hd] at e
      cases e
  · rw [List.getElem?_append_right (by simpa using q)] at e
    rw [List.getElem?_replicate] at e
    split at e <;> cases e
theorem er_startI {F H : Hp} {N : List Str} {ds : List D} {vs : List V} {x dx : Addr} {c : Nat} (hN : N ≠ []) (s : Sb P F H) (i : IsL P F ds vs) (hx : H x = some (.ins (P.C c) dx [])) (hf : F x = none) :
    ER P ⟨F, some x⟩ (minus H x) F (env0I c N.length ds) (L2.start N (.ref x :: vs)) H := by
  obtain ⟨n0, N', rfl⟩ : ∃ n0 N', N = n0 :: N' := by
    cases N with
    | nil => exact absurd rfl hN
    | cons a b => exact ⟨a, b, rfl⟩
  have e0 : L2.start (n0 :: N') (.ref x :: vs) = some (V.ref x) :: L2.start N' vs := by
    unfold L2.start
    simp
  have e1 : env0I c (n0 :: N').length ds = some (.ow (.obj c [])) :: env0 N'.length ds := rfl
  have er := er_start (N := N') s i
  rw [e0, e1]
  exact {
    g := ⟨.refl F, minus_ex.t, s, fun _ _ e => .inl e⟩
    self := fun y hy => by cases hy; rfl
    len := by simp [er.len]
    sh := fun j d e => by
      cases j with
      | zero => cases e
      | succ j => exact er.sh j d e
    bw := fun j d e => by
      exfalso
      cases j with
      | zero => cases e
      | succ j => exact env0_nob e
    ow := fun j d e => by
      cases j with
      | zero =>
        cases e
        exact ⟨x, rfl, .of minus_same, hf, dx, [], by simpa using hx, by simp, by rw [IsL]⟩
      | succ j =>
        obtain ⟨a, _, _, _, h4⟩ := er.ow j d e
        exfalso
        have := er.ow j d e
        obtain ⟨a, h1, h2, h3, h4⟩ := this
        obtain ⟨o, ho, hdo⟩ := h4.there
        exact h2.no ho (isD_T hdo)
    nd := fun j k d e a h1 h2 h3 h4 => by
      cases j with
      | zero =>
        cases k with
        | zero => rfl
        | succ k =>
          obtain ⟨a', q1, q2, q3, q4⟩ := er.ow k e h2
          obtain ⟨o, ho, hdo⟩ := q4.there
          exact (q2.no ho (isD_T hdo)).elim
      | succ j =>
        obtain ⟨a', q1, q2, q3, q4⟩ := er.ow j d h1
        obtain ⟨o, ho, hdo⟩ := q4.there
        exact (q2.no ho (isD_T hdo)).elim }
theorem fndI {c : Nat} {x qual : Str} {st : Stmt} {f : Addr} {fd : FuncData} {N ps : List Str} {k : Nat} {g : Env → RS} {n : Nat} (hn : ps.length = n + 1) (hN : N ≠ []) (Fu : Fun K x qual st f fd) (S : FnScope N ps (defScope st))
    (hbody : ∀ (cdv : Value) (A : Around) (outer : List PySem.Env) (s : Shared) (H F0 H0 : Hp) (x : Addr) (E : XK), Room k (A.deeper (PyProof.Rows.envOfC qual (defScope st) s.heap.objs.size f cdv)) →
      PSs (cxOf (L2.CX prog w) prog w K mg base N qual (defScope st) f cdv A outer s H E) (defBody st) (tS P ⟨F0, some x⟩ H0 (WE0 E) g)) :
    FnOk prog w K mg base (L2.CX prog w) (k + 1) f fd ps (spI P c n (runI c g N.length)) := by
  refine Fu.okX S (fun vs H Q E ⟨x, dx, args, F, ds, e, _, _, _, i, hl, _⟩ => by rw [e, List.length_cons, ← i.length, hl, hn]) (fun cdv A outer s H vs Q E hr h => ?_)
  obtain ⟨x, dx, args, F, ds, rfl, hx, hf, sx, i, hl, z⟩ := h
  refine ⟨_, hbody cdv A outer s H F (minus H x) x E hr, F, env0I c N.length ds, er_startI hN sx i hx hf, ?_⟩
  unfold runI at z
  cases hg : g (env0I c N.length ds) with
  | nx ρ =>
    rw [hg] at z
    intro σ F' H' er _
    replace z : PostG P (WE0 E) (fun F' _ fs v => v = .non ∧ Is P F' (.obj c fs) (.ref x)) (selfF c ρ) F [] (minus H x) Q := z
    have hx0 := er.self x rfl
    cases hs : selfF c ρ with
    | bad =>
      rw [hs] at z
      exact z.elim
    | err e p => exact absurd hs selfF_noerr
    | ok xs =>
      rw [hs] at z
      rcases selfF_of hs with q | q
      · obtain ⟨a, h1, h2, h3, h4⟩ := er.ow 0 _ q
        rw [hx0] at h1
        cases h1
        obtain ⟨F2, e1, e2, i2, n2⟩ := h4.still er.s h3 rfl
        refine z .non F2 H' ⟨er.g.f.trans e1, er.g.h, e2, fun b o hb => ?_⟩ ⟨rfl, i2⟩
        rcases n2 b o hb with y | y
        · exact er.g.n b o y
        · exact .inr (.inl (y ▸ .of minus_same))
      · obtain ⟨v, h1, h2⟩ := er.sh 0 _ q
        rw [hx0] at h1
        cases h1
        exact z .non F' H' er.g ⟨rfl, h2⟩
  | rt d =>
    rw [hg] at z
    exact z.elim
  | ro d =>
    rw [hg] at z
    exact z.elim
  | bk ρ =>
    rw [hg] at z
    exact z.elim
  | ct ρ =>
    rw [hg] at z
    exact z.elim
  | err e p ρ =>
    rw [hg] at z
    exact fun σ F' H' y er _ q => z F' H' y er.g q
  | bad =>
    rw [hg] at z
    exact z.elim
end
end DL
namespace DL
open PySem L2

section
variable {P : Pm} {F0 : Fz} {H0 F F' H H' : Hp} {ρ : Env} {σ : St}
theorem Own.at {a : Addr} (e : H' a = H a) : ∀ {d : D}, Own P F H a d → Own P F H' a d
  | .lst xs, ⟨vs, h1, h2⟩ => ⟨vs, e.trans h1, h2⟩
  | .dK ks xs, ⟨vs, h1, h2, h3⟩ => ⟨vs, e.trans h1, h2, h3⟩
  | .dT ks xs, ⟨vs, h1, h2, h3⟩ => ⟨vs, e.trans h1, h2, h3⟩
  | .obj c xs, ⟨dx, vs, h1, h2, h3⟩ => ⟨dx, vs, e.trans h1, h2, h3⟩
  | .non, h => h.elim
  | .bl _, h => h.elim
  | .int _, h => h.elim
  | .str _, h => h.elim
  | .tup _, h => h.elim
  | .scr _, h => h.elim
theorem lt_of_get {α : Type} {l : List α} {i : Nat} {x : α} (h : l[i]? = some x) : i < l.length := by
  rcases Nat.lt_or_ge i l.length with q | q
  · exact q
  · rw [List.getElem?_eq_none q] at h
    cases h
theorem IsL.unnil {vs : List V} (h : IsL P F [] vs) : vs = [] := by
  rw [IsL] at h
  exact h
theorem IsL.uncons {d : D} {ds : List D} {vs : List V} (h : IsL P F (d :: ds) vs) : ∃ v r, vs = v :: r ∧ Is P F d v ∧ IsL P F ds r := by
  rw [IsL] at h
  exact h
/-- a name gets a new object, one's own -/
theorem ER.putO (r : ER P F0 H0 F ρ σ H) (g : Grow P F H F' H') (i : Nat) {d : D} {p : Addr} (hp : NoD H p) (hf : F' p = none) (ho : Own P F' H' p d) (hi0 : F0.S = none ∨ i ≠ 0) :
    ER P F0 H0 F' (ρ.set i (some (.ow d))) (σ.set i (some (.ref p))) H' := by
  have r' := r.grow g
  exact {
    g := r'.g
    self := fun x hx => by
      rcases hi0 with q | q
      · rw [q] at hx
        cases hx
      · rw [List.getElem?_set_ne q]
        exact r.self x hx
    len := by simp [r.len]
    sh := fun j e q => by
      by_cases hj : i = j
      · subst hj
        have hl : i < ρ.length := by simpa using lt_of_get q
        rw [get_set_self hl] at q
        cases q
      · rw [List.getElem?_set_ne hj] at q
        rw [List.getElem?_set_ne hj]
        exact r'.sh j e q
    bw := fun j e q => by
      by_cases hj : i = j
      · subst hj
        have hl : i < ρ.length := by simpa using lt_of_get q
        rw [get_set_self hl] at q
        cases q
      · rw [List.getElem?_set_ne hj] at q
        rw [List.getElem?_set_ne hj]
        exact r'.bw j e q
    ow := fun j e q => by
      by_cases hj : i = j
      · subst hj
        have hl : i < ρ.length := by simpa using lt_of_get q
        rw [get_set_self hl] at q
        cases q
        exact ⟨p, get_set_self (r.len ▸ hl), r.g.h.backN hp, hf, ho⟩
      · rw [List.getElem?_set_ne hj] at q
        rw [List.getElem?_set_ne hj]
        exact r'.ow j e q
    nd := fun j k d' e' a q1 q2 q3 q4 => by
      by_cases hj : i = j
      · by_cases hk : i = k
        · exact hj.symm.trans hk
        · exfalso
          subst hj
          have hl : i < ρ.length := by simpa using lt_of_get q1
          rw [get_set_self (r.len ▸ hl)] at q3
          cases q3
          rw [List.getElem?_set_ne hk] at q2 q4
          obtain ⟨a', h1, h2, h3, h4⟩ := r.ow k e' q2
          rw [q4] at h1
          cases h1
          obtain ⟨o, h5, hdo⟩ := h4.there
          exact hp.no h5 (isD_T hdo)
      · by_cases hk : i = k
        · exfalso
          subst hk
          have hl : i < ρ.length := by simpa using lt_of_get q2
          rw [get_set_self (r.len ▸ hl)] at q4
          cases q4
          rw [List.getElem?_set_ne hj] at q1 q3
          obtain ⟨a', h1, h2, h3, h4⟩ := r.ow j d' q1
          rw [q3] at h1
          cases h1
          obtain ⟨o, h5, hdo⟩ := h4.there
          exact hp.no h5 (isD_T hdo)
        · rw [List.getElem?_set_ne hj] at q1 q3
          rw [List.getElem?_set_ne hk] at q2 q4
          exact r.nd j k d' e' a q1 q2 q3 q4 }
/-- an object of one's own is changed -/
theorem ER.mut (r : ER P F0 H0 F ρ σ H) {i : Nat} {d d' : D} {a : Addr} {o : HO} (hr : ρ[i]? = some (some (.ow d))) (hs : σ[i]? = some (some (.ref a))) (ho : Own P F (upd H a o) a d') :
    ER P F0 H0 F (ρ.set i (some (.ow d'))) σ (upd H a o) := by
  obtain ⟨a', h1, h2, h3, h4⟩ := r.ow i d hr
  rw [hs] at h1
  cases h1
  have hl := lt_of_get hr
  exact {
    g := by
      obtain ⟨u0, hu0, hd0⟩ := h4.there
      exact ⟨r.g.f, ⟨fun b u e n => by rw [upd_ne (h2.ne e n)]; exact r.g.h.at_ b u e n⟩, ⟨fun b u e => by rw [upd_ne (ne_of_none e h3)]; exact r.g.s.ex b u e, r.g.s.nt, Tabs.upd r.g.s.tabs hu0 hd0⟩, r.g.n⟩
    self := r.self
    len := by simp [r.len]
    sh := fun j e q => by
      by_cases hj : i = j
      · subst hj
        rw [get_set_self hl] at q
        cases q
      · rw [List.getElem?_set_ne hj] at q
        exact r.sh j e q
    bw := fun j e q => by
      by_cases hj : i = j
      · subst hj
        rw [get_set_self hl] at q
        cases q
      · rw [List.getElem?_set_ne hj] at q
        exact r.bw j e q
    ow := fun j e q => by
      by_cases hj : i = j
      · subst hj
        rw [get_set_self hl] at q
        cases q
        exact ⟨a, hs, h2, h3, ho⟩
      · rw [List.getElem?_set_ne hj] at q
        obtain ⟨b, k1, k2, k3, k4⟩ := r.ow j e q
        refine ⟨b, k1, k2, k3, k4.at (upd_ne fun z => ?_)⟩
        subst z
        exact hj (r.nd i j d e b hr q hs k1)
    nd := fun j k d1 e1 b q1 q2 q3 q4 => by
      by_cases hj : i = j
      · by_cases hk : i = k
        · exact hj.symm.trans hk
        · subst hj
          rw [List.getElem?_set_ne hk] at q2
          exact r.nd i k d e1 b hr q2 q3 q4
      · rw [List.getElem?_set_ne hj] at q1
        by_cases hk : i = k
        · subst hk
          exact r.nd j i d1 d b q1 hr q3 q4
        · rw [List.getElem?_set_ne hk] at q2
          exact r.nd j k d1 e1 b q1 q2 q3 q4 }
def frz (i : Nat) (ρ : Env) : Env := match ρ[i]? with
  | some (some (.ow d)) => ρ.set i (some (.sh d))
  | _ => ρ
/-- an object of one's own is kept still from now on -/
theorem ER.freezeI {X : Cx} {pins : List (Addr × Obj)} {s : Shared} (I : Inv X pins σ H s) (r : ER P F0 H0 F ρ σ H) (i : Nat) : ∃ F' H', Inv X pins σ H' s ∧ Ex F F' ∧ ER P F0 H0 F' (frz i ρ) σ H' := by
  unfold frz
  split
  · rename_i d q
    obtain ⟨a, h1, h2, h3, h4⟩ := r.ow i d q
    obtain ⟨F2, H2, I2, e1, e2, i2, n2, off⟩ := h4.stillI I r.s h3
    have hl := lt_of_get q
    refine ⟨F2, H2, I2, e1, ?_⟩
    exact {
      g := r.g.still h2 e1 e2 n2 off
      self := r.self
      len := by simp [r.len]
      sh := fun j e z => by
        by_cases hj : i = j
        · subst hj
          rw [get_set_self hl] at z
          cases z
          exact ⟨.ref a, h1, i2⟩
        · rw [List.getElem?_set_ne hj] at z
          obtain ⟨v, k1, k2⟩ := r.sh j e z
          exact ⟨v, k1, k2.mono e1 e⟩
      bw := fun j e z => by
        by_cases hj : i = j
        · subst hj
          rw [get_set_self hl] at z
          cases z
        · rw [List.getElem?_set_ne hj] at z
          exact r.bw j e z
      ow := fun j e z => by
        by_cases hj : i = j
        · subst hj
          rw [get_set_self hl] at z
          cases z
        · rw [List.getElem?_set_ne hj] at z
          obtain ⟨b, k1, k2, k3, k4⟩ := r.ow j e z
          have hba : b ≠ a := fun y => by
            subst y
            exact absurd (r.nd i j d e b q z h1 k1) hj
          refine ⟨b, k1, k2, ?_, (k4.at (off b hba)).mono e1 (.refl H2)⟩
          cases hb : F2 b with
          | none => rfl
          | some o =>
            rcases n2 b o hb with y | y
            · rw [k3] at y
              cases y
            · exact absurd y hba
      nd := fun j k d1 e1 b q1 q2 q3 q4 => by
        by_cases hj : i = j
        · subst hj
          rw [get_set_self hl] at q1
          cases q1
        · by_cases hk : i = k
          · subst hk
            rw [get_set_self hl] at q2
            cases q2
          · rw [List.getElem?_set_ne hj] at q1
            rw [List.getElem?_set_ne hk] at q2
            exact r.nd j k d1 e1 b q1 q2 q3 q4 }
  · exact ⟨F, H, I, .refl F, r⟩
end
section
variable {X : Cx} {P : Pm} {F0 : Fz} {H0 : Hp} {W : WX} {a b c e o : Expr} {es : List Expr} {fa fb fc : Env → Res D} {gc : Env → Res Bool} {fs : Env → Res (List D)} {pos p apos : Pos} {st : Stmt} {sts tts : List Stmt} {g g1 g2 : Env → RS}
theorem sd_frz (i : Nat) (h : PSs X sts (tS P F0 H0 W g)) : PSs X sts (tS P F0 H0 W (fun ρ => g (frz i ρ))) := ⟨fun pins s σ H N I ⟨F, ρ, er, z⟩ => by
  obtain ⟨F', H', I', e, er'⟩ := er.freezeI I i
  exact h.run pins s σ H' N I' ⟨F', frz i ρ, er', PostS.shift (r := g (frz i ρ)) z e⟩⟩
theorem sd_frz1 (i : Nat) (h : PS X st (tS P F0 H0 W g)) : PS X st (tS P F0 H0 W (fun ρ => g (frz i ρ))) := ⟨fun pins s σ H N I ⟨F, ρ, er, z⟩ => by
  obtain ⟨F', H', I', e, er'⟩ := er.freezeI I i
  exact h.run pins s σ H' N I' ⟨F', frz i ρ, er', PostS.shift (r := g (frz i ρ)) z e⟩⟩
/-- x = a new object, which will be changed by x -/
theorem sd_setN {i : Nat} {x : Str} {pos' : Pos} (hN : X.N.Nodup) (hi : X.N[i]? = some x) (hx : Loc X.env.scope x) (he : PE X e (tN P F0 H0 W fa)) (hs : swapsWith e (some (.Name x pos')) pos.line X.env = pure false := by rfl) (hi0 : F0.S = none ∨ i ≠ 0 := by first | exact Or.inl rfl | exact Or.inr (by decide)) (hf : X.fn x = true ∨ X.env.scope.names.lookup x = some .local := by first | exact .inl rfl | exact .inr rfl | assumption) :
    PS X (.Assign [.Name x pos'] e pos) (tS P F0 H0 W (fun ρ => bindS (fa ρ) ρ fun d => .nx (ρ.set i (some (.ow d))))) := (ps_set hN hi hx he hs hf).imp fun N σ H ⟨F, ρ, er, z⟩ => by
  refine ⟨F, ρ, er, ?_⟩
  refine (PostS.bind (rel := rNw P H) er z).imp ?_
  rintro v H1 ⟨F1, d, g, ⟨q, rfl, h1, h2, h3⟩, z⟩
  exact z _ F1 H1 (er.putO g i h1 h2 h3 hi0) (.refl F1)
/-- x.append(e) -/
def appD (i : Nat) (ρ : Env) (d : D) : RS := match ρ[i]? with
  | some (some (.ow (.lst xs))) => if small (xs.length + 1) = true then .nx (ρ.set i (some (.ow (.lst (xs ++ [d]))))) else .bad
  | _ => .bad
def isOw (i : Nat) (ρ : Env) : Res Unit := match ρ[i]? with
  | some (some (.ow (.lst _))) => .ok ()
  | _ => .bad
theorem isOw_cases (i : Nat) (ρ : Env) : (isOw i ρ = .bad) ∨ ∃ xs, isOw i ρ = .ok () ∧ ρ[i]? = some (some (.ow (.lst xs))) := by
  unfold isOw
  split
  · rename_i xs q
    exact .inr ⟨xs, rfl, q⟩
  · exact .inl rfl
theorem sd_append (i : Nat) {x : Str} {p1 apos cpos : Pos} (he : PE X e (tE P F0 H0 W fa)) (hN : X.N[i]? = some x := by rfl) (hv : Vis X.env.scope x := by first | exact Or.inl rfl | exact Or.inr (Or.inl rfl) | exact Or.inr (Or.inr rfl)) (hd : (x == ("__debug__" : Str)) = false := by decide)
    (hcd : (x == ("__classdict__" : Str)) = false := by decide)
    (hbase : attributeBase (.Name x p1) "append" X.env (eval (.Name x p1) X.env) = eval (.Name x p1) X.env := by rfl)
    (hfew : ((backTo cpos (starEach [e] X.env)).all (fun x => !x.1) && (backToKw cpos (keywordEach [] X.env)).all (fun x => x.1.isSome)
      && decide (([e] : List Expr).length + ([] : List Keyword).length + (if ([] : List Keyword).isEmpty then 0 else 1) < 30)) = true := by rfl)
    (hline : (apos.endLine == cpos.line) = true := by rfl) (hs1 : starEach [e] X.env = (false, eval e X.env) :: starEach [] X.env := by rfl) (hplain : (backTo cpos (starEach [] X.env)).any (·.1) = false := by rfl)
    (hs : swapsWith (.Call (.Attribute (.Name x p1) "append" apos) [e] [] cpos) none pos.line X.env = pure false := by rfl) :
    PS X (.Expr (.Call (.Attribute (.Name x p1) "append" apos) [e] [] cpos) pos) (tS P F0 H0 W (fun ρ => bindS (isOw i ρ) ρ fun _ => bindS (fa ρ) ρ fun d => appD i ρ d)) :=
  (ps_expr (pe_bm PySem.F.plainAttrs_list PySem.F.slot_list_append PySem.F.type_list_append mt_append (pe_var hN hv hd hcd) (pa_cons he pa_nil hs1) hbase hfew hline hs1 hplain) hs).imp fun N σ H ⟨F, ρ, er, z⟩ => by
  have z' : PostS P F0 H0 W F (bindS (isOw i ρ) ρ fun _ => bindS (fa ρ) ρ fun d => appD i ρ d) N := z
  rcases isOw_cases i ρ with hb | ⟨xs, hb, q⟩
  · rw [hb] at z'
    exact z'.elim
  · rw [hb] at z'
    replace z' : PostS P F0 H0 W F (bindS (fa ρ) ρ fun d => appD i ρ d) N := z'
    obtain ⟨a, h1, h2, h3, vs, h4, h5⟩ := er.ow i _ q
    refine ⟨.ref a, h1, .inl ⟨rfl, vs, SqL.of h4⟩, ?_⟩
    refine ⟨F, ρ, er, (PostS.bind (rel := rIs P) er z').imp ?_⟩
    rintro v H1 ⟨F1, d, g, j, z1⟩
    have ea : appD i ρ d = if small (xs.length + 1) = true then .nx (ρ.set i (some (.ow (.lst (xs ++ [d]))))) else .bad := by
      unfold appD
      rw [q]
    rw [ea] at z1
    by_cases hz : small (xs.length + 1) = true
    · rw [if_pos hz] at z1
      refine ⟨a, vs, v, rfl, rfl, g.h.dat h4, by have := small_lt hz; rw [h5.length] at this; omega, ?_⟩
      refine z1 σ F1 _ ((er.grow g).mut q h1 ⟨vs ++ [v], upd_same, ?_⟩) (.refl F1)
      exact (h5.mono g.f xs).append (.cons j .nil)
    · rw [if_neg hz] at z1
      exact z1.elim
/-! ### several names at once -/
def par2 (i j : Nat) (ρ : Env) : List D → RS
  | [d, e] => .nx ((ρ.set i (some (.sh d))).set j (some (.sh e)))
  | _ => .bad
theorem sd_par {i j : Nat} {x y : Str} {px py pt : Pos} {kt k2 pt2} (hc : X.calm = true) (hN : X.N.Nodup) (hi : X.N[i]? = some x) (hj : X.N[j]? = some y) (hij : i ≠ j)
    (hx : X.env.scope.names.lookup x = some .local) (hy : X.env.scope.names.lookup y = some .local) (ha : PA X [a, b] (tL P F0 H0 W fs))
    (hw : swappedStores [.Tuple [.Name x px, .Name y py] kt pt] (.Tuple [a, b] k2 pt2) X.env = pure (some [x, y])) (h0 : F0.S = none := by rfl)
    (hs : swapsWithSole [.Tuple [.Name x px, .Name y py] kt pt] (.Tuple [a, b] k2 pt2) pos.line X.env = pure false := by rfl) :
    PS X (.Assign [.Tuple [.Name x px, .Name y py] kt pt] (.Tuple [a, b] k2 pt2) pos) (tS P F0 H0 W (fun ρ => bindS (fs ρ) ρ (par2 i j ρ))) := (ps_par hc hN hi hj hij hx hy ha hw hs).imp fun N σ H ⟨F, ρ, er, z⟩ => by
  refine ⟨F, ρ, er, (PostS.bind (rel := rLs P) er z).imp ?_⟩
  rintro vs H1 ⟨F1, ds, g, q, z1⟩
  unfold par2 at z1
  split at z1
  · rename_i d e
    obtain ⟨v, r, rfl, q1, q⟩ := q.uncons
    obtain ⟨v2, r2, rfl, q2, q⟩ := q.uncons
    obtain rfl := q.unnil
    exact ⟨v, v2, rfl, z1 _ F1 H1 (((er.grow g).put i q1 (.inl h0)).put j q2 (.inl h0)) (.refl F1)⟩
  · exact z1.elim
def par3 (i j l : Nat) (ρ : Env) : List D → RS
  | [d, e, f] => .nx (((ρ.set i (some (.sh d))).set j (some (.sh e))).set l (some (.sh f)))
  | _ => .bad
theorem sd_par3 {i j l : Nat} {x y z : Str} {px py pz pt pos : Pos} {kt k2 pt2} (hc : X.calm = true) (hN : X.N.Nodup) (hi : X.N[i]? = some x) (hj : X.N[j]? = some y) (hl : X.N[l]? = some z) (hij : i ≠ j) (hil : i ≠ l) (hjl : j ≠ l)
    (hx : X.env.scope.names.lookup x = some .local) (hy : X.env.scope.names.lookup y = some .local) (hz : X.env.scope.names.lookup z = some .local) (ha : PA X [a, b, c] (tL P F0 H0 W fs))
    (hw : swappedStores [.Tuple [.Name x px, .Name y py, .Name z pz] kt pt] (.Tuple [a, b, c] k2 pt2) X.env = pure (some [x, y, z])) (h0 : F0.S = none := by rfl)
    (hs : swapsWithSole [.Tuple [.Name x px, .Name y py, .Name z pz] kt pt] (.Tuple [a, b, c] k2 pt2) pos.line X.env = pure false := by rfl) :
    PS X (.Assign [.Tuple [.Name x px, .Name y py, .Name z pz] kt pt] (.Tuple [a, b, c] k2 pt2) pos) (tS P F0 H0 W (fun ρ => bindS (fs ρ) ρ (par3 i j l ρ))) := (ps_par3 hc hN hi hj hl hij hil hjl hx hy hz ha hw hs).imp fun N σ H ⟨F, ρ, er, z⟩ => by
  refine ⟨F, ρ, er, (PostS.bind (rel := rLs P) er z).imp ?_⟩
  rintro vs H1 ⟨F1, ds, g, q, z1⟩
  unfold par3 at z1
  split at z1
  · rename_i d e f
    obtain ⟨v, r, rfl, q1, q⟩ := q.uncons
    obtain ⟨v2, r2, rfl, q2, q⟩ := q.uncons
    obtain ⟨v3, r3, rfl, q3, q⟩ := q.uncons
    obtain rfl := q.unnil
    exact ⟨v, v2, v3, rfl, z1 _ F1 H1 ((((er.grow g).put i q1 (.inl h0)).put j q2 (.inl h0)).put l q3 (.inl h0)) (.refl F1)⟩
  · exact z1.elim
/-- target = value, any target -/
theorem sd_asg {tg : Expr} {us : List Nat} {h : D → Env → Option Env} (he : PE X e (tE P F0 H0 W fa)) (hg : PG X tg (tGt P F0 H0 us h)) (hs : swapsWithSole [tg] e pos.line X.env = pure false := by rfl) (hw : swappedStores [tg] e X.env = pure none := by rfl)
    (h1 : (assignEach [tg] X.env).map (·.2) = [assign tg X.env] := by rfl) : PS X (.Assign [tg] e pos) (tS P F0 H0 W (fun ρ => bindS (fa ρ) ρ fun d => match h d ρ with | some ρ' => .nx ρ' | none => .bad)) := (ps_asg he hg hs hw h1).imp fun N σ H ⟨F, ρ, er, z⟩ => by
  refine ⟨F, ρ, er, (PostS.bind (rel := rIs P) er z).imp ?_⟩
  rintro v H1 ⟨F1, d, g, q, z1⟩
  cases hh : h d ρ with
  | none =>
    rw [hh] at z1
    exact z1.elim
  | some ρ' =>
    rw [hh] at z1
    exact ⟨F1, ρ, d, ρ', er.grow g, q, hh, fun σ' er' _ => z1 σ' F1 H1 er' (.refl F1)⟩
end
end DL
namespace DL
open PySem L2

/-! ### what is walked -/
section
variable {X : Cx} {P : Pm} {F0 : Fz} {H0 : Hp} {W : WX} {a b c e l tg : Expr} {es : List Expr} {fa fb fc : Env → Res D} {fs : Env → Res (List D)} {pos p : Pos}
theorem _root_.L2.PI.imp {t t' : TI} (h : PI X tg e t) (q : ∀ σ H R, t' σ H R → t σ H R) : PI X tg e t' := ⟨fun pins s σ H R I z => h.run pins s σ H R I (q σ H R z)⟩
def iSeq (K : PySem.W.Frag) (tl : TE) : TI := fun σ H R => tl σ H fun x H1 => (∃ a, x = .ref a ∧ (∃ xs, SqL K H1 a xs) ∧ R (Itl K a) H1) ∨ (∃ a, x = .ref a ∧ (∃ xs, SqT K H1 a xs) ∧ R (Itt K a) H1) ∨ ∃ z, x = .str z ∧ R (Its z) H1
theorem pi_seq {tl : TE} (hl : PE X l tl) : PI X tg l (iSeq X.K tl) := by
  refine ⟨fun pins s σ H R I h => ?_⟩
  refine thn (hl.run pins s σ H _ I h) fun v s1 ⟨x, H1, I1, r1, q1⟩ => ?_
  rcases q1 with ⟨a, e, ⟨xs, hq⟩, q⟩ | ⟨a, e, ⟨xs, hq⟩, q⟩ | ⟨z, e, q⟩
  · subst e
    cases r1
    obtain ⟨its, rv, p, hz⟩ := I1.list hq
    refine wpAny_pyIter_list p.isList ?_
    refine ⟨s1.heap.objs.size, [s1.heap.objs.size], _, _, H1, rfl, I1.kept (t' := s1.toks) fun b o e => Heap.get?_push_of_some _ e, turn_list a _, ⟨_, Heap.get?_push_size _ rfl, rfl, rfl⟩, fun b hb => ?_, q⟩
    have e : b = s1.heap.objs.size := by simpa using hb
    subst e
    exact I1.fpOk (Nat.le_refl _) (I1.hok.fresh (Nat.le_refl _))
  · subst e
    cases r1
    obtain ⟨its, rv, p, hz⟩ := I1.tuple hq
    refine wpAny_pyIter_tuple (show s1.heap.IsTuple a its.toArray from p) ?_
    refine ⟨s1.heap.objs.size, [s1.heap.objs.size], _, _, H1, rfl, I1.kept (t' := s1.toks) fun b o e => Heap.get?_push_of_some _ e, turn_tuple a _, ⟨_, Heap.get?_push_size _ rfl, rfl, rfl⟩, fun b hb => ?_, q⟩
    have e : b = s1.heap.objs.size := by simpa using hb
    subst e
    exact I1.fpOk (Nat.le_refl _) (I1.hok.fresh (Nat.le_refl _))
  · subst e
    obtain ⟨t, rfl⟩ := r1
    cases ha : z.cps.all (· < 128)
    · exact PySem.wpAny_pyIter_wide ha (pi_one (tk := s1.toks) I1 _ (turn_str _ z t "str_iterator" (.inr rfl)) ⟨_, Heap.get?_push_size _ rfl, rfl, rfl⟩ q)
    · exact PySem.wpAny_pyIter_ascii ha (pi_one (tk := s1.toks) I1 _ (turn_str _ z t "str_ascii_iterator" (.inl rfl)) ⟨_, Heap.get?_push_size _ rfl, rfl, rfl⟩ q)
def seqD : D → Res (List D)
  | .lst xs => .ok xs
  | .tup xs => .ok xs
  | .str z => .ok (z.cps.toList.map fun c => .str ⟨#[c]⟩)
  | _ => .bad
theorem un_lst {F : Hp} {xs : List D} {v : V} (h : Is P F (.lst xs) v) : ∃ a vs, v = .ref a ∧ Rd F a (.lst vs) ∧ IsL P F xs vs := by
  rw [Is] at h
  exact h
theorem un_tup {F : Hp} {xs : List D} {v : V} (h : Is P F (.tup xs) v) : ∃ a vs, v = .ref a ∧ Rd F a (.tup vs) ∧ IsL P F xs vs := by
  rw [Is] at h
  obtain ⟨a, vs, h1, h2, h3⟩ := h
  exact ⟨a, vs, h1, .inl h2, h3⟩
theorem un_str {F : Hp} {z : Str} {v : V} (h : Is P F (.str z) v) : v = .str z := by
  rw [Is] at h
  exact h
theorem un_int {F : Hp} {z : Int} {v : V} (h : Is P F (.int z) v) : v = .int z := by
  rw [Is] at h
  exact h
theorem un_bl {F : Hp} {z : Bool} {v : V} (h : Is P F (.bl z) v) : v = .bl z := by
  rw [Is] at h
  exact h
theorem un_non {F : Hp} {v : V} (h : Is P F .non v) : v = .non := by
  rw [Is] at h
  exact h
theorem itl_D {K : PySem.W.Frag} {F H : Hp} {a : Addr} {vs : List V} {ds : List D} (h : Rd F a (.lst vs)) (i : IsL P F ds vs) : ItD P F H ds (Itl K a) := fun j F1 H1 e1 e2 => by
  have hr : SqL K H1 a vs := .inl ((e2.sub e1).rd h)
  refine ⟨fun d hd => ?_, fun hl => ⟨vs, hr, by rw [← i.length]; exact hl⟩⟩
  obtain ⟨v, h1, h2⟩ := i.get hd
  refine ⟨⟨vs, v, hr, h1⟩, ?_⟩
  rintro x H2 ⟨rfl, hx⟩
  have := hx vs hr
  rw [h1] at this
  cases this
  exact ⟨F1, .refl e2, h2.mono e1 d⟩
theorem itt_D {K : PySem.W.Frag} {F H : Hp} {a : Addr} {vs : List V} {ds : List D} (h : Rd F a (.tup vs)) (i : IsL P F ds vs) : ItD P F H ds (Itt K a) := fun j F1 H1 e1 e2 => by
  have hr : SqT K H1 a vs := .inl ((e2.sub e1).rd h)
  refine ⟨fun d hd => ?_, fun hl => ⟨vs, hr, by rw [← i.length]; exact hl⟩⟩
  obtain ⟨v, h1, h2⟩ := i.get hd
  refine ⟨⟨vs, v, hr, h1⟩, ?_⟩
  rintro x H2 ⟨rfl, hx⟩
  have := hx vs hr
  rw [h1] at this
  cases this
  exact ⟨F1, .refl e2, h2.mono e1 d⟩
theorem its_D {F H : Hp} {z : Str} : ItD P F H (z.cps.toList.map fun c => D.str ⟨#[c]⟩) (Its z) := fun j F1 H1 e1 e2 => by
  refine ⟨fun d hd => ?_, fun hl => (by simpa using hl : z.cps.size ≤ j)⟩
  rw [List.getElem?_map] at hd
  cases hc : z.cps.toList[j]? with
  | none =>
    rw [hc] at hd
    cases hd
  | some c =>
    rw [hc] at hd
    cases hd
    have hj := lt_of_get hc
    refine ⟨(by simpa using hj : j < z.cps.size), ?_⟩
    rintro x H2 ⟨rfl, c', hc', rfl⟩
    have : z.cps.toList[j]? = some c' := by simpa using hc'
    rw [hc] at this
    cases this
    exact ⟨F1, .refl e2, is_str⟩
/-- for x in e: a list, a tuple, a text -/
theorem id_seq (h : PE X l (tE P F0 H0 W fa)) : PI X tg l (tI P F0 H0 W (fun ρ => fa ρ >>= seqD)) := (pi_seq h).imp fun σ H R ⟨F, ρ, er, z⟩ => by
  refine ⟨F, ρ, er, (PostG.bind (rel := rIs P) z).imp ?_⟩
  rintro v H1 ⟨F1, d, g, i, q⟩
  unfold seqD at q
  split at q
  · obtain ⟨a, vs, rfl, h1, h2⟩ := un_lst i
    exact .inl ⟨a, rfl, ⟨vs, .inl (g.s.rd h1)⟩, q.here g.s (itl_D h1 h2)⟩
  · obtain ⟨a, vs, rfl, h1, h2⟩ := un_tup i
    exact .inr (.inl ⟨a, rfl, ⟨vs, .inl (g.s.rd h1)⟩, q.here g.s (itt_D h1 h2)⟩)
  · exact .inr (.inr ⟨_, un_str i, q.here g.s its_D⟩)
  · exact q.elim
/-! ### ranges -/
def rngD (lo hi : Int) : List D := (List.range (hi - lo).toNat).map fun k => .int (lo + (k : Nat))
theorem itr_D {F H : Hp} {lo hi : Int} : ItD P F H (rngD lo hi) (Itr lo (hi - lo).toNat) := fun j F1 H1 e1 e2 => by
  refine ⟨fun d hd => ?_, fun hl => (by simp [rngD] at hl; omega : (hi - lo).toNat ≤ j)⟩
  unfold rngD at hd
  rw [List.getElem?_map] at hd
  cases hc : (List.range (hi - lo).toNat)[j]? with
  | none =>
    rw [hc] at hd
    cases hd
  | some c =>
    rw [hc] at hd
    cases hd
    have hj := lt_of_get hc
    rw [List.getElem?_eq_getElem hj] at hc
    simp at hc hj
    subst hc
    refine ⟨(by omega : j < (hi - lo).toNat), ?_⟩
    rintro x H2 ⟨rfl, rfl⟩
    exact ⟨F1, .refl e2, is_int⟩
def rng1 : List D → Res (List D)
  | [.int j] => if -(2 ^ 62) ≤ j ∧ j < 2 ^ 62 then .ok (rngD 0 j) else .bad
  | _ => .bad
def rng2 : List D → Res (List D)
  | [.int i, .int j] => if -(2 ^ 62) ≤ i ∧ i < 2 ^ 62 ∧ -(2 ^ 62) ≤ j ∧ j < 2 ^ 62 then .ok (rngD i j) else .bad
  | _ => .bad
theorem id_range1 (hg : Gl X "range") (hm : X.mg "range" = none) (ha : PA X [a] (tL P F0 H0 W fs)) (hs : starEach [a] X.env = [(false, eval a X.env)] := by rfl) : PI X tg (.Call (.Name "range" p) [a] [] pos) (tI P F0 H0 W (fun ρ => fs ρ >>= rng1)) :=
  (pi_range1 hg hm ha hs).imp fun σ H R ⟨F, ρ, er, z⟩ => by
  refine ⟨F, ρ, er, (PostG.bind (rel := rLs P) z).imp ?_⟩
  rintro vs H1 ⟨F1, ds, g, i, q⟩
  unfold rng1 at q
  split at q
  · rename_i j
    obtain ⟨v, r, rfl, i1, i⟩ := i.uncons
    obtain rfl := i.unnil
    rw [Is] at i1
    subst i1
    split at q
    · rename_i hj
      refine ⟨j, rfl, hj.1, hj.2, ?_⟩
      have := q.here g.s (itr_D (lo := 0) (hi := j))
      simpa using this
    · exact q.elim
  · exact q.elim
theorem id_range2 (hg : Gl X "range") (hm : X.mg "range" = none) (ha : PA X [a, b] (tL P F0 H0 W fs)) (hs : starEach [a, b] X.env = [(false, eval a X.env), (false, eval b X.env)] := by rfl) (hs2 : starEach [b] X.env = [(false, eval b X.env)] := by rfl) : PI X tg (.Call (.Name "range" p) [a, b] [] pos) (tI P F0 H0 W (fun ρ => fs ρ >>= rng2)) :=
  (pi_range2 hg hm ha hs hs2).imp fun σ H R ⟨F, ρ, er, z⟩ => by
  refine ⟨F, ρ, er, (PostG.bind (rel := rLs P) z).imp ?_⟩
  rintro vs H1 ⟨F1, ds, g, i, q⟩
  unfold rng2 at q
  split at q
  · rename_i j k
    obtain ⟨v, r, rfl, i1, i⟩ := i.uncons
    obtain ⟨v2, r2, rfl, i2, i⟩ := i.uncons
    obtain rfl := i.unnil
    rw [Is] at i1 i2
    subst i1 i2
    split at q
    · rename_i hj
      exact ⟨j, k, rfl, hj, q.here g.s itr_D⟩
    · exact q.elim
  · exact q.elim
/-! ### zip, enumerate -/
def zipL (xs ys : List D) : List D := (xs.zip ys).map fun q => .tup [q.1, q.2]
theorem zipL_get {xs ys : List D} {j : Nat} {d : D} (h : (zipL xs ys)[j]? = some d) : ∃ x y, xs[j]? = some x ∧ ys[j]? = some y ∧ d = .tup [x, y] := by
  unfold zipL at h
  rw [List.getElem?_map] at h
  cases hz : (xs.zip ys)[j]? with
  | none =>
    rw [hz] at h
    cases h
  | some q =>
    rw [hz] at h
    cases h
    rw [List.getElem?_zip_eq_some] at hz
    exact ⟨q.1, q.2, hz.1, hz.2, rfl⟩
theorem zipL_len {xs ys : List D} : (zipL xs ys).length = min xs.length ys.length := by simp [zipL]
theorem pair_D {F1 H1 : Hp} {x y : D} {vx vy : V} {T : Addr} (e2 : Sb P F1 H1) (hT : H1 T = none) (hx : Is P F1 x vx) (hy : Is P F1 y vy) : ∃ F2, Grow P F1 H1 F2 (upd H1 T (.tup [vx, vy])) ∧ Is P F2 (.tup [x, y]) (.ref T) :=
  ⟨upd F1 T (.tup [vx, vy]), .new e2 hT, by rw [Is]; exact ⟨T, _, rfl, upd_same, .cons (hx.mono (.new (e2.back hT)) x) (.cons (hy.mono (.new (e2.back hT)) y) .nil)⟩⟩
def zipD : List D → Res (List D)
  | [.lst xs, .lst ys] => .ok (zipL xs ys)
  | [.tup xs, .tup ys] => .ok (zipL xs ys)
  | _ => .bad
theorem id_zip {elts : List Expr} {kk : Nat} {tpos : Pos} (hg : Gl X "zip") (hm : X.mg "zip" = none) (ha : PA X [a, b] (tL P F0 H0 W fs)) (hs : starEach [a, b] X.env = (false, eval a X.env) :: starEach [b] X.env := by rfl) (hpl : (backTo pos (starEach [b] X.env)).any (·.1) = false := by rfl) :
    PI X (.Tuple elts kk tpos) (.Call (.Name "zip" p) [a, b] [] pos) (tI P F0 H0 W (fun ρ => fs ρ >>= zipD)) := (RZ.pi_zipA hg hm ha hs hpl).imp fun σ H R ⟨F, ρ, er, z⟩ => by
  refine ⟨F, ρ, er, (PostG.bind (rel := rLs P) z).imp ?_⟩
  rintro vs H1 ⟨F1, ds, g, i, q⟩
  unfold zipD at q
  split at q
  · rename_i xs ys
    obtain ⟨v, r, rfl, i1, i⟩ := i.uncons
    obtain ⟨v2, r2, rfl, i2, i⟩ := i.uncons
    obtain rfl := i.unnil
    rw [Is] at i1 i2
    obtain ⟨a1, vs1, rfl, h1, j1⟩ := i1
    obtain ⟨a2, vs2, rfl, h2, j2⟩ := i2
    refine ⟨a1, a2, vs1, vs2, rfl, .inl ⟨.inl (g.s.rd h1), .inl (g.s.rd h2), q.here g.s fun j F2 H2 e1 e2 => ?_⟩⟩
    have hr1 : SqL X.K H2 a1 vs1 := .inl ((e2.sub e1).rd h1)
    have hr2 : SqL X.K H2 a2 vs2 := .inl ((e2.sub e1).rd h2)
    refine ⟨fun d hd => ?_, fun hl => ⟨vs1, vs2, hr1, hr2, ?_⟩⟩
    · obtain ⟨x, y, hx, hy, rfl⟩ := zipL_get hd
      obtain ⟨vx, k1, k2⟩ := j1.get hx
      obtain ⟨vy, l1, l2⟩ := j2.get hy
      refine ⟨⟨vs1, vs2, vx, vy, hr1, hr2, k1, l1⟩, ?_⟩
      rintro v H3 ⟨T, x', y', rfl, hT, rfl, hx', hy'⟩
      have e3 := hx' vs1 hr1
      have e4 := hy' vs2 hr2
      rw [k1] at e3
      rw [l1] at e4
      cases e3
      cases e4
      exact pair_D e2 hT (k2.mono e1 x) (l2.mono e1 y)
    · rw [zipL_len, j1.length, j2.length] at hl
      omega
  · rename_i xs ys
    obtain ⟨v, r, rfl, i1, i⟩ := i.uncons
    obtain ⟨v2, r2, rfl, i2, i⟩ := i.uncons
    obtain rfl := i.unnil
    obtain ⟨a1, vs1, rfl, h1, j1⟩ := un_tup i1
    obtain ⟨a2, vs2, rfl, h2, j2⟩ := un_tup i2
    refine ⟨a1, a2, vs1, vs2, rfl, .inr ⟨.inl (g.s.rd h1), .inl (g.s.rd h2), q.here g.s fun j F2 H2 e1 e2 => ?_⟩⟩
    have hr1 : SqT X.K H2 a1 vs1 := .inl ((e2.sub e1).rd h1)
    have hr2 : SqT X.K H2 a2 vs2 := .inl ((e2.sub e1).rd h2)
    refine ⟨fun d hd => ?_, fun hl => ⟨vs1, vs2, hr1, hr2, ?_⟩⟩
    · obtain ⟨x, y, hx, hy, rfl⟩ := zipL_get hd
      obtain ⟨vx, k1, k2⟩ := j1.get hx
      obtain ⟨vy, l1, l2⟩ := j2.get hy
      refine ⟨⟨vs1, vs2, vx, vy, hr1, hr2, k1, l1⟩, ?_⟩
      rintro v H3 ⟨T, x', y', rfl, hT, rfl, hx', hy'⟩
      have e3 := hx' vs1 hr1
      have e4 := hy' vs2 hr2
      rw [k1] at e3
      rw [l1] at e4
      cases e3
      cases e4
      exact pair_D e2 hT (k2.mono e1 x) (l2.mono e1 y)
    · rw [zipL_len, j1.length, j2.length] at hl
      omega
  · exact q.elim
def enuL (xs : List D) : List D := xs.zipIdx.map fun q => .tup [.int (q.2 : Nat), q.1]
def enuD : List D → Res (List D)
  | [.lst xs] => .ok (enuL xs)
  | _ => .bad
theorem id_enum {elts : List Expr} {kk : Nat} {tpos : Pos} (hg : Gl X "enumerate") (hm : X.mg "enumerate" = none) (ha : PA X [a] (tL P F0 H0 W fs)) (hs : starEach [a] X.env = [(false, eval a X.env)] := by rfl) :
    PI X (.Tuple elts kk tpos) (.Call (.Name "enumerate" p) [a] [] pos) (tI P F0 H0 W (fun ρ => fs ρ >>= enuD)) := (pi_enum hg hm ha hs).imp fun σ H R ⟨F, ρ, er, z⟩ => by
  refine ⟨F, ρ, er, (PostG.bind (rel := rLs P) z).imp ?_⟩
  rintro vs H1 ⟨F1, ds, g, i, q⟩
  unfold enuD at q
  split at q
  · rename_i xs
    obtain ⟨v, r, rfl, i1, i⟩ := i.uncons
    obtain rfl := i.unnil
    rw [Is] at i1
    obtain ⟨a1, vs1, rfl, h1, j1⟩ := i1
    refine ⟨a1, vs1, rfl, .inl (g.s.rd h1), q.here g.s fun j F2 H2 e1 e2 => ?_⟩
    have hr1 : SqL X.K H2 a1 vs1 := .inl ((e2.sub e1).rd h1)
    refine ⟨fun d hd => ?_, fun hl => ⟨vs1, hr1, ?_⟩⟩
    · unfold enuL at hd
      rw [List.getElem?_map] at hd
      cases hz : xs.zipIdx[j]? with
      | none =>
        rw [hz] at hd
        cases hd
      | some q =>
        rw [hz] at hd
        cases hd
        rw [List.getElem?_zipIdx] at hz
        cases hx : xs[j]? with
        | none =>
          rw [hx] at hz
          cases hz
        | some x =>
          rw [hx] at hz
          simp at hz
          subst hz
          obtain ⟨vx, k1, k2⟩ := j1.get hx
          refine ⟨⟨vs1, vx, hr1, k1⟩, ?_⟩
          rintro v H3 ⟨T, x', rfl, hT, rfl, hx'⟩
          have e3 := hx' vs1 hr1
          rw [k1] at e3
          cases e3
          exact pair_D e2 hT is_int (k2.mono e1 x)
    · rw [← j1.length]
      simpa [enuL] using hl
  · exact q.elim
end
end DL
namespace DL
open PySem L2

def noErr {α : Type} : Res α → Res α
  | .ok a => .ok a
  | _ => .bad
theorem PostG.noErr {α β : Type} {P : Pm} {W W' : WX} {rel : Rel α β} {r : Res α} {F H : Hp} {σ σ' : St} {Q : β → Hp → Prop} (h : PostG P W rel (DL.noErr r) F σ H Q) : PostG P W' rel r F σ' H Q := by
  cases r with
  | ok a => exact h
  | err c p => exact h.elim
  | bad => exact h.elim
def wipeE (ρ : Env) : List Nat → Env
  | [] => ρ
  | v :: vs => (wipeE ρ vs).set v none
section
variable {P : Pm} {F0 : Fz} {H0 F H : Hp} {ρ : Env} {σ : St}
theorem wipeE_length : ∀ us : List Nat, (wipeE ρ us).length = ρ.length
  | [] => rfl
  | v :: us => by
    show ((wipeE ρ us).set v none).length = _
    rw [List.length_set, wipeE_length us]
theorem wipeE_some {i : Nat} {x : B} : ∀ {us : List Nat}, (wipeE ρ us)[i]? = some (some x) → ρ[i]? = some (some x) ∧ i ∉ us
  | [], h => ⟨h, by simp⟩
  | v :: us, h => by
    have h' : ((wipeE ρ us).set v none)[i]? = some (some x) := h
    by_cases q : v = i
    · subst q
      have hl : v < (wipeE ρ us).length := by simpa using lt_of_get h'
      rw [get_set_self hl] at h'
      cases h'
    · rw [List.getElem?_set_ne q] at h'
      obtain ⟨h1, h2⟩ := wipeE_some h'
      exact ⟨h1, by simp [h2, Ne.symm q]⟩
theorem wipe_keep {i : Nat} : ∀ {us : List Nat}, i ∉ us → (wipe σ us)[i]? = σ[i]?
  | [], _ => rfl
  | v :: us, h => by
    show ((wipe σ us).set v none)[i]? = _
    rw [List.getElem?_set_ne (fun q => h (by simp [q]))]
    exact wipe_keep fun q => h (List.mem_cons_of_mem _ q)
theorem wipe_twice (us : List Nat) : wipe (wipe σ us) us = wipe σ us := by
  apply List.ext_getElem?
  intro i
  by_cases q : i ∈ us
  · have k : ∀ (us : List Nat) (τ : St), i ∈ us → (wipe τ us)[i]? = if i < τ.length then some none else none := by
      intro us
      induction us with
      | nil => intro τ h; cases h
      | cons v vs ih =>
        intro τ h
        show ((wipe τ vs).set v none)[i]? = _
        by_cases e : v = i
        · subst e
          rw [List.getElem?_set]
          simp [wipe_length]
        · rw [List.getElem?_set_ne e]
          exact ih τ (by simpa [Ne.symm e] using h)
    rw [k us _ q, k us _ q, wipe_length]
  · rw [wipe_keep q]
theorem ER.wiped (r : ER P F0 H0 F ρ σ H) (us : List Nat) (h0 : F0.S = none ∨ 0 ∉ us) : ER P F0 H0 F (wipeE ρ us) (wipe σ us) H where
  g := r.g
  self := fun x hx => by
    rcases h0 with q | q
    · rw [q] at hx
      cases hx
    · rw [wipe_keep q]
      exact r.self x hx
  len := by rw [wipeE_length, wipe_length, r.len]
  sh := fun i d e => by
    obtain ⟨h1, h2⟩ := wipeE_some e
    rw [wipe_keep h2]
    exact r.sh i d h1
  bw := fun i d e => by
    obtain ⟨h1, h2⟩ := wipeE_some e
    rw [wipe_keep h2]
    exact r.bw i d h1
  ow := fun i d e => by
    obtain ⟨h1, h2⟩ := wipeE_some e
    rw [wipe_keep h2]
    exact r.ow i d h1
  nd := fun i j d e a q1 q2 q3 q4 => by
    obtain ⟨h1, h2⟩ := wipeE_some q1
    obtain ⟨h3, h4⟩ := wipeE_some q2
    rw [wipe_keep h2] at q3
    rw [wipe_keep h4] at q4
    exact r.nd i j d e a h1 h3 q3 q4
theorem Tabs.put {T : List (Addr × Str)} {H : Hp} {a : Addr} {o : HO} (t : LamX.Tabs T H) (h : H a = none ∨ ∃ u, H a = some u ∧ isD u = true) : LamX.Tabs T (L2.upd H a o) := by
  rcases h with h | ⟨u, h, hd⟩
  · exact t.ext (Ex.new h)
  · exact Tabs.upd t h hd
theorem Grow.put {H1 F1 F' H' : Hp} {p : Addr} {o : HO} (gg : Grow P F1 H1 F' H') (hD : NoD H1 p) (f4 : F' p = none) (hu : H' p = none ∨ ∃ u, H' p = some u ∧ isD u = true) : Grow P F1 H1 F' (upd H' p o) :=
  ⟨gg.f, ⟨fun b u e n => by rw [upd_ne (hD.ne e n)]; exact gg.h.at_ b u e n⟩, ⟨fun b u e => by rw [upd_ne (ne_of_none e f4)]; exact gg.s.ex b u e, gg.s.nt, Tabs.put gg.s.tabs hu⟩, gg.n⟩
/-- an object that is nobody's by name is changed -/
theorem ER.other (r : ER P F0 H0 F ρ σ H) {p : Addr} {o : HO} (hu : H p = none ∨ ∃ u, H p = some u ∧ isD u = true) (h0 : NoD H0 p) (hf : F p = none) (hn : ∀ (i : Nat) (d : D), ρ[i]? = some (some (B.ow d)) → σ[i]? ≠ some (some (V.ref p))) : ER P F0 H0 F ρ σ (upd H p o) where
  g := r.g.put h0 hf hu
  self := r.self
  len := r.len
  sh := r.sh
  bw := r.bw
  ow := fun i d e => by
    obtain ⟨a, h1, h2, h3, h4⟩ := r.ow i d e
    exact ⟨a, h1, h2, h3, h4.at (upd_ne fun z => hn i d e (by rw [h1, z]))⟩
  nd := r.nd
end
/-- the items of a comprehension -/
def lcD (h : D → Env → Option Env) (gt : Env → Res Bool) (fe : Env → Res D) (ρ : Env) : List D → Res (List D)
  | [] => .ok []
  | d :: r => match h d ρ with
    | none => .bad
    | some ρ1 => do
      let k ← noErr (gt ρ1)
      if k = true then (do let y ← noErr (fe ρ1); let ys ← lcD h gt fe ρ r; .ok (y :: ys)) else lcD h gt fe ρ r
section
variable {X : Cx} {P : Pm} {F0 : Fz} {H0 : Hp} {W : WX} {elt tg iter : Expr} {ifs : List Expr} {scope : Scope} {own : List (Str × Nat)} {pos : Pos} {fi : Env → Res (List D)} {h : D → Env → Option Env} {gt : Env → Res Bool} {fe : Env → Res D}
abbrev W0 : WX := fun _ _ _ _ => False
theorem Res.bind_eq_ok {α β : Type} {r : Res α} {k : α → Res β} {b : β} (h : (r >>= k) = .ok b) : ∃ a, r = .ok a ∧ k a = .ok b := by
  cases r with
  | ok a => exact ⟨a, rfl, h⟩
  | err c p => cases h
  | bad => cases h
theorem lc_of {F H : Hp} {ρ : Env} {σ : St} {Q : VK} {us : List Nat} (h0 : F0.S = none ∨ 0 ∉ us) (er : ER P F0 H0 F ρ σ H)
    (z : PostG P W (rNw P H) (do let items ← fi ρ; let ys ← lcD h gt fe (wipeE ρ us) items; mkL ys) F σ H Q) :
    tLc (tI P F0 H0 W fi) (tGt P F0 H0 us h) (tT P F0 H0 W0 gt) (tE P F0 H0 W0 fe) us σ H Q := by
  refine ⟨F, ρ, er, (PostG.bind (rel := ItD P) z).imp ?_⟩
  rintro J H1 ⟨FJ, items, gr, hJ, z1⟩
  intro Dn hD
  have erJ := er.grow gr
  cases hy : lcD h gt fe (wipeE ρ us) items with
  | bad =>
    rw [hy] at z1
    exact z1.elim
  | err c p =>
    exfalso
    revert hy
    clear z1 hJ
    suffices ∀ items, lcD h gt fe (wipeE ρ us) items ≠ .err c p from this items
    intro items
    induction items with
    | nil => intro q; cases q
    | cons d r ih =>
      intro q
      have q' : (match h d (wipeE ρ us) with
        | none => Res.bad
        | some ρ1 => do
          let k ← noErr (gt ρ1)
          if k = true then (do let y ← noErr (fe ρ1); let ys ← lcD h gt fe (wipeE ρ us) r; .ok (y :: ys)) else lcD h gt fe (wipeE ρ us) r) = .err c p := q
      cases hh : h d (wipeE ρ us) with
      | none =>
        rw [hh] at q'
        cases q'
      | some ρ1 =>
        rw [hh] at q'
        cases hg : gt ρ1 with
        | ok k =>
          have q2 : (if k = true then (do let y ← noErr (fe ρ1); let ys ← lcD h gt fe (wipeE ρ us) r; .ok (y :: ys)) else lcD h gt fe (wipeE ρ us) r) = .err c p := by
            have := q'
            simp only [hg] at this
            exact this
          split at q2
          · cases hf : fe ρ1 with
            | ok y =>
              rw [hf] at q2
              cases hr : lcD h gt fe (wipeE ρ us) r with
              | ok ys =>
                rw [hr] at q2
                cases q2
              | err c' p' =>
                rw [hr] at q2
                cases q2
                exact ih hr
              | bad =>
                rw [hr] at q2
                cases q2
            | err c' p' =>
              rw [hf] at q2
              cases q2
            | bad =>
              rw [hf] at q2
              cases q2
          · exact ih q2
        | err c' p' =>
          simp only [hg] at q'
          cases q'
        | bad =>
          simp only [hg] at q'
          cases q'
  | ok ys =>
    rw [hy] at z1
    replace z1 : PostG P W (rNw P H) (mkL ys) FJ σ H1 Q := z1
    unfold mkL at z1
    by_cases hsm : small ys.length = true
    case neg =>
      rw [if_neg hsm] at z1
      exact z1.elim
    rw [if_pos hsm] at z1
    have hne : ∀ (i : Nat) (d : D), (wipeE ρ us)[i]? = some (some (B.ow d)) → (wipe σ us)[i]? ≠ some (some (V.ref Dn)) := fun i d e q => by
      obtain ⟨a, k1, k2, k3, k4⟩ := (erJ.wiped us h0).ow i d e
      rw [q] at k1
      cases k1
      obtain ⟨o, ho, _⟩ := k4.there
      rw [hD] at ho
      cases ho
    have hFD : FJ Dn = none := gr.s.back hD
    have h0D : NoD H0 Dn := erJ.g.h.back hD
    refine ⟨fun i m H' => m = items.length - i ∧ ∃ F' accD acc rest, Grow P FJ H1 F' H' ∧ ER P F0 H0 F' (wipeE ρ us) (wipe σ us) H' ∧ F' Dn = none ∧ H' Dn = some (.lst acc) ∧ IsL P F' accD acc ∧ lcD h gt fe (wipeE ρ us) (items.drop i) = .ok rest ∧ accD ++ rest = ys, ⟨_, rfl, FJ, [], [], ys, .junk gr.s (.new hD), (erJ.wiped us h0).other (.inl hD) h0D hFD hne, hFD, upd_same, .nil, hy, rfl⟩, ?_⟩
    rintro i m H' ⟨rfl, F', accD, acc, rest, g1, er1, f1, d1, i1, l1, e1⟩
    obtain ⟨j1, j2⟩ := hJ i F' H' g1.f g1.s
    rcases Nat.lt_or_ge i items.length with hi | hi
    · obtain ⟨k1, k2⟩ := j1 items[i] (List.getElem?_eq_getElem hi)
      rw [List.drop_eq_getElem_cons hi] at l1
      have l2 : (match h items[i] (wipeE ρ us) with
        | none => Res.bad
        | some ρ1 => do
          let k ← noErr (gt ρ1)
          if k = true then (do let y ← noErr (fe ρ1); let ys ← lcD h gt fe (wipeE ρ us) (items.drop (i + 1)); .ok (y :: ys)) else lcD h gt fe (wipeE ρ us) (items.drop (i + 1))) = .ok rest := l1
      cases hh : h items[i] (wipeE ρ us) with
      | none =>
        rw [hh] at l2
        cases l2
      | some ρ1 =>
        rw [hh] at l2
        obtain ⟨k, hk, l3⟩ := Res.bind_eq_ok (r := noErr (gt ρ1)) l2
        refine .inr ⟨k1, fun H' => ∃ F' accD acc rest, Grow P FJ H1 F' H' ∧ ER P F0 H0 F' (wipeE ρ us) (wipe σ us) H' ∧ F' Dn = none ∧ H' Dn = some (.lst acc) ∧ IsL P F' accD acc ∧ lcD h gt fe (wipeE ρ us) (items.drop (i + 1)) = .ok rest ∧ accD ++ rest = ys, fun H' n' => ⟨_, by omega, rfl, n'⟩, ?_⟩
        intro x H2 hyl
        obtain ⟨F2, g2, i2⟩ := k2 x H2 hyl
        refine ⟨F2, wipeE ρ us, items[i], ρ1, er1.grow g2, i2, hh, fun σ2 er2 w2 => ⟨w2.trans (wipe_twice us), ?_⟩⟩
        refine ⟨F2, ρ1, er2, ?_⟩
        have hgt : gt ρ1 = .ok k := by
          cases hg : gt ρ1 with
          | ok k' =>
            rw [hg] at hk
            exact hk
          | err c p =>
            rw [hg] at hk
            cases hk
          | bad =>
            rw [hg] at hk
            cases hk
        rw [hgt]
        intro b F3 H3 g3 hb
        subst hb
        have er3 := (er1.grow g2).grow g3
        have fd3 : ∀ {Fa Ha Fb Hb : Hp}, Grow P Fa Ha Fb Hb → Fa Dn = none → (∃ ys, Ha Dn = some (.lst ys)) → Fb Dn = none := fun {Fa Ha Fb Hb} g q1 q2 => by
          cases q : Fb Dn with
          | none => rfl
          | some o =>
            obtain ⟨ys, q2⟩ := q2
            rcases g.n Dn o q with y | y | ⟨zs, y⟩
            · rw [q1] at y
              cases y
            · exact (y.no q2 rfl).elim
            · have k1 := g.s.ex _ _ q
              rw [g.h.dat q2, y] at k1
              cases k1
        have n0 : ∃ ys, H' Dn = some (.lst ys) := ⟨_, d1⟩
        have f2 := fd3 g2 f1 n0
        have d2 : H2 Dn = some (.lst acc) := g2.h.dat d1
        have n2 : ∃ ys, H2 Dn = some (.lst ys) := ⟨_, d2⟩
        have f3 := fd3 g3 f2 n2
        have d3 : H3 Dn = some (.lst acc) := g3.h.dat d2
        have n3 : ∃ ys, H3 Dn = some (.lst ys) := ⟨_, d3⟩
        have hir := i1.mono (g2.f.trans g3.f) accD
        by_cases hb : b = true
        · rw [if_pos hb]
          rw [if_pos hb] at l3
          obtain ⟨y, hy1, l4⟩ := Res.bind_eq_ok (r := noErr (fe ρ1)) l3
          obtain ⟨ys', hy2, l5⟩ := Res.bind_eq_ok (r := lcD h gt fe (wipeE ρ us) (items.drop (i + 1))) l4
          cases l5
          have hfe : fe ρ1 = .ok y := by
            cases hg : fe ρ1 with
            | ok k' =>
              rw [hg] at hy1
              exact hy1
            | err c p =>
              rw [hg] at hy1
              cases hy1
            | bad =>
              rw [hg] at hy1
              cases hy1
          refine ⟨F3, ρ1, er2.grow g3, ?_⟩
          rw [hfe]
          intro v F4 H4 g4 i4
          have f4 := fd3 g4 f3 n3
          have d4 : H4 Dn = some (.lst acc) := g4.h.dat d3
          refine ⟨acc, d4, ?_, F4, accD ++ [y], acc ++ [v], ys', ?_, (er3.grow g4).other (.inr ⟨_, d4, rfl⟩) h0D f4 hne, f4, upd_same, (hir.mono g4.f accD).append (.cons i4 .nil), hy2, by rw [← e1]; simp⟩
          · have hlen : acc.length ≤ ys.length := by
              rw [← e1, ← i1.length]
              simp
            exact Nat.lt_of_le_of_lt hlen (small_lt hsm)
          · have gg := ((g1.trans g2).trans g3).trans g4
            exact gg.put (.of hD) f4 (.inr ⟨_, d4, rfl⟩)
        · rw [if_neg hb]
          rw [if_neg hb] at l3
          exact ⟨F3, accD, acc, rest, (g1.trans g2).trans g3, er3, f3, d3, hir, l3, e1⟩
    · rw [List.drop_eq_nil_of_le hi] at l1
      cases l1
      rw [List.append_nil] at e1
      subst e1
      exact .inl ⟨j2 hi, z1 _ F' H' g1 ⟨Dn, rfl, gr.h.back hD, f1, acc, d1, i1⟩⟩
theorem nd_lc {us : List Nat} (hc : X.calm = true) (hN : X.N.Nodup) (hi : PI X tg iter (tI P F0 H0 W fi)) (ok : BlkOk X.N X.env.scope scope own) (hu : own.map (·.2) = us)
    (hg : ∀ (s : Shared) (H : Hp) (C : Addr) (cl : List (Str × Addr)) (fp : List Addr), PG (X.blk s H scope (PySem.compEnvC scope cl C X.env) fp) tg (tGt P F0 H0 us h))
    (ht : ∀ (s : Shared) (H : Hp) (C : Addr) (cl : List (Str × Addr)) (fp : List Addr), PTs (X.blk s H scope (PySem.compEnvC scope cl C X.env) fp) ifs (tT P F0 H0 W0 gt))
    (he : ∀ (s : Shared) (H : Hp) (C : Addr) (cl : List (Str × Addr)) (fp : List Addr), PE (X.blk s H scope (PySem.compEnvC scope cl C X.env) fp) elt (tE P F0 H0 W0 fe)) (h0 : F0.S = none ∨ 0 ∉ us := by first | exact Or.inl rfl | exact Or.inr (by decide))
    (hs : ∀ x, foldedSetIterable iter X.env x = pure x := by intro _; rfl) :
    PE X (.ListComp elt [⟨tg, iter, ifs, 0⟩] scope pos) (tN P F0 H0 W (fun ρ => do let items ← fi ρ; let ys ← lcD h gt fe (wipeE ρ us) items; mkL ys)) :=
  (pe_lc hc hN hi ok hg ht he hs).imp fun σ H Q ⟨F, ρ, er, z⟩ => by
  rw [hu]
  exact lc_of h0 er z
end
end DL
namespace DL
open PySem L2

/-! ### == of data -/
mutual
def toPD : D → Option PyData
  | .non => some .none
  | .bl b => some (.bool b)
  | .int i => some (.int i)
  | .str s => some (.str s)
  | .lst xs => (toPDs xs).map .list
  | .tup xs => (toPDs xs).map .tuple
  | .dK _ _ => none
  | .dT _ _ => none
  | .obj _ _ => none
  | .scr _ => none
def toPDs : List D → Option (List PyData)
  | [] => some []
  | d :: ds => (toPD d).bind fun x => (toPDs ds).map fun xs => x :: xs
end
section
variable {P : Pm} {F H : Hp} {K : PySem.W.Frag}
mutual
theorem Is.dp (e : Sb P F H) : ∀ (d : D) {v : V} {pd : PyData}, Is P F d v → toPD d = some pd → Dp K H v pd
  | .non, _, _, h, q => by rw [Is] at h; rw [toPD] at q; cases q; rw [h]; exact .non
  | .bl b, _, _, h, q => by rw [Is] at h; rw [toPD] at q; cases q; rw [h]; exact .bl b
  | .int i, _, _, h, q => by rw [Is] at h; rw [toPD] at q; cases q; rw [h]; exact .int i
  | .str s, _, _, h, q => by rw [Is] at h; rw [toPD] at q; cases q; rw [h]; exact .str s
  | .lst xs, _, _, h, q => by
    rw [Is] at h
    obtain ⟨a, vs, rfl, h2, h3⟩ := h
    rw [toPD] at q
    cases hx : toPDs xs with
    | none => rw [hx] at q; cases q
    | some ys =>
      rw [hx] at q
      cases q
      exact .lst (.inl (e.rd h2)) (IsL.dp e xs h3 hx)
  | .tup xs, _, _, h, q => by
    rw [Is] at h
    obtain ⟨a, vs, rfl, h2, h3⟩ := h
    rw [toPD] at q
    cases hx : toPDs xs with
    | none => rw [hx] at q; cases q
    | some ys =>
      rw [hx] at q
      cases q
      exact .tup (.inl (.inl (e.ex _ _ h2))) (IsL.dp e xs h3 hx)
  | .dK ks xs, _, _, h, q => by rw [toPD] at q; cases q
  | .dT ks xs, _, _, h, q => by rw [toPD] at q; cases q
  | .obj c xs, _, _, h, q => by rw [toPD] at q; cases q
  | .scr ns, _, _, h, q => by rw [toPD] at q; cases q
theorem IsL.dp (e : Sb P F H) : ∀ (ds : List D) {vs : List V} {ps : List PyData}, IsL P F ds vs → toPDs ds = some ps → DpAll K H vs ps
  | [], _, _, h, q => by rw [IsL] at h; rw [toPDs] at q; cases q; rw [h]; exact .nil
  | d :: ds, _, _, h, q => by
    rw [IsL] at h
    obtain ⟨v, r, rfl, h2, h3⟩ := h
    rw [toPDs] at q
    cases hd : toPD d with
    | none => rw [hd] at q; cases q
    | some x =>
      cases hx : toPDs ds with
      | none => rw [hd, hx] at q; cases q
      | some xs =>
        rw [hd, hx] at q
        cases q
        exact .cons (Is.dp e d h2 hd) (IsL.dp e ds h3 hx)
end
theorem Vw.dp (e : Sb P F H) : ∀ (d : D) {v : V} {pd : PyData}, Vw P F H d v → toPD d = some pd → Dp K H v pd
  | .non, _, _, h, q => by rw [toPD] at q; cases q; rw [show _ = V.non from h]; exact .non
  | .bl b, _, _, h, q => by rw [toPD] at q; cases q; rw [show _ = V.bl b from h]; exact .bl b
  | .int i, _, _, h, q => by rw [toPD] at q; cases q; rw [show _ = V.int i from h]; exact .int i
  | .str s, _, _, h, q => by rw [toPD] at q; cases q; rw [show _ = V.str s from h]; exact .str s
  | .lst xs, _, _, ⟨a, vs, h1, h2, h3⟩, q => by
    subst h1
    rw [toPD] at q
    cases hx : toPDs xs with
    | none => rw [hx] at q; cases q
    | some ys =>
      rw [hx] at q
      cases q
      exact .lst (.inl h2) (IsL.dp e xs h3 hx)
  | .tup xs, _, _, ⟨a, vs, h1, h0, h2, h3⟩, q => by
    subst h1
    rw [toPD] at q
    cases hx : toPDs xs with
    | none => rw [hx] at q; cases q
    | some ys =>
      rw [hx] at q
      cases q
      exact .tup (.inl h2) (IsL.dp e xs h3 hx)
  | .dK ks xs, _, _, h, q => by rw [toPD] at q; cases q
  | .dT ks xs, _, _, h, q => by rw [toPD] at q; cases q
  | .obj c xs, _, _, h, q => by rw [toPD] at q; cases q
  | .scr ns, _, _, h, q => by rw [toPD] at q; cases q
end
def eqP (x y : D) : Option Bool := (toPD x).bind fun a => (toPD y).bind fun b => if SeqAt.shaped a = true ∧ SeqAt.shaped b = true then some (PyData.eqv a b) else none
def eqD (x y : D) : Option D := (eqP x y).map .bl
def neD (x y : D) : Option D := (eqP x y).map fun b => .bl (!b)
section
variable {X : Cx} {P : Pm} {F0 : Fz} {H0 : Hp} {W : WX} {a b c e o : Expr} {es : List Expr} {fa fb fc : Env → Res D} {fs : Env → Res (List D)} {pos p apos : Pos} {σ : St} {H F : Hp}
theorem eqP_of {x y : D} {b : Bool} (h : eqP x y = some b) : ∃ p q, toPD x = some p ∧ toPD y = some q ∧ SeqAt.shaped p = true ∧ SeqAt.shaped q = true ∧ PyData.eqv p q = b := by
  unfold eqP at h
  cases hx : toPD x with
  | none => rw [hx] at h; cases h
  | some p =>
    cases hy : toPD y with
    | none => rw [hx, hy] at h; cases h
    | some q =>
      rw [hx, hy] at h
      have h' : (if SeqAt.shaped p = true ∧ SeqAt.shaped q = true then some (PyData.eqv p q) else none) = some b := h
      split at h'
      · rename_i hs
        cases h'
        exact ⟨p, q, rfl, rfl, hs.1, hs.2, rfl⟩
      · cases h'
theorem io_eq (hu : X.A.units + 64 < cLine) : OpR X (compareOp .Eq) (r2O P eqD) := fun pins s σ H x y u v Q I rx ry ⟨F, dx, dy, d, e, i1, i2, hd, q⟩ => by
  unfold eqD at hd
  cases hb : eqP dx dy with
  | none => rw [hb] at hd; cases hd
  | some b =>
    rw [hb] at hd
    cases hd
    obtain ⟨p1, p2, h1, h2, h3, h4, rfl⟩ := eqP_of hb
    exact op_eqD hu pins s σ H x y u v Q I rx ry ⟨p1, p2, i1.dp e dx h1, i2.dp e dy h2, h3, h4, q.bl e⟩
theorem io_ne (hu : X.A.units + 64 < cLine) : OpR X (compareOp .NotEq) (r2O P neD) := fun pins s σ H x y u v Q I rx ry ⟨F, dx, dy, d, e, i1, i2, hd, q⟩ => by
  unfold neD at hd
  cases hb : eqP dx dy with
  | none => rw [hb] at hd; cases hd
  | some b =>
    rw [hb] at hd
    cases hd
    obtain ⟨p1, p2, h1, h2, h3, h4, rfl⟩ := eqP_of hb
    exact op_neD hu pins s σ H x y u v Q I rx ry ⟨p1, p2, i1.dp e dx h1, i2.dp e dy h2, h3, h4, q.bl e⟩
/-! ### // -/
def fdivC (i j : Int) : Option D := if j ≠ 0 ∧ j.natAbs.log2 < 9000 then some (.int (i.fdiv j)) else none
theorem op_fdivNW : OpR X (binaryOp .FloorDiv) (rI (fun _ j => j ≠ 0 ∧ j.natAbs.log2 < 9000) fun i j => .int (i.fdiv j)) := opI fun _ _ _ _ _ _ _ hc q => PyProof.Rows.floordiv_int hc.1 q (.inl (PyProof.noPylong_of_log2 hc.2))
theorem io_fdiv : OpR X (binaryOp .FloorDiv) (r2O P (int2 fdivC)) := op_int2 op_fdivNW fun i j d H Q hg q => by
  unfold fdivC at hg
  split at hg
  · rename_i hc
    cases hg
    exact ⟨i, j, rfl, rfl, hc, q _ fun F => is_int⟩
  · cases hg
/-! ### is None -/
def isNone : D → Bool
  | .non => true
  | _ => false
theorem Vw.non {d : D} {v : V} (h : Vw P F H d v) : decide (v = .non) = isNone d := by
  cases d with
  | non => rw [show v = .non from h]; rfl
  | bl b => rw [show v = .bl b from h]; rfl
  | int b => rw [show v = .int b from h]; rfl
  | str b => rw [show v = .str b from h]; rfl
  | lst xs => obtain ⟨a, vs, rfl, _⟩ := h; rfl
  | tup xs => obtain ⟨a, vs, rfl, _⟩ := h; rfl
  | dK ks xs => obtain ⟨a, vs, rfl, _⟩ := h; rfl
  | dT ks xs => obtain ⟨a, vs, rfl, _⟩ := h; rfl
  | obj ks xs => obtain ⟨a, dx, vs, rfl, _⟩ := h; rfl
  | scr ns => obtain ⟨a, rfl, _⟩ := h; rfl
theorem pd_isN {j pos'} (ha : PE X a (tV P F0 H0 W fa)) : PC X .Is a (.Constant .none j pos') (tE P F0 H0 W (fun ρ => do let x ← fa ρ; .ok (.bl (isNone x)))) := ⟨fun pins s σ H Q I h => (pc_isN ha).run pins s σ H Q I (by
  obtain ⟨F, ρ, er, z⟩ := h
  refine ⟨F, ρ, er, (PostG.bind (rel := rVw P) z).imp ?_⟩
  rintro v H1 ⟨F1, d, g, i, q⟩
  have e : decide (v = .non) = isNone d := Vw.non i
  rw [e]
  exact q.here g.s is_bl)⟩
theorem pd_notN {j pos'} (ha : PE X a (tV P F0 H0 W fa)) : PC X .IsNot a (.Constant .none j pos') (tE P F0 H0 W (fun ρ => do let x ← fa ρ; .ok (.bl (!isNone x)))) := ⟨fun pins s σ H Q I h => (pc_notN ha).run pins s σ H Q I (by
  obtain ⟨F, ρ, er, z⟩ := h
  refine ⟨F, ρ, er, (PostG.bind (rel := rVw P) z).imp ?_⟩
  rintro v H1 ⟨F1, d, g, i, q⟩
  have e : decide (v = .non) = isNone d := Vw.non i
  rw [e]
  exact q.here g.s is_bl)⟩
/-! ### built-ins -/
theorem VwL.uncons {d : D} {ds : List D} {vs : List V} (h : VwL P F H (d :: ds) vs) : ∃ v r, vs = v :: r ∧ Vw P F H d v ∧ VwL P F H ds r := h
theorem VwL.unnil {vs : List V} (h : VwL P F H [] vs) : vs = [] := h
def cAbs : List D → Option D
  | [.int i] => some (.int (if i < 0 then -i else i))
  | _ => none
theorem ic_abs : CallR X (.builtin "abs") (rcO P cAbs) := fun pins s σ H xs us Q I rx ⟨F, ds, d, e, i, hd, q⟩ => by
  unfold cAbs at hd
  split at hd
  · cases hd
    obtain ⟨v, r, rfl, i1, i⟩ := i.uncons
    obtain rfl := i.unnil
    exact call_abs pins s σ H _ us Q I rx ⟨_, by rw [show v = V.int _ from i1], q.int e⟩
  · cases hd
def cInt : List D → Option D
  | [.int i] => some (.int i)
  | [.bl b] => some (.int (if b then 1 else 0))
  | _ => none
theorem ic_int : CallR X (.type "int") (rcO P cInt) := fun pins s σ H xs us Q I rx ⟨F, ds, d, e, i, hd, q⟩ => by
  unfold cInt at hd
  split at hd
  · cases hd
    obtain ⟨v, r, rfl, i1, i⟩ := i.uncons
    obtain rfl := i.unnil
    exact call_int1 pins s σ H _ us Q I rx (.inl ⟨_, by rw [show v = V.int _ from i1], q.int e⟩)
  · cases hd
    obtain ⟨v, r, rfl, i1, i⟩ := i.uncons
    obtain rfl := i.unnil
    exact call_int1 pins s σ H _ us Q I rx (.inr ⟨_, by rw [show v = V.bl _ from i1], q.int e⟩)
  · cases hd
def cLen : List D → Option D
  | [.lst xs] => some (.int (xs.length : Nat))
  | [.tup xs] => some (.int (xs.length : Nat))
  | [.str z] => if z.length ≤ 1000000 then some (.int (z.length : Nat)) else none
  | _ => none
theorem ic_len : CallR X (.builtin "len") (rcO P cLen) := fun pins s σ H xs us Q I rx ⟨F, ds, d, e, i, hd, q⟩ => by
  unfold cLen at hd
  split at hd
  · cases hd
    obtain ⟨v, r, rfl, i1, i⟩ := i.uncons
    obtain rfl := i.unnil
    obtain ⟨a, vs, rfl, h1, h2⟩ := i1
    exact call_len_seq pins s σ H _ us Q I rx ⟨a, vs, rfl, .inl (.inl h1), by rw [← h2.length]; exact q.int e⟩
  · cases hd
    obtain ⟨v, r, rfl, i1, i⟩ := i.uncons
    obtain rfl := i.unnil
    obtain ⟨a, vs, rfl, h0, h1, h2⟩ := i1
    exact call_len_seq pins s σ H _ us Q I rx ⟨a, vs, rfl, .inr (.inl h1), by rw [← h2.length]; exact q.int e⟩
  · split at hd
    · rename_i hl
      cases hd
      obtain ⟨v, r, rfl, i1, i⟩ := i.uncons
      obtain rfl := i.unnil
      exact call_len_str pins s σ H _ us Q I rx ⟨_, by rw [show v = V.str _ from i1], Nat.le_trans hl (by decide), q.int e⟩
    · cases hd
  · cases hd
/-- bools -/
def bls : List D → Option (List Bool)
  | [] => some []
  | .bl b :: r => (bls r).map fun bs => b :: bs
  | _ => none
theorem bls_of : ∀ {ds : List D} {bs : List Bool} {vs : List V}, bls ds = some bs → IsL P F ds vs → vs = bs.map V.bl
  | [], bs, vs, h, i => by
    cases h
    exact i.unnil
  | d :: r, bs, vs, h, i => by
    obtain ⟨v, r', rfl, i1, i2⟩ := i.uncons
    cases d with
    | bl b =>
      have h' : (bls r).map (fun bs => b :: bs) = some bs := h
      cases hr : bls r with
      | none => rw [hr] at h'; cases h'
      | some bs' =>
        rw [hr] at h'
        cases h'
        rw [un_bl i1, bls_of hr i2]
        rfl
    | _ => cases h
def cAny : List D → Option D
  | [.lst xs] => (bls xs).map fun bs => .bl (bs.any id)
  | _ => none
def cAll : List D → Option D
  | [.lst xs] => (bls xs).map fun bs => .bl (bs.all id)
  | _ => none
theorem ic_any (hc : X.calm = true) : CallR X (.builtin "any") (rcO P cAny) := fun pins s σ H xs us Q I rx ⟨F, ds, d, e, i, hd, q⟩ => by
  unfold cAny at hd
  split at hd
  · rename_i ys
    cases hb : bls ys with
    | none => rw [hb] at hd; cases hd
    | some bs =>
      rw [hb] at hd
      cases hd
      obtain ⟨v, r, rfl, i1, i⟩ := i.uncons
      obtain rfl := i.unnil
      obtain ⟨a, vs, rfl, h1, h2⟩ := i1
      exact cr_any hc pins s σ H _ us Q I rx ⟨a, bs, rfl, by rw [← bls_of hb h2]; exact .inl h1, q.bl e⟩
  · cases hd
theorem ic_all (hc : X.calm = true) : CallR X (.builtin "all") (rcO P cAll) := fun pins s σ H xs us Q I rx ⟨F, ds, d, e, i, hd, q⟩ => by
  unfold cAll at hd
  split at hd
  · rename_i ys
    cases hb : bls ys with
    | none => rw [hb] at hd; cases hd
    | some bs =>
      rw [hb] at hd
      cases hd
      obtain ⟨v, r, rfl, i1, i⟩ := i.uncons
      obtain rfl := i.unnil
      obtain ⟨a, vs, rfl, h1, h2⟩ := i1
      exact cr_all hc pins s σ H _ us Q I rx ⟨a, bs, rfl, by rw [← bls_of hb h2]; exact .inl h1, q.bl e⟩
  · cases hd
/-! ### isinstance -/
/-- what the text says of an own class, for isinstance -/
structure IsiC (K : PySem.W.Frag) (C : Addr) : Prop where
  cl : Cls K C
  ha : PySem.W.findIn K (.ref C) "__class__" = some (some (.builtin "object.__class__"))
  hn : PySem.W.specialIn K (.builtin "object.__class__") "__get__" = some (some (.builtin "getset_descriptor.__get__"))
  htk : PySem.W.takesIn K (.builtin "object.__class__") = some true
  hm : PySem.W.mroIn K C (.type "object") = some true
/-- the type of data -/
def tyD (P : Pm) : D → Value
  | .non => .type "NoneType"
  | .bl _ => .type "bool"
  | .int _ => .type "int"
  | .str _ => .type "str"
  | .lst _ => .type "list"
  | .tup _ => .type "tuple"
  | .dK _ _ => .type "dict"
  | .dT _ _ => .type "dict"
  | .obj c _ => .ref (P.C c)
  | .scr _ => .type "list"
theorem Vw.ty {K : PySem.W.Frag} (hI : ∀ c, IsiC K (P.C c)) {d : D} {v : V} (h : Vw P F H d v) (hs : ∀ ns, d ≠ .scr ns) (hT : ∀ ks xs, d ≠ .dT ks xs) : TyX K H v (tyD P d) := by
  cases d with
  | non => rw [show v = .non from h]; exact .base .non
  | bl b => rw [show v = .bl b from h]; exact .base (.bl b)
  | int b => rw [show v = .int b from h]; exact .base (.int b)
  | str b => rw [show v = .str b from h]; exact .base (.str b)
  | lst xs =>
    obtain ⟨a, vs, rfl, h1 | ⟨o, h1⟩, _⟩ := h
    · exact .base (.lst h1)
    · exact .base (.frz h1)
  | tup xs =>
    obtain ⟨a, vs, rfl, _, h1 | ⟨o, h1⟩, _⟩ := h
    · exact .base (.tup h1)
    · exact .fTuple h1
  | dK ks xs =>
    obtain ⟨a, vs, rfl, h1 | ⟨o, h1⟩, _⟩ := h
    · exact .base (.dK h1)
    · exact .fDict h1
  | dT ks xs => exact absurd rfl (hT ks xs)
  | obj c xs =>
    obtain ⟨a, dx, vs, rfl, h1, _⟩ := h
    exact .base (.ins h1 (hI c).cl (hI c).ha (hI c).hn (hI c).htk (hI c).hm)
  | scr ns => exact absurd rfl (hs ns)
end
end DL
namespace PySem
namespace ErrX
open PySem.W PySem.Calls PyProof.Rows PySem.HandSPX
/-! ### an own error over ListError over ValueError: super().__init__('..'); self.f = v -/
abbrev iArgs (f : Str) (p1 p2 : Pos) : Arguments := { posonlyargs := [], args := [{ arg := "self", annotation := none, pos := p1 }, { arg := f, annotation := none, pos := p2 }], vararg := none, kwonlyargs := [], kw_defaults := [], kwarg := none, defaults := [] }
abbrev iSuper (msg : Str) (j : Nat) (q0 q1 q2 q3 q4 q5 : Pos) : Stmt := .Expr (.Call (.Attribute (.Call (.Name "super" q0) [] [] q1) "__init__" q2) [.Constant (.str msg) j q3] [] q4) q5
abbrev iSet (f : Str) (r1 r2 r3 r4 : Pos) : Stmt := .Assign [.Attribute (.Name "self" r1) f r2] (.Name f r3) r4
abbrev iSc (f : Str) : Scope := { kind := .function, names := [(PySem.Str.ofString "self", .local), (f, .local), (PySem.Str.ofString "__class__", .free), (PySem.Str.ofString "super", .globalImplicit)], isGenerator := false, isCoroutine := false, more := [] }
/-- what the text of __init__ shows by itself (rfl, each) -/
structure ErrEv (fd : FuncData) (fI : Addr) (f msg : Str) (j : Nat) (q0 q1 q2 q3 q4 q5 r1 r2 r3 r4 : Pos) : Prop where
  he : ∃ pl : Sem Bool, ∀ L : Addr, eval (.Call (.Attribute (.Call (.Name "super" q0) [] [] q1) "__init__" q2) [.Constant (.str msg) j q3] [] q4) (callEnv fd L fI) = (do
      let ov ← attributeBase (.Call (.Name "super" q0) [] [] q1) "__init__" (callEnv fd L fI) (eval (.Call (.Name "super" q0) [] [] q1) (callEnv fd L fI))
      standAt q2.atName
      let (f, first) ← holding [ov] (getMethod ov "__init__" pl)
      callWith q4 f first (backTo q4 (starEach [.Constant (.str msg) j q3] (callEnv fd L fI))) [])
  hi : ∀ L : Addr, interactive (callEnv fd L fI) = false
  hs : ∀ L : Addr, swapsWith (.Call (.Attribute (.Call (.Name "super" q0) [] [] q1) "__init__" q2) [.Constant (.str msg) j q3] [] q4) none q5.line (callEnv fd L fI) = pure false
  hs2 : ∀ L : Addr, swapsWith (.Name f r3) (some (.Attribute (.Name "self" r1) f r2)) r4.line (callEnv fd L fI) = pure false
  st : ∀ L : Addr, starEach [.Constant (.str msg) j q3] (callEnv fd L fI) = (false, eval (.Constant (.str msg) j q3) (callEnv fd L fI)) :: starEach [] (callEnv fd L fI)
  bind : ∀ u v : Value, bindArgs fd ⟨[u, v], []⟩ = pure [(("self" : Str), u), (f, v)]
/-- what the text says of such a class at C: f its field, msg its message, x its name -/
structure ErrTxt (prog : Program) (K : Frag) (mg : Str → Option Value) (x f : Str) (C fI : Addr) : Prop where
  gC : mg x = some (.ref C)
  cls : ∃ nm q N bs bm sn sub ab col dd k0 k1 k2 k3 k5, K.lookup C = some (excClassObj nm q C N bs bm true sn sub ab col dd k0 k1 k2 k3 k5 "ValueError.__new__") ∧ refsVE bm = true
  sa : findIn K (.ref C) "__setattr__" = some (some (.builtin "object.__setattr__"))
  ga : findIn K (.ref C) "__getattribute__" = some (some (.builtin "BaseException.__getattribute__"))
  gg : findIn K (.ref C) "__getattr__" = some none
  noN : findIn K (.ref C) f = some none
  iC : findIn K (.ref C) "__init__" = some (some (.ref fI))
  tC : typeIn K (.ref fI) = some (.type "function")
  kC : keepIn K (.ref C) = true
  exC : subIn K (.ref C) (.type "BaseException") = some true
  veC : subIn K (.ref C) (.type "ValueError") = some true
  tyC : typeIn K (.ref C) = some (.type "type")
  hdC : hasDictIn K C = true
  mro : mroIn K C (.ref C) = some true
  sup : ks_superIn K C C "__init__" = some (some (.builtin "ValueError.__init__"))
  opq : nsIn K cStatics "thirdparty.any" = some none
  hsup : mg "super" = none
  htop : (prog.main.scope.names.lookup ("super" : Str)).isSome = false
  fn : ∃ (oc : Value) (od : Option Addr) (q msg : Str) (j : Nat) (doc pm : Value) (an : Option Addr) (ct : Value) (osl : Array (Option Value)) (cc cda : Addr) (p1 p2 q0 q1 q2 q3 q4 q5 r1 r2 r3 r4 : Pos) (ccl cl : Value) (cdd cld : Option Addr) (vs : Array Value) (ccs csl : Array (Option Value)) (file : Str) (tf : Tok),
    K.lookup fI = some ⟨oc, od, .func (ksFn "__init__" q (iArgs f p1 p2) [iSuper msg j q0 q1 q2 q3 q4 q5, iSet f r1 r2 r3 r4] (iSc f) .none .none doc pm an (.ref cda) ct cc), osl⟩ ∧ codeIn K (.ref cda) q = true ∧
    K.lookup cda = some ⟨ccl, cdd, .fields vs, ccs⟩ ∧ vs[2]? = some (.str file tf) ∧ ((prog.main.file : Str) == file) = true ∧ K.lookup cc = some ⟨cl, cld, .cell (some (.ref C)), csl⟩ ∧
    ErrEv (ksFn "__init__" q (iArgs f p1 p2) [iSuper msg j q0 q1 q2 q3 q4 q5, iSet f r1 r2 r3 r4] (iSc f) .none .none doc pm an (.ref cda) ct cc) fI f msg j q0 q1 q2 q3 q4 q5 r1 r2 r3 r4
/-- what __init__ leaves of a fresh exception at x -/
structure InitEnd (h h' : Heap) (x C dx t1 : Addr) (f : Str) (v : Value) : Prop where
  keep : ∀ b o, b ≠ x → h.get? b = some o → h'.get? b = some o
  obj : h'.get? x = some { cls := .ref C, dict := some dx, data := .fields #[.ref t1, .none, .none, .none, .bool false, .none] }
  dbig : h.objs.size ≤ dx
  dne : dx ≠ x
  ns : h'.Ns1 dx (fun y => if y = f then some v else none)
/-- a made error -/
structure OwnMade (h h' : Heap) (e C d : Addr) (f : Str) (v : Value) : Prop where
  keep : ∀ b o, h.get? b = some o → h'.get? b = some o
  new : h.objs.size ≤ e
  obj : ∃ oe vs, h'.get? e = some oe ∧ oe.cls = .ref C ∧ oe.dict = some d ∧ oe.data = .fields vs ∧ vs[1]? = some .none
  dbig : h.objs.size ≤ d
  dne : d ≠ e
  ns : h'.Ns1 d (fun y => if y = f then some v else none)
section
variable {prog : Program} {w : World} {A : Around} {E : Value → Shared → Prop} {h : Heap} {g : Array GenState} {d : Drawn} {t : Nat} {os : OsState}
variable {nm q : Str} {C N : Addr} {bs bm : List Value} {hdct : Bool} {sn : List Str} {sub : List Value} {ab : Bool} {col : Option Bool} {dd : Option Addr} {k0 k1 k2 k3 k5 : Option Value}
/-- the bound ValueError.__init__ is called -/
theorem call_mw {u e t0 : Addr} {rest : List Value} {Q : Value → Shared → Prop}
    (hC : h.get? C = some (excClassObj nm q C N bs bm hdct sn sub ab col dd k0 k1 k2 k3 k5 "ValueError.__new__")) (he : h.get? e = some (excO C t0)) (hu : h.get? u = some (kxs_mw "ValueError.__init__" e)) (hrest : rest.length ≤ sizeLine)
    (hq : ∀ h' t1, (∀ b o, b ≠ e → h.get? b = some o → h'.get? b = some o) → h'.get? e = some (excO C t1) → Q .none ⟨h', g, d, t, os⟩) :
    wpAny (model prog w) A (call (.ref u) rest) Q E ⟨h, g, d, t, os⟩ := by
  refine wpAny_call (codeAny_of_tree ?_)
  show wpAny _ A.in1 (callAny (.ref u) ⟨rest, []⟩) _ _ _
  simp only [callAny]
  refine wpAny_bind (wpAny_load hu ?_)
  simp only [kxs_mw, show (Value.type "method-wrapper" == Value.type "method" || Value.type "method-wrapper" == Value.type "builtin_function_or_method" || Value.type "method-wrapper" == Value.type "method-wrapper") = true by decide, if_true]
  refine W.KFB.if_so (by decide) ?_
  refine wpAny_bind (PySem.W.check_bound_init F.excBase_ValueError.toExcCallFacts hC he rfl ?_)
  refine wpAny_bind (wpAny_pure (wpAny_pure ?_))
  refine ⟨Code.quiet_builtin _ (by decide +kernel), codeAny_builtin F.excBase_ValueError.initEntry ?_⟩
  rw [Around.under_plainId F.excBase_ValueError.init.plain _]
  wp_walk
  refine hq _ h.objs.size (fun b o hb ho => ?_) ?_
  · rw [Heap.get?_update_other _ _ (Ne.symm hb)]
    exact Heap.get?_push_of_some _ ho
  · rw [Heap.get?_update_self _ (Heap.get?_push_of_some _ he) rfl]
    rfl
end
section
variable {prog : Program} {w : World} {A : Around} {E : Value → Shared → Prop} {R : Result → Shared → Prop} {s : Shared} {K : Frag} {mg mb : Str → Option Value} {C fI : Addr} {xn f : Str}
theorem at_of {M : Model} {c : Code} {α : Type} {t : Sem α} {Q : α → Shared → Prop} (h : wpAny M A t Q E s) : _root_.PySem.wpAt M A c t Q E s := fun Γ p _ hΓ => h Γ p hΓ
theorem err_init (T : ErrTxt prog K mg xn f C fI) (hfs : ¬ f = "self") (hfc : ¬ f = "__class__") (hfp : ¬ f = "super") (hfd : (f == ("__debug__" : Str)) = false) {x t0 : Addr} {v : Value} (X : K.In s.heap) (G : s.heap.Ns mainGlobals mg) (GB : s.heap.Ns builtinsNs mb) (hmb : mb "super" = some (.type "super")) (hlim : s.heap.NoLimit) (hx : s.heap.get? x = some (excO C t0)) (hnx : K.lookup x = none) (hroom : A.depth < recursionLimit)
    (hq : ∀ h' tk dx t1, InitEnd s.heap h' x C dx t1 f v → R (.ok (.ret .none)) { s with heap := h', toks := tk }) :
    codeAny (model prog w) A (.call (.ref fI) ⟨[.ref x, v], []⟩) R s := by
  obtain ⟨oc, od, q, msg, j, doc, pm, an, ct, osl, cc, cda, p1, p2, q0, q1, q2, q3, q4, q5, r1, r2, r3, r4, ccl, cl, cdd, cld, vs, ccs, csl, file, tf, ho, hcd, hcode, hvs, hfile, hcell, hev⟩ := T.fn
  obtain ⟨nm, qq, N, bs, bm, sn, sub, ab, col, dd, k0, k1, k2, k3, k5, hC, hbm⟩ := T.cls
  have hcl : clsIn K C = some { name := nm, bases := bs, mro := .ref C :: bm, ns := N, qualname := qq, hasDict := true, slotNames := sn, subclasses := sub, abstract := ab, collection := col, hasDel := false } := by unfold clsIn; rw [hC] <;> rfl
  have l1 : (iSc f).names.lookup ("self" : Str) = some .local := by simp [iSc, List.lookup]
  have hfs' : (f == ("self" : Str)) = false := beq_eq_false_iff_ne.mpr hfs
  have hfc' : (("__class__" : Str) == f) = false := beq_eq_false_iff_ne.mpr (Ne.symm hfc)
  have hfp' : (("super" : Str) == f) = false := beq_eq_false_iff_ne.mpr (Ne.symm hfp)
  have l2 : (iSc f).names.lookup f = some .local := by simp [iSc, List.lookup, hfs']
  have c1 : (("__class__" : Str) == ("self" : Str)) = false := by decide
  have c2 : (("super" : Str) == ("self" : Str)) = false := by decide
  have c3 : (("super" : Str) == ("__class__" : Str)) = false := by decide
  have l3 : (iSc f).names.lookup ("__class__" : Str) = some .free := by simp [iSc, List.lookup, c1, hfc']
  have l4 : (iSc f).names.lookup ("super" : Str) = some .globalImplicit := by simp [iSc, List.lookup, c2, c3, hfp']
  refine ks_codeAny_call_defAt (fd := ksFn "__init__" q (iArgs f p1 p2) [iSuper msg j q0 q1 q2 q3 q4 q5, iSet f r1 r2 r3 r4] (iSc f) .none .none doc pm an (.ref cda) ct cc) (body := [iSuper msg j q0 q1 q2 q3 q4 q5, iSet f r1 r2 r3 r4]) (binds := [("self", .ref x), (f, v)]) hroom (X _ _ ho) rfl hlim (codeRec_of X hcd) rfl (BindsTo.of_eq (hev.bind _ _)) ?_ ?_ (fun h₁ hns hk₁ => ?_)
  · intro y hy
    have hy' : y ∈ (iSc f).names := hy
    simp only [iSc, List.mem_cons, List.not_mem_nil, or_false] at hy'
    rcases hy' with rfl | rfl | rfl | rfl <;> (intro z; cases z)
  · intro y hy
    simp only [List.mem_cons, List.not_mem_nil, or_false] at hy
    rcases hy with rfl | rfl
    · exact l1
    · exact l2
  · have nself : (fun y => [(("self" : Str), Value.ref x), (f, v)].reverse.lookup y) "self" = some (.ref x) := by
      have : (("self" : Str) == f) = false := beq_eq_false_iff_ne.mpr (Ne.symm hfs)
      simp [List.lookup, this]
    have nf : (fun y => [(("self" : Str), Value.ref x), (f, v)].reverse.lookup y) f = some v := by simp [List.lookup]
    generalize hm : (fun y => [(("self" : Str), Value.ref x), (f, v)].reverse.lookup y) = m at hns nself nf
    have X₁ : K.In h₁ := X.keeps hk₁
    have hx₁ := hk₁ _ _ hx
    have hxL : s.heap.objs.size ≠ x := Nat.ne_of_gt (Heap.lt_size hx)
    obtain ⟨hp, gn, dr, tk, os⟩ := s
    -- super().__init__('..')
    obtain ⟨pl, he⟩ := hev.he
    refine ks_wpAt_execs_cons (ks_wpAt_Expr_any (ks_wpAt_MethodCall (pl := pl) ?_ (he _)) (hev.hi _) (hev.hs _))
    · refine ks_wpAt_super_base (f := fI) (cc := cda) l4 l3 (by decide) rfl (X₁ _ _ ho) rfl rfl rfl (X₁ _ _ hcode) rfl hvs hfile T.htop ?_
      refine ks_loadName_global rfl l4 (loadGlobal_builtin (G.keeps hk₁) T.hsup (GB.keeps hk₁) hmb ⟨rfl, ?_⟩)
      refine wpAny_loadName_free rfl l3 rfl ⟨_, X₁ _ _ hcell, rfl⟩ ?_
      refine wpAny_loadName_local rfl l1 hns nself ?_
      refine ks_wpAny_isType_cls (X₁ _ _ hC) rfl ⟨rfl, ?_⟩
      refine ks_wpAny_call_super (X₁ _ _ hC) rfl hx₁ rfl (fun c e => by cases e) (looks_mroIn X₁ T.mro) (fun h₂ e2 k₂ => ?_)
      have X₂ : K.In h₂ := X₁.keeps k₂
      have hx₂ := k₂ _ _ hx₁
      have I₂ : InstAt h₂ x (excO C t0) C none := ⟨hx₂, rfl, rfl, trivial⟩
      have hI : Looks (model prog w) h₂ (isInstance (.ref x) (.type "ValueError")) true := I₂.type.andThen (looks_subIn X₂ T.veC)
      have hm2 := T.sup
      unfold ks_superIn at hm2
      rw [hcl] at hm2
      refine kxs_getMethod kxs_ValueError e2 (looks_opaque X₂ T.opq) (l₀ := .ref C :: bm) ?_ rfl X₂ hm2 hI (ks_ne X₂ I₂ hcl) (by decide) ?_
      · exact fun A Q E s k q => wpAny_bind ((looks_clsIn X₂ hcl) A _ E s k (wpAny_pure q))
      show wpAny _ _ (callWith q4 (.ref h₂.objs.size) [] _ []) _ _ _
      refine kxs_callWith (i := "ValueError.__init__") (x := x) (u := h₂.objs.size) ?_ ?_
      · rw [hev.st]
        rfl
      · rw [hev.st]
        refine evalArgs_plain ?_
        refine Calls.spliced_cons (wpAny_Constant_str (x := msg) (k := j) (pos := q3) (Calls.spliced_nil ?_))
        refine ⟨Heap.get?_push_at rfl rfl, ?_⟩
        have kP : ∀ b o, h₂.get? b = some o → (h₂.push (kxs_mw "ValueError.__init__" x)).get? b = some o := fun b o e => Heap.get?_push_of_some _ e
        refine call_mw (t0 := t0) (kP _ _ (X₂ _ _ hC)) (kP _ _ hx₂) (Heap.get?_push_at rfl rfl) (by show 1 ≤ sizeLine; decide) fun h₃ t1 k₃ hx₃ => ?_
        show _root_.PySem.wpAt _ _ _ (execs _ _) _ _ _
        -- self.f = v
        have keep0 : ∀ b o, b ≠ x → hp.get? b = some o → h₃.get? b = some o := fun b o hb e => k₃ b o hb (kP _ _ (k₂ _ _ (hk₁ _ _ e)))
        have keep1 : ∀ b o, b ≠ x → h₁.get? b = some o → h₃.get? b = some o := fun b o hb e => k₃ b o hb (kP _ _ (k₂ _ _ e))
        have X₃ : K.In h₃ := fun a o e => k₃ a o (fun z => by rw [z, hnx] at e; cases e) (kP _ _ (X₂ a o e))
        have hns₃ : h₃.Ns hp.objs.size m := by
          obtain ⟨oL, es, ep, hL, r⟩ := hns
          exact ⟨oL, es, ep, keep1 _ _ hxL hL, r⟩
        refine ks_wpAt_execs_cons (ks_wpAt_Assign_Attr (at_of ?_) (hev.hs2 _))
        refine wpAny_Name (wpAny_loadName_local rfl l2 hns₃ nf ?_) hfd
        refine wpAny_Name (wpAny_loadName_local rfl l1 hns₃ nself ?_) (by decide)
        refine set_plain X₃ (ox := excO C t1) (od := none) ⟨hx₃, rfl, rfl, trivial⟩ T.sa ?_
        refine exc_osa X₃ hx₃ hcl (show refsVE (.ref C :: bm) = true from hbm) rfl T.noN (fun h₄ tk₄ dx k₄ dn dne hx₄ hn₄ => ?_)
        show _root_.PySem.wpAt _ _ _ (execs _ _) _ _ _
        refine at_of (wpAny_execs_nil ?_)
        refine hq h₄ tk₄ dx t1 ⟨fun b o hb e => k₄ b o hb (keep0 b o hb e), hx₄, ?_, dne, hn₄⟩
        have z1 : hp.objs.size < h₃.objs.size := hns₃.lt
        exact Nat.le_of_lt (Nat.lt_of_lt_of_le z1 dn)
end
end ErrX
end PySem
namespace PySem
namespace ErrX
open PySem.W PySem.Calls PyProof.Rows PySem.HandSPX
section
variable {prog : Program} {w : World} {A : Around} {E : Value → Shared → Prop} {R : Result → Shared → Prop} {s : Shared} {K : Frag} {mg mb : Str → Option Value} {C fI : Addr} {xn f : Str}
/-- f is a plain name -/
structure FldOk (f : Str) : Prop where
  ns : ¬ f = "self"
  nc : ¬ f = "__class__"
  np : ¬ f = "super"
  nd : (f == ("__debug__" : Str)) = false
theorem err_made (T : ErrTxt prog K mg xn f C fI) (hf : FldOk f) {v : Value} (X : K.In s.heap) (G : s.heap.Ns mainGlobals mg) (GB : s.heap.Ns builtinsNs mb) (hmb : mb "super" = some (.type "super")) (hlim : s.heap.NoLimit) (hroom : A.depth + 1 < recursionLimit)
    (hq : ∀ h' tk e d, OwnMade s.heap h' e C d f v → R (.ok (.ret (.ref e))) { s with heap := h', toks := tk }) :
    codeAny (model prog w) A (.call (.ref C) ⟨[v], []⟩) R s := by
  obtain ⟨nm, qq, N, bs, bm, sn, sub, ab, col, dd, k0, k1, k2, k3, k5, hC, hbm⟩ := T.cls
  obtain ⟨hp, gn, dr, tk, os⟩ := s
  have kq : ∀ b o, hp.get? b = some o → ((hp.push (kdv_tup [v])).push (excO C hp.objs.size)).get? b = some o := fun b o e => Heap.get?_push_of_some _ (Heap.get?_push_of_some _ e)
  have hg2 : ((hp.push (kdv_tup [v])).push (excO C hp.objs.size)).get? (hp.objs.size + 1) = some (excO C hp.objs.size) := by heap_get
  have hnx : K.lookup (hp.objs.size + 1) = none := by
    cases e : K.lookup (hp.objs.size + 1) with
    | none => rfl
    | some o =>
      have z : hp.get? (hp.objs.size + 1) = some o := X _ _ e
      exact absurd (Nat.lt_of_succ_lt (Heap.lt_size z)) (Nat.lt_irrefl _)
  have h1 : [v].length ≤ sizeLine := by show 1 ≤ sizeLine; decide
  refine call_own F.excBase_ValueError (fun Z => refsVE_contains Z bm hbm) (X _ _ hC) (looks_findIn X T.iC) (fun self => bind_fn X self T.tC) h1 ?_
  refine err_init (s := ⟨(hp.push (kdv_tup [v])).push (excO C hp.objs.size), gn, dr, tk, os⟩) T hf.ns hf.nc hf.np hf.nd (X.keeps kq) (G.keeps kq) (GB.keeps kq) hmb (hlim.keeps kq) hg2 hnx ?_ fun h' tk' dx t1 ⟨k', hx, dn, dne, hns⟩ => ?_
  · show A.depth + 1 < recursionLimit
    exact hroom
  · have old : ∀ b o, hp.get? b = some o → h'.get? b = some o := fun b o e => k' b o (Nat.ne_of_lt (Nat.lt_succ_of_lt (Heap.lt_size e))) (kq b o e)
    have z : hp.objs.size + 1 + 1 ≤ dx := by
      first
        | (simpa only [Heap.size_push] using dn)
        | exact dn
        | (have q := dn; rw [Heap.size_push, Heap.size_push] at q; exact q)
    exact ⟨rfl, hq h' tk' (hp.objs.size + 1) dx ⟨old, Nat.le_succ _, ⟨_, _, hx, rfl, rfl, rfl, rfl⟩, Nat.le_trans (Nat.le_trans (Nat.le_succ _) (Nat.le_succ _)) z, dne, hns⟩⟩
end
end ErrX
end PySem
namespace DL
open PySem L2 PySem.ErrX
theorem relO_one {v : V} {v' : Value} {f : Str} (r : RelV v v') (y : Str) : RelO (List.lookup y [(f, v)]) (if y = f then some v' else none) := by
  by_cases hw : y = f
  · subst hw
    rw [if_pos rfl, show List.lookup y [(y, v)] = some v by simp [List.lookup]]
    exact r
  · have qw : (y == f) = false := by simpa using hw
    rw [if_neg hw, show List.lookup y [(f, v)] = none by simp [List.lookup, qw]]
    trivial
section
variable {X : Cx} {C fI : Addr} {xn f : Str}
/-- an own error made of one value -/
def tMkE (C : Addr) (f : Str) (ta : TA) : L2.St → Hp → XK → Prop := fun σ H Q => ta σ H fun vs H1 => ∃ v, vs = [v] ∧ ∀ d, H1 d = none → Q (.ref C) (some d) (upd H1 d (.xd [(f, v)]))
theorem pmk_err {a : Expr} {ta : TA} {p pos : Pos} {k : Nat} (T : ErrTxt X.prog X.K X.mg xn f C fI) (hfo : FldOk f) (hr : Room k X.A) (ha : PA X [a] ta) (hg : Gl X xn) (hdb : (xn == ("__debug__" : Str)) = false)
    (he : starEach (a :: []) X.env = (false, eval a X.env) :: starEach [] X.env := by rfl) (hpl : (backTo pos (starEach [] X.env)).any (·.1) = false := by rfl) :
    PMk X (.Call (.Name xn p) [a] [] pos) (tMkE C f ta) := by
  intro pins s σ H Q I h
  refine wpAny_Call_Name_kw (ld_glob I hg T.gC ?_ hdb)
  refine PySem.W.callWith_K (h₀ := X.base) I.ok.mod.kin T.kC (thn (ha.run pos pins s σ H _ I h) fun us s1 hh => ?_) he hpl
  obtain ⟨vs, H1, I1, r1, v, ev, q1⟩ := hh
  subst ev
  refine ⟨I1.kIn, ?_⟩
  cases r1 with
  | cons rv rn =>
    rename_i v' us'
    cases rn
    show wpAny _ _ (call (.ref C) [v']) _ _ _
    have hlim := I1.nolimit
    obtain ⟨mb, hmb1, hmb2⟩ := I1.ok.mod.blt
    have G1 := I1.ok.mod.glob.keeps I1.bk
    have G2 := hmb1.keeps I1.bk
    obtain ⟨hp, g, dr, tk, os⟩ := s1
    refine wpAny_call (err_made T hfo I1.kIn G1 G2 ((hmb2 "super" (by decide)).trans (by decide +kernel)) hlim (by have := hr.dp; omega) fun h' tk' e d M => ?_)
    show MkP X pins σ Q (.ref e) ⟨h', g, dr, tk', os⟩
    obtain ⟨oe, fv, hoe, hc, hd, hdat, h1⟩ := M.obj
    obtain ⟨G', g1, g2⟩ := restrict h' fun b => decide (b ≠ e)
    have gk : ∀ b, b ≠ e → G'.get? b = h'.get? b := fun b hb => g1 b (decide_eq_true hb)
    have ge : G'.get? e = none := g2 e (by simp)
    have old : ∀ b o, hp.get? b = some o → G'.get? b = some o := fun b o q => (gk b (Nat.ne_of_lt (Nat.lt_of_lt_of_le (Heap.lt_size q) M.new))).trans (M.keep b o q)
    have ob : ObjOk X.prog X.w (upd H1 d (.xd [(f, v)])) G' d (.xd [(f, v)]) := ⟨_, M.ns.at (fun o q => (gk d M.dne).trans q), fun y => relO_one rv y⟩
    have J : Inv X pins σ (upd H1 d (.xd [(f, v)])) ⟨G', g, dr, tk', os⟩ := I1.laid (t' := tk') old M.dbig ob
    refine ⟨e, oe, fv, ⟨G', g, dr, tk', os⟩, _, .ref C, some d, rfl, J, fun b o q => ?_, ge, hoe, ⟨hc, hd⟩, hdat, h1, ?_, rfl, I1.bare, raises_own T.exC T.tyC, q1 d (I1.hok.fresh M.dbig)⟩
    · by_cases hb : b = e
      · have q' : G'.get? b = some o := q
        rw [hb, ge] at q'
        cases q'
      · exact (gk b hb).symm.trans q
    · rw [upd_ne (Ne.symm M.dne)]
      exact I1.hok.fresh M.new
/-- e.f of the error that the suite holds -/
def tFE (C : Addr) (f : Str) (a : Addr) (cls : Value) (d : Option Addr) (te : TE) : TE := fun σ H Q => te σ H fun x H1 => x = .ref a ∧ cls = .ref C ∧ ∃ (dd : Addr) (v : V), d = some dd ∧ H1 dd = some (.xd [(f, v)]) ∧ Q v H1
theorem pe_fe {a : Addr} {oe : Obj} {cls : Value} {d : Option Addr} {pn : List (Addr × Obj)} {e : Expr} {te : TE} {pos : Pos} (T : ErrTxt X.prog X.K X.mg xn f C fI) (hz : Zc cls d oe) (hf : ∃ vs, oe.data = .fields vs) (he : PE (X.suite a ((a, oe) :: pn)) e te)
    (hb : attributeBase e f X.env (eval e X.env) = eval e X.env := by rfl) : PE (X.suite a ((a, oe) :: pn)) (.Attribute e f pos) (tFE C f a cls d te) := by
  refine ⟨fun pins s σ H Q I h => ?_⟩
  refine attr_of hb (thn (he.run pins s σ H _ I h) fun u s1 hh => ?_)
  obtain ⟨x, H1, I1, rx, ex, ec, dd, v, ed, ea, q⟩ := hh
  subst ex
  obtain rfl : u = Value.ref a := rx
  subst ec
  subst ed
  obtain ⟨ha, _⟩ := I1.pin (a, oe) (List.mem_append_left _ List.mem_cons_self)
  obtain ⟨vs, hd⟩ := hf
  obtain ⟨mA, hns, hr⟩ := (I1.hok dd _ ea : ObjOk X.prog X.w H1 s1.heap dd (.xd [(f, v)]))
  obtain ⟨od, ho, hl⟩ := lookIn_ns hns
  obtain ⟨u, hu, ru⟩ := RelO.some_of (v := v) (o := mA f) (by rw [← (show List.lookup f [(f, v)] = some v by simp [List.lookup])]; exact hr f)
  have J : PySem.W.InstAt s1.heap a oe C (some od) := ⟨ha, hz.1, by unfold PySem.W.notCls; rw [hd] <;> rfl, by rw [hz.2]; exact ho⟩
  exact HandSPX.exc_get I1.kIn J T.ga T.gg T.exC (PySem.W.findObj_own T.hdC T.noN rfl (by rw [hl, hu])) (handed_of ru) ⟨v, H1, I1.tok _, ru, q⟩
end
end DL
namespace DL
open PySem L2 PySem.ErrX
section
variable {X : Cx} {P : Pm} {F0 : Fz} {H0 : Hp} {W : WX} {a b c e o : Expr} {es : List Expr} {fa fb fc : Env → Res D} {fs : Env → Res (List D)} {pos p apos : Pos} {st : Stmt} {sts tts : List Stmt} {g g1 g2 : Env → RS}
/-- code that is never come to -/
theorem sd_never : PS X st (tS P F0 H0 W (fun _ => .bad)) := ps_never.imp fun N σ H ⟨F, ρ, er, z⟩ => z
/-- raise Own(e) -/
theorem sd_raise {cn : Nat} {xn f : Str} {C fI : Addr} {k : Nat} {pos2 : Pos} (hc : X.calm = true) (tk : Takes X W) (T : ErrTxt X.prog X.K X.mg xn f C fI) (hxc : P.xc cn = .ref C) (hxf : P.xf cn = f) (hfo : FldOk f) (hr : Room k X.A) (ha : PE X a (tE P F0 H0 W fa)) (hg : Gl X xn) (hdb : (xn == ("__debug__" : Str)) = false)
    (he : starEach (a :: []) X.env = (false, eval a X.env) :: starEach [] X.env := by rfl) (hpl : (backTo pos (starEach [] X.env)).any (·.1) = false := by rfl) :
    PS X (.Raise (some (.Call (.Name xn p) [a] [] pos)) none pos2) (tS P F0 H0 W (fun ρ => bindS (fa ρ) ρ fun d => .err cn (some d) ρ)) :=
  (ps_raise hc tk (pmk_err T hfo hr (pa_cons ha pa_nil he) hg hdb he hpl)).imp fun N σ H ⟨F, ρ, er, z⟩ => by
  refine ⟨F, ρ, er, (PostS.bind (rel := rIs P) er z).imp ?_⟩
  rintro v H1 ⟨F1, d, g, i, q⟩
  refine ⟨v, rfl, fun dct hd => ?_⟩
  have er1 := (er.grow g).grow (Grow.junk g.s (.new hd) : Grow P F1 H1 F1 (upd H1 dct (.xd [(f, v)])))
  have := q σ F1 _ (some dct) er1 (.refl F1) ⟨dct, v, rfl, by rw [hxf]; exact upd_same, i⟩
  rw [hxc] at this
  exact this
/-! ### try: body, except X as n: return e -/
def tryD (gb : Env → RS) (c : Nat) (gs : Option D → Env → Res D) : Env → RS := fun ρ => match gb ρ with
  | .err c' p ρ' => if c' = c then bindS (gs p ρ') ρ' .rt else .bad
  | r => r
/-- an expression of a suite that holds the error number c -/
def tX (P : Pm) (F0 : Fz) (H0 : Hp) (c i : Nat) (a : Addr) (cls : Value) (x : Option Addr) (fx : Option D → Env → Res D) : TE := fun σ H Q => ∃ F ρ p, ER P F0 H0 F ρ σ H ∧ σ[i]? = some (some (.ref a)) ∧ cls = P.xc c ∧ ErrAt P F H c p x ∧ PostG P W0 (rIs P) (fx p ρ) F σ H Q
theorem ER.drop {F H : Hp} {ρ : Env} {σ : L2.St} (r : ER P F0 H0 F ρ σ H) (i : Nat) (v : Option V) (h0 : F0.S = none ∨ i ≠ 0) : ER P F0 H0 F (ρ.set i none) (σ.set i v) H where
  g := r.g
  self := fun x hx => by
    rcases h0 with q | q
    · rw [q] at hx
      cases hx
    · rw [List.getElem?_set_ne q]
      exact r.self x hx
  len := by simp [r.len]
  sh := fun j d q => by
    by_cases hj : i = j
    · subst hj
      have hl : i < ρ.length := by simpa using lt_of_get q
      rw [get_set_self hl] at q
      cases q
    · rw [List.getElem?_set_ne hj] at q ⊢
      exact r.sh j d q
  bw := fun j d q => by
    by_cases hj : i = j
    · subst hj
      have hl : i < ρ.length := by simpa using lt_of_get q
      rw [get_set_self hl] at q
      cases q
    · rw [List.getElem?_set_ne hj] at q ⊢
      exact r.bw j d q
  ow := fun j d q => by
    by_cases hj : i = j
    · subst hj
      have hl : i < ρ.length := by simpa using lt_of_get q
      rw [get_set_self hl] at q
      cases q
    · rw [List.getElem?_set_ne hj] at q ⊢
      exact r.ow j d q
  nd := fun j k d e a q1 q2 q3 q4 => by
    by_cases hj : i = j
    · subst hj
      have hl : i < ρ.length := by simpa using lt_of_get q1
      rw [get_set_self hl] at q1
      cases q1
    · by_cases hk : i = k
      · subst hk
        have hl : i < ρ.length := by simpa using lt_of_get q2
        rw [get_set_self hl] at q2
        cases q2
      · rw [List.getElem?_set_ne hj] at q1 q3
        rw [List.getElem?_set_ne hk] at q2 q4
        exact r.nd j k d e a q1 q2 q3 q4
theorem tryD_err {gb : Env → RS} {cn : Nat} {gs : Option D → Env → Res D} {ρ ρ' : Env} {c' : Nat} {p : Option D} (h : gb ρ = .err c' p ρ') : tryD gb cn gs ρ = if c' = cn then bindS (gs p ρ') ρ' .rt else .bad := by
  unfold tryD
  rw [h]
section
variable {gb : Env → RS} {gs : Option D → Env → Res D} {cn i : Nat} {x n : Str} {cv : Value} {np rp pos' : Pos} {body : List Stmt}
theorem PostS.try_ {F : Hp} {ρ : Env} {N : Ends} {ts : Addr → Value → Option Addr → TS} {W' : WX} (z : PostS P F0 H0 W F (tryD gb cn gs ρ) N)
    (hW : ∀ p ρ' σ F' H' x, ER P F0 H0 F' ρ' σ H' → Ex F F' → ErrAt P F' H' cn p x → PostS P F0 H0 W F (bindS (gs p ρ') ρ' .rt) N → W' (P.xc cn) x σ H') : PostS P F0 H0 W' F (gb ρ) N := by
  cases hg : gb ρ with
  | nx ρ' =>
    have e : tryD gb cn gs ρ = .nx ρ' := by unfold tryD; rw [hg]
    rw [e] at z
    exact z
  | rt d =>
    have e : tryD gb cn gs ρ = .rt d := by unfold tryD; rw [hg]
    rw [e] at z
    exact z
  | ro d =>
    have e : tryD gb cn gs ρ = .ro d := by unfold tryD; rw [hg]
    rw [e] at z
    exact z
  | bk ρ' =>
    have e : tryD gb cn gs ρ = .bk ρ' := by unfold tryD; rw [hg]
    rw [e] at z
    exact z
  | ct ρ' =>
    have e : tryD gb cn gs ρ = .ct ρ' := by unfold tryD; rw [hg]
    rw [e] at z
    exact z
  | bad =>
    have e : tryD gb cn gs ρ = .bad := by unfold tryD; rw [hg]
    rw [e] at z
    exact z
  | err c' p ρ' =>
    rw [tryD_err hg] at z
    by_cases hc : c' = cn
    · rw [if_pos hc] at z
      subst hc
      exact fun σ F' H' y er ex q => hW p ρ' σ F' H' y er ex q z
    · rw [if_neg hc] at z
      exact z.elim
theorem sd_tryAs {te : Expr} (hs : X.stack = X.env :: X.outer) (hf : X.env.frame = some X.env.locals) (hN : X.N.Nodup) (hi : X.N[i]? = some n) (hln : X.env.kindOf n = some .local) (hcv : Names X x cv) (hex : PySem.W.exmOne X.K (P.xc cn) cv = some true) (h0 : F0.S = none := by rfl)
    (hb : ∀ (W : WX) (pn : List (Addr × Obj)) (xe : Value → Shared → Prop), Takes (X.tr pn xe) W → PassesOwn (model X.prog X.w) X.A X.env xe → PSs (X.tr pn xe) body (tS P F0 H0 W gb))
    (hsu : ∀ (a : Addr) (oe : Obj) (cls : Value) (d : Option Addr) (pn : List (Addr × Obj)), Zc cls d oe → (∃ vs, oe.data = .fields vs) → PE (X.suite a ((a, oe) :: pn)) te (tX P F0 H0 cn i a cls d fun p ρ => noErr (gs p ρ)))
    (tk : Takes X (fun _ _ _ _ => False) := by exact L2.takes0) :
    PS X (.Try body [.ExceptHandler (some (.Name x np)) (some n) [.Return (some te) rp] pos'] [] [] pos) (tS P F0 H0 W (tryD gb cn fun p ρ => if i < ρ.length then noErr (gs p (ρ.set i none)) else .bad)) :=
  (ps_try_as (tb := fun W => tS P F0 H0 W gb) (ts := fun a cls d => tRet (tX P F0 H0 cn i a cls d fun p ρ => noErr (gs p ρ))) (Wout := fun _ _ _ _ => False) hs hf hN hi hln hcv tk hb (fun a oe cls d pn hz hd => pss_one (ps_ret (hsu a oe cls d pn hz hd)))).imp fun N σ H ⟨F, ρ, er, z⟩ => by
  refine ⟨F, ρ, er, PostS.try_ (ts := fun _ _ _ => tNext) z ?_⟩
  rintro p ρ' σ' F' H' y er' ex' q z'
  refine ⟨true, hex, fun _ a ha => ?_, fun q => by cases q⟩
  by_cases hl : i < ρ'.length
  · rw [if_pos hl] at z'
    refine ⟨F', ρ'.set i none, p, er'.drop i (some (.ref a)) (.inl h0), get_set_self (er'.len ▸ hl), rfl, q, ?_⟩
    show PostG P W0 (rIs P) (noErr (gs p (ρ'.set i none))) F' _ H' N.rt
    cases hr : gs p (ρ'.set i none) with
    | ok d =>
      rw [hr] at z'
      exact fun v F2 H2 g2 i2 => z' v F2 H2 (er'.g.trans g2) (ex'.trans g2.f) i2
    | err c p =>
      rw [hr] at z'
      exact z'.elim
    | bad =>
      rw [hr] at z'
      exact z'.elim
  · rw [if_neg hl] at z'
    exact z'.elim
/-- except X: return e -/
theorem sd_try {te : Expr} (hs : X.stack = X.env :: X.outer) (hf : X.env.frame = some X.env.locals) (hcv : Names X x cv) (hex : PySem.W.exmOne X.K (P.xc cn) cv = some true) {gt : Env → Res D}
    (hb : ∀ (W : WX) (pn : List (Addr × Obj)) (xe : Value → Shared → Prop), Takes (X.tr pn xe) W → PassesOwn (model X.prog X.w) X.A X.env xe → PSs (X.tr pn xe) body (tS P F0 H0 W gb))
    (hsu : ∀ (a : Addr) (oe : Obj) (cls : Value) (d : Option Addr) (pn : List (Addr × Obj)), Zc cls d oe → (∃ vs, oe.data = .fields vs) → PE (X.suite a ((a, oe) :: pn)) te (tE P F0 H0 W0 gt))
    (tk : Takes X (fun _ _ _ _ => False) := by exact L2.takes0) :
    PS X (.Try body [.ExceptHandler (some (.Name x np)) none [.Return (some te) rp] pos'] [] [] pos) (tS P F0 H0 W (tryD gb cn fun _ ρ => noErr (gt ρ))) :=
  (ps_try_only (tb := fun W => tS P F0 H0 W gb) (ts := fun _ _ _ => tRet (tE P F0 H0 W0 gt)) (Wout := fun _ _ _ _ => False) hs hf hcv tk hb (fun a oe cls d pn hz hd => pss_one (ps_ret (hsu a oe cls d pn hz hd)))).imp fun N σ H ⟨F, ρ, er, z⟩ => by
  refine ⟨F, ρ, er, PostS.try_ (ts := fun _ _ _ => tNext) z ?_⟩
  rintro p ρ' σ' F' H' y er' ex' q z'
  refine ⟨true, hex, fun _ a ha => ?_, fun q => by cases q⟩
  refine ⟨F', ρ', er', ?_⟩
  cases hr : gt ρ' with
  | ok d =>
    rw [hr] at z'
    exact fun v F2 H2 g2 i2 => z' v F2 H2 (er'.g.trans g2) (ex'.trans g2.f) i2
  | err c p =>
    rw [hr] at z'
    exact z'.elim
  | bad =>
    rw [hr] at z'
    exact z'.elim
end
/-! ### what a suite says -/
section
variable {cn i : Nat} {x n f : Str} {ad : Addr} {oe : Obj} {cls : Value} {d : Option Addr} {pn : List (Addr × Obj)} {C fI : Addr}
def payD (p : Option D) : Res D := match p with
  | some d => .ok d
  | none => .bad
theorem xd_fe {p1 pos : Pos} (T : ErrTxt X.prog X.K X.mg x f C fI) (hxc : P.xc cn = .ref C) (hxf : P.xf cn = f) (hz : Zc cls d oe) (hf : ∃ vs, oe.data = .fields vs) (hN : X.N[i]? = some n) (hv : Vis X.env.scope n) (hd : (n == ("__debug__" : Str)) = false := by decide) (hcd : (n == ("__classdict__" : Str)) = false := by decide)
    (hb : attributeBase (.Name n p1) f X.env (eval (.Name n p1) X.env) = eval (.Name n p1) X.env := by rfl) :
    PE (X.suite ad ((ad, oe) :: pn)) (.Attribute (.Name n p1) f pos) (tX P F0 H0 cn i ad cls d fun p _ => noErr (payD p)) :=
  (pe_fe T hz hf (pe_var (X := X.suite ad ((ad, oe) :: pn)) hN hv hd hcd) hb).imp fun σ H Q ⟨F, ρ, p, er, hi, hc, he, z⟩ => by
  cases p with
  | none => exact z.elim
  | some dd =>
    obtain ⟨a1, v, h1, h2, h3⟩ := he
    rw [hxf] at h2
    exact ⟨.ref ad, hi, rfl, hc.trans hxc, a1, v, h1, h2, PostG.here (rel := rIs P) z er.s h3⟩
theorem xd_lift {te : Expr} {gt : Env → Res D} (h : PE (X.suite ad ((ad, oe) :: pn)) te (tE P F0 H0 W0 gt)) : PE (X.suite ad ((ad, oe) :: pn)) te (tX P F0 H0 cn i ad cls d fun _ ρ => noErr (gt ρ)) :=
  h.imp fun σ H Q ⟨F, ρ, p, er, hi, hc, he, z⟩ => ⟨F, ρ, er, PostG.noErr z⟩
/-- (constant, e.f) -/
theorem xd_pair {e1 e2 : Expr} {k : Nat} {pos : Pos} {dv : D} {vv : V} {gx : Option D → Env → Res D} (h1 : PE (X.suite ad ((ad, oe) :: pn)) e1 (tC vv)) (hv : ∀ F, Is P F dv vv) (h2 : PE (X.suite ad ((ad, oe) :: pn)) e2 (tX P F0 H0 cn i ad cls d fun p ρ => noErr (gx p ρ)))
    (hs1 : starEach [e1, e2] X.env = (false, eval e1 X.env) :: starEach [e2] X.env := by rfl) (hs2 : starEach [e2] X.env = (false, eval e2 X.env) :: starEach [] X.env := by rfl) :
    PE (X.suite ad ((ad, oe) :: pn)) (.Tuple [e1, e2] k pos) (tX P F0 H0 cn i ad cls d fun p ρ => noErr (do let y ← gx p ρ; .ok (.tup [dv, y]))) :=
  (pe_tup (pa_cons h1 (pa_cons h2 pa_nil hs2) hs1)).imp fun σ H Q ⟨F, ρ, p, er, hi, hc, he, z⟩ => by
  refine ⟨F, ρ, p, er, hi, hc, he, ?_⟩
  replace z : PostG P W0 (rIs P) (noErr (do let y ← gx p ρ; .ok (.tup [dv, y]))) F σ H Q := z
  show PostG P W0 (rIs P) (noErr (gx p ρ)) F σ H _
  cases hr : gx p ρ with
  | ok y =>
    rw [hr] at z
    intro v F' H' g i2
    refine ⟨by show 2 ≤ sizeLine; decide, fun q hq => ?_⟩
    exact z _ (upd F' q (.tup [vv, v])) _ (g.trans (.new g.s hq)) (by show Is P _ (.tup [dv, y]) _; rw [Is]; exact ⟨q, _, rfl, upd_same, .cons (hv _) (.cons (i2.mono (.new (g.s.back hq)) y) .nil)⟩)
  | err c p =>
    rw [hr] at z
    exact z.elim
  | bad =>
    rw [hr] at z
    exact z.elim
end
end
end DL
namespace DL
open PySem L2 PySem.ErrX
section
variable {X : Cx} {P : Pm} {F0 : Fz} {H0 : Hp} {W : WX} {a b c e o : Expr} {es : List Expr} {fa fb fc : Env → Res D} {fs : Env → Res (List D)} {pos p apos : Pos} {st : Stmt} {sts tts : List Stmt} {g g1 g2 : Env → RS} {F H : Hp} {σ : L2.St}
/-! ### isinstance(e, T) -/
def notScr : D → Bool
  | .scr _ => false
  | .dT _ _ => false
  | _ => true
def isiD (ib : D → Option Bool) (x : D) : Res D := if notScr x = true then (match ib x with
  | some b => .ok (.bl b)
  | none => .bad) else .bad
theorem pd_isi {x2 : Str} {tv : V} {u : Value} {ib : D → Option Bool} {p1 p2 : Pos} (hI : ∀ c, IsiC X.K (P.C c)) (kit : ∀ d b, ib d = some b → PySem.W.kitOne X.K (tyD P d) u = some b) (hcl : ClsV tv u) (ht : PE X (.Name x2 p2) (tC tv)) (ha : PE X a (tV P F0 H0 W fa)) (hg : Gl X "isinstance") (hm : X.mg "isinstance" = none)
    (h1 : starEach [a, .Name x2 p2] X.env = (false, eval a X.env) :: starEach [.Name x2 p2] X.env := by rfl) (h2 : (backTo pos (starEach [.Name x2 p2] X.env)).any (·.1) = false := by rfl) (h3 : starEach [.Name x2 p2] X.env = (false, eval (.Name x2 p2) X.env) :: starEach [] X.env := by rfl) :
    PE X (.Call (.Name "isinstance" p1) [a, .Name x2 p2] [] pos) (tE P F0 H0 W (fun ρ => do let x ← fa ρ; isiD ib x)) :=
  (pe_callB call_isi hg hm (by decide +kernel) (pa_cons ha (pa_cons ht pa_nil h3) h1) (by decide) (by decide) h1 h2).imp fun σ H Q ⟨F, ρ, er, z⟩ => by
  refine ⟨F, ρ, er, (PostG.bind (rel := rVw P) z).imp ?_⟩
  rintro v H1 ⟨F1, d, g, i, q⟩
  unfold isiD at q
  split at q
  · rename_i hns
    cases hb : ib d with
    | none =>
      rw [hb] at q
      exact q.elim
    | some b =>
      rw [hb] at q
      exact ⟨v, tv, _, u, b, rfl, hcl, i.ty hI (fun ns e => by subst e; cases hns) (fun ks xs e => by subst e; cases hns), kit d b hb, q.here g.s is_bl⟩
  · exact q.elim
/-! ### self.f = e -/
def setF (nm : Nat → List Str) (f : Str) (ρ : Env) (i : Nat) (d : D) : RS := match ρ[i]? with
  | some (some (.ow (.obj c xs))) => if (nm c)[xs.length]? = some f ∧ xs.length < 100 then .nx (ρ.set i (some (.ow (.obj c (xs ++ [d]))))) else .bad
  | _ => .bad
theorem putF_new {f : Str} {v : V} : ∀ {fs : List (Str × V)}, (∀ q ∈ fs, q.1 ≠ f) → putF f v fs = fs ++ [(f, v)]
  | [], _ => rfl
  | q :: r, h => by
    have h1 := h q List.mem_cons_self
    obtain ⟨k, w⟩ := q
    show (if k = f then (k, v) :: r else (k, w) :: putF f v r) = _
    rw [if_neg h1, putF_new fun z hz => h z (List.mem_cons_of_mem _ hz)]
    rfl
theorem zip_snoc {α β : Type} {v : β} {k : α} : ∀ {ks : List α} {vs : List β}, ks[vs.length]? = some k → ks.zip (vs ++ [v]) = ks.zip vs ++ [(k, v)]
  | [], vs, h => by simp at h
  | k0 :: ks, [], h => by
    simp at h
    subst h
    simp
  | k0 :: ks, v0 :: vs, h => by
    simp at h
    simp [zip_snoc h]
theorem sd_fld {i : Nat} {x f : Str} {p1 pos' : Pos} (hcl : ∀ c, f ∈ P.nm c → Cls X.K (P.C c) ∧ NoAttr X.K (P.C c) f) (hnd : ∀ c, (P.nm c).Nodup) (hv : PE X e (tE P F0 H0 W fa)) (hN : X.N[i]? = some x := by rfl) (hvi : Vis X.env.scope x := by first | exact Or.inl rfl | exact Or.inr (Or.inl rfl) | exact Or.inr (Or.inr rfl)) (hd : (x == ("__debug__" : Str)) = false := by decide)
    (hcd : (x == ("__classdict__" : Str)) = false := by decide) (hs : swapsWith e (some (.Attribute (.Name x p1) f pos')) pos.line X.env = pure false := by rfl) :
    PS X (.Assign [.Attribute (.Name x p1) f pos'] e pos) (tS P F0 H0 W (fun ρ => bindS (fa ρ) ρ fun d => setF P.nm f ρ i d)) := (ps_fld (pe_var hN hvi hd hcd) hv hs).imp fun N σ H ⟨F, ρ, er, z⟩ => by
  refine ⟨F, ρ, er, (PostS.bind (rel := rIs P) er z).imp ?_⟩
  rintro v H1 ⟨F1, d, g, j, z1⟩
  unfold setF at z1
  split at z1
  · rename_i c xs q
    obtain ⟨ad, h1, h2, h3, dx, vs, h4, h5, h6⟩ := (er.grow g).ow i _ q
    split at z1
    · rename_i hk
      have hk1 : (P.nm c)[vs.length]? = some f := by rw [← h6.length]; exact hk.1
      obtain ⟨k1, k2⟩ := hcl c (List.mem_of_getElem? hk1)
      refine ⟨.ref ad, h1, ad, P.C c, dx, _, rfl, h4, k1, k2, ?_, ?_⟩
      · rw [List.length_zip, ← h6.length]
        exact Nat.lt_of_le_of_lt (Nat.min_le_right _ _) (Nat.lt_trans hk.2 (by decide))
      · have e1 : putF f v ((P.nm c).zip vs) = (P.nm c).zip (vs ++ [v]) := by
          rw [zip_snoc hk1]
          refine putF_new fun q hq hqf => ?_
          obtain ⟨n, hn⟩ := List.getElem?_of_mem hq
          rw [List.getElem?_zip_eq_some] at hn
          have hlt : n < vs.length := lt_of_get hn.2
          have e3 : (P.nm c)[n]? = some f := by rw [hn.1, hqf]
          have : n = vs.length := nodup_ix (hnd c) e3 hk1
          omega
        rw [e1]
        refine z1 σ F1 _ ((er.grow g).mut q h1 ⟨dx, vs ++ [v], upd_same, ?_, h6.append (.cons j .nil)⟩) (.refl F1)
        have := lt_of_get hk1
        simp
        omega
    · exact z1.elim
  · exact z1.elim
/-! ### texts -/
def small2 (n m : Nat) : Bool := decide (n + m ≤ 1000000)
/-- + of ints, texts, lists, tuples -/
def addD : D → D → Option D
  | .int i, .int j => some (.int (i + j))
  | .str x, .str y => if small2 x.length y.length = true then some (.str (x ++ y)) else none
  | _, _ => none
theorem io_addS : OpR X (binaryOp .Add) (r2O P addD) := fun pins s σ H x y u v Q I rx ry ⟨F, dx, dy, d, e, i1, i2, hd, q⟩ => by
  unfold addD at hd
  split at hd
  · cases hd
    exact op_add pins s σ H x y u v Q I rx ry ⟨_, _, i1, i2, q.int e⟩
  · split at hd
    · rename_i hz
      cases hd
      exact op_add_str pins s σ H x y u v Q I rx ry ⟨_, _, i1, i2, Nat.le_trans (of_decide_eq_true hz) (by decide), q.str e⟩
    · cases hd
  · cases hd
/-- list + list: a new list -/
def catD : D → D → Option D
  | .lst xs, .lst ys => if small2 xs.length ys.length = true then some (.lst (xs ++ ys)) else none
  | _, _ => none
theorem notIn_sign {c : Nat} {z : Str} : True := trivial
def inS : D → D → Option D
  | .str ⟨cs⟩, .str z => match cs.toList with
    | [c] => some (.bl (decide (c ∈ z.cps.toList)))
    | _ => none
  | _, _ => none
def notInS : D → D → Option D
  | .str ⟨cs⟩, .str z => match cs.toList with
    | [c] => some (.bl (!decide (c ∈ z.cps.toList)))
    | _ => none
  | _, _ => none
theorem arr_one {cs : Array Nat} {c : Nat} (h : cs.toList = [c]) : cs = #[c] := by
  cases cs
  simp at h
  subst h
  rfl
theorem io_inS : OpR X (compareOp .In) (r2O P inS) := fun pins s σ H x y u v Q I rx ry ⟨F, dx, dy, d, e, i1, i2, hd, q⟩ => by
  unfold inS at hd
  split at hd
  · split at hd
    · rename_i c hc
      cases hd
      have := arr_one hc
      subst this
      exact op_in_sign pins s σ H x y u v Q I rx ry ⟨c, _, i1, i2, q.bl e⟩
    · cases hd
  · cases hd
theorem io_notInS : OpR X (compareOp .NotIn) (r2O P notInS) := fun pins s σ H x y u v Q I rx ry ⟨F, dx, dy, d, e, i1, i2, hd, q⟩ => by
  unfold notInS at hd
  split at hd
  · split at hd
    · rename_i c hc
      cases hd
      have := arr_one hc
      subst this
      exact op_notIn_sign pins s σ H x y u v Q I rx ry ⟨c, _, i1, i2, q.bl e⟩
    · cases hd
  · cases hd
/-! ### slices of texts and lists -/
abbrev rOp : Rel (Option Int) (Option Int) := fun _ _ d v => v = d
abbrev tOp' (P : Pm) (F0 : Fz) (H0 : Hp) (W : WX) (f : Env → Res (Option Int)) : TO := tG P F0 H0 W rOp f
def ptI : D → Res (Option Int)
  | .int i => .ok (some i)
  | _ => .bad
theorem _root_.L2.PO.imp {e : Option Expr} {t t' : TO} (h : PO X e t) (q : ∀ σ H Q, t' σ H Q → t σ H Q) : PO X e t' := ⟨fun pins s σ H Q I z => h.run pins s σ H Q I (q σ H Q z)⟩
theorem po_no : PO X none (tOp' P F0 H0 W (fun _ => .ok none)) := po_none.imp fun σ H Q ⟨F, ρ, er, z⟩ => z.here er.s rfl
theorem po_so (h : PE X e (tE P F0 H0 W fa)) : PO X (some e) (tOp' P F0 H0 W (fun ρ => fa ρ >>= ptI)) := (po_some h).imp fun σ H Q ⟨F, ρ, er, z⟩ => by
  refine ⟨F, ρ, er, (PostG.bind (rel := rIs P) z).imp ?_⟩
  rintro v H1 ⟨F1, d, g, i, q⟩
  unfold ptI at q
  split at q
  · exact ⟨_, un_int i, q.here g.s rfl⟩
  · exact q.elim
def cutD (xs : List D) (lo hi : Option Int) : List D := (xs.drop (HT.sIx xs.length 0 lo)).take (HT.sIx xs.length xs.length hi - HT.sIx xs.length 0 lo)
def slcD (x : D) (lo hi : Option Int) : Option D := match x with
  | .str z => if z.length ≤ 1000000 then some (.str (cutS z lo hi)) else none
  | .lst xs => some (.lst (cutD xs lo hi))
  | .tup xs => some (.tup (cutD xs lo hi))
  | _ => none
theorem IsL.cut {ds : List D} {vs : List V} (h : IsL P F ds vs) (lo hi : Option Int) : IsL P F (cutD ds lo hi) (cutV vs lo hi) := by
  unfold cutD cutV
  rw [h.length]
  exact (h.drop _).take _
theorem pd_slc {lo hi : Option Expr} {fl fh : Env → Res (Option Int)} {p2 : Pos} (ha : PE X a (tV P F0 H0 W fa)) (hl : PO X lo (tOp' P F0 H0 W fl)) (hh : PO X hi (tOp' P F0 H0 W fh)) :
    PE X (.Subscript a (.Slice lo hi none p2) pos) (tE P F0 H0 W (fun ρ => do let x ← fa ρ; let l ← fl ρ; let h ← fh ρ; opt (slcD x l h))) :=
  (pe_slice ((sl_str.or sl_list).or sl_tupA) ha hl hh).imp fun σ H Q ⟨F, ρ, er, z⟩ => by
  refine ⟨F, ρ, er, (PostG.bind (rel := rVw P) z).imp ?_⟩
  rintro x H1 ⟨F1, d, g1, i1, z1⟩
  refine ⟨F1, ρ, er.grow g1, (PostG.bind (rel := rOp) z1).imp ?_⟩
  rintro l H2 ⟨F2, l', g2, rfl, z2⟩
  refine ⟨F2, ρ, (er.grow g1).grow g2, (PostG.bind (rel := rOp) z2).imp ?_⟩
  rintro h H3 ⟨F3, h', g3, rfl, z3⟩
  obtain ⟨dr, hd, q⟩ := opt_of z3
  have i3 : Vw P F3 H3 d x := (i1.mono g2.f g2.h d).mono g3.f g3.h d
  unfold slcD at hd
  split at hd
  · split at hd
    · rename_i hz
      cases hd
      exact .inl (.inl ⟨_, i3, Nat.le_trans hz (by decide), Out.str q g3.s⟩)
    · cases hd
  · cases hd
    obtain ⟨ad, vs, rfl, h1, h2⟩ := i3
    exact .inl (.inr ⟨ad, vs, rfl, .inl h1, Out.lst q g3.s (h2.cut _ _)⟩)
  · cases hd
    obtain ⟨ad, vs, rfl, h0, h1, h2⟩ := i3
    refine .inr ⟨ad, vs, rfl, .inl h1, fun hw => ?_, fun _ => Out.tup q g3.s (h2.cut _ _)⟩
    have ew : cutV vs l h = vs := by
      unfold cutV
      rw [hw.1, hw.2]
      simp
    have h5 := h2.cut l h
    rw [ew] at h5
    exact Out.here q g3.s (by rw [Is]; exact ⟨ad, vs, rfl, h0, h5⟩)
  · cases hd
end
end DL
namespace DL
open PySem L2 PySem.ErrX
section
variable {X : Cx} {P : Pm} {F0 : Fz} {H0 : Hp} {W : WX} {a b c e o : Expr} {es : List Expr} {fa fb fc : Env → Res D} {fs : Env → Res (List D)} {pos p apos : Pos} {st : Stmt} {sts tts : List Stmt} {g g1 g2 : Env → RS} {F H : Hp} {σ : L2.St}
/-! ### e.split(sep) -/
def strD : D → Res Str
  | .str x => .ok x
  | _ => .bad
abbrev rSt : Rel Str V := fun _ _ d v => v = .str d
theorem strD_of {d : D} {v : V} {Q : V → Hp → Prop} (s : Sb P F H) (i : Is P F d v) (h : PostG P W rSt (strD d) F σ H Q) : ∃ x, v = .str x ∧ Q v H := by
  cases d with
  | str x => exact ⟨x, un_str i, h.here s (un_str i)⟩
  | _ => exact h.elim
def splD (x y : Str) : Res D := if (y.length == 0) = false ∧ x.length ≤ 1000000 then .ok (.lst ((Txt.split x y).map .str)) else .bad
theorem isL_strs {ys : List Str} : IsL P F (ys.map D.str) (ys.map V.str) := by
  induction ys with
  | nil => exact .nil
  | cons y ys ih => exact .cons is_str ih
theorem nd_split {apos pos : Pos} (ho : PE X o (tE P F0 H0 W fa)) (he : PE X e (tE P F0 H0 W fb))
    (hbase : attributeBase o "split" X.env (eval o X.env) = eval o X.env := by rfl)
    (hfew : ((backTo pos (starEach [e] X.env)).all (fun x => !x.1) && (backToKw pos (keywordEach [] X.env)).all (fun x => x.1.isSome)
      && decide (([e] : List Expr).length + ([] : List Keyword).length + (if ([] : List Keyword).isEmpty then 0 else 1) < 30)) = true := by rfl)
    (hline : (apos.endLine == pos.line) = true := by rfl) (hs1 : starEach [e] X.env = (false, eval e X.env) :: starEach [] X.env := by rfl) (hplain : (backTo pos (starEach [] X.env)).any (·.1) = false := by rfl) :
    PE X (.Call (.Attribute o "split" apos) [e] [] pos) (tN P F0 H0 W (fun ρ => do let x ← fa ρ; let s ← strD x; let y ← fb ρ; let t ← strD y; splD s t)) :=
  (pe_bm PySem.F.plainAttrs_str PySem.F.slot_str_split PySem.F.type_str_split mt_split ho (pa_cons he pa_nil hs1) hbase hfew hline hs1 hplain).imp fun σ H Q ⟨F, ρ, er, z⟩ => by
  refine ⟨F, ρ, er, (PostG.bind (rel := rIs P) z).imp ?_⟩
  rintro x H1 ⟨F1, d, g1, i1, z1⟩
  obtain ⟨x', rfl, F1', s', g1', e1', z1'⟩ := strD_of g1.s i1 (PostG.bind (rel := rSt) z1)
  cases e1'
  have er1 := (er.grow g1).grow g1'
  refine ⟨rfl, F1', ρ, er1, (PostG.bind (rel := rIs P) z1').imp ?_⟩
  rintro y H2 ⟨F2, d2, g2, i2, z2⟩
  obtain ⟨y', rfl, F3, t', g3, e3, z3⟩ := strD_of g2.s i2 (PostG.bind (rel := rSt) z2)
  cases e3
  unfold splD at z3
  by_cases hz : (y'.length == 0) = false ∧ x'.length ≤ 1000000
  · rw [if_pos hz] at z3
    refine ⟨x', y', rfl, rfl, hz.1, Nat.le_trans (Nat.add_le_add_right hz.2 2) (by decide), fun p hp => ?_⟩
    exact z3 _ F3 _ (.junk g3.s (.new hp)) ⟨p, rfl, (((g1.trans g1').trans g2).trans g3).h.back hp, g3.s.back hp, _, upd_same, isL_strs⟩
  · rw [if_neg hz] at z3
    exact z3.elim
/-! ### int(e), str(e) -/
def cInt2 : List D → Option D
  | [.int i] => some (.int i)
  | [.bl b] => some (.int (if b then 1 else 0))
  | [.str x] => if x.length ≤ 640 then (PySem.intText? x).map .int else none
  | _ => none
theorem ic_int2 : CallR X (.type "int") (rcO P cInt2) := fun pins s σ H xs us Q I rx ⟨F, ds, d, e, i, hd, q⟩ => by
  unfold cInt2 at hd
  split at hd
  · cases hd
    obtain ⟨v, r, rfl, i1, i⟩ := i.uncons
    obtain rfl := i.unnil
    exact call_int1 pins s σ H _ us Q I rx (.inl ⟨_, by rw [show v = V.int _ from i1], q.int e⟩)
  · cases hd
    obtain ⟨v, r, rfl, i1, i⟩ := i.uncons
    obtain rfl := i.unnil
    exact call_int1 pins s σ H _ us Q I rx (.inr ⟨_, by rw [show v = V.bl _ from i1], q.int e⟩)
  · rename_i x
    split at hd
    · rename_i hl
      cases hn : PySem.intText? x with
      | none =>
        rw [hn] at hd
        cases hd
      | some n =>
        rw [hn] at hd
        cases hd
        obtain ⟨v, r, rfl, i1, i⟩ := i.uncons
        obtain rfl := i.unnil
        exact call_int_str pins s σ H _ us Q I rx ⟨x, n, by rw [show v = V.str _ from i1], hn, hl, q.int e⟩
    · cases hd
  · cases hd
/-! ### an own function called somewhere below -/
theorem run_at {k n : Nat} {f : Addr} {fd : FuncData} {ps : List Str} {G : List D → Res D} {A' : Around} {pins : List (Addr × Obj)} {s : Shared} {Q : VK} {us : List Value} {vs : List V} {ds : List D} (Fn : FnOk X.prog X.w X.K X.mg X.base (L2.CX X.prog X.w) k f fd ps (spD P n G)) (sb : Sub X k A') (hb : Binds X.K fd ps [])
    (tk : Takes X W) (I : Inv X pins σ H s) (r : Vals vs us) (sx : Sb P F H) (i : IsL P F ds vs) (z : PostG P W (rIs P) (fnG n G ds) F σ H Q) : wpAny (model X.prog X.w) A' (call (.ref f) us) (EP X pins σ Q) X.xe s := by
  have h : spD P n G vs H Q (WE W σ) := by
    have := fnG_of (dvs := []) (dds := []) (n := n) (G := G) (E := WE W σ) Dfl.nil sx i (by rw [List.append_nil]; exact z.sig)
    rw [List.append_nil] at this
    exact this
  have hl : (us ++ []).length = ps.length := by rw [List.append_nil, ← r.length]; exact Fn.len _ _ _ _ h
  have e0 : Env0 X.prog X.w X.K X.mg X.base A' X.stack s H := { I.env0 with frames := by rw [sb.fr]; exact I.env0.frames }
  have hbb := hb s us I.kIn hl
  rw [List.append_nil] at hbb
  refine wpAny_call (codeAny_mono (Fn.run A' X.stack s H ⟨us, []⟩ us vs Q (WE W σ) sb.room e0 hbb r h) fun r s' hq => ?_)
  cases r with
  | error e => exact passAt tk σ pins H s e s' I hq
  | ok fl =>
    cases fl with
    | ret u => exact I.after hq
    | next => exact False.elim hq
    | brk => exact False.elim hq
    | cont => exact False.elim hq
theorem sub_here {k : Nat} (hr : Room k X.A) : Sub X k X.A := ⟨hr, rfl⟩
/-- an own class's method by its name -/
structure OwnM (K : PySem.W.Frag) (C : Addr) (m : Str) (f : Addr) : Prop where
  at_ : PySem.W.findIn K (.ref C) m = some (some (.ref f))
  fn : PySem.W.isFn K (.ref f) = true
theorem inst_at {pins : List (Addr × Obj)} {s : Shared} {ad C dx : Addr} {fs : List (Str × V)} (I : Inv X pins σ H s) (h : H ad = some (.ins C dx fs)) : ∃ ox od, PySem.W.InstAt s.heap ad ox C od := by
  obtain ⟨mA, ho, _⟩ := ins_get I.hok h
  obtain ⟨od, h1, _⟩ := lookIn_ns ho.ns
  exact ⟨_, some od, ho.obj, rfl, rfl, h1⟩
/-! ### - and str of numbers: ints and instances of the class number 0 -/
def negN (G : List D → Res D) : D → Res D
  | .int i => .ok (.int (-i))
  | .obj 0 xs => fnG 1 G [.obj 0 xs]
  | _ => .bad
theorem CmpBack_of {Q : VK} {pins : List (Addr × Obj)} {u : Value} {s : Shared} (h : EP X pins σ Q u s) : PySem.W.CmpBack (EP X pins σ Q) u s := by
  obtain ⟨v, H', I, r, q⟩ := h
  cases u with
  | notImplemented => cases v <;> (first | (obtain ⟨t, e⟩ := r; cases e) | cases r)
  | _ => exact ⟨v, H', I, r, q⟩
theorem pd_neg {k : Nat} {f : Addr} {fd : FuncData} {ps : List Str} {G : List D → Res D} (Fn : FnOk X.prog X.w X.K X.mg X.base (L2.CX X.prog X.w) k f fd ps (spD P 1 G)) (M : OwnM X.K (P.C 0) "__neg__" f) (hr : Room k X.A) (hb : Binds X.K fd ps []) (tk : Takes X W) (ha : PE X a (tE P F0 H0 W fa)) :
    PE X (.UnaryOp .USub a pos) (tE P F0 H0 W (fun ρ => do let x ← fa ρ; negN G x)) := by
  refine ⟨fun pins s σ H Q I h => ?_⟩
  refine PyProof.Rows.UnaryOp_ (thn (ha.run pins s σ H _ I (tG.bind (rel := rIs P) (f := fa) (k := fun _ x => negN G x) h)) ?_)
  rintro v s1 ⟨x, H1, I1, r1, F1, ρ, d, er, i1, q1⟩
  unfold negN at q1
  split at q1
  · have ex := un_int i1
    subst ex
    exact un_neg pins s1 σ H1 _ v Q I1 r1 ⟨_, rfl, q1.here er.s is_int⟩
  · obtain ⟨ad, dx, vs, rfl, h1, h2, h3⟩ := obj_of i1
    obtain rfl : v = Value.ref ad := r1
    obtain ⟨ox, od, J⟩ := inst_at I1 (er.s.ex _ _ h1)
    obtain ⟨m, Fr⟩ := I1.fr
    refine PySem.W.ksp_neg Fr I1.ok.mod.kin J M.at_ M.fn ?_
    exact run_at (vs := [.ref ad]) (ds := [_]) Fn (sub_here hr) hb tk I1 (.cons rfl .nil) er.s (.cons i1 .nil) q1
  · exact q1.elim
def strN (G : List D → Res D) : D → Res D
  | .int i => if i.natAbs.log2 < 1920 then .ok (.str (toString i)) else .bad
  | .obj 0 xs => do let y ← fnG 1 G [.obj 0 xs]; let z ← strD y; .ok (.str z)
  | _ => .bad
theorem pd_strN {p1 : Pos} {k : Nat} {f : Addr} {fd : FuncData} {ps : List Str} {G : List D → Res D} (Fn : FnOk X.prog X.w X.K X.mg X.base (L2.CX X.prog X.w) k f fd ps (spD P 1 G)) (M : OwnM X.K (P.C 0) "__str__" f) (hr : Room (k + 2) X.A) (hb : Binds X.K fd ps []) (tk : Takes X W) (hg : Gl X "str") (hm : X.mg "str" = none) (ha : PE X a (tE P F0 H0 W fa))
    (he : starEach [a] X.env = (false, eval a X.env) :: starEach [] X.env := by rfl) (hpl : (backTo pos (starEach [] X.env)).any (·.1) = false := by rfl) :
    PE X (.Call (.Name "str" p1) [a] [] pos) (tE P F0 H0 W (fun ρ => do let x ← fa ρ; strN G x)) := by
  refine ⟨fun pins s σ H Q I h => ?_⟩
  refine wpAny_Call_Name_kw (ld_blt (u := .type "str") I hg hm (by decide +kernel) ?_)
  obtain ⟨F, ρ, er, z⟩ := h
  refine PyProof.Rows.callWith_type1 (thn ((pa_cons ha pa_nil he).run pos pins s σ H (fun vs H1 => ∃ v, vs = [v] ∧ ∃ F1 d, Grow P F H F1 H1 ∧ Is P F1 d v ∧ PostG P W (rIs P) (strN G d) F1 σ H1 Q) I ⟨F, ρ, er, (PostG.bind (rel := rIs P) z).imp fun v H1 q => ⟨v, rfl, q⟩⟩) ?_) he hpl
  rintro us s1 ⟨vs, H1, I1, r1, v, rfl, F1, d, g1, i1, q1⟩
  obtain ⟨u, rfl, rv⟩ := Vals.one r1
  unfold strN at q1
  split at q1
  · have ex := un_int i1
    subst ex
    split at q1
    · rename_i hl
      exact call_str_int pins s1 σ H1 _ _ Q I1 r1 ⟨_, rfl, hl, q1.here g1.s is_str⟩
    · exact q1.elim
  · obtain ⟨ad, dx, vs, rfl, h1, h2, h3⟩ := obj_of i1
    obtain rfl : u = Value.ref ad := rv
    obtain ⟨ox, od, J⟩ := inst_at I1 (g1.s.ex _ _ h1)
    refine PySem.W.kso_call ?_ I1.kIn J M.at_ M.fn ?_
    · have := (hr.in1.in1).units0
      exact this
    · refine thn (run_at (A' := X.A.in1.in1) (vs := [.ref ad]) (ds := [_]) Fn ((sub_here hr).in1.in1) hb tk I1 (.cons rfl .nil) g1.s (.cons i1 .nil) (PostG.bind (rel := rIs P) q1)) ?_
      rintro w s2 ⟨v2, H2, I2, r2, F2, d2, g2, i2, q2⟩
      obtain ⟨x', rfl, F3, t', g3, e3, z3⟩ := strD_of g2.s i2 (PostG.bind (rel := rSt) q2)
      cases e3
      obtain ⟨t, rfl⟩ := r2
      exact ⟨.str x', H2, I2, ⟨t, rfl⟩, z3.here g3.s is_str⟩
  · exact q1.elim
end
end DL
namespace DL
open PySem L2 PySem.ErrX
section
variable {X : Cx} {P : Pm} {F0 : Fz} {H0 : Hp} {W : WX} {a b c e o : Expr} {es : List Expr} {fa fb fc : Env → Res D} {fs : Env → Res (List D)} {pos p apos : Pos} {st : Stmt} {sts tts : List Stmt} {g g1 g2 : Env → RS} {F H : Hp} {σ : L2.St}
/-! ### + of ints, texts, lists, tuples -/
theorem Inv.rdl {pins : List (Addr × Obj)} {s : Shared} {l : Addr} {xs : List V} (I : Inv X pins σ H s) (h : Rd H l (.lst xs)) : xs.length ≤ sizeLine ∧ ∃ (its : List Value) (n : Nat), Vals xs its ∧ s.heap.get? l = some { cls := .type "list", data := .seq its.toArray n } :=
  (h.ok I.hok : ObjOk X.prog X.w H s.heap l (.lst xs))
def rCatR : R2 := fun x y H Q => ∃ l b xs zs, x = .ref l ∧ y = .ref b ∧ Rd H l (.lst xs) ∧ Rd H b (.lst zs) ∧ xs.length + zs.length ≤ sizeLine ∧ ∀ p, H p = none → Q (.ref p) (upd H p (.lst (xs ++ zs)))
theorem op_catR : OpR X (binaryOp .Add) rCatR := by
  intro pins s σ H x y v u Q I rx ry h
  obtain ⟨l, b, xs, zs, rfl, rfl, hH, hB, hz, q⟩ := h
  cases rx
  cases ry
  obtain ⟨z1, its1, n1, v1, e1⟩ := Inv.rdl I hH
  obtain ⟨z2, its2, n2, v2, e2⟩ := Inv.rdl I hB
  refine PySem.P.add_list e1 e2 ?_ (by rw [List.size_toArray, List.size_toArray, ← v1.length, ← v2.length]; exact hz)
  rw [show its1.toArray ++ its2.toArray = (its1 ++ its2).toArray by simp]
  exact ⟨.ref _, _, I.lnew (t' := s.toks) (v1.append v2) (by rw [List.length_append]; exact hz), rfl, q _ I.fresh⟩
def addA : D → D → Option D
  | .int i, .int j => some (.int (i + j))
  | .str x, .str y => if small2 x.length y.length = true then some (.str (x ++ y)) else none
  | .lst xs, .lst ys => if small2 xs.length ys.length = true then some (.lst (xs ++ ys)) else none
  | .tup xs, .tup ys => if small2 xs.length ys.length = true then some (.tup (xs ++ ys)) else none
  | _, _ => none
theorem io_addA : OpR X (binaryOp .Add) (r2O P addA) := fun pins s σ H x y u v Q I rx ry ⟨F, dx, dy, d, e, i1, i2, hd, q⟩ => by
  unfold addA at hd
  split at hd
  · cases hd
    exact op_add pins s σ H x y u v Q I rx ry ⟨_, _, i1, i2, q.int e⟩
  · split at hd
    · rename_i hz
      cases hd
      exact op_add_str pins s σ H x y u v Q I rx ry ⟨_, _, i1, i2, Nat.le_trans (of_decide_eq_true hz) (by decide), q.str e⟩
    · cases hd
  · split at hd
    · rename_i hz
      cases hd
      obtain ⟨a1, vs1, rfl, h1, j1⟩ := i1
      obtain ⟨a2, vs2, rfl, h2, j2⟩ := i2
      exact op_catR pins s σ H _ _ u v Q I rx ry ⟨a1, a2, vs1, vs2, rfl, rfl, h1, h2, by rw [← j1.length, ← j2.length]; exact Nat.le_trans (of_decide_eq_true hz) (by decide), q.lst e (j1.append j2)⟩
    · cases hd
  · split at hd
    · rename_i hz
      cases hd
      obtain ⟨a1, vs1, rfl, f1, h1, j1⟩ := i1
      obtain ⟨a2, vs2, rfl, f2, h2, j2⟩ := i2
      refine op_catA pins s σ H _ _ u v Q I rx ry ⟨a1, a2, vs1, vs2, rfl, rfl, .inl h1, .inl h2, by rw [← j1.length, ← j2.length]; exact Nat.le_trans (of_decide_eq_true hz) (by decide), fun h0 => ?_, fun _ h0 => ?_, fun _ _ => q.tup e (j1.append j2)⟩
      · have hj := j1.append j2
        rw [h0] at hj
        exact q.here e (by rw [Is]; exact ⟨a2, vs2, rfl, f2, hj⟩)
      · have hj := j1.append j2
        rw [h0, List.append_nil] at hj
        exact q.here e (by rw [Is]; exact ⟨a1, vs1, rfl, f1, hj⟩)
    · cases hd
  · cases hd
/-! ### list(e), tuple(e) of lists and tuples -/
def cList : List D → Option D
  | [.lst xs] => some (.lst xs)
  | [.tup xs] => some (.lst xs)
  | _ => none
theorem ic_list : CallR X (.type "list") (rcO P cList) := fun pins s σ H xs us Q I rx ⟨F, ds, d, e, i, hd, q⟩ => by
  unfold cList at hd
  split at hd
  · cases hd
    obtain ⟨v, r, rfl, i1, i⟩ := i.uncons
    obtain rfl := i.unnil
    obtain ⟨ad, vs, rfl, h1, h2⟩ := i1
    exact call_list_of pins s σ H _ us Q I rx ⟨ad, vs, rfl, .inl (.inl h1), q.lst e h2⟩
  · cases hd
    obtain ⟨v, r, rfl, i1, i⟩ := i.uncons
    obtain rfl := i.unnil
    obtain ⟨ad, vs, rfl, h0, h1, h2⟩ := i1
    exact call_list_of pins s σ H _ us Q I rx ⟨ad, vs, rfl, .inr (.inl h1), q.lst e h2⟩
  · cases hd
def cTup : List D → Option D
  | [.lst xs] => some (.tup xs)
  | [.tup xs] => some (.tup xs)
  | _ => none
theorem ic_tup : CallR X (.type "tuple") (rcO P cTup) := fun pins s σ H xs us Q I rx ⟨F, ds, d, e, i, hd, q⟩ => by
  unfold cTup at hd
  split at hd
  · cases hd
    obtain ⟨v, r, rfl, i1, i⟩ := i.uncons
    obtain rfl := i.unnil
    obtain ⟨ad, vs, rfl, h1, h2⟩ := i1
    exact call_tuple_of pins s σ H _ us Q I rx ⟨ad, vs, rfl, .inl ⟨.inl h1, q.tup e h2⟩⟩
  · cases hd
    obtain ⟨v, r, rfl, i1, i⟩ := i.uncons
    obtain rfl := i.unnil
    obtain ⟨ad, vs, rfl, h0, h1, h2⟩ := i1
    exact call_tuple_of pins s σ H _ us Q I rx ⟨ad, vs, rfl, .inr ⟨.inl h1, q.here e (by rw [Is]; exact ⟨ad, vs, rfl, h0, h2⟩)⟩⟩
  · cases hd
/-! ### f-strings -/
def fmtD : D → Res Str
  | .str y => if y.length ≤ 1000000 then .ok y else .bad
  | .int i => if i.natAbs.log2 < 1920 then .ok (toString i) else .bad
  | _ => .bad
/-- a part of an f-string -/
structure PF (X : Cx) (P : Pm) (F0 : Fz) (H0 : Hp) (W : WX) (e : Expr) (t : TE) (f : Env → Res Str) : Prop where
  pe : PE X e t
  rd : ∀ σ H (Q : V → Hp → Prop), tG P F0 H0 W rSt f σ H Q → t σ H Q
theorem pf_fmt {pos : Pos} (he : PE X e (tE P F0 H0 W fa)) : PF X P F0 H0 W (.FormattedValue e (-1) none pos) (tFmt (tE P F0 H0 W fa)) (fun ρ => fa ρ >>= fmtD) := ⟨pe_fmt he, fun σ H Q ⟨F, ρ, er, z⟩ => by
  refine ⟨F, ρ, er, (PostG.bind (rel := rIs P) z).imp ?_⟩
  rintro v H1 ⟨F1, d, g, i, q⟩
  unfold fmtD at q
  split at q
  · split at q
    · rename_i hl
      exact .inl ⟨_, un_str i, Nat.le_trans hl (by decide), q.here g.s rfl⟩
    · exact q.elim
  · split at q
    · rename_i hl
      exact .inr ⟨_, un_int i, hl, q.here g.s rfl⟩
    · exact q.elim
  · exact q.elim⟩
theorem pf_str {x : Str} {j : Nat} {pos : Pos} : PF X P F0 H0 W (.Constant (.str x) j pos) (tC (.str x)) (fun _ => .ok x) := ⟨pe_str, fun σ H Q ⟨F, ρ, er, z⟩ => PostG.here (rel := rSt) z er.s rfl⟩
theorem pd_f1 {f1 : Env → Res Str} {t1 : TE} {pos : Pos} (h : PF X P F0 H0 W e t1 f1) : PE X (.JoinedStr [e] pos) (tE P F0 H0 W (fun ρ => do let x ← f1 ρ; .ok (.str x))) := (pe_joined1 h.pe).imp fun σ H Q ⟨F, ρ, er, z⟩ => by
  refine h.rd σ H Q ⟨F, ρ, er, (PostG.bind (rel := rSt) z).imp ?_⟩
  rintro v H1 ⟨F1, d, g, rfl, q⟩
  exact q.here g.s is_str
def ckS (x : Str) : Res Str := if x.length ≤ 1000000 then .ok x else .bad
abbrev rStr : Rel Str Str := fun _ _ d v => v = d
theorem ckS_of {x : Str} {Q : Str → Hp → Prop} (s : Sb P F H) (h : PostG P W rStr (ckS x) F σ H Q) : x.length ≤ sizeLine ∧ Q x H := by
  unfold ckS at h
  by_cases hl : x.length ≤ 1000000
  · rw [if_pos hl] at h
    exact ⟨Nat.le_trans hl (by decide), h.here s rfl⟩
  · rw [if_neg hl] at h
    exact h.elim
theorem pd_f3 {e1 e2 e3 : Expr} {f1 f2 f3 : Env → Res Str} {t1 t2 t3 : TE} {pos : Pos} (h1 : PF X P F0 H0 W e1 t1 f1) (h2 : PF X P F0 H0 W e2 t2 f2) (h3 : PF X P F0 H0 W e3 t3 f3) :
    PE X (.JoinedStr [e1, e2, e3] pos) (tE P F0 H0 W (fun ρ => do let x ← f1 ρ; let u ← ckS (Str.empty ++ x); let y ← f2 ρ; let v ← ckS (u ++ y); let z ← f3 ρ; let w ← ckS (v ++ z); .ok (.str w))) :=
  (pe_joined (.cons h1.pe (.cons h2.pe (.cons h3.pe .nil)))).imp fun σ H Q ⟨F, ρ, er, z⟩ => by
  refine h1.rd σ H _ ⟨F, ρ, er, (PostG.bind (rel := rSt) z).imp ?_⟩
  rintro v1 H1 ⟨F1, x, g1, rfl, z1⟩
  obtain ⟨l1, F1', u, g1', rfl, z1'⟩ := ckS_of g1.s (PostG.bind (rel := rStr) z1)
  refine ⟨x, rfl, l1, h2.rd σ H1 _ ⟨F1', ρ, (er.grow g1).grow g1', (PostG.bind (rel := rSt) z1').imp ?_⟩⟩
  rintro v2 H2 ⟨F2, y, g2, rfl, z2⟩
  obtain ⟨l2, F2', v, g2', rfl, z2'⟩ := ckS_of g2.s (PostG.bind (rel := rStr) z2)
  refine ⟨y, rfl, l2, h3.rd σ H2 _ ⟨F2', ρ, (((er.grow g1).grow g1').grow g2).grow g2', (PostG.bind (rel := rSt) z2').imp ?_⟩⟩
  rintro v3 H3 ⟨F3, w, g3, rfl, z3⟩
  obtain ⟨l3, F3', v, g3', rfl, z3'⟩ := ckS_of g3.s (PostG.bind (rel := rStr) z3)
  exact ⟨w, rfl, l3, z3'.here g3'.s is_str⟩
end
end DL
namespace DL
open PySem L2

/-! ### the functions' shapes, by name -/
abbrev fK (d : D) : Env → Res D := fun _ => .ok d
abbrev fOp (r : D → D → Option D) (a b : Env → Res D) : Env → Res D := fun ρ => do let x ← a ρ; let y ← b ρ; opt (r x y)
abbrev fU (r : D → Option D) (a : Env → Res D) : Env → Res D := fun ρ => do let x ← a ρ; opt (r x)
abbrev fM (r : D → Res D) (a : Env → Res D) : Env → Res D := fun ρ => do let x ← a ρ; r x
abbrev fIsN (a : Env → Res D) : Env → Res D := fun ρ => do let x ← a ρ; .ok (.bl (isNone x))
abbrev fNotN (a : Env → Res D) : Env → Res D := fun ρ => do let x ← a ρ; .ok (.bl (!isNone x))
abbrev tB' (a : Env → Res D) : Env → Res Bool := fun ρ => a ρ >>= bo
abbrev tNot' (a : Env → Res Bool) : Env → Res Bool := fun ρ => do let x ← a ρ; .ok (!x)
abbrev tAnd' (a b : Env → Res Bool) : Env → Res Bool := fun ρ => do let x ← a ρ; if x = true then b ρ else .ok false
abbrev tOr' (a b : Env → Res Bool) : Env → Res Bool := fun ρ => do let x ← a ρ; if x = true then .ok true else b ρ
abbrev vAnd (a b : Env → Res D) : Env → Res D := fun ρ => do let x ← a ρ; let k ← bo x; if k = true then b ρ else .ok (.bl false)
abbrev vOr (a b : Env → Res D) : Env → Res D := fun ρ => do let x ← a ρ; let k ← bo x; if k = true then .ok (.bl true) else b ρ
abbrev vNot (a : Env → Res D) : Env → Res D := fun ρ => do let x ← a ρ; let k ← bo x; .ok (.bl (!k))
abbrev fIf (c : Env → Res Bool) (a b : Env → Res D) : Env → Res D := fun ρ => do let k ← c ρ; if k = true then a ρ else b ρ
abbrev lNil : Env → Res (List D) := fun _ => .ok []
abbrev lCons (a : Env → Res D) (l : Env → Res (List D)) : Env → Res (List D) := fun ρ => do let x ← a ρ; let xs ← l ρ; .ok (x :: xs)
abbrev fLst (l : Env → Res (List D)) : Env → Res D := fun ρ => l ρ >>= mkL
abbrev fTup (l : Env → Res (List D)) : Env → Res D := fun ρ => l ρ >>= mkT
abbrev fCall (n : Nat) (G : List D → Res D) (l : Env → Res (List D)) : Env → Res D := fun ρ => do let xs ← l ρ; fnG n G xs
abbrev fMk (c n : Nat) (G : List D → Res (List D)) (l : Env → Res (List D)) : Env → Res D := fun ρ => do let xs ← l ρ; mkG c n G xs
abbrev fB (rc : List D → Option D) (l : Env → Res (List D)) : Env → Res D := fun ρ => do let xs ← l ρ; opt (rc xs)
abbrev fSlc (a : Env → Res D) (l h : Env → Res (Option Int)) : Env → Res D := fun ρ => do let x ← a ρ; let u ← l ρ; let v ← h ρ; opt (slcD x u v)
abbrev oNo : Env → Res (Option Int) := fun _ => .ok none
abbrev oSo (a : Env → Res D) : Env → Res (Option Int) := fun ρ => a ρ >>= ptI
abbrev fSplit (a b : Env → Res D) : Env → Res D := fun ρ => do let x ← a ρ; let s ← strD x; let y ← b ρ; let t ← strD y; splD s t
abbrev fLc (fi : Env → Res (List D)) (h : D → Env → Option Env) (gt : Env → Res Bool) (fe : Env → Res D) (us : List Nat) : Env → Res D := fun ρ => do let items ← fi ρ; let ys ← lcD h gt fe (wipeE ρ us) items; mkL ys
abbrev iSq (a : Env → Res D) : Env → Res (List D) := fun ρ => a ρ >>= seqD
abbrev iR1 (l : Env → Res (List D)) : Env → Res (List D) := fun ρ => l ρ >>= rng1
abbrev tYes' : Env → Res Bool := fun _ => .ok true
abbrev zF (a : Env → Res D) : Env → Res Str := fun ρ => a ρ >>= fmtD
abbrev zS (x : Str) : Env → Res Str := fun _ => .ok x
abbrev fF1 (f1 : Env → Res Str) : Env → Res D := fun ρ => do let x ← f1 ρ; .ok (.str x)
abbrev fF3 (f1 f2 f3 : Env → Res Str) : Env → Res D := fun ρ => do let x ← f1 ρ; let u ← ckS (Str.empty ++ x); let y ← f2 ρ; let v ← ckS (u ++ y); let z ← f3 ρ; let w ← ckS (v ++ z); .ok (.str w)
abbrev sSeq (g1 g2 : Env → RS) : Env → RS := fun ρ => seqS (g1 ρ) g2
abbrev sRet (a : Env → Res D) : Env → RS := fun ρ => bindS (a ρ) ρ .rt
abbrev sIf (c : Env → Res Bool) (g1 g2 : Env → RS) : Env → RS := fun ρ => bindS (c ρ) ρ fun k => if k = true then g1 ρ else g2 ρ
abbrev sSet (i : Nat) (a : Env → Res D) : Env → RS := fun ρ => bindS (a ρ) ρ fun d => .nx (ρ.set i (some (.sh d)))
abbrev sSetO (i : Nat) (a : Env → Res D) : Env → RS := fun ρ => bindS (a ρ) ρ fun d => .nx (ρ.set i (some (.ow d)))
abbrev sFor (fi : Env → Res (List D)) (h : D → Env → Option Env) (g : Env → RS) : Env → RS := fun ρ => bindS (fi ρ) ρ fun items => forD h g items ρ
abbrev sApp (i : Nat) (a : Env → Res D) : Env → RS := fun ρ => bindS (isOw i ρ) ρ fun _ => bindS (a ρ) ρ fun d => appD i ρ d
abbrev sPar (i j : Nat) (l : Env → Res (List D)) : Env → RS := fun ρ => bindS (l ρ) ρ (par2 i j ρ)
abbrev sAsg (a : Env → Res D) (h : D → Env → Option Env) : Env → RS := fun ρ => bindS (a ρ) ρ fun d => match h d ρ with | some ρ' => .nx ρ' | none => .bad
abbrev sRaise (c : Nat) (a : Env → Res D) : Env → RS := fun ρ => bindS (a ρ) ρ fun d => .err c (some d) ρ
abbrev sFld (nm : Nat → List Str) (f : Str) (i : Nat) (a : Env → Res D) : Env → RS := fun ρ => bindS (a ρ) ρ fun d => setF nm f ρ i d
abbrev sFrz (i : Nat) (g : Env → RS) : Env → RS := fun ρ => g (frz i ρ)
abbrev sBad : Env → RS := fun _ => .bad
abbrev sTryAs (gb : Env → RS) (c i : Nat) (gs : Option D → Env → Res D) : Env → RS := tryD gb c fun p ρ => if i < ρ.length then noErr (gs p (ρ.set i none)) else .bad

section
variable {X : Cx} {P : Pm} {F0 : Fz} {H0 : Hp} {W : WX} {a b c e o : Expr} {es : List Expr} {fa fb fc : Env → Res D} {fs : Env → Res (List D)} {pos p apos : Pos} {st : Stmt} {sts tts : List Stmt} {g g1 g2 : Env → RS} {F H : Hp} {σ : L2.St}
variable {k n : Nat} {x : Str} {G : List D → Res D} {GI : List D → Res (List D)}
/-! ### what the program's own things keep -/
structure CalD (prog : Program) (w : World) (K : PySem.W.Frag) (mg : Str → Option Value) (base : Heap) (P : Pm) (k : Nat) (x : Str) (n : Nat) (G : List D → Res D) : Prop where
  ex : ∃ f fd ps, FnOk prog w K mg base (L2.CX prog w) k f fd ps (spD P n G) ∧ mg x = some (.ref f) ∧ PySem.W.keepIn K (.ref f) = true ∧ Binds K fd ps []
theorem pd_cal (c : CalD X.prog X.w X.K X.mg X.base P k x n G) (hr : Room k X.A) (tk : Takes X W) (ha : PA X (e :: es) (tL P F0 H0 W fs)) (hg : Gl X x := by rfl) (hdb : (x == ("__debug__" : Str)) = false := by decide) (he : starEach (e :: es) X.env = (false, eval e X.env) :: starEach es X.env := by rfl) (hpl : (backTo pos (starEach es X.env)).any (·.1) = false := by rfl) :
    PE X (.Call (.Name x p) (e :: es) [] pos) (tE P F0 H0 W (fCall n G fs)) := by
  obtain ⟨f, fd, ps, h1, h2, h3, h4⟩ := c.ex
  have := pd_call (p := p) h1 hr hg h2 h3 h4 .nil Dfl.nil tk ha hdb he hpl
  simpa only [List.append_nil] using this
structure MkD (prog : Program) (w : World) (K : PySem.W.Frag) (mg : Str → Option Value) (base : Heap) (P : Pm) (k : Nat) (x : Str) (cn n : Nat) (G : List D → Res (List D)) : Prop where
  ex : ∃ f fd ps, Mk K (P.C cn) f ∧ FnOk prog w K mg base (L2.CX prog w) k f fd ps (spI P cn n G) ∧ mg x = some (.ref (P.C cn)) ∧ Binds K fd ps []
theorem pd_mk {cn : Nat} (c : MkD X.prog X.w X.K X.mg X.base P k x cn n GI) (hr : Room (k + 1) X.A) (tk : Takes X W) (ha : PA X (e :: es) (tL P F0 H0 W fs)) (hg : Gl X x := by rfl) (hdb : (x == ("__debug__" : Str)) = false := by decide) (he : starEach (e :: es) X.env = (false, eval e X.env) :: starEach es X.env := by rfl) (hpl : (backTo pos (starEach es X.env)).any (·.1) = false := by rfl) :
    PE X (.Call (.Name x p) (e :: es) [] pos) (tE P F0 H0 W (fMk cn n GI fs)) := by
  obtain ⟨f, fd, ps, h0, h1, h2, h4⟩ := c.ex
  have := pd_make (p := p) h0 h1 hr hg h2 h4 .nil Dfl.nil tk ha hdb he hpl
  simpa only [List.append_nil] using this
structure OwnD (prog : Program) (w : World) (K : PySem.W.Frag) (mg : Str → Option Value) (base : Heap) (P : Pm) (k : Nat) (m : Str) (cn n : Nat) (G : List D → Res D) : Prop where
  ex : ∃ f fd ps, FnOk prog w K mg base (L2.CX prog w) k f fd ps (spD P n G) ∧ OwnM K (P.C cn) m f ∧ Binds K fd ps []
theorem pd_ngD (c : OwnD X.prog X.w X.K X.mg X.base P k "__neg__" 0 1 G) (hr : Room k X.A) (tk : Takes X W) (ha : PE X a (tE P F0 H0 W fa)) : PE X (.UnaryOp .USub a pos) (tE P F0 H0 W (fM (negN G) fa)) := by
  obtain ⟨f, fd, ps, h0, h1, h2⟩ := c.ex
  exact pd_neg h0 h1 hr h2 tk ha
theorem pd_stD {p1 : Pos} (c : OwnD X.prog X.w X.K X.mg X.base P k "__str__" 0 1 G) (hr : Room (k + 2) X.A) (tk : Takes X W) (hm : X.mg "str" = none) (ha : PE X a (tE P F0 H0 W fa)) (hg : Gl X "str" := by rfl) (he : starEach [a] X.env = (false, eval a X.env) :: starEach [] X.env := by rfl) (hpl : (backTo pos (starEach [] X.env)).any (·.1) = false := by rfl) :
    PE X (.Call (.Name "str" p1) [a] [] pos) (tE P F0 H0 W (fM (strN G) fa)) := by
  obtain ⟨f, fd, ps, h0, h1, h2⟩ := c.ex
  exact pd_strN h0 h1 hr h2 tk hg hm ha he hpl
/-! ### comparisons as tests, as values -/
theorem td_pc {cop : CmpOp} {f : Env → Res D} (h : PC X cop a b (tE P F0 H0 W f)) (hm : behindInMarks cop b = false) : PT X (.Compare a [cop] [b] pos) (tT P F0 H0 W (tB' f)) := (pt_cmp h hm).imp fun _ _ _ z => tB_of z
theorem pd_pcv {cop : CmpOp} {f : Env → Res D} (h : PC X cop a b (tE P F0 H0 W f)) (hm : behindInMarks cop b = false) : PE X (.Compare a [cop] [b] pos) (tE P F0 H0 W f) := pe_cmp h hm
theorem td_yes : PTs X [] (tT P F0 H0 W tYes') := ⟨fun pins s σ H Q I ⟨F, ρ, er, z⟩ => pts_nil.run pins s σ H Q I (z.here er.s rfl)⟩
/-! ### the script -/
def cLenS : List D → Option D
  | [.scr ns] => some (.int (ns.length : Nat))
  | _ => none
theorem ic_lenS (hK : P.K = X.K) : CallR X (.builtin "len") (rcO P cLenS) := fun pins s σ H xs us Q I rx ⟨F, ds, d, e, i, hd, q⟩ => by
  unfold cLenS at hd
  split at hd
  · cases hd
    obtain ⟨v, r, rfl, i1, i⟩ := i.uncons
    obtain rfl := i.unnil
    obtain ⟨a, rfl, h1⟩ := i1
    rw [hK] at h1
    exact call_len_seq pins s σ H _ us Q I rx ⟨a, _, rfl, .inl h1, by simpa using q.here e is_int⟩
  · cases hd
def itemS : D → D → Option D
  | .scr ns, .int i => (atI ns i).map .int
  | _, _ => none
theorem atI_map {α β : Type} {f : α → β} {xs : List α} {i : Int} {v : α} (h : atI xs i = some v) : atI (xs.map f) i = some (f v) := by
  unfold atI at h ⊢
  rw [List.length_map]
  cases hj : ixN xs.length i with
  | none =>
    rw [hj] at h
    cases h
  | some j =>
    rw [hj] at h
    have h' : xs[j]? = some v := h
    show (xs.map f)[j]? = some (f v)
    rw [List.getElem?_map, h']
    rfl
theorem pd_ixS (hK : P.K = X.K) (ha : PE X a (tV P F0 H0 W fa)) (hb : PE X b (tV P F0 H0 W fb)) (hs : PlainIx b) : PE X (.Subscript a b pos) (tE P F0 H0 W (fOp itemS fa fb)) :=
  (pe_ix ix_seq ha hb hs).imp fun σ H Q z => by
  obtain ⟨F, ρ, er, z⟩ := two_of z
  refine ⟨F, ρ, er, z.imp fun x H1 ⟨F1, ρ1, er1, z1⟩ => ⟨F1, ρ1, er1, z1.imp ?_⟩⟩
  rintro y H2 ⟨F2, dx, dy, s2, i1, i2, z2⟩
  obtain ⟨d, hd, q⟩ := opt_of z2
  unfold itemS at hd
  split at hd
  · rename_i ns i
    obtain ⟨p, rfl, h1⟩ := i1
    rw [hK] at h1
    obtain rfl : y = .int i := i2
    cases hz : atI ns i with
    | none =>
      rw [hz] at hd
      cases hd
    | some z =>
      rw [hz] at hd
      cases hd
      exact .inl ⟨p, _, i, .int z, rfl, rfl, h1, atI_map hz, q _ F2 H2 (.refl s2) is_int⟩
  · cases hd
end
section
variable {prog : Program} {w : World} {K : PySem.W.Frag} {mg : Str → Option Value} {base : Heap} {P : Pm}
/-- an __init__ with defaults -/
theorem fndJ {c : Nat} {x qual : Str} {params : Arguments} {body : List Stmt} {scope : Scope} {dvs : List V} {kws : List (Str × V)} {f : Addr} {fd : FuncData} {N ps : List Str} {k : Nat} {g : Env → RS} {n : Nat} (hn : ps.length = n + 1) (hN : N ≠ []) (Fu : FunD K x qual params body scope dvs kws f fd) (S : FnScope N ps scope)
    (hbody : ∀ (cdv : Value) (A : Around) (outer : List PySem.Env) (s : Shared) (H F0 H0 : Hp) (x : Addr) (E : XK), Room k (A.deeper (PyProof.Rows.envOfC qual scope s.heap.objs.size f cdv)) →
      PSs (cxOf (L2.CX prog w) prog w K mg base N qual scope f cdv A outer s H E) body (tS P ⟨F0, some x⟩ H0 (WE0 E) g)) :
    FnOk prog w K mg base (L2.CX prog w) (k + 1) f fd ps (spI P c n (runI c g N.length)) := by
  refine Fu.ok S (fun vs H Q E ⟨x, dx, args, F, ds, e, _, _, _, i, hl, _⟩ => by rw [e, List.length_cons, ← i.length, hl, hn]) (fun cdv A outer s H vs Q E hr h => ?_)
  obtain ⟨x, dx, args, F, ds, rfl, hx, hf, sx, i, hl, z⟩ := h
  refine ⟨_, hbody cdv A outer s H F (minus H x) x E hr, F, env0I c N.length ds, er_startI hN sx i hx hf, ?_⟩
  unfold runI at z
  cases hg : g (env0I c N.length ds) with
  | nx ρ =>
    rw [hg] at z
    intro σ F' H' er _
    replace z : PostG P (WE0 E) (fun F' _ fs v => v = .non ∧ Is P F' (.obj c fs) (.ref x)) (selfF c ρ) F [] (minus H x) Q := z
    have hx0 := er.self x rfl
    cases hs : selfF c ρ with
    | bad =>
      rw [hs] at z
      exact z.elim
    | err e p => exact absurd hs selfF_noerr
    | ok xs =>
      rw [hs] at z
      rcases selfF_of hs with q | q
      · obtain ⟨a, h1, h2, h3, h4⟩ := er.ow 0 _ q
        rw [hx0] at h1
        cases h1
        obtain ⟨F2, e1, e2, i2, n2⟩ := h4.still er.s h3 rfl
        refine z .non F2 H' ⟨er.g.f.trans e1, er.g.h, e2, fun b o hb => ?_⟩ ⟨rfl, i2⟩
        rcases n2 b o hb with y | y
        · exact er.g.n b o y
        · exact .inr (.inl (y ▸ .of minus_same))
      · obtain ⟨v, h1, h2⟩ := er.sh 0 _ q
        rw [hx0] at h1
        cases h1
        exact z .non F' H' er.g ⟨rfl, h2⟩
  | rt d =>
    rw [hg] at z
    exact z.elim
  | ro d =>
    rw [hg] at z
    exact z.elim
  | bk ρ =>
    rw [hg] at z
    exact z.elim
  | ct ρ =>
    rw [hg] at z
    exact z.elim
  | err e p ρ =>
    rw [hg] at z
    exact fun σ F' H' y er _ q => z F' H' y er.g q
  | bad =>
    rw [hg] at z
    exact z.elim
/-- a def, its name, its promise -/
theorem calD {x y qual : Str} {st : Stmt} {f : Addr} {fd : FuncData} {N ps : List Str} {k : Nat} {g : Env → RS} (Fu : Fun K x qual st f fd) (S : FnScope N ps (defScope st)) (hm : mg y = some (.ref f)) (hb : Binds K fd ps [])
    (hbody : ∀ (cdv : Value) (A : Around) (outer : List PySem.Env) (s : Shared) (H F0 : Hp) (E : XK), Room k (A.deeper (PyProof.Rows.envOfC qual (defScope st) s.heap.objs.size f cdv)) →
      PSs (cxOf (L2.CX prog w) prog w K mg base N qual (defScope st) f cdv A outer s H E) (defBody st) (tS P ⟨F0, none⟩ H (WE0 E) g)) :
    CalD prog w K mg base P (k + 1) y ps.length (runB g N.length) := ⟨f, fd, ps, fnd Fu S hbody, hm, Fu.kp, hb⟩
theorem ownD {c : Nat} {x qual : Str} {st : Stmt} {f : Addr} {fd : FuncData} {N ps : List Str} {k : Nat} {g : Env → RS} (Fu : Fun K x qual st f fd) (S : FnScope N ps (defScope st)) (hm : OwnM K (P.C c) x f) (hb : Binds K fd ps [])
    (hbody : ∀ (cdv : Value) (A : Around) (outer : List PySem.Env) (s : Shared) (H F0 : Hp) (E : XK), Room k (A.deeper (PyProof.Rows.envOfC qual (defScope st) s.heap.objs.size f cdv)) →
      PSs (cxOf (L2.CX prog w) prog w K mg base N qual (defScope st) f cdv A outer s H E) (defBody st) (tS P ⟨F0, none⟩ H (WE0 E) g)) :
    OwnD prog w K mg base P (k + 1) x c ps.length (runB g N.length) := ⟨f, fd, ps, fnd Fu S hbody, hm, hb⟩
theorem mkD {c : Nat} {x y qual : Str} {params : Arguments} {body : List Stmt} {scope : Scope} {dvs : List V} {kws : List (Str × V)} {f : Addr} {fd : FuncData} {N ps : List Str} {k : Nat} {g : Env → RS} {n : Nat} (hn : ps.length = n + 1) (hN : N ≠ []) (Fu : FunD K x qual params body scope dvs kws f fd) (S : FnScope N ps scope) (M : Mk K (P.C c) f) (hm : mg y = some (.ref (P.C c))) (hb : Binds K fd ps [])
    (hbody : ∀ (cdv : Value) (A : Around) (outer : List PySem.Env) (s : Shared) (H F0 H0 : Hp) (x : Addr) (E : XK), Room k (A.deeper (PyProof.Rows.envOfC qual scope s.heap.objs.size f cdv)) →
      PSs (cxOf (L2.CX prog w) prog w K mg base N qual scope f cdv A outer s H E) body (tS P ⟨F0, some x⟩ H0 (WE0 E) g)) :
    MkD prog w K mg base P (k + 1) y c n (runI c g N.length) := ⟨f, fd, ps, M, fndJ hn hN Fu S hbody, hm, hb⟩
/-- the law's head: what a law's def must answer -/

def noT (H : Hp) : Hp := fun b => match H b with
  | some o => if isT o = true then none else some o
  | none => none
theorem noT_of {H : Hp} {a : Addr} {o : HO} (h : noT H a = some o) : H a = some o ∧ isT o = false := by
  unfold noT at h
  split at h
  · rename_i o' e
    split at h
    · cases h
    · rename_i n
      cases h
      exact ⟨e, by simpa using n⟩
  · cases h
theorem noT_at {H : Hp} {a : Addr} {o : HO} (h : H a = some o) (hn : isT o = false) : noT H a = some o := by
  unfold noT
  rw [h]
  exact if_neg (by rw [hn]; simp)
theorem noT_sb {H : Hp} (t : LamX.Tabs P.T H) : Sb P (noT H) H := ⟨fun a o h => (noT_of h).1, fun a o h => (noT_of h).2, t⟩
theorem noT_sq {H : Hp} {a : Addr} {xs : List V} (h : SqL K H a xs) : SqL K (noT H) a xs := by
  rcases h with (h | ⟨o, h⟩) | h
  · exact .inl (.inl (noT_at h rfl))
  · exact .inl (.inr ⟨o, noT_at h rfl⟩)
  · exact .inr h
theorem law_post {G : List D → Res D} (hp : P.K = K) (hG : ∀ ns : List Int, ns.length ≤ 63 → G [.scr ns] = .ok (.bl true)) (H : Hp) (a : Addr) (ns : List Int) (hl : ns.length ≤ 63) (hT : LamX.Tabs P.T H) (hS : SqL K H a (ns.map V.int)) :
    spD P 1 G [.ref a] H (fun v _ => v = .bl true) fun _ _ _ => False := by
  refine ⟨noT H, [.scr ns], noT_sb hT, .cons (by rw [Is]; exact ⟨a, rfl, hp ▸ noT_sq hS⟩) .nil, rfl, ?_⟩
  rw [hG ns hl]
  intro v F' H' _ h
  exact un_bl h
end
end DL
namespace DL
open PySem L2
abbrev dSub : D → D → Option D := int2 fun i j => some (.int (i - j))
abbrev dLt : D → D → Option D := int2 fun i j => some (.bl (decide (i < j)))
abbrev dLe : D → D → Option D := int2 fun i j => some (.bl (decide (i ≤ j)))
abbrev dGt : D → D → Option D := int2 fun i j => some (.bl (decide (j < i)))
abbrev dGe : D → D → Option D := int2 fun i j => some (.bl (decide (j ≤ i)))
/-- turns that a while is given -/
def big : Nat := 10 ^ 400
def ib_int : D → Option Bool
  | .int _ => some true
  | .bl _ => some true
  | .scr _ => none
  | _ => some false
def ib_bool : D → Option Bool
  | .bl _ => some true
  | .scr _ => none
  | _ => some false
def ib_Ratio : D → Option Bool
  | .obj _ _ => some true
  | .scr _ => none
  | _ => some false
section
variable {X : Cx} {P : Pm} {F0 : Fz} {H0 : Hp} {W : WX} {pos : Pos}
theorem pd_gl {x z : Str} (hg : Gl X x) (hm : ∃ t, X.mg x = some (.str z t)) (hd : (x == ("__debug__" : Str)) = false) : PE X (.Name x pos) (tE P F0 H0 W (fK (.str z))) := by
  obtain ⟨t, ht⟩ := hm
  exact pd_const (pe_glob hg ht (v := .str z) ⟨t, rfl⟩ hd) fun F => by rw [Is]
end
/-- no built-in's object is one of the class at C -/
structure NoB (K : PySem.W.Frag) (C : Addr) : Prop where
  n1 : PySem.W.kitOne K (.type "NoneType") (.ref C) = some false
  n2 : PySem.W.kitOne K (.type "bool") (.ref C) = some false
  n3 : PySem.W.kitOne K (.type "int") (.ref C) = some false
  n4 : PySem.W.kitOne K (.type "str") (.ref C) = some false
  n5 : PySem.W.kitOne K (.type "list") (.ref C) = some false
  n6 : PySem.W.kitOne K (.type "tuple") (.ref C) = some false
  n7 : PySem.W.kitOne K (.type "dict") (.ref C) = some false
section
variable {K : PySem.W.Frag} {P : Pm} {C : Addr}
theorem kit_int (h : ∀ c, PySem.W.kitOne K (.ref (P.C c)) (.type "int") = some false) : ∀ d b, ib_int d = some b → PySem.W.kitOne K (tyD P d) (.type "int") = some b := by
  intro d b hb
  cases d <;> simp only [ib_int, Option.some.injEq] at hb <;> (try subst hb) <;> first | exact kit_ty rfl | exact h _ | cases hb
theorem kit_bool (h : ∀ c, PySem.W.kitOne K (.ref (P.C c)) (.type "bool") = some false) : ∀ d b, ib_bool d = some b → PySem.W.kitOne K (tyD P d) (.type "bool") = some b := by
  intro d b hb
  cases d <;> simp only [ib_bool, Option.some.injEq] at hb <;> (try subst hb) <;> first | exact kit_ty rfl | exact h _ | cases hb
theorem kit_Ratio (hC : ∀ c, P.C c = C) (h : NoB K C) : ∀ d b, ib_Ratio d = some b → PySem.W.kitOne K (tyD P d) (.ref C) = some b := by
  intro d b hb
  cases d <;> simp only [ib_Ratio, Option.some.injEq] at hb <;> (try subst hb) <;> first | exact h.n1 | exact h.n2 | exact h.n3 | exact h.n4 | exact h.n5 | exact h.n6 | exact h.n7 | cases hb | skip
  show PySem.W.kitOne K (.ref (P.C _)) (.ref C) = some true
  rw [hC]
  unfold PySem.W.kitOne
  rw [if_pos (by simp)]
end
end DL
namespace PySem
namespace ErrX
open PySem.W PySem.Calls PyProof.Rows
theorem asInt_ref {x : Addr} {ox : Obj} {M : Model} {A : Around} {E : Value → Shared → Prop} {s : Shared} {Q : Option Int → Shared → Prop} (at_ : s.heap.get? x = some ox) (hd : ∀ i u, ox.data ≠ .prim (.int i u)) (hq : Q none s) : wpAny M A (asInt? (.ref x)) Q E s := by
  simp only [asInt?]
  refine wpAny_bind (wpAny_load at_ ?_)
  split
  · rename_i i u h
    exact absurd h (hd i u)
  · exact wpAny_pure hq
theorem decl_ref {name : String} {f : Int → Int → Sem Fin} {r : Bool} {a : Int} {t : Tok} {x : Addr} {ox : Obj} {M : Model} {A : Around} {E : Value → Shared → Prop} {s : Shared} {Q : Fin → Shared → Prop} (at_ : s.heap.get? x = some ox) (hd : ∀ i u, ox.data ≠ .prim (.int i u)) (hq : Q (.done (.ret .notImplemented)) s) :
    wpAny M A (Builtin.Int.intBinary name f r ⟨[.int a t, .ref x], []⟩) Q E s := by
  unfold Builtin.Int.intBinary
  have e1 : slotArgs name 1 { pos := [Value.int a t, Value.ref x] } = pure (Value.int a t, [Value.ref x]) := rfl
  have e2 : Builtin.Int.intOfSelf (Value.int a t) = pure a := rfl
  rw [e1, pure_bind]
  dsimp only
  rw [e2, pure_bind]
  refine wpAny_bind (asInt_ref at_ hd ?_)
  dsimp only
  exact wpAny_bind (wpAny_rule (wpAny_pure hq))
section
variable {prog : Program} {w : World} {A : Around} {E : Value → Shared → Prop} {s : Shared} {K : Frag} {x C L f : Addr} {h₀ : Heap} {m : Str → Option Value} {ox : Obj} {od : Option Obj}
/-- what an int and an instance of an own class need for a binary operator: the int's way declines, the class's reflected one is taken -/
structure RBin (op : Operator) (idl : String) : Prop where
  fills : fillsNumberSlot (.type "int") op.info.2 = pure true
  slot : Slot "int" (PySem.dunder op.info.2) idl
  decl : ∀ {prog : Program} {w : World} {A : Around} {E : Value → Shared → Prop} {s : Shared} {Q : Value → Shared → Prop} {a : Int} {t : Tok} {x : Addr} {ox : Obj}, s.heap.get? x = some ox → (∀ i u, ox.data ≠ .prim (.int i u)) → Q .notImplemented s → wpAny (model prog w) A (call (.builtin idl) [.int a t, .ref x]) Q E s
theorem rbin_K {op : Operator} {idl : String} {a : Int} {t : Tok} {Q : Value → Shared → Prop} (R : RBin op idl) (F : Fr h₀ L s.heap m) (X₀ : K.In h₀) (I : InstAt s.heap x ox C od) (hd : ∀ i u, ox.data ≠ .prim (.int i u)) (hc : selfFirst K C = true) {g : Addr}
    (hs : findIn K (.ref C) (PySem.dunder op.info.2) = some (some (.ref g))) (hr : findIn K (.ref C) (dunderR op.info.2) = some (some (.ref f))) (hf : isFn K (.ref f) = true) (hsub : subIn K (.ref C) (.type "int") = some false)
    (h : wpAny (model prog w) A (call (.ref f) [.ref x, .int a t]) (W.CmpBack Q) E s) : wpAny (model prog w) A (binaryOp op (.int a t) (.ref x)) Q E s := by
  have X := X₀.keeps F.keep
  obtain ⟨cd, rest, hcd, hm⟩ := ksp_first hc
  obtain ⟨fl, sl, dc⟩ := R
  rcases hi : op.info with ⟨sym, nm'⟩
  rw [hi] at hs hr fl sl
  dsimp only at hs hr fl sl
  have one := ksp_try X I hr hf h
  have L1 : Looks (model prog w) s.heap (typeOf (.ref x)) (.ref C) := I.type
  have L3 : Looks (model prog w) s.heap (fillsNumberSlot (.ref C) nm') true := fills_K X hcd hm hs
  have L5 : Looks (model prog w) s.heap (isSubtype (.ref C) (.type "int")) false := looks_subIn X hsub
  have hne : (Value.type "int" == Value.ref C) = false := Bool.eq_false_iff.mpr fun q => by cases beq_iff_eq.mp q
  have ha : s.TypeIs (.int a t) "int" := typeIs_int s a t
  simp only [binaryOp, hi]
  refine wpAny_holding (wpAny_bind ?_)
  unfold binaryOp1
  refine wpAny_bind (wpAny_typeOf ha (wpAny_bind (L1.at (wpAny_bind (wpAny_of_eq fl ?_)))))
  simp only [hne, Bool.false_eq_true, if_false]
  refine wpAny_bind (L3.at ?_)
  simp only [Bool.and_self, if_true]
  refine wpAny_bind (L5.at ?_)
  have hpy : numberSlotInPython (.type "int") nm' = pure false := rfl
  simp only [Bool.false_eq_true, if_false, pure_bind, Bool.not_false, Bool.and_self, if_true, hpy]
  have t1 : wpAny (model prog w) A (tryMethod (.int a t) (PySem.dunder nm') (.ref x)) (fun r s' => r = none ∧ s' = s) E s := by
    unfold tryMethod
    refine wpAny_bind (wpAny_callSpecial?_slot ha sl (dc I.at_ hd ?_))
    exact wpAny_pure ⟨rfl, rfl⟩
  refine wpAny_bind (wpAny_mono t1 (fun r s' hr' => ?_) fun _ _ e => e)
  obtain ⟨rfl, rfl⟩ := hr'
  refine wpAny_bind (wpAny_mono one (fun r s' hr' => ?_) fun _ _ e => e)
  obtain ⟨v, rfl, hq⟩ := hr'
  exact wpAny_bind (wpAny_rule (wpAny_pure (wpAny_pure hq)))
theorem decl_call {id : String} {name : String} {ff : Int → Int → Sem Fin} {nm : Str} (slot : Slot "int" nm id) (entry : entryFor table id = some (Builtin.Int.intBinary name ff)) (args : ∀ (a : Int) (t : Tok) (x : Addr), argsOk id ⟨[.int a t, .ref x], []⟩)
    {prog : Program} {w : World} {A : Around} {E : Value → Shared → Prop} {s : Shared} {Q : Value → Shared → Prop} {a : Int} {t : Tok} {x : Addr} {ox : Obj} (at_ : s.heap.get? x = some ox) (hd : ∀ i u, ox.data ≠ .prim (.int i u)) (hq : Q .notImplemented s) :
    wpAny (model prog w) A (call (.builtin id) [.int a t, .ref x]) Q E s := by
  refine call_meets slot (typeIs_int s a t) entry (args a t x) (S := fun _ R s => (∃ ox : Obj, s.heap.get? x = some ox ∧ ∀ i u, ox.data ≠ .prim (.int i u)) ∧ R (.ok (.ret .notImplemented)) s) ?_ ⟨⟨ox, at_, hd⟩, hq⟩
  intro prog w A R s ⟨⟨o, h1, h2⟩, h3⟩
  exact decl_ref h1 h2 h3
end
end ErrX
end PySem
namespace DL
open PySem L2
theorem rb_add : PySem.ErrX.RBin .Add "int.__add__" := ⟨F.fills_int_add, F.slot_int_add, fun h1 h2 h3 => PySem.ErrX.decl_call F.slot_int_add F.entry_int_add (fun _ _ _ => F.args_int_add_2 _ _) h1 h2 h3⟩
theorem rb_sub : PySem.ErrX.RBin .Sub "int.__sub__" := ⟨F.fills_int_sub, F.slot_int_sub, fun h1 h2 h3 => PySem.ErrX.decl_call F.slot_int_sub F.entry_int_sub (fun _ _ _ => F.args_int_sub_2 _ _) h1 h2 h3⟩
theorem rb_mul : PySem.ErrX.RBin .Mult "int.__mul__" := ⟨F.fills_int_mul, F.slot_int_mul, fun h1 h2 h3 => PySem.ErrX.decl_call F.slot_int_mul F.entry_int_mul (fun _ _ _ => F.args_int_mul_2 _ _) h1 h2 h3⟩
/-- what the top tells of a class of numbers, for one operator -/
structure NumC (K : PySem.W.Frag) (C : Addr) (m mr : Str) : Prop where
  sf : PySem.W.selfFirst K C = true
  a1 : ∃ fo, PySem.W.findIn K (.type "int") m = some fo
  a2 : ∃ ro, PySem.W.findIn K (.type "int") mr = some ro
  s1 : PySem.W.subIn K (.type "int") (.ref C) = some false
  s2 : PySem.W.subIn K (.ref C) (.type "int") = some false
def opN (gi : Int → Int → Option D) (G GR : List D → Res D) : D → D → Res D
  | .int i, .int j => opt (gi i j)
  | .obj 0 xs, .int j => fnG 2 G [.obj 0 xs, .int j]
  | .obj 0 xs, .obj 0 ys => fnG 2 G [.obj 0 xs, .obj 0 ys]
  | .int i, .obj 0 ys => fnG 2 GR [.obj 0 ys, .int i]
  | _, _ => .bad
@[simp] abbrev fN (r : D → D → Res D) (a b : Env → Res D) : Env → Res D := fun ρ => do let x ← a ρ; let y ← b ρ; r x y
section
variable {X : Cx} {P : Pm} {F0 : Fz} {H0 : Hp} {W : WX} {a b : Expr} {fa fb : Env → Res D} {pos : Pos} {σ : L2.St} {H F : Hp} {k kr : Nat} {op : Operator} {idl : String} {m mr : Str} {gi : Int → Int → Option D} {G GR : List D → Res D}
theorem two_ofE {kk : D → D → Res D} {Q : VK} (h : tE P F0 H0 W (fun ρ => do let x ← fa ρ; let y ← fb ρ; kk x y) σ H Q) :
    tE P F0 H0 W fa σ H fun x H1 => tE P F0 H0 W fb σ H1 fun y H2 => ∃ F dx dy, Sb P F H2 ∧ Is P F dx x ∧ Is P F dy y ∧ PostG P W (rIs P) (kk dx dy) F σ H2 Q := by
  obtain ⟨F, ρ, er, z⟩ := h
  refine ⟨F, ρ, er, (PostG.bind (rel := rIs P) z).imp ?_⟩
  rintro x H1 ⟨F1, dx, g1, i1, z1⟩
  refine ⟨F1, ρ, er.grow g1, (PostG.bind (rel := rIs P) z1).imp ?_⟩
  rintro y H2 ⟨F2, dy, g2, i2, z2⟩
  exact ⟨F2, dx, dy, g2.s, i1.mono g2.f dx, i2, z2⟩
theorem ins_data {pins : List (Addr × Obj)} {s : Shared} {ad C dx : Addr} {fs : List (Str × V)} (I : Inv X pins σ H s) (h : H ad = some (.ins C dx fs)) : ∃ ox od, PySem.W.InstAt s.heap ad ox C od ∧ ∀ i u, ox.data ≠ .prim (.int i u) := by
  obtain ⟨mA, ho, _⟩ := ins_get I.hok h
  obtain ⟨od, h1, _⟩ := lookIn_ns ho.ns
  exact ⟨_, some od, ⟨ho.obj, rfl, rfl, h1⟩, fun i u e => by cases e⟩
theorem pd_opN (R : PySem.ErrX.RBin op idl) (hd : PySem.dunder op.info.2 = m) (hdr : PySem.dunderR op.info.2 = mr) (N : NumC X.K (P.C 0) m mr) (hi : OpR X (binaryOp op) (r2O P (int2 gi)))
    (c : OwnD X.prog X.w X.K X.mg X.base P k m 0 2 G) (cr : OwnD X.prog X.w X.K X.mg X.base P kr mr 0 2 GR) (hr : Room k X.A) (hrr : Room kr X.A) (tk : Takes X W) (ha : PE X a (tE P F0 H0 W fa)) (hb : PE X b (tE P F0 H0 W fb)) :
    PE X (.BinOp a op b pos) (tE P F0 H0 W (fN (opN gi G GR) fa fb)) := by
  obtain ⟨f, fd, ps, c1, c2, c3⟩ := c.ex
  obtain ⟨fr, fdr, psr, d1, d2, d3⟩ := cr.ex
  obtain ⟨fo, hfo⟩ := N.a1
  obtain ⟨ro, hro⟩ := N.a2
  refine ⟨fun pins s σ H Q I h => ?_⟩
  refine wpAny_BinOp (binT ha hb I (two_ofE h) fun v u s2 x y H2 I2 rx ry ⟨F, dx, dy, e, i1, i2, q⟩ => ?_)
  unfold opN at q
  split at q
  · exact od_of hi pins s2 σ F H2 x y v u _ _ Q I2 rx ry e (i1.vw e _) (i2.vw e _) q
  · obtain ⟨ad, dd, vs, rfl, h1, h2, h3⟩ := obj_of i1
    obtain rfl : v = Value.ref ad := rx
    obtain ⟨ox, od, J, _⟩ := ins_data I2 (e.ex _ _ h1)
    obtain ⟨mm, Fr⟩ := I2.fr
    obtain rfl := un_int i2
    obtain ⟨t, rfl⟩ := ry
    refine PySem.W.ksp_binT Fr I2.ok.mod.kin J (T := "int") rfl N.sf (by rw [hd]; exact c2.at_) c2.fn (by rw [hdr]; exact d2.at_) (.inr ⟨fr, rfl⟩) (by rw [hd]; exact hfo) (by rw [hdr]; exact hro) N.s1 ?_
    exact wpAny_mono (run_at (vs := [.ref ad, .int _]) (ds := [_, _]) c1 (sub_here hr) c3 tk I2 (.cons rfl (.cons ⟨t, rfl⟩ .nil)) e (.cons i1 (.cons i2 .nil)) q) (fun _ _ z => CmpBack_of z) fun _ _ z => z
  · obtain ⟨ad, dd, vs, rfl, h1, h2, h3⟩ := obj_of i1
    obtain ⟨bd, dd', vs', rfl, h1', h2', h3'⟩ := obj_of i2
    obtain rfl : v = Value.ref ad := rx
    obtain rfl : u = Value.ref bd := ry
    obtain ⟨ox, od, J, _⟩ := ins_data I2 (e.ex _ _ h1)
    obtain ⟨ox', od', J', _⟩ := ins_data I2 (e.ex _ _ h1')
    obtain ⟨mm, Fr⟩ := I2.fr
    refine PySem.W.binop_K Fr I2.ok.mod.kin J J'.type N.sf (by rw [hd]; exact c2.at_) c2.fn ?_
    exact wpAny_mono (run_at (vs := [.ref ad, .ref bd]) (ds := [_, _]) c1 (sub_here hr) c3 tk I2 (.cons rfl (.cons rfl .nil)) e (.cons i1 (.cons i2 .nil)) q) (fun _ _ z => CmpBack_of z) fun _ _ z => z
  · obtain ⟨bd, dd', vs', rfl, h1', h2', h3'⟩ := obj_of i2
    obtain rfl : u = Value.ref bd := ry
    obtain rfl := un_int i1
    obtain ⟨t, rfl⟩ := rx
    obtain ⟨ox', od', J', hp⟩ := ins_data I2 (e.ex _ _ h1')
    obtain ⟨mm, Fr⟩ := I2.fr
    refine PySem.ErrX.rbin_K R Fr I2.ok.mod.kin J' hp N.sf (by rw [hd]; exact c2.at_) (by rw [hdr]; exact d2.at_) d2.fn N.s2 ?_
    exact wpAny_mono (run_at (vs := [.ref bd, .int _]) (ds := [_, _]) d1 (sub_here hrr) d3 tk I2 (.cons rfl (.cons ⟨t, rfl⟩ .nil)) e (.cons i2 (.cons i1 .nil)) q) (fun _ _ z => CmpBack_of z) fun _ _ z => z
  · exact q.elim
end
end DL
namespace PySem
namespace ErrX
open PySem.W PySem.Calls PyProof.Rows
section
variable {prog : Program} {w : World} {A : Around} {E : Value → Shared → Prop} {s : Shared} {K : Frag} {x C L f : Addr} {h₀ : Heap} {m : Str → Option Value} {ox : Obj} {od : Option Obj}
/-- an int == an instance of an own class: the class answers -/
theorem req_K {a : Int} {t : Tok} {Q : Value → Shared → Prop} (hu : A.units < cLine) (Fm : Fr h₀ L s.heap m) (X₀ : K.In h₀) (I : InstAt s.heap x ox C od) (hd : ∀ i u, ox.data ≠ .prim (.int i u)) (hs : findIn K (.ref C) "__eq__" = some (some (.ref f))) (hf : isFn K (.ref f) = true) (hsub : subIn K (.ref C) (.type "int") = some false)
    (h : wpAny (model prog w) A (call (.ref f) [.ref x, .int a t]) (W.CmpBack Q) E s) : wpAny (model prog w) A (richCompare .Eq (.int a t) (.ref x)) Q E s := by
  have X := X₀.keeps Fm.keep
  have one : wpAny (model prog w) A (tryCompare (.ref x) "__eq__" (.int a t)) (fun r s' => ∃ v, r = some v ∧ Q v s') E s := by
    unfold tryCompare
    refine wpAny_bind (ifBound_K X I hs hf (wpAny_mono h (fun v s' hv => ?_) fun _ _ e => e))
    cases v <;> first | exact hv.elim | exact wpAny_pure ⟨_, rfl, hv⟩
  have ha : s.TypeIs (.int a t) "int" := typeIs_int s a t
  have t1 : wpAny (model prog w) A (tryCompare (.int a t) "__eq__" (.ref x)) (fun r s' => r = none ∧ s' = s) E s := by
    unfold tryCompare
    refine wpAny_bind (wpAny_callSpecialIfBound?_slot ha F.slot_int_eq (decl_call F.slot_int_eq F.entry_int_eq (fun _ _ _ => F.args_int_eq_2 _ _) I.at_ hd ?_))
    exact wpAny_pure ⟨rfl, rfl⟩
  have hne : (Value.type "int" != Value.ref C) = true := rfl
  have L5 : Looks (model prog w) s.heap (isSubtype (.ref C) (.type "int")) false := looks_subIn X hsub
  unfold richCompare
  have o1 : oneThing? .Eq (.int a t) (.ref x) = none := rfl
  simp only [o1]
  refine wpAny_holding (wpAny_bind (wpAny_cRoomFor hu ?_))
  refine wpAny_bind (wpAny_typeOf ha (wpAny_bind (I.type.here ?_)))
  simp only [hne, if_true]
  refine wpAny_bind (L5.here ?_)
  simp only [Bool.false_eq_true, if_false, Bool.not_false, if_true]
  refine wpAny_bind (wpAny_mono t1 (fun r s' z => ?_) fun _ _ e => e)
  obtain ⟨rfl, rfl⟩ := z
  refine wpAny_bind (wpAny_mono one (fun r s' z => ?_) fun _ _ e => e)
  obtain ⟨v, rfl, hq⟩ := z
  exact wpAny_pure hq
/-- not, of what the class's __eq__ tells -/
def NotBack (Q : Value → Shared → Prop) (v : Value) (s' : Shared) : Prop := ∃ b, v = .bool b ∧ Q (.bool (!b)) s'
theorem objNe_call {b : Value} {Q : Value → Shared → Prop} (hu : A.in1.units < cLine) (X : K.In s.heap) (I : InstAt s.heap x ox C od) (hs : findIn K (.ref C) "__eq__" = some (some (.ref f))) (hf : isFn K (.ref f) = true) (hm : mroIn K C (.type "object") = some true)
    (h : wpAny (model prog w) A.in1 (call (.ref f) [.ref x, b]) (NotBack Q) E s) : wpAny (model prog w) A (call (.builtin "object.__ne__") [.ref x, b]) Q E s := by
  refine wpAny_call (codeAny_call_builtin F.cmp_object.ne.plain F.cmpEntry_ne (PySem.W.check_slot F.cmpKind_ne F.cmpSplit_ne (I.type.andThen (PySem.W.looks_mroIn X hm)) (F.cmpArgs_ne _ _) ?_))
  unfold Builtin.«object.__ne__»
  have e1 : slotArgs "__ne__" 1 { pos := [Value.ref x, b] } = pure (Value.ref x, [b]) := rfl
  rw [e1, pure_bind]
  dsimp only
  refine wpAny_bind (wpAny_cRoomFor hu ?_)
  refine wpAny_bind (ifBound_K X I hs hf (wpAny_mono h (fun v s' hv => ?_) fun _ _ e => e))
  obtain ⟨k, rfl, hq⟩ := hv
  dsimp only
  exact wpAny_bind (wpAny_of_eq (rfl : truthy (.bool k) = pure k) (wpAny_pure hq))
theorem bound_ne {M : Model} {args : List Value} {Q : Option Value → Shared → Prop} (X : K.In s.heap) (I : InstAt s.heap x ox C od) (hs : findIn K (.ref C) "__ne__" = some (some (.builtin "object.__ne__")))
    (h : wpAny M A (call (.builtin "object.__ne__") (.ref x :: args)) (fun v => Q (some v)) E s) : wpAny M A (callSpecialIfBound? (.ref x) "__ne__" args) Q E s := by
  have fin : wpAny M A (call (.builtin "object.__ne__") ([.ref x] ++ args) >>= fun v => pure (some v)) Q E s := wpAny_bind (wpAny_mono h (fun _ _ z => wpAny_pure z) fun _ _ z => z)
  unfold callSpecialIfBound? bindSpecialIfBound?
  refine wpAny_holding (wpAny_bind (wpAny_bind (wpAny_bind (I.type.here ((looks_findIn X hs).here (wpAny_bind (wpAny_askSetting (wpAny_ite ?_))))))))
  split
  · exact wpAny_bind (wpAny_of_eq (F.cmp_object.ne.bind _) (wpAny_pure (by exact fin)))
  · exact wpAny_tryCatch (wpAny_bind (wpAny_of_eq (F.cmp_object.ne.bind _) (wpAny_pure (by exact fin))))
theorem try_ne {b : Value} {Q : Value → Shared → Prop} (hu : A.in1.units < cLine) (X : K.In s.heap) (I : InstAt s.heap x ox C od) (hs : findIn K (.ref C) "__eq__" = some (some (.ref f))) (hf : isFn K (.ref f) = true) (hn : findIn K (.ref C) "__ne__" = some (some (.builtin "object.__ne__"))) (hm : mroIn K C (.type "object") = some true)
    (h : wpAny (model prog w) A.in1 (call (.ref f) [.ref x, b]) (NotBack Q) E s) : wpAny (model prog w) A (tryCompare (.ref x) "__ne__" b) (fun r s' => ∃ v, r = some v ∧ Q v s') E s := by
  unfold tryCompare
  have z := objNe_call (Q := fun v s' => (∃ k, v = .bool k) ∧ Q v s') hu X I hs hf hm (wpAny_mono h (fun v s' ⟨k, e, q⟩ => ⟨k, e, ⟨!k, rfl⟩, q⟩) fun _ _ e => e)
  refine wpAny_bind (bound_ne X I hn (wpAny_mono z (fun v s' hz => ?_) fun _ _ e => e))
  obtain ⟨⟨k, rfl⟩, q⟩ := hz
  exact wpAny_pure ⟨_, rfl, q⟩
/-- an instance != something -/
theorem ne_K {b tb : Value} {Q : Value → Shared → Prop} (hu : A.units < cLine) (hu1 : A.in1.units < cLine) (Fm : Fr h₀ L s.heap m) (X₀ : K.In h₀) (I : InstAt s.heap x ox C od) (hb : Looks (model prog w) s.heap (typeOf b) tb) (hnf : notFirst K C tb = true) (hs : findIn K (.ref C) "__eq__" = some (some (.ref f))) (hf : isFn K (.ref f) = true) (hn : findIn K (.ref C) "__ne__" = some (some (.builtin "object.__ne__"))) (hm : mroIn K C (.type "object") = some true)
    (h : wpAny (model prog w) A.in1 (call (.ref f) [.ref x, b]) (NotBack Q) E s) : wpAny (model prog w) A (richCompare .NotEq (.ref x) b) Q E s := by
  have X := X₀.keeps Fm.keep
  have one := try_ne hu1 X I hs hf hn hm h
  unfold richCompare
  simp only [oneThing_ref]
  refine wpAny_holding (wpAny_bind (wpAny_cRoomFor hu (wpAny_bind (I.type.here (wpAny_bind (hb.here ?_))))))
  have fin : wpAny (model prog w) A (tryCompare (.ref x) "__ne__" b) (fun r s' => ∃ v, r = some v ∧ Q v s') E s := one
  split
  · rename_i q
    have e : subIn K tb (.ref C) = some false := by
      rcases Bool.or_eq_true_iff.mp hnf with z | z
      · rw [beq_iff_eq.mp z] at q
        simp at q
      · exact beq_iff_eq.mp z
    refine wpAny_bind ((looks_subIn X e).here ?_)
    refine wpAny_bind (wpAny_mono fin (fun r s' z => ?_) fun _ _ e => e)
    obtain ⟨v, rfl, hq⟩ := z
    exact wpAny_pure hq
  · refine wpAny_bind (wpAny_pure (wpAny_bind (wpAny_mono fin (fun r s' z => ?_) fun _ _ e => e)))
    obtain ⟨v, rfl, hq⟩ := z
    exact wpAny_pure hq
/-- an int != an instance -/
theorem rne_K {a : Int} {t : Tok} {Q : Value → Shared → Prop} (hu : A.units < cLine) (hu1 : A.in1.units < cLine) (Fm : Fr h₀ L s.heap m) (X₀ : K.In h₀) (I : InstAt s.heap x ox C od) (hd : ∀ i u, ox.data ≠ .prim (.int i u)) (hs : findIn K (.ref C) "__eq__" = some (some (.ref f))) (hf : isFn K (.ref f) = true) (hn : findIn K (.ref C) "__ne__" = some (some (.builtin "object.__ne__"))) (hm : mroIn K C (.type "object") = some true) (hsub : subIn K (.ref C) (.type "int") = some false)
    (h : wpAny (model prog w) A.in1 (call (.ref f) [.ref x, .int a t]) (NotBack Q) E s) : wpAny (model prog w) A (richCompare .NotEq (.int a t) (.ref x)) Q E s := by
  have X := X₀.keeps Fm.keep
  have one := try_ne hu1 X I hs hf hn hm h
  have ha : s.TypeIs (.int a t) "int" := typeIs_int s a t
  have t1 : wpAny (model prog w) A (tryCompare (.int a t) "__ne__" (.ref x)) (fun r s' => r = none ∧ s' = s) E s := by
    unfold tryCompare
    refine wpAny_bind (wpAny_callSpecialIfBound?_slot ha F.slot_int_ne (decl_call F.slot_int_ne F.entry_int_ne (fun _ _ _ => F.args_int_ne_2 _ _) I.at_ hd ?_))
    exact wpAny_pure ⟨rfl, rfl⟩
  have hne : (Value.type "int" != Value.ref C) = true := rfl
  have L5 : Looks (model prog w) s.heap (isSubtype (.ref C) (.type "int")) false := looks_subIn X hsub
  unfold richCompare
  have o1 : oneThing? .NotEq (.int a t) (.ref x) = none := rfl
  simp only [o1]
  refine wpAny_holding (wpAny_bind (wpAny_cRoomFor hu ?_))
  refine wpAny_bind (wpAny_typeOf ha (wpAny_bind (I.type.here ?_)))
  simp only [hne, if_true]
  refine wpAny_bind (L5.here ?_)
  simp only [Bool.false_eq_true, if_false, Bool.not_false, if_true]
  refine wpAny_bind (wpAny_mono t1 (fun r s' z => ?_) fun _ _ e => e)
  obtain ⟨rfl, rfl⟩ := z
  refine wpAny_bind (wpAny_mono one (fun r s' z => ?_) fun _ _ e => e)
  obtain ⟨v, rfl, hq⟩ := z
  exact wpAny_pure hq
end
end ErrX
end PySem
namespace DL
open PySem L2
def eqN (G : List D → Res D) : D → D → Res D
  | .obj 0 xs, y => if notScr y = true then fnG 2 G [.obj 0 xs, y] else .bad
  | .int i, .obj 0 ys => fnG 2 G [.obj 0 ys, .int i]
  | x, y => opt (eqD x y)
def notB (r : D) : Res D := match r with
  | .bl b => .ok (.bl (!b))
  | _ => .bad
def neN (G : List D → Res D) : D → D → Res D
  | .obj 0 xs, y => if notScr y = true then (do let r ← fnG 2 G [.obj 0 xs, y]; notB r) else .bad
  | .int i, .obj 0 ys => do let r ← fnG 2 G [.obj 0 ys, .int i]; notB r
  | x, y => opt (neD x y)
/-- what the top tells of a class with an __eq__ -/
structure EqC (K : PySem.W.Frag) (P : Pm) : Prop where
  nf : ∀ d, notScr d = true → PySem.W.notFirst K (P.C 0) (tyD P d) = true
  isi : ∀ c, IsiC K (P.C c)
  ne : PySem.W.findIn K (.ref (P.C 0)) "__ne__" = some (some (.builtin "object.__ne__"))
  s2 : PySem.W.subIn K (.ref (P.C 0)) (.type "int") = some false
section
variable {X : Cx} {P : Pm} {F0 : Fz} {H0 : Hp} {W : WX} {a b : Expr} {fa fb : Env → Res D} {pos : Pos} {σ : L2.St} {H F : Hp} {k : Nat} {G : List D → Res D}
theorem ty_looks {pins : List (Addr × Obj)} {s : Shared} {d : D} {v : V} {u : Value} (E : EqC X.K P) (I : Inv X pins σ H s) (e : Sb P F H) (i : Is P F d v) (r : RelV v u) (hs : notScr d = true) : PySem.W.Looks (model X.prog X.w) s.heap (typeOf u) (tyD P d) := by
  obtain ⟨Pp, kx, hp, _⟩ := kit_of I r ((i.vw e d).ty E.isi (fun ns q => by subst q; cases hs) (fun ks xs q => by subst q; cases hs))
  exact kx.ty _ _ I.kIn hp
theorem pc_eqN (E : EqC X.K P) (c : OwnD X.prog X.w X.K X.mg X.base P k "__eq__" 0 2 G) (hr : Room k X.A) (tk : Takes X W) (ha : PE X a (tE P F0 H0 W fa)) (hb : PE X b (tE P F0 H0 W fb)) : PC X .Eq a b (tE P F0 H0 W (fN (eqN G) fa fb)) := by
  obtain ⟨f, fd, ps, c1, c2, c3⟩ := c.ex
  refine ⟨fun pins s σ H Q I h => binT ha hb I (two_ofE h) fun v u s2 x y H2 I2 rx ry ⟨F, dx, dy, e, i1, i2, q⟩ => ?_⟩
  unfold eqN at q
  split at q
  · split at q
    · rename_i hns
      obtain ⟨ad, dd, vs, rfl, h1, h2, h3⟩ := obj_of i1
      obtain rfl : v = Value.ref ad := rx
      obtain ⟨ox, od, J, _⟩ := ins_data I2 (e.ex _ _ h1)
      obtain ⟨mm, Fr⟩ := I2.fr
      refine PySem.W.cmp_K (op := .Eq) hr.units0 Fr I2.ok.mod.kin J (ty_looks E I2 e i2 ry hns) (E.nf _ hns) c2.at_ c2.fn ?_
      exact wpAny_mono (run_at (vs := [.ref ad, y]) (ds := [_, _]) c1 (sub_here hr) c3 tk I2 (.cons rfl (.cons ry .nil)) e (.cons i1 (.cons i2 .nil)) q) (fun _ _ z => CmpBack_of z) fun _ _ z => z
    · exact q.elim
  · obtain ⟨bd, dd', vs', rfl, h1', h2', h3'⟩ := obj_of i2
    obtain rfl : u = Value.ref bd := ry
    obtain rfl := un_int i1
    obtain ⟨t, rfl⟩ := rx
    obtain ⟨ox', od', J', hp⟩ := ins_data I2 (e.ex _ _ h1')
    obtain ⟨mm, Fr⟩ := I2.fr
    refine PySem.ErrX.req_K hr.units0 Fr I2.ok.mod.kin J' hp c2.at_ c2.fn E.s2 ?_
    exact wpAny_mono (run_at (vs := [.ref bd, .int _]) (ds := [_, _]) c1 (sub_here hr) c3 tk I2 (.cons rfl (.cons ⟨t, rfl⟩ .nil)) e (.cons i2 (.cons i1 .nil)) q) (fun _ _ z => CmpBack_of z) fun _ _ z => z
  · exact od_of (io_eq hr.units) pins s2 σ F H2 x y v u _ _ Q I2 rx ry e (i1.vw e _) (i2.vw e _) q
theorem notB_of {pins : List (Addr × Obj)} {r : D} {v : V} {w : Value} {s : Shared} {Q : VK} (I : Inv X pins σ H s) (e : Sb P F H) (i : Is P F r v) (rv : RelV v w) (q : PostG P W (rIs P) (notB r) F σ H Q) : PySem.ErrX.NotBack (EP X pins σ Q) w s := by
  unfold notB at q
  split at q
  · rename_i bb
    obtain rfl := un_bl i
    obtain rfl : w = Value.bool bb := rv
    exact ⟨bb, rfl, .bl (!bb), H, I, rfl, q.here e is_bl⟩
  · exact q.elim
theorem pc_neN (E : EqC X.K P) (c : OwnD X.prog X.w X.K X.mg X.base P k "__eq__" 0 2 G) (hr : Room (k + 1) X.A) (tk : Takes X W) (ha : PE X a (tE P F0 H0 W fa)) (hb : PE X b (tE P F0 H0 W fb)) : PC X .NotEq a b (tE P F0 H0 W (fN (neN G) fa fb)) := by
  obtain ⟨f, fd, ps, c1, c2, c3⟩ := c.ex
  refine ⟨fun pins s σ H Q I h => binT ha hb I (two_ofE h) fun v u s2 x y H2 I2 rx ry ⟨F, dx, dy, e, i1, i2, q⟩ => ?_⟩
  unfold neN at q
  split at q
  · split at q
    · rename_i hns
      obtain ⟨ad, dd, vs, rfl, h1, h2, h3⟩ := obj_of i1
      obtain rfl : v = Value.ref ad := rx
      obtain ⟨ox, od, J, _⟩ := ins_data I2 (e.ex _ _ h1)
      obtain ⟨mm, Fr⟩ := I2.fr
      refine PySem.ErrX.ne_K hr.units0 hr.in1.units0 Fr I2.ok.mod.kin J (ty_looks E I2 e i2 ry hns) (E.nf _ hns) c2.at_ c2.fn E.ne (E.isi 0).hm ?_
      have z := run_at (W := W) (vs := [.ref ad, y]) (ds := [_, _]) c1 (sub_here hr).in1 c3 tk I2 (.cons rfl (.cons ry .nil)) e (.cons i1 (.cons i2 .nil)) (PostG.bind (rel := rIs P) q)
      refine wpAny_mono z (fun w s' hz => ?_) fun _ _ z => z
      obtain ⟨vv, H', I', r', F', d', g', i', q'⟩ := hz
      exact notB_of I' g'.s i' r' q'
    · exact q.elim
  · obtain ⟨bd, dd', vs', rfl, h1', h2', h3'⟩ := obj_of i2
    obtain rfl : u = Value.ref bd := ry
    obtain rfl := un_int i1
    obtain ⟨t, rfl⟩ := rx
    obtain ⟨ox', od', J', hp⟩ := ins_data I2 (e.ex _ _ h1')
    obtain ⟨mm, Fr⟩ := I2.fr
    refine PySem.ErrX.rne_K hr.units0 hr.in1.units0 Fr I2.ok.mod.kin J' hp c2.at_ c2.fn E.ne (E.isi 0).hm E.s2 ?_
    have z := run_at (W := W) (vs := [.ref bd, .int _]) (ds := [_, _]) c1 (sub_here hr).in1 c3 tk I2 (.cons rfl (.cons ⟨t, rfl⟩ .nil)) e (.cons i2 (.cons i1 .nil)) (PostG.bind (rel := rIs P) q)
    refine wpAny_mono z (fun w s' hz => ?_) fun _ _ z => z
    obtain ⟨vv, H', I', r', F', d', g', i', q'⟩ := hz
    exact notB_of I' g'.s i' r' q'
  · exact od_of (io_ne hr.units) pins s2 σ F H2 x y v u _ _ Q I2 rx ry e (i1.vw e _) (i2.vw e _) q
end
end DL
namespace DL
open PySem L2

section
variable {X : Cx} {P : Pm} {F0 : Fz} {H0 : Hp} {W : WX} {a b c e o : Expr} {es : List Expr} {fa fb fc : Env → Res D} {ga gb gc : Env → Res Bool} {fs : Env → Res (List D)} {pos p apos : Pos} {σ : St} {H F : Hp}
/-- a if c else b, as a test -/
theorem td_ifx (hc : PT X c (tT P F0 H0 W gc)) (ha : PT X a (tT P F0 H0 W ga)) (hb : PT X b (tT P F0 H0 W gb)) : PT X (.IfExp c a b pos) (tT P F0 H0 W (fun ρ => do let k ← gc ρ; if k = true then ga ρ else gb ρ)) := by
  refine ⟨fun pins s σ H Q I h => ?_⟩
  obtain ⟨F, ρ, er, z⟩ := h
  show wpAny _ _ (isTrue c X.env (eval c X.env) >>= fun k => if k = true then isTrue a X.env (eval a X.env) else isTrue b X.env (eval b X.env)) _ _ s
  refine wpAny_bind (thn (hc.run pins s σ H _ I ⟨F, ρ, er, PostG.bind (rel := rBo) z⟩) ?_)
  rintro k s1 ⟨H1, I1, F1, d, g, i, q⟩
  subst i
  by_cases hv : k = true
  · rw [if_pos hv] at q ⊢
    exact ha.run pins s1 σ H1 Q I1 ⟨F1, ρ, er.grow g, q⟩
  · rw [if_neg hv] at q ⊢
    exact hb.run pins s1 σ H1 Q I1 ⟨F1, ρ, er.grow g, q⟩
/-! ### products of great numbers -/
def mulB (i j : Int) : Option D := if i.natAbs.log2 + j.natAbs.log2 < 1000000 ∨ (-(2 ^ 64) < i ∧ i < 2 ^ 64) ∨ (-(2 ^ 64) < j ∧ j < 2 ^ 64) then some (.int (i * j)) else none
theorem io_mulB : OpR X (binaryOp .Mult) (r2O P (int2 mulB)) := fun pins s σ H x y u v Q I rx ry h => by
  obtain ⟨F, dx, dy, d, e, i1, i2, hd, q⟩ := h
  obtain ⟨i, j, rfl, rfl, hg⟩ := int2_of hd
  have e1 : x = .int i := i1
  have e2 : y = .int j := i2
  subst e1 e2
  unfold mulB at hg
  split at hg
  · rename_i hc
    cases hg
    rcases hc with hc | hc
    · exact op_mulW pins s σ H _ _ u v Q I rx ry ⟨i, j, rfl, rfl, hc, q.here e is_int⟩
    · exact op_mul pins s σ H _ _ u v Q I rx ry ⟨i, j, rfl, rfl, hc, q.here e is_int⟩
  · cases hg
/-! ### x in a list -/
def inD (x y : D) : Option D := (toPD x).bind fun a => match y with
  | .lst ys => (toPDs ys).bind fun bs => if SeqAt.shaped a = true ∧ SeqAt.shaped (.list bs) = true then some (.bl (bs.any fun z => PyData.eqv z a)) else none
  | _ => none
theorem inD_of {x y d : D} (h : inD x y = some d) : ∃ a ys bs, toPD x = some a ∧ y = .lst ys ∧ toPDs ys = some bs ∧ SeqAt.shaped a = true ∧ SeqAt.shaped (.list bs) = true ∧ d = .bl (bs.any fun z => PyData.eqv z a) := by
  unfold inD at h
  cases ha : toPD x with
  | none =>
    rw [ha] at h
    cases h
  | some a =>
    rw [ha] at h
    cases y with
    | lst ys =>
      cases hb : toPDs ys with
      | none =>
        have h' : (toPDs ys).bind (fun bs => if SeqAt.shaped a = true ∧ SeqAt.shaped (.list bs) = true then some (D.bl (bs.any fun z => PyData.eqv z a)) else none) = some d := h
        rw [hb] at h'
        cases h'
      | some bs =>
        have h' : (toPDs ys).bind (fun bs => if SeqAt.shaped a = true ∧ SeqAt.shaped (.list bs) = true then some (D.bl (bs.any fun z => PyData.eqv z a)) else none) = some d := h
        rw [hb] at h'
        replace h' : (if SeqAt.shaped a = true ∧ SeqAt.shaped (.list bs) = true then some (D.bl (bs.any fun z => PyData.eqv z a)) else none) = some d := h'
        split at h'
        · rename_i hc
          cases h'
          exact ⟨a, ys, bs, rfl, rfl, hb, hc.1, hc.2, rfl⟩
        · cases h'
    | _ => cases h
theorem toPD_lst {ys : List D} {bs : List PyData} (h : toPDs ys = some bs) : toPD (.lst ys) = some (.list bs) := by
  rw [toPD, h]
  rfl
theorem io_inD (hu : X.A.units + 65 < cLine) : OpR X (compareOp .In) (r2O P inD) := fun pins s σ H x y u v Q I rx ry h => by
  obtain ⟨F, dx, dy, d, e, i1, i2, hd, q⟩ := h
  obtain ⟨pa, ys, bs, h1, rfl, h2, h3, h4, rfl⟩ := inD_of hd
  exact op_inD hu pins s σ H x y u v Q I rx ry ⟨pa, bs, i1.dp e dx h1, i2.dp e _ (toPD_lst h2), h3, h4, q.bl e⟩
/-! ### raise T('..') of a built-in class -/
theorem sd_raiseB {T N I : String} {x m : Str} {j cn : Nat} {p2 pos' : Pos} (hc : X.calm = true) (tk : Takes X W) (B : ExcB T N I) (hxc : P.xc cn = .type T) (hm : X.mg x = none) (hv : bootBuiltins x = some (.type T)) (hg : Gl X x := by rfl) (hn : x ≠ "__name__" := by decide) (hdb : (x == ("__debug__" : Str)) = false := by decide) :
    PS X (.Raise (some (.Call (.Name x p) [.Constant (.str m) j p2] [] pos)) none pos') (tS P F0 H0 W (fun ρ => .err cn none ρ)) := (ps_raiseB hc tk B hg hm hv hn hdb).imp fun N σ H ⟨F, ρ, er, z⟩ => by
  rw [← hxc]
  exact z σ F H none er (.refl F) rfl
end
/-! ### x(lambda: e), where x is: try: a() / except T: return True / return False -/
abbrev rzBody (a e : Str) (j j2 : Nat) (p1 p2 p3 p4 p5 p6 p7 p8 p9 p10 : Pos) : List Stmt := [.Try [.Expr (.Call (.Name a p1) [] [] p2) p3] [.ExceptHandler (some (.Name e p4)) none [.Return (some (.Constant (.bool true) j p5)) p6] p7] [] [] p8, .Return (some (.Constant (.bool false) j2 p9)) p10]
def TTr (K : PySem.W.Frag) (cv : Value) : (XK → Hp → VK → Prop) → Hp → VK → Prop := fun tl H Q => tl (fun cls _ H' => PySem.W.exmOne K cls cv = some true ∧ Q (.bl true) H') H (fun _ H' => Q (.bl false) H')
section
variable {X : Cx}
theorem raises_gives {Ng : List Str} {x a e q : Str} {sg : Scope} {g : Addr} {cdg cv : Value} {j j2 : Nat} {p1 p2 p3 p4 p5 p6 p7 p8 p9 p10 : Pos} (hge : sg.names.lookup e = some .globalImplicit) (hme : X.mg e = some cv ∨ (X.mg e = none ∧ bootBuiltins e = some cv ∧ e ≠ "__name__")) (hde : (e == ("__debug__" : Str)) = false)
    (h0 : ∀ f : Addr, (L2.start Ng [V.ref f])[0]? = some (some (V.ref f))) : LamX.GivesTo X Ng x sg g cdg (rzBody a e j j2 p1 p2 p3 p4 p5 p6 p7 p8 p9 p10) a q (TTr X.K cv) := by
  intro f c' s H Q tl act hc h
  refine ⟨_, pss_cons (ps_try_only (X := (cxOf C8.CX0 X.prog X.w X.K X.mg X.base Ng x sg g cdg X.A X.stack s H C8.E0).nox) (c := cv)
      (tb := fun W D σ H => ∃ Ech : XK, (∀ cls d σ' H', Ech cls d H' → W cls d σ' H') ∧ σ[0]? = some (some (.ref f)) ∧ H c' = some (LamX.CodeO c' q) ∧ tl Ech H (fun _ H1 => D.nx σ H1))
      rfl rfl ⟨hge, hde, hme⟩ LamX.takes0 (fun W pn xe tk _ => ?_) (fun _ _ _ _ _ _ _ => pss_one (ps_ret pe_bl))) (pss_one (ps_ret pe_bl)), ?_⟩
  · refine ⟨fun pins s' σ H' D I h' => ?_⟩
    obtain ⟨Ech, hW, h1, h2, h3⟩ := h'
    exact (pss_one (ps_expr (act W pn xe Ech p1 p2 tk hW))).run pins s' σ H' D I ⟨h1, h2, h3⟩
  · refine ⟨fun cls _ H' => PySem.W.exmOne X.K cls cv = some true ∧ Q (.bl true) H', fun cls d σ' H' z => ⟨true, z.1, fun _ _ _ => z.2, fun w => by cases w⟩, h0 f, hc, h⟩
end
def rzD (cz : Nat) : Res D → Res D
  | .ok _ => .ok (.bl false)
  | .err c _ => if c = cz then .ok (.bl true) else .bad
  | .bad => .bad
/-- the tables of code: where the def's own one is -/
structure TabAt (P : Pm) (base : Heap) (mg : Str → Option Value) (c t : Addr) (q : Str) : Prop where
  tb : LamX.TabB base mg c t
  mem : (t, q) ∈ P.T
  one : ∀ p ∈ P.T, p.1 = t → p.2 = q
/-- the def that takes the lambda -/
structure RzD (K : PySem.W.Frag) (mg : Str → Option Value) (x a e : Str) (cv : Value) : Prop where
  ex : ∃ (st : Stmt) (g : Addr) (fd : FuncData) (Ng : List Str) (j j2 : Nat) (p1 p2 p3 p4 p5 p6 p7 p8 p9 p10 : Pos), Fun K x x st g fd ∧ mg x = some (.ref g) ∧ Binds K fd [a] [] ∧ FnScope Ng [a] (defScope st) ∧ Ng[0]? = some a ∧ Vis (defScope st) a ∧
    defBody st = rzBody a e j j2 p1 p2 p3 p4 p5 p6 p7 p8 p9 p10 ∧ (defScope st).names.lookup e = some .globalImplicit ∧ ∀ f : Addr, (L2.start Ng [V.ref f])[0]? = some (some (V.ref f))
  cl : mg e = some cv ∨ (mg e = none ∧ bootBuiltins e = some cv ∧ e ≠ "__name__")
  nd : (e == ("__debug__" : Str)) = false
section
variable {X : Cx} {P : Pm} {F0 : Fz} {H0 : Hp} {W : WX}
theorem pd_raises {x a e : Str} {cv : Value} {cz k : Nat} {c t : Addr} {params : Arguments} {body : Expr} {scope : Scope} {p lpos pos : Pos} {fb : Env → Res D} (R : RzD X.K X.mg x a e cv) (hex : PySem.W.exmOne X.K (P.xc cz) cv = some true) (TA : TabAt P X.base X.mg c t (X.env.qual ++ "<lambda>")) (hcode : X.env.code = .ref c)
    (hr : Room (k + 2) X.A) (L : LamX.LamS X.env.scope scope) (hdef : defaultsOf params X.env = ([], []))
    (hbind : ∀ (q : Str) (cl : List (Str × Addr)) (pm cv ctv : Value), bindArgs (PySem.W.kla_fn "<lambda>" q params body scope cl pm cv ctv) ⟨[], []⟩ = pure [])
    (hbody : ∀ (A : Around) (outer : List PySem.Env) (s : Shared) (H : Hp) (E : XK) (f c' : Addr), Room k (A.deeper (LamX.lamEnv X scope s.heap.objs.size f c')) → Takes (LamX.lamCx X A outer s H E scope f c') (WE0 E) → PE (LamX.lamCx X A outer s H E scope f c') body (tE P F0 H0 (WE0 E) fb))
    (hg : Gl X x := by rfl) (hdb : (x == ("__debug__" : Str)) = false := by decide) (hd : (a == ("__debug__" : Str)) = false := by decide) (hcd : (a == ("__classdict__" : Str)) = false := by decide) :
    PE X (.Call (.Name x p) [.Lambda params body scope lpos] [] pos) (tE P F0 H0 W (fun ρ => rzD cz (fb ρ))) := by
  obtain ⟨st, g, fd, Ng, j, j2, p1, p2, p3, p4, p5, p6, p7, p8, p9, p10, Fu, hm, hb, Sg, hN0, hva, hbg, hge, h0⟩ := R.ex
  obtain ⟨oc, od, kV, doc, pm, an, cdv, ct, osl, rfl, lk, hcd'⟩ := Fu.ex
  have hG : LamX.GivesTo X Ng x (defScope st) g cdv (defBody st) a (X.env.qual ++ "<lambda>") (TTr X.K cv) := by
    rw [hbg]
    exact raises_gives hge R.cl R.nd h0
  refine (LamX.pe_lamcall (T := P.T) (t := fun E => tE P F0 H0 (WE0 E) fb) hg hm Fu.kp lk hcd' hb Sg hN0 hva hG TA.tb hcode TA.mem TA.one hr L hdef hbind (fun A outer s H E f c' hr' => hbody A outer s H E f c' hr' (takes_of rfl rfl rfl rfl)) hdb hd hcd).imp fun σ H Q ⟨F, ρ, er, z⟩ => ?_
  replace z : PostG P W (rIs P) (rzD cz (fb ρ)) F σ H Q := z
  refine ⟨er.s.tabs, fun H1 e1 t1 => ?_⟩
  have eT : ExT H H1 := ⟨fun a o h n => e1 a o h fun ps hp => by
    subst hp
    cases n⟩
  have g1 : Grow P F H F H1 := ⟨.refl F, eT, er.s.ext' eT t1, fun _ _ e => .inl e⟩
  refine ⟨F, ρ, er.grow g1, ?_⟩
  cases hf : fb ρ with
  | ok d =>
    rw [hf] at z
    exact fun v F' H' g i => z (.bl false) F' H' (g1.trans g) is_bl
  | err c p =>
    rw [hf] at z
    by_cases hz : c = cz
    · have e2 : rzD cz (.err c p) = .ok (.bl true) := if_pos hz
      rw [e2] at z
      exact fun F' H' y g q => ⟨hz ▸ hex, z (.bl true) F' H' (g1.trans g) is_bl⟩
    · have e2 : rzD cz (.err c p) = .bad := if_neg hz
      rw [e2] at z
      exact z.elim
  | bad =>
    rw [hf] at z
    exact z.elim
end
end DL
namespace DL
open PySem L2

/-! ### methods, defaults, keywords, a def whose code object is known -/
section
variable {X : Cx} {P : Pm} {F0 : Fz} {H0 : Hp} {W : WX} {a b c e o : Expr} {es : List Expr} {fa fb fc : Env → Res D} {fs : Env → Res (List D)} {pos p apos : Pos} {σ : St} {H F : Hp} {k n : Nat} {x m : Str} {G : List D → Res D} {GI : List D → Res (List D)}
structure MetD (prog : Program) (w : World) (K : PySem.W.Frag) (mg : Str → Option Value) (base : Heap) (P : Pm) (k : Nat) (m : Str) (cn n : Nat) (G : List D → Res D) : Prop where
  ex : ∃ f fd ps, FnOk prog w K mg base (L2.CX prog w) k f fd ps (spD P n G) ∧ Cls K (P.C cn) ∧ Meth K (P.C cn) m f ∧ Binds K fd ps [] ∧ m ∉ P.nm cn
abbrev fMet (cn n : Nat) (G : List D → Res D) (fa : Env → Res D) (fs : Env → Res (List D)) : Env → Res D := fun ρ => do let x ← fa ρ; let y ← isO cn x; let xs ← fs ρ; fnG n G (y :: xs)
theorem pd_met {cn : Nat} {pl : Sem Bool} (c : MetD X.prog X.w X.K X.mg X.base P k m cn n G) (hr : Room k X.A) (tk : Takes X W) (ho : PE X o (tE P F0 H0 W fa)) (ha : PA X (e :: es) (tL P F0 H0 W fs))
    (hst : starEach (e :: es) X.env = (false, eval e X.env) :: starEach es X.env := by rfl) (hpl : (backTo pos (starEach es X.env)).any (·.1) = false := by rfl)
    (ht : eval (.Call (.Attribute o m apos) (e :: es) [] pos) X.env = (do
      let ov ← eval o X.env
      standAt apos.atName
      let (f, first) ← holding [ov] (getMethod ov m pl)
      callWith pos f first (backTo pos (starEach (e :: es) X.env)) (backToKw pos (keywordEach [] X.env))) := by rfl) :
    PE X (.Call (.Attribute o m apos) (e :: es) [] pos) (tE P F0 H0 W (fMet cn n G fa fs)) := by
  obtain ⟨f, fd, ps, h1, h2, h3, h4, h5⟩ := c.ex
  have := pd_meth ho h2 h3 h5 h1 hr h4 .nil Dfl.nil tk ha hst hpl ht
  simpa only [List.append_nil, List.cons_append] using this
/-- o.m() -/
theorem pd_met0 {cn : Nat} {pl : Sem Bool} (c : MetD X.prog X.w X.K X.mg X.base P k m cn n G) (hr : Room k X.A) (tk : Takes X W) (ho : PE X o (tE P F0 H0 W fa))
    (ht : eval (.Call (.Attribute o m apos) [] [] pos) X.env = (do
      let ov ← eval o X.env
      standAt apos.atName
      let (f, first) ← holding [ov] (getMethod ov m pl)
      callWith pos f first (backTo pos (starEach [] X.env)) (backToKw pos (keywordEach [] X.env))) := by rfl) :
    PE X (.Call (.Attribute o m apos) [] [] pos) (tE P F0 H0 W (fMet cn n G fa (fun _ => .ok []))) := by
  obtain ⟨f, fd, ps, h1, h2, h3, h4, h5⟩ := c.ex
  have := pd_meth0 ho h2 h3 h5 h1 hr h4 .nil Dfl.nil tk ht
  exact this
theorem metD {prog : Program} {w : World} {K : PySem.W.Frag} {mg : Str → Option Value} {base : Heap} {c : Nat} {x qual : Str} {st : Stmt} {f : Addr} {fd : FuncData} {N ps : List Str} {k : Nat} {g : Env → RS} (Fu : Fun K x qual st f fd) (S : FnScope N ps (defScope st)) (hc : Cls K (P.C c)) (hm : Meth K (P.C c) x f) (hb : Binds K fd ps []) (hn : x ∉ P.nm c)
    (hbody : ∀ (cdv : Value) (A : Around) (outer : List PySem.Env) (s : Shared) (H F0 : Hp) (E : XK), Room k (A.deeper (PyProof.Rows.envOfC qual (defScope st) s.heap.objs.size f cdv)) →
      PSs (cxOf (L2.CX prog w) prog w K mg base N qual (defScope st) f cdv A outer s H E) (defBody st) (tS P ⟨F0, none⟩ H (WE0 E) g)) :
    MetD prog w K mg base P (k + 1) x c ps.length (runB g N.length) := ⟨f, fd, ps, fnd Fu S hbody, hc, hm, hb, hn⟩
/-- C(e, ..), the rest by defaults -/
structure MkDd (prog : Program) (w : World) (K : PySem.W.Frag) (mg : Str → Option Value) (base : Heap) (P : Pm) (k : Nat) (x : Str) (cn n : Nat) (dds : List D) (G : List D → Res (List D)) : Prop where
  ex : ∃ f fd ps dv dvs, Mk K (P.C cn) f ∧ FnOk prog w K mg base (L2.CX prog w) k f fd ps (spI P cn n G) ∧ mg x = some (.ref (P.C cn)) ∧ Binds K fd ps dv ∧ Vals dvs dv ∧ Dfl P dvs dds
abbrev fMkd (cn n : Nat) (dds : List D) (G : List D → Res (List D)) (fs : Env → Res (List D)) : Env → Res D := fun ρ => do let xs ← fs ρ; mkG cn n G (xs ++ dds)
theorem pd_mkd {cn : Nat} {dds : List D} (c : MkDd X.prog X.w X.K X.mg X.base P k x cn n dds GI) (hr : Room (k + 1) X.A) (tk : Takes X W) (ha : PA X (e :: es) (tL P F0 H0 W fs)) (hg : Gl X x := by rfl) (hdb : (x == ("__debug__" : Str)) = false := by decide) (he : starEach (e :: es) X.env = (false, eval e X.env) :: starEach es X.env := by rfl) (hpl : (backTo pos (starEach es X.env)).any (·.1) = false := by rfl) :
    PE X (.Call (.Name x p) (e :: es) [] pos) (tE P F0 H0 W (fMkd cn n dds GI fs)) := by
  obtain ⟨f, fd, ps, dv, dvs, h0, h1, h2, h4, h5, h6⟩ := c.ex
  exact pd_make (p := p) h0 h1 hr hg h2 h4 h5 h6 tk ha hdb he hpl
/-- C(k = e, ..), all by keywords -/
structure MkDk (prog : Program) (w : World) (K : PySem.W.Frag) (mg : Str → Option Value) (base : Heap) (P : Pm) (k : Nat) (x : Str) (cn n : Nat) (ks : List Str) (pr : {α : Type} → List α → List α) (G : List D → Res (List D)) : Prop where
  ex : ∃ f fd ps, Mk K (P.C cn) f ∧ FnOk prog w K mg base (L2.CX prog w) k f fd ps (spI P cn n G) ∧ mg x = some (.ref (P.C cn)) ∧ KBn K fd ps 1 ks (fun us ws => us ++ pr ws) (fun us ws => us ++ pr ws)
  rel : ∀ {F : Hp} {ds : List D} {vs : List V}, IsL P F ds vs → IsL P F (pr ds) (pr vs)
abbrev fMkk (cn n m : Nat) (pr : {α : Type} → List α → List α) (G : List D → Res (List D)) (fs : Env → Res (List D)) : Env → Res D := fun ρ => do let xs ← fs ρ; if xs.length = m then noErr (mkG cn n G (pr xs)) else .bad
theorem PK.imp {kws : List Keyword} {t t' : TA} (h : PK X kws t) (q : ∀ σ H Q, t' σ H Q → t σ H Q) : PK X kws t' := ⟨fun p pins s σ H Q I z => h.run p pins s σ H Q I (q σ H Q z)⟩
theorem kd_nil : PK X [] (tL P F0 H0 W (fun _ => .ok [])) := PK.imp pk_nil fun σ H Q ⟨F, ρ, er, z⟩ => z.here er.s .nil
theorem kd_cons {nm : Option Str} {kpos : Pos} {kws : List Keyword} (ha : PE X e (tE P F0 H0 W fa)) (hr : PK X kws (tL P F0 H0 W fs)) : PK X (⟨nm, e, kpos⟩ :: kws) (tL P F0 H0 W (fun ρ => do let x ← fa ρ; let xs ← fs ρ; .ok (x :: xs))) := PK.imp (pk_cons ha hr) fun σ H Q ⟨F, ρ, er, z⟩ => by
  refine ⟨F, ρ, er, (PostG.bind (rel := rIs P) z).imp ?_⟩
  rintro v H1 ⟨F1, d, g, i, q⟩
  refine ⟨F1, ρ, er.grow g, (PostG.bind (rel := rLs P) q).imp ?_⟩
  rintro vs H2 ⟨F2, ds, g2, i2, q2⟩
  exact q2.here g2.s (.cons (i.mono g2.f d) i2)
theorem pd_mkk {cn : Nat} {ks : List Str} {pr : {α : Type} → List α → List α} {kws : List Keyword} (c : MkDk X.prog X.w X.K X.mg X.base P k x cn n ks pr GI) (hr : Room (k + 1) X.A) (hkw : PK X kws (tL P F0 H0 W fs)) (hg : Gl X x := by rfl)
    (hall : (backToKw pos (keywordEach kws X.env)).all (·.1.isSome) = true := by rfl) (hks : (backToKw pos (keywordEach kws X.env)).filterMap (·.1) = ks := by rfl) (hdb : (x == ("__debug__" : Str)) = false := by decide)
    (hpl : ((backTo pos (starEach [] X.env)).any (·.1) || (backToKw pos (keywordEach kws X.env)).any (·.1.isNone)) = false := by rfl) :
    PE X (.Call (.Name x p) [] kws pos) (tE P F0 H0 W (fMkk cn n ks.length pr GI fs)) := by
  obtain ⟨f, fd, ps, h0, h1, h2, h3⟩ := c.ex
  refine (pe_makeK0 (p := p) h0 h1 hr hg h2 h3 (passL (X := X)) hkw hall hks hdb hpl).imp fun σ H Q ⟨F, ρ, er, z⟩ => ?_
  show tL P F0 H0 W fs σ H _
  refine ⟨F, ρ, er, (PostG.bind (rel := rLs P) z).imp ?_⟩
  rintro zs H1 ⟨F1, ds, g, i, q⟩
  by_cases hl : ds.length = ks.length
  · rw [if_pos hl] at q
    refine ⟨rfl, by rw [← i.length]; exact hl, fun x dx hx hdx hne => ?_⟩
    have q' : PostG P (WE0 fun cls d H' => (fun _ _ _ _ => False : WX) cls d [] H') (rIs P) (mkG cn n GI (pr ds ++ [])) F1 [] H1 Q := by
      rw [List.append_nil]
      exact PostG.noErr q
    have := mkG_of (W := fun _ _ _ _ => False) (σ := []) (dvs := []) (dds := []) Dfl.nil g.s (c.rel i) q' x dx hx hdx hne
    simpa only [List.append_nil, List.cons_append, List.nil_append] using this
  · rw [if_neg hl] at q
    exact q.elim
/-- two keywords, turned -/
theorem rev_rel {F : Hp} : ∀ {ds : List D} {vs : List V}, IsL P F ds vs → IsL P F ds.reverse vs.reverse
  | [], _, h => by
    obtain rfl := h.unnil
    exact .nil
  | d :: ds, _, h => by
    obtain ⟨v, r, rfl, h1, h2⟩ := h.uncons
    rw [List.reverse_cons, List.reverse_cons]
    exact (rev_rel h2).append (.cons h1 .nil)
theorem vals_rev : ∀ {vs : List V} {us : List Value}, Vals vs us → Vals vs.reverse us.reverse
  | _, _, .nil => .nil
  | _, _, .cons r t => by
    rw [List.reverse_cons, List.reverse_cons]
    exact (vals_rev t).append (.cons r .nil)
theorem kb_rev {K : PySem.W.Frag} {x qual : Str} {params : Arguments} {body : List Stmt} {scope : Scope} {dvs : List V} {kws : List (Str × V)} {f : Addr} {fd : FuncData} {ps ks : List Str} (F : FunD K x qual params body scope dvs kws f fd) (hd : dvs ≠ [])
    (h : ∀ (T : Addr) (kV doc pm : Value) (an : Option Addr) (cdv ct : Value) (us its ws : List Value), us.length = 1 → its.length = dvs.length → ws.length = ks.length →
      ∃ k, bindArgs (PySem.W.fnOf x qual params body scope (.ref T) kV doc pm an cdv ct) ⟨us, ks.zip ws⟩ = seqItems? (.ref T) >>= k ∧ k (some its.toArray) = pure (ps.zip (us ++ ws.reverse))) :
    KBn K fd ps 1 ks (fun us ws => us ++ ws.reverse) (fun us ws => us ++ ws.reverse) := by
  obtain ⟨oc, od, dV, kV, doc, pm, an, cdv, ct, osl, rfl, lk, hcd, hD, hK⟩ := F.ex
  rcases hD with ⟨e, _⟩ | ⟨_, T, o, its, m, rfl, lT, oT, rT⟩
  · exact absurd e hd
  · refine ⟨fun s us ws X' l1 l2 => ?_, fun r1 r2 => r1.append (vals_rev r2)⟩
    obtain ⟨k, e1, e2⟩ := h T kV doc pm an cdv ct us its ws l1 rT.length.symm l2
    refine BindsTo.of_looks fun M => ?_
    rw [e1]
    exact looks_items X' lT oT (.of_pure e2)
/-- a def whose code object stands at c -/
theorem fndC {prog : Program} {w : World} {K : PySem.W.Frag} {mg : Str → Option Value} {base : Heap} {x qual : Str} {st : Stmt} {f cA : Addr} {oc kV doc pm ct : Value} {od an : Option Addr} {osl : Array (Option Value)} {N ps : List Str} {k : Nat} {g : Env → RS}
    (lk : K.lookup f = some ⟨oc, od, .func (PySem.W.fnOf x qual (defArgs st) (defBody st) (defScope st) .none kV doc pm an (.ref cA) ct), osl⟩) (hcd : PySem.W.codeIn K (.ref cA) qual = true) (S : FnScope N ps (defScope st))
    (hbody : ∀ (A : Around) (outer : List PySem.Env) (s : Shared) (H F0 : Hp) (E : XK), Room k (A.deeper (PyProof.Rows.envOfC qual (defScope st) s.heap.objs.size f (.ref cA))) →
      PSs (cxOf (L2.CX prog w) prog w K mg base N qual (defScope st) f (.ref cA) A outer s H E) (defBody st) (tS P ⟨F0, none⟩ H (WE0 E) g)) :
    FnOk prog w K mg base (L2.CX prog w) (k + 1) f (PySem.W.fnOf x qual (defArgs st) (defBody st) (defScope st) .none kV doc pm an (.ref cA) ct) ps (spD P ps.length (runB g N.length)) := by
  refine fn_of lk hcd S (fun vs H Q E ⟨F, ds, _, i, hl, _⟩ => by rw [← i.length]; exact hl) fun A outer s H vs Q E hr h => ?_
  obtain ⟨F, ds, sx, i, hl, z⟩ := h
  refine ⟨_, hbody A outer s H F E hr, F, env0 N.length ds, er_start sx i, ?_⟩
  unfold runB at z
  cases hg : g (env0 N.length ds) with
  | nx ρ =>
    rw [hg] at z
    exact fun σ F' H' er _ => z .non F' H' er.g is_non
  | rt d =>
    rw [hg] at z
    exact fun v F' H' gr _ i' => z v F' H' gr i'
  | ro d =>
    rw [hg] at z
    exact z.elim
  | bk ρ =>
    rw [hg] at z
    exact z.elim
  | ct ρ =>
    rw [hg] at z
    exact z.elim
  | err e p ρ =>
    rw [hg] at z
    exact fun σ F' H' y er _ q => z F' H' y er.g q
  | bad =>
    rw [hg] at z
    exact z.elim
end
end DL
namespace DL
open PySem L2
theorem units65 {k : Nat} {A : Around} (r : Room k A) : A.units + 65 < cLine := by
  have := r.un
  omega
/-- the left one is an instance of class 0 -/
def opL (G : List D → Res D) : D → D → Res D
  | .obj 0 xs, .int j => fnG 2 G [.obj 0 xs, .int j]
  | .obj 0 xs, .obj 0 ys => fnG 2 G [.obj 0 xs, .obj 0 ys]
  | _, _ => .bad
section
variable {X : Cx} {P : Pm} {F0 : Fz} {H0 : Hp} {W : WX} {a b : Expr} {fa fb : Env → Res D} {pos : Pos} {σ : L2.St} {H F : Hp} {k kr : Nat} {op : Operator} {m mr : Str} {G : List D → Res D}
theorem pd_opL (hd : PySem.dunder op.info.2 = m) (hdr : PySem.dunderR op.info.2 = mr) (N : NumC X.K (P.C 0) m mr) (hR : ∃ fr, PySem.W.findIn X.K (.ref (P.C 0)) mr = some (some (.ref fr)))
    (c : OwnD X.prog X.w X.K X.mg X.base P k m 0 2 G) (hr : Room k X.A) (tk : Takes X W) (ha : PE X a (tE P F0 H0 W fa)) (hb : PE X b (tE P F0 H0 W fb)) :
    PE X (.BinOp a op b pos) (tE P F0 H0 W (fN (opL G) fa fb)) := by
  obtain ⟨f, fd, ps, c1, c2, c3⟩ := c.ex
  obtain ⟨fr, d2⟩ := hR
  obtain ⟨fo, hfo⟩ := N.a1
  obtain ⟨ro, hro⟩ := N.a2
  refine ⟨fun pins s σ H Q I h => ?_⟩
  refine wpAny_BinOp (binT ha hb I (two_ofE h) fun v u s2 x y H2 I2 rx ry ⟨F, dx, dy, e, i1, i2, q⟩ => ?_)
  unfold opL at q
  split at q
  · obtain ⟨ad, dd, vs, rfl, h1, h2, h3⟩ := obj_of i1
    obtain rfl : v = Value.ref ad := rx
    obtain ⟨ox, od, J, _⟩ := ins_data I2 (e.ex _ _ h1)
    obtain ⟨mm, Fr⟩ := I2.fr
    obtain rfl := un_int i2
    obtain ⟨t, rfl⟩ := ry
    refine PySem.W.ksp_binT Fr I2.ok.mod.kin J (T := "int") rfl N.sf (by rw [hd]; exact c2.at_) c2.fn (by rw [hdr]; exact d2) (.inr ⟨fr, rfl⟩) (by rw [hd]; exact hfo) (by rw [hdr]; exact hro) N.s1 ?_
    exact wpAny_mono (run_at (vs := [.ref ad, .int _]) (ds := [_, _]) c1 (sub_here hr) c3 tk I2 (.cons rfl (.cons ⟨t, rfl⟩ .nil)) e (.cons i1 (.cons i2 .nil)) q) (fun _ _ z => CmpBack_of z) fun _ _ z => z
  · obtain ⟨ad, dd, vs, rfl, h1, h2, h3⟩ := obj_of i1
    obtain ⟨bd, dd', vs', rfl, h1', h2', h3'⟩ := obj_of i2
    obtain rfl : v = Value.ref ad := rx
    obtain rfl : u = Value.ref bd := ry
    obtain ⟨ox, od, J, _⟩ := ins_data I2 (e.ex _ _ h1)
    obtain ⟨ox', od', J', _⟩ := ins_data I2 (e.ex _ _ h1')
    obtain ⟨mm, Fr⟩ := I2.fr
    refine PySem.W.binop_K Fr I2.ok.mod.kin J J'.type N.sf (by rw [hd]; exact c2.at_) c2.fn ?_
    exact wpAny_mono (run_at (vs := [.ref ad, .ref bd]) (ds := [_, _]) c1 (sub_here hr) c3 tk I2 (.cons rfl (.cons rfl .nil)) e (.cons i1 (.cons i2 .nil)) q) (fun _ _ z => CmpBack_of z) fun _ _ z => z
  · exact q.elim
end
@[simp] abbrev tIfx (c a b : Env → Res Bool) : Env → Res Bool := fun ρ => do let k ← c ρ; if k = true then a ρ else b ρ
@[simp] abbrev fRz (cz : Nat) (f : Env → Res D) : Env → Res D := fun ρ => rzD cz (f ρ)
@[simp] abbrev sPar3 (i j l : Nat) (f : Env → Res (List D)) : Env → RS := fun ρ => bindS (f ρ) ρ (par3 i j l ρ)
@[simp] abbrev sRaiseB (c : Nat) : Env → RS := fun ρ => .err c none ρ
@[simp] abbrev iZip (f : Env → Res (List D)) : Env → Res (List D) := fun ρ => f ρ >>= zipD
@[simp] abbrev iEnu (f : Env → Res (List D)) : Env → Res (List D) := fun ρ => f ρ >>= enuD
end DL
namespace DL
open PySem L2

/-! ### keys of dicts -/
def keyA : D → Option Key
  | .int i => some (.inl i)
  | .str s => some (.inr s)
  | _ => none
def keysA : List D → Option (List Key)
  | [] => some []
  | d :: ds => (keyA d).bind fun k => (keysA ds).map (k :: ·)
def keyT : D → Option (List Key)
  | .tup ds => keysA ds
  | _ => none
def kD : Key → D
  | .inl i => .int i
  | .inr s => .str s
def ktD (k : List Key) : D := .tup (k.map kD)
section
variable {P : Pm} {F H : Hp}
theorem keyA_is {d : D} {v : V} {k : Key} (i : Is P F d v) (h : keyA d = some k) : v = kV k := by
  cases d with
  | int j =>
    cases h
    rw [Is] at i
    exact i
  | str j =>
    cases h
    rw [Is] at i
    exact i
  | _ => cases h
theorem keysA_is : ∀ {ds : List D} {vs : List V} {ks : List Key}, IsL P F ds vs → keysA ds = some ks → vs = ks.map kV
  | [], _, _, i, h => by
    cases h
    exact i.unnil
  | d :: ds, _, _, i, h => by
    obtain ⟨v, r, rfl, i1, i2⟩ := i.uncons
    unfold keysA at h
    cases h1 : keyA d with
    | none =>
      rw [h1] at h
      cases h
    | some k =>
      rw [h1] at h
      cases h2 : keysA ds with
      | none =>
        rw [h2] at h
        cases h
      | some ks' =>
        rw [h2] at h
        cases h
        rw [keyA_is i1 h1, keysA_is i2 h2]
        rfl
theorem keyT_is {d : D} {v : V} {k : List Key} (i : Is P F d v) (h : keyT d = some k) : ∃ b, v = .ref b ∧ F b = some (.tup (k.map kV)) := by
  cases d with
  | tup ds =>
    rw [Is] at i
    obtain ⟨a, vs, h1, h2, h3⟩ := i
    rw [keysA_is h3 h] at h2
    exact ⟨a, h1, h2⟩
  | _ => cases h
theorem is_kD (k : Key) : Is P F (kD k) (kV k) := by
  cases k with
  | inl i => exact is_int
  | inr s => exact is_str
theorem isL_kD : ∀ (k : List Key), IsL P F (k.map kD) (k.map kV)
  | [] => .nil
  | k :: r => .cons (is_kD k) (isL_kD r)
theorem is_ktD {k : List Key} {b : Addr} (h : F b = some (.tup (k.map kV))) : Is P F (ktD k) (.ref b) := by
  unfold ktD
  rw [Is]
  exact ⟨b, _, rfl, h, isL_kD k⟩
/-! ### look up and store -/
section
variable {κ : Type} [DecidableEq κ]
def valD (ks : List κ) (xs : List D) (k : κ) : Option D := ((ks.zip xs).find? fun p => decide (p.1 = k)).map (·.2)
theorem valD_is {k : κ} : ∀ {ks : List κ} {xs : List D} {vs : List V}, IsL P F xs vs → (∀ d, valD ks xs k = some d → ∃ v, valV (ks.zip vs) k = some v ∧ Is P F d v) ∧ (valD ks xs k = none → valV (ks.zip vs) k = none)
  | [], _, _, _ => ⟨fun d h => (by cases h), fun _ => rfl⟩
  | k' :: ks, [], _, i => by
    obtain rfl := i.unnil
    exact ⟨fun d h => (by cases h), fun _ => rfl⟩
  | k' :: ks, x :: xs, _, i => by
    obtain ⟨v, r, rfl, i1, i2⟩ := i.uncons
    by_cases hk : k' = k
    · have e1 : valD (k' :: ks) (x :: xs) k = some x := by simp [valD, List.find?_cons, hk]
      have e2 : valV ((k' :: ks).zip (v :: r)) k = some v := valV_pos hk
      exact ⟨fun d h => by rw [e1] at h; cases h; exact ⟨v, e2, i1⟩, fun h => by rw [e1] at h; cases h⟩
    · have e1 : valD (k' :: ks) (x :: xs) k = valD ks xs k := by simp [valD, List.find?_cons, hk]
      have e2 : valV ((k' :: ks).zip (v :: r)) k = valV (ks.zip r) k := valV_neg hk
      rw [e1, e2]
      exact valD_is i2
def repX {α : Type} : List κ → List α → κ → α → List α
  | k' :: ks, x :: xs, k, d => (if k' = k then d else x) :: repX ks xs k d
  | _, _, _, _ => []
theorem repX_cons {α : Type} (k' : κ) (ks : List κ) (x : α) (xs : List α) (k : κ) (d : α) : repX (k' :: ks) (x :: xs) k d = (if k' = k then d else x) :: repX ks xs k d := rfl
def putKs (ks : List κ) (k : κ) : List κ := if k ∈ ks then ks else ks ++ [k]
def putXs {α : Type} (ks : List κ) (xs : List α) (k : κ) (d : α) : List α := if k ∈ ks then repX ks xs k d else xs ++ [d]
theorem rep_is {k : κ} {d : D} {v : V} (hd : Is P F d v) : ∀ {ks : List κ} {xs : List D} {vs : List V}, ks.length = vs.length → IsL P F xs vs → IsL P F (repX ks xs k d) (repX ks vs k v)
  | [], _, _, _, _ => .nil
  | k' :: ks, [], _, l, i => by
    obtain rfl := i.unnil
    simp at l
  | k' :: ks, x :: xs, _, l, i => by
    obtain ⟨w, r, rfl, i1, i2⟩ := i.uncons
    have ih := rep_is (k := k) hd (ks := ks) (by simpa using l) i2
    unfold repX
    by_cases hk : k' = k
    · rw [if_pos hk, if_pos hk]
      exact .cons hd ih
    · rw [if_neg hk, if_neg hk]
      exact .cons i1 ih
theorem rep_zip {k : κ} {v : V} : ∀ {ks : List κ} {vs : List V}, ks.length = vs.length → (ks.zip vs).map (fun kv => if kv.1 = k then (kv.1, v) else kv) = ks.zip (repX ks vs k v)
  | [], [], _ => rfl
  | k' :: ks, w :: vs, l => by
    rw [List.zip_cons_cons, List.map_cons, rep_zip (by simpa using l), repX_cons, List.zip_cons_cons]
    by_cases hk : k' = k
    · simp [hk]
    · simp [hk]
  | [], _ :: _, l => by simp at l
  | _ :: _, [], l => by simp at l
theorem rep_len {α : Type} {k : κ} {v : α} : ∀ {ks : List κ} {vs : List α}, ks.length = vs.length → (repX ks vs k v).length = ks.length
  | [], [], _ => rfl
  | k' :: ks, w :: vs, l => by
    unfold repX
    simp [rep_len (k := k) (v := v) (ks := ks) (vs := vs) (by simpa using l)]
  | [], _ :: _, l => by simp at l
  | _ :: _, [], l => by simp at l
theorem any_mem {k : κ} : ∀ {ks : List κ} {vs : List V}, ks.length = vs.length → ((ks.zip vs).any fun kv => decide (kv.1 = k)) = decide (k ∈ ks)
  | [], [], _ => rfl
  | k' :: ks, w :: vs, l => by
    rw [List.zip_cons_cons, List.any_cons, any_mem (by simpa using l)]
    by_cases hk : k' = k
    · simp [hk]
    · simp [hk, Ne.symm hk]
  | [], _ :: _, l => by simp at l
  | _ :: _, [], l => by simp at l
theorem put_is {k : κ} {d : D} {v : V} {ks : List κ} {xs : List D} {vs : List V} (hd : Is P F d v) (l : ks.length = vs.length) (i : IsL P F xs vs) :
    putK (ks.zip vs) k v = (putKs ks k).zip (putXs ks vs k v) ∧ (putKs ks k).length = (putXs ks vs k v).length ∧ IsL P F (putXs ks xs k d) (putXs ks vs k v) := by
  unfold putK putKs putXs
  rw [any_mem l]
  by_cases hk : k ∈ ks
  · rw [if_pos (decide_eq_true hk), if_pos hk, if_pos hk, if_pos hk]
    exact ⟨rep_zip l, (rep_len l).symm, rep_is hd l i⟩
  · rw [if_neg (by simpa using hk), if_neg hk, if_neg hk, if_neg hk]
    refine ⟨?_, by simp [l], i.append (.cons hd .nil)⟩
    rw [List.zip_append l]
    rfl
end
end
def dgetD : D → D → Option D
  | .dT ks xs, y => (keyT y).bind (valD ks xs)
  | .dK ks xs, y => (keyA y).bind (valD ks xs)
  | _, _ => none
/-- is it a dict that knows this key, and what it has there -/
def dlookD : D → D → Option (Option D)
  | .dT ks xs, y => (keyT y).map (valD ks xs)
  | .dK ks xs, y => (keyA y).map (valD ks xs)
  | _, _ => none
section
variable {X : Cx} {P : Pm} {F0 : Fz} {H0 : Hp} {W : WX} {a b c e o : Expr} {es : List Expr} {fa fb fc : Env → Res D} {fs : Env → Res (List D)} {pos p apos cpos : Pos} {σ : St} {H F : Hp}
theorem look_get {x y : D} {vx vy : V} {r : Option D} (s : Sb P F H) (ix : Vw P F H x vx) (iy : Is P F y vy) (h : dlookD x y = some r) : ∃ a o, vx = .ref a ∧ DGet H a vy o ∧ (∀ d, r = some d → ∃ v, o = some v ∧ Is P F d v) ∧ (r = none → o = none) := by
  cases x with
  | dT ks xs =>
    obtain ⟨a, vs, rfl, h1, h2, h3⟩ := ix
    have h : (keyT y).map (valD ks xs) = some r := h
    cases hk : keyT y with
    | none =>
      rw [hk] at h
      cases h
    | some k =>
      rw [hk] at h
      have hr : valD ks xs k = r := Option.some.inj h
      obtain ⟨b, rfl, hb⟩ := keyT_is iy hk
      obtain ⟨q1, q2⟩ := valD_is (k := k) (ks := ks) h3
      refine ⟨a, valV (ks.zip vs) k, rfl, .inr ⟨_, k, b, h1, rfl, s.ex _ _ hb, rfl⟩, fun d hd => ?_, fun hn => q2 (hr.trans hn)⟩
      obtain ⟨v, e1, e2⟩ := q1 d (hr.trans hd)
      exact ⟨v, e1, e2⟩
  | dK ks xs =>
    obtain ⟨a, vs, rfl, h1, h2, h3⟩ := ix
    have h : (keyA y).map (valD ks xs) = some r := h
    cases hk : keyA y with
    | none =>
      rw [hk] at h
      cases h
    | some k =>
      rw [hk] at h
      have hr : valD ks xs k = r := Option.some.inj h
      have ev := keyA_is iy hk
      obtain ⟨q1, q2⟩ := valD_is (k := k) (ks := ks) h3
      refine ⟨a, valV (ks.zip vs) k, rfl, .inl ⟨_, k, h1, ev, rfl⟩, fun d hd => ?_, fun hn => q2 (hr.trans hn)⟩
      obtain ⟨v, e1, e2⟩ := q1 d (hr.trans hd)
      exact ⟨v, e1, e2⟩
  | _ => cases h
def dgetR (x y : D) : Res D := match dlookD x y with
  | some (some d) => .ok d
  | _ => .bad
/-- d[k] -/
theorem pd_dget (hu : X.A.units + 1 < cLine) (ha : PE X a (tV P F0 H0 W fa)) (hb : PE X b (tE P F0 H0 W fb)) (hs : NoSl b) : PE X (.Subscript a b pos) (tE P F0 H0 W (fN dgetR fa fb)) := (pe_dget hu ha hb hs).imp fun σ H Q ⟨F, ρ, er, z⟩ => by
  refine ⟨F, ρ, er, (PostG.bind (rel := rVw P) z).imp ?_⟩
  rintro x H1 ⟨F1, dx, g1, i1, z1⟩
  refine ⟨F1, ρ, er.grow g1, (PostG.bind (rel := rIs P) z1).imp ?_⟩
  rintro y H2 ⟨F2, dy, g2, i2, z2⟩
  unfold dgetR at z2
  split at z2
  · rename_i d hd
    obtain ⟨ad, ov, rfl, h1, h2, _⟩ := look_get g2.s (i1.mono g2.f g2.h dx) i2 hd
    obtain ⟨v, rfl, iv⟩ := h2 d rfl
    exact ⟨ad, v, rfl, h1, z2.here g2.s iv⟩
  · exact z2.elim
def dinR (y x : D) : Res D := match dlookD x y with
  | some r => .ok (.bl r.isSome)
  | _ => .bad
def dnotR (y x : D) : Res D := match dlookD x y with
  | some r => .ok (.bl (!r.isSome))
  | _ => .bad
/-- k in d -/
theorem pc_dinD (hu : X.A.units + 1 < cLine) (ha : PE X a (tE P F0 H0 W fa)) (hb : PE X b (tV P F0 H0 W fb)) : PC X .In a b (tE P F0 H0 W (fN dinR fa fb)) := ⟨fun pins s σ H Q I ⟨F, ρ, er, z⟩ => (pc_din hu ha hb).run pins s σ H Q I (by
  refine ⟨F, ρ, er, (PostG.bind (rel := rIs P) z).imp ?_⟩
  rintro y H1 ⟨F1, dy, g1, i1, z1⟩
  refine ⟨F1, ρ, er.grow g1, (PostG.bind (rel := rVw P) z1).imp ?_⟩
  rintro x H2 ⟨F2, dx, g2, i2, z2⟩
  unfold dinR at z2
  split at z2
  · rename_i r hd
    obtain ⟨ad, ov, rfl, h1, h2, h3⟩ := look_get g2.s i2 (i1.mono g2.f dy) hd
    have e : ov.isSome = r.isSome := by
      cases r with
      | none =>
        rw [h3 rfl]
        rfl
      | some d =>
        obtain ⟨v, rfl, _⟩ := h2 d rfl
        rfl
    exact ⟨ad, ov, rfl, h1, by rw [e]; exact z2.here g2.s is_bl⟩
  · exact z2.elim)⟩
theorem pc_dnotD (hu : X.A.units + 1 < cLine) (ha : PE X a (tE P F0 H0 W fa)) (hb : PE X b (tV P F0 H0 W fb)) : PC X .NotIn a b (tE P F0 H0 W (fN dnotR fa fb)) := ⟨fun pins s σ H Q I ⟨F, ρ, er, z⟩ => (pc_dnotin hu ha hb).run pins s σ H Q I (by
  refine ⟨F, ρ, er, (PostG.bind (rel := rIs P) z).imp ?_⟩
  rintro y H1 ⟨F1, dy, g1, i1, z1⟩
  refine ⟨F1, ρ, er.grow g1, (PostG.bind (rel := rVw P) z1).imp ?_⟩
  rintro x H2 ⟨F2, dx, g2, i2, z2⟩
  unfold dnotR at z2
  split at z2
  · rename_i r hd
    obtain ⟨ad, ov, rfl, h1, h2, h3⟩ := look_get g2.s i2 (i1.mono g2.f dy) hd
    have e : ov.isSome = r.isSome := by
      cases r with
      | none =>
        rw [h3 rfl]
        rfl
      | some d =>
        obtain ⟨v, rfl, _⟩ := h2 d rfl
        rfl
    exact ⟨ad, ov, rfl, h1, by rw [e]; exact z2.here g2.s is_bl⟩
  · exact z2.elim)⟩
/-- {} -/
theorem nd_dnT : PE X (.Dict [] [] pos) (tN P F0 H0 W (fun _ => .ok (.dT [] []))) := pe_dnewT.imp fun σ H Q ⟨F, ρ, er, z⟩ => fun p hp =>
  z _ F _ (.junk er.s (.new hp)) ⟨p, rfl, .of hp, er.s.back hp, [], upd_same, rfl, .nil⟩
theorem nd_dnK : PE X (.Dict [] [] pos) (tN P F0 H0 W (fun _ => .ok (.dK [] []))) := pe_dnewK.imp fun σ H Q ⟨F, ρ, er, z⟩ => fun p hp =>
  z _ F _ (.junk er.s (.new hp)) ⟨p, rfl, .of hp, er.s.back hp, [], upd_same, rfl, .nil⟩
/-! ### x[k] = v, x a name whose dict is one's own -/
def putE (i : Nat) (ρ : Env) (y d : D) : RS := match ρ[i]? with
  | some (some (.ow (.dT ks xs))) => (match keyT y with
    | some k => if small (ks.length + 1) = true then .nx (ρ.set i (some (.ow (.dT (putKs ks k) (putXs ks xs k d))))) else .bad
    | none => .bad)
  | some (some (.ow (.dK ks xs))) => (match keyA y with
    | some k => if small (ks.length + 1) = true then .nx (ρ.set i (some (.ow (.dK (putKs ks k) (putXs ks xs k d))))) else .bad
    | none => .bad)
  | _ => .bad
def isOwD (i : Nat) (ρ : Env) : Res Unit := match ρ[i]? with
  | some (some (.ow (.dT _ _))) => .ok ()
  | some (some (.ow (.dK _ _))) => .ok ()
  | _ => .bad
theorem isOwD_cases (i : Nat) (ρ : Env) : (isOwD i ρ = .bad) ∨ ∃ dd, isOwD i ρ = .ok () ∧ ρ[i]? = some (some (.ow dd)) := by
  unfold isOwD
  split
  · rename_i q
    exact .inr ⟨_, rfl, q⟩
  · rename_i q
    exact .inr ⟨_, rfl, q⟩
  · exact .inl rfl
abbrev sDput (i : Nat) (fk fv : Env → Res D) : Env → RS := fun ρ => bindS (fv ρ) ρ fun d => bindS (isOwD i ρ) ρ fun _ => bindS (fk ρ) ρ fun y => putE i ρ y d
theorem sd_dput (i : Nat) {x : Str} {p1 pos' : Pos} (hu : X.A.units + 1 < cLine) (hk : PE X b (tE P F0 H0 W fb)) (hv : PE X c (tE P F0 H0 W fc)) (hN : X.N[i]? = some x := by rfl) (hvi : Vis X.env.scope x := by first | exact Or.inl rfl | exact Or.inr (Or.inl rfl) | exact Or.inr (Or.inr rfl)) (hd : (x == ("__debug__" : Str)) = false := by decide)
    (hcd : (x == ("__classdict__" : Str)) = false := by decide) (hs : swapsWith c (some (.Subscript (.Name x p1) b pos')) pos.line X.env = pure false := by rfl) :
    PS X (.Assign [.Subscript (.Name x p1) b pos'] c pos) (tS P F0 H0 W (sDput i fb fc)) := (ps_dput hu (pe_var hN hvi hd hcd) hk hv hs).imp fun N σ H ⟨F, ρ, er, z⟩ => by
  refine ⟨F, ρ, er, (PostS.bind (rel := rIs P) er z).imp ?_⟩
  rintro v H1 ⟨F1, d, g1, i1, z1⟩
  have er1 := er.grow g1
  rcases isOwD_cases i ρ with hb | ⟨dd, hb, hρ⟩
  · rw [hb] at z1
    exact z1.elim
  · rw [hb] at z1
    replace z1 : PostS P F0 H0 W F1 (bindS (fb ρ) ρ fun y => putE i ρ y d) N := z1
    obtain ⟨ad, hσ, _⟩ := er1.ow i dd hρ
    show ∃ w, σ[i]? = some (some w) ∧ tE P F0 H0 W fb σ H1 fun y H3 => ∃ a H4, w = .ref a ∧ DPut H3 a y v H4 ∧ N.nx σ H4
    exact (by
      refine ⟨.ref ad, hσ, F1, ρ, er1, (PostS.bind (rel := rIs P) er1 z1).imp ?_⟩
      rintro y H3 ⟨F3, dy, g3, i3, z3⟩
      have er3 := er1.grow g3
      obtain ⟨ad', h1, h2, h3, h4⟩ := er3.ow i dd hρ
      rw [hσ] at h1
      cases h1
      unfold putE at z3
      rw [hρ] at z3
      cases dd with
      | dT ks xs =>
        obtain ⟨vs, k1, k2, k3⟩ := h4
        dsimp only at z3
        cases hky : keyT dy with
        | none =>
          rw [hky] at z3
          exact z3.elim
        | some k =>
          rw [hky] at z3
          dsimp only at z3
          by_cases hz : small (ks.length + 1) = true
          · rw [if_pos hz] at z3
            obtain ⟨bb, rfl, hb⟩ := keyT_is i3 hky
            obtain ⟨e1, e2, e3⟩ := put_is (k := k) (i1.mono g3.f d) k2 k3
            refine ⟨ad, _, rfl, .inr ⟨_, k, bb, k1, rfl, er3.s.ex _ _ hb, ?_, rfl⟩, z3 σ F3 _ (er3.mut hρ hσ ⟨_, by rw [upd_same, e1], e2, e3⟩) (.refl F3)⟩
            have := small_lt hz
            simp [List.length_zip, ← k2]
            omega
          · rw [if_neg hz] at z3
            exact z3.elim
      | dK ks xs =>
        obtain ⟨vs, k1, k2, k3⟩ := h4
        dsimp only at z3
        cases hky : keyA dy with
        | none =>
          rw [hky] at z3
          exact z3.elim
        | some k =>
          rw [hky] at z3
          dsimp only at z3
          by_cases hz : small (ks.length + 1) = true
          · rw [if_pos hz] at z3
            have ey := keyA_is i3 hky
            obtain ⟨e1, e2, e3⟩ := put_is (k := k) (i1.mono g3.f d) k2 k3
            refine ⟨ad, _, rfl, .inl ⟨_, k, k1, ey, ?_, rfl⟩, z3 σ F3 _ (er3.mut hρ hσ ⟨_, by rw [upd_same, e1], e2, e3⟩) (.refl F3)⟩
            have := small_lt hz
            simp [List.length_zip, ← k2]
            omega
          · rw [if_neg hz] at z3
            exact z3.elim
      | _ => exact z3.elim)
end
end DL
namespace DL
open PySem L2

/-! ### walks over dicts -/
section
variable {P : Pm} {F H : Hp}
/-- a tuple that stands is data -/
theorem tup_in {q : Addr} {vs : List V} (s : Sb P F H) (h : H q = some (.tup vs)) : ∃ F2, Grow P F H F2 H ∧ F2 q = some (.tup vs) := by
  cases e : F q with
  | some o =>
    have := s.ex _ _ e
    rw [h] at this
    cases this
    exact ⟨F, .refl s, e⟩
  | none => exact ⟨upd F q (.tup vs), ⟨.new e, .refl H, s.keep e h rfl, fun a o ho => by
      by_cases z : a = q
      · subst z
        rw [upd_same] at ho
        cases ho
        exact .inr (.inr ⟨_, rfl⟩)
      · rw [upd_ne z] at ho
        exact .inl ho⟩, upd_same⟩
theorem keys_in : ∀ {ks : List (List Key)} {vs : List V} {bs : List Addr} {F : Hp}, Sb P F H → ks.length = vs.length → IsKeys H (ks.zip vs) bs → ∃ F2, Grow P F H F2 H ∧ IsL P F2 (ks.map ktD) (bs.map V.ref)
  | [], vs, bs, F, s, l, h => by
    cases h
    exact ⟨F, .refl s, .nil⟩
  | k :: ks, [], bs, F, s, l, h => by simp at l
  | k :: ks, v :: vs, bs, F, s, l, h => by
    cases h with
    | @cons _ b _ bs' h1 h2 =>
      obtain ⟨F1, g1, e1⟩ := tup_in s h1
      obtain ⟨F2, g2, i2⟩ := keys_in (vs := vs) g1.s (by simpa using l) h2
      exact ⟨F2, g1.trans g2, .cons (is_ktD (g2.f _ _ e1)) i2⟩
def keysD : D → Res (List D)
  | .dT ks _ => .ok (ks.map ktD)
  | .dK ks _ => .ok (ks.map kD)
  | _ => .bad
theorem zip_get {α β : Type} : ∀ {ks : List α} {vs : List β} {i : Nat} {k : α}, ks.length = vs.length → ks[i]? = some k → ∃ v, (ks.zip vs)[i]? = some (k, v)
  | ks, vs, i, k, l, h => by
    have hi := lt_of_get h
    refine ⟨vs[i]'(by omega), ?_⟩
    rw [List.getElem?_zip_eq_some]
    exact ⟨h, List.getElem?_eq_getElem (by omega)⟩
theorem itkt_D {d : Addr} {o : Obj} {ks : List (List Key)} {vs : List V} (l : ks.length = vs.length) (h : F d = some (.frz o (.dT (ks.zip vs)))) : ItD P F H (ks.map ktD) (Itkt d o (ks.zip vs)) := fun j F1 H1 e1 e2 => by
  have hd : H1 d = some (.frz o (.dT (ks.zip vs))) := e2.ex _ _ (e1 _ _ h)
  have hl : (ks.zip vs).length = ks.length := by simp [List.length_zip, ← l]
  refine ⟨fun x hx => ?_, fun hn => ⟨hd, by rw [hl]; simpa using hn⟩⟩
  rw [List.getElem?_map] at hx
  cases hk : ks[j]? with
  | none =>
    rw [hk] at hx
    cases hx
  | some k =>
    rw [hk] at hx
    cases hx
    refine ⟨⟨hd, by rw [hl]; exact lt_of_get hk⟩, ?_⟩
    rintro v H2 ⟨rfl, k', w, q, h1, rfl, h2⟩
    obtain ⟨w', h3⟩ := zip_get l hk
    rw [h3] at h1
    cases h1
    obtain ⟨F2, g2, e3⟩ := tup_in e2 h2
    exact ⟨F2, g2, is_ktD e3⟩
theorem itk_D {d : Addr} {o : Obj} {ks : List Key} {vs : List V} (l : ks.length = vs.length) (h : F d = some (.frz o (.dK (ks.zip vs)))) : ItD P F H (ks.map kD) (Itk d o (ks.zip vs)) := fun j F1 H1 e1 e2 => by
  have hd : H1 d = some (.frz o (.dK (ks.zip vs))) := e2.ex _ _ (e1 _ _ h)
  have hl : (ks.zip vs).length = ks.length := by simp [List.length_zip, ← l]
  refine ⟨fun x hx => ?_, fun hn => ⟨hd, by rw [hl]; simpa using hn⟩⟩
  rw [List.getElem?_map] at hx
  cases hk : ks[j]? with
  | none =>
    rw [hk] at hx
    cases hx
  | some k =>
    rw [hk] at hx
    cases hx
    refine ⟨⟨hd, by rw [hl]; exact lt_of_get hk⟩, ?_⟩
    rintro v H2 ⟨rfl, k', w, h1, rfl⟩
    obtain ⟨w', h3⟩ := zip_get l hk
    rw [h3] at h1
    cases h1
    exact ⟨F1, .refl e2, is_kD k⟩
end
section
variable {X : Cx} {P : Pm} {F0 : Fz} {H0 : Hp} {W : WX} {a b c e l o tg : Expr} {es : List Expr} {fa fb fc : Env → Res D} {fs : Env → Res (List D)} {pos p apos cpos : Pos} {σ : St} {H F : Hp}
theorem un_dT {ks : List (List Key)} {xs : List D} {v : V} (h : Is P F (.dT ks xs) v) : ∃ a o vs, v = .ref a ∧ F a = some (.frz o (.dT (ks.zip vs))) ∧ ks.length = vs.length ∧ IsL P F xs vs := by
  rw [Is] at h
  exact h
theorem un_dK {ks : List Key} {xs : List D} {v : V} (h : Is P F (.dK ks xs) v) : ∃ a o vs, v = .ref a ∧ F a = some (.frz o (.dK (ks.zip vs))) ∧ ks.length = vs.length ∧ IsL P F xs vs := by
  rw [Is] at h
  exact h
abbrev iKs (f : Env → Res D) : Env → Res (List D) := fun ρ => f ρ >>= keysD
/-- for k in d -/
theorem id_keys (h : PE X l (tE P F0 H0 W fa)) : PI X tg l (tI P F0 H0 W (iKs fa)) := (pi_keys h).imp fun σ H R ⟨F, ρ, er, z⟩ => by
  refine ⟨F, ρ, er, (PostG.bind (rel := rIs P) z).imp ?_⟩
  rintro v H1 ⟨F1, d, g, i, q⟩
  unfold keysD at q
  split at q
  · obtain ⟨ad, od, vs, rfl, h1, h2, h3⟩ := un_dT i
    exact ⟨ad, od, rfl, .inr ⟨_, g.s.ex _ _ h1, q.here g.s (itkt_D h2 h1)⟩⟩
  · obtain ⟨ad, od, vs, rfl, h1, h2, h3⟩ := un_dK i
    exact ⟨ad, od, rfl, .inl ⟨_, g.s.ex _ _ h1, q.here g.s (itk_D h2 h1)⟩⟩
  · exact q.elim
/-! ### list(d) -/
def cListT : List D → Option D
  | [.dT ks _] => some (.lst (ks.map ktD))
  | _ => none
theorem ic_listT (hc : X.calm = true) : CallR X (.type "list") (rcO P cListT) := fun pins s σ H xs us Q I rx ⟨F, ds, d, e, i, hd, q⟩ => by
  unfold cListT at hd
  split at hd
  · cases hd
    obtain ⟨v, r, rfl, i1, i⟩ := i.uncons
    obtain rfl := i.unnil
    obtain ⟨ad, vs, rfl, h1, h2, h3⟩ := i1
    refine call_list_dT hc pins s σ H _ us Q I rx ⟨ad, _, rfl, h1, fun p bs hp hk => ?_⟩
    obtain ⟨F2, g2, i2⟩ := keys_in e h2 hk
    exact q _ (upd F2 p (.lst (bs.map V.ref))) _ (g2.trans (.new g2.s hp)) (by rw [Is]; exact ⟨p, _, rfl, .inl upd_same, i2.mono (.new (g2.s.back hp)) _⟩)
  · cases hd
/-! ### d.get(k, x) -/
def isDc (x : D) : Res Unit := match x with
  | .dT _ _ => .ok ()
  | .dK _ _ => .ok ()
  | _ => .bad
def dgetO (x y z : D) : Res D := match dlookD x y with
  | some (some d) => .ok d
  | some none => .ok z
  | none => .bad
abbrev fDget (fa fb fc : Env → Res D) : Env → Res D := fun ρ => do let x ← fa ρ; let _ ← isDc x; let y ← fb ρ; let z ← fc ρ; dgetO x y z
theorem isDc_of {x : D} {v : V} (i : Vw P F H x v) (h : isDc x = .ok ()) : ∃ a, v = .ref a ∧ IsD H a := by
  unfold isDc at h
  split at h
  · obtain ⟨a, vs, h1, h2, _⟩ := i
    exact ⟨a, h1, .inr ⟨_, h2⟩⟩
  · obtain ⟨a, vs, h1, h2, _⟩ := i
    exact ⟨a, h1, .inl ⟨_, h2⟩⟩
  · cases h
theorem isDc_cases (x : D) : isDc x = .ok () ∨ isDc x = .bad := by
  unfold isDc
  split
  · exact .inl rfl
  · exact .inl rfl
  · exact .inr rfl
theorem pd_dgetO (hu : X.A.units + 1 < cLine) (ho : PE X o (tV P F0 H0 W fa)) (hk : PE X b (tE P F0 H0 W fb)) (hx : PE X c (tE P F0 H0 W fc)) (m : M2 X o "get" apos b c cpos := by exact ⟨rfl, rfl, rfl, rfl⟩) : PE X (.Call (.Attribute o "get" apos) [b, c] [] cpos) (tE P F0 H0 W (fDget fa fb fc)) :=
  (pe_dget2 hu ho hk hx m).imp fun σ H Q ⟨F, ρ, er, z⟩ => by
  refine ⟨F, ρ, er, (PostG.bind (rel := rVw P) z).imp ?_⟩
  rintro x H1 ⟨F1, dx, g1, i1, z1⟩
  rcases isDc_cases dx with hd | hd
  · replace z1 : PostG P W (rIs P) (isDc dx >>= fun _ => do let y ← fb ρ; let z ← fc ρ; dgetO dx y z) F1 σ H1 Q := z1
    rw [hd] at z1
    replace z1 : PostG P W (rIs P) (do let y ← fb ρ; let z ← fc ρ; dgetO dx y z) F1 σ H1 Q := z1
    obtain ⟨ad, rfl, hD⟩ := isDc_of i1 hd
    refine ⟨ad, rfl, hD, F1, ρ, er.grow g1, (PostG.bind (rel := rIs P) z1).imp ?_⟩
    rintro y H2 ⟨F2, dy, g2, i2, z2⟩
    refine ⟨F2, ρ, (er.grow g1).grow g2, (PostG.bind (rel := rIs P) z2).imp ?_⟩
    rintro w H3 ⟨F3, dz, g3, i3, z3⟩
    unfold dgetO at z3
    split at z3
    · rename_i d hl
      obtain ⟨ad', ov, ea, h1, h2, _⟩ := look_get g3.s ((i1.mono g2.f g2.h dx).mono g3.f g3.h dx) (i2.mono g3.f dy) hl
      cases ea
      obtain ⟨v, rfl, iv⟩ := h2 d rfl
      exact ⟨_, h1, z3.here g3.s iv⟩
    · rename_i hl
      obtain ⟨ad', ov, ea, h1, _, h3⟩ := look_get g3.s ((i1.mono g2.f g2.h dx).mono g3.f g3.h dx) (i2.mono g3.f dy) hl
      cases ea
      have := h3 rfl
      subst this
      exact ⟨_, h1, z3.here g3.s i3⟩
    · exact z3.elim
  · replace z1 : PostG P W (rIs P) (isDc dx >>= fun _ => do let y ← fb ρ; let z ← fc ρ; dgetO dx y z) F1 σ H1 Q := z1
    rw [hd] at z1
    exact z1.elim
end
end DL
namespace DL
open PySem L2

/-! ### dict(a list of pairs), the keys tuples -/
def mergeT (kvs more : List (List Key × V)) : List (List Key × V) := more.foldl (fun acc kv => putK acc kv.1 kv.2) kvs
/-- a pair of the list: its own address, key, the key's address, value -/
structure Pq where
  a : Addr
  k : List Key
  b : Addr
  v : V
section
variable {X : Cx} {pins : List (Addr × Obj)} {σ : St} {H : Hp} {s : Shared}
theorem refs_vals : ∀ {as : List Addr} {us : List Value}, Vals (as.map V.ref) us → us = as.map Value.ref
  | [], _, .nil => rfl
  | a :: r, _, .cons (b := u) h t => by
    cases (show u = Value.ref a from h)
    rw [refs_vals t]
    rfl
/-- the pairs' values, as they stand -/
theorem pq_vals (I : Inv X pins σ H s) : ∀ {L : List Pq}, (∀ q ∈ L, H q.a = some (.tup [.ref q.b, q.v]) ∧ H q.b = some (.tup (q.k.map kV))) →
    ∃ us : List Value, us.length = L.length ∧ ∀ (j : Nat) (q : Pq) (u : Value), L[j]? = some q → us[j]? = some u → RelV q.v u ∧ s.heap.IsTuple q.a #[.ref q.b, u]
  | [], _ => ⟨[], rfl, fun j q u h => by simp at h⟩
  | q :: L, h => by
    obtain ⟨us, h1, h2⟩ := pq_vals I (L := L) fun x hx => h x (List.mem_cons_of_mem _ hx)
    obtain ⟨h3, h4⟩ := h q List.mem_cons_self
    obtain ⟨_, its, rv, it⟩ := (show ObjOk X.prog X.w H s.heap q.a (.tup [.ref q.b, q.v]) from I.hok _ _ h3)
    cases rv with
    | cons r1 t1 =>
      cases t1 with
      | cons r2 t2 =>
        cases t2
        rename_i u1 u2
        cases (show u1 = Value.ref q.b from r1)
        refine ⟨u2 :: us, by simp [h1], fun j x u hj hu => ?_⟩
        cases j with
        | zero =>
          simp at hj hu
          subst hj hu
          exact ⟨r2, it⟩
        | succ j =>
          simp at hj hu
          exact h2 j x u hj hu
theorem kt_merge : ∀ {L : List Pq} {us : List Value} {kvs : List (List Key × V)} {xs : List (List Key × Addr × Value)}, us.length = L.length → (∀ q ∈ L, H q.b = some (.tup (q.k.map kV))) → (∀ (j : Nat) (q : Pq) (u : Value), L[j]? = some q → us[j]? = some u → RelV q.v u) → KT H kvs xs →
    KT H (mergeT kvs (L.map fun q => (q.k, q.v))) (storedAllH xs ((L.zip us).map fun p => (p.1.k, p.1.b, p.2)))
  | [], us, kvs, xs, l, _, _, r => by
    cases us with
    | nil => exact r
    | cons _ _ => simp at l
  | q :: L, [], kvs, xs, l, _, _, r => by simp at l
  | q :: L, u :: us, kvs, xs, l, hb, hv, r => by
    have r1 := r.put q.k (hb q List.mem_cons_self) (hv 0 q u rfl rfl)
    exact kt_merge (L := L) (us := us) (by simpa using l) (fun x hx => hb x (List.mem_cons_of_mem _ hx)) (fun j x w h1 h2 => hv (j + 1) x w (by simpa using h1) (by simpa using h2)) r1
theorem merge_len : ∀ (L : List (List Key × V)) (kvs : List (List Key × V)), (mergeT kvs L).length ≤ kvs.length + L.length
  | [], kvs => by simp [mergeT]
  | q :: L, kvs => by
    have h1 := length_putK kvs q.1 q.2
    have h2 := merge_len L (putK kvs q.1 q.2)
    have e : mergeT kvs (q :: L) = mergeT (putK kvs q.1 q.2) L := rfl
    rw [e]
    simp
    omega
end
section
variable {X : Cx}
theorem call_dictT (hcalm : X.calm = true) (hu : X.A.units + 8 < cLine) : CallR X (.type "dict") (fun xs H Q => ∃ (a : Addr) (L : List Pq), xs = [.ref a] ∧ Rd H a (.lst (L.map fun q => V.ref q.a)) ∧ (∀ q ∈ L, H q.a = some (.tup [.ref q.b, q.v]) ∧ H q.b = some (.tup (q.k.map kV))) ∧ L.length ≤ 1000000 ∧
    ∀ p, H p = none → Q (.ref p) (upd H p (.dT (mergeT [] (L.map fun q => (q.k, q.v)))))) := by
  intro pins s σ H xs us Q I r ⟨a, L, ex, hq, hp, hl, q⟩
  subst ex
  obtain ⟨u, eu, rx⟩ := r.one
  subst eu
  cases rx
  obtain ⟨hz, its, n, rv, hls⟩ := Inv.rdl I hq
  have ei : its = (L.map (·.a)).map Value.ref := refs_vals (by rw [List.map_map]; exact rv)
  obtain ⟨ws, w1, w2⟩ := pq_vals I hp
  have ok1 : PlainSeq "list" s.heap a its.toArray := ⟨_, n, hls, rfl, rfl, rfl⟩
  have hps : ∀ (j : Nat) (k v : Value), ((L.zip ws).map fun p => ((Value.ref p.1.b), p.2))[j]? = some (k, v) → ∃ q, L[j]? = some q ∧ ws[j]? = some v ∧ k = .ref q.b := by
    intro j k v h
    rw [List.getElem?_map] at h
    cases hz : (L.zip ws)[j]? with
    | none =>
      rw [hz] at h
      cases h
    | some p =>
      rw [hz] at h
      cases h
      rw [List.getElem?_zip_eq_some] at hz
      exact ⟨p.1, hz.1, hz.2, rfl⟩
  have ok2 : PairItems s.heap its.toArray (fun j => ((L[j]?).map (·.a)).getD 0) ((L.zip ws).map fun p => ((Value.ref p.1.b), p.2)) := by
    refine ⟨by simp [ei, w1], fun j k v h => ?_⟩
    obtain ⟨q', h1, h2, rfl⟩ := hps j k v h
    refine ⟨by simp [ei, h1], ?_⟩
    simp only [h1]
    exact .inl (w2 j q' v h1 h2).2
  have keyAt : ∀ x ∈ ((L.zip ws).map fun p => (p.1.k, p.1.b, p.2)), (tupleKind (mixKind X.prog X.w)).is s.heap x.1 x.2.1 := by
    intro x hx
    obtain ⟨p, hp', rfl⟩ := List.mem_map.mp hx
    exact key_of I.hok (hp p.1 (List.of_mem_zip hp').1).2
  refine call_dict_pairsH (knd := tupleKind (mixKind X.prog X.w)) (ps := (L.zip ws).map fun p => (p.1.k, p.1.b, p.2)) (PairArg.list a its.toArray _ _) (I.ok.hd hcalm) (by show X.A.units + 1 + 1 < cLine; omega) ⟨ok1, ok2⟩ ⟨by simp, fun i k v h => ?_⟩ (fun h' hk x hx => ?_) (by simp [w1]; exact Nat.le_trans hl (by decide)) fun h' tk hd' hk => ?_
  · obtain ⟨q', h1, h2, rfl⟩ := hps i k v h
    refine ⟨q'.k, q'.b, ?_, rfl⟩
    have e : (L.zip ws)[i]? = some (q', v) := List.getElem?_zip_eq_some.mpr ⟨h1, h2⟩
    rw [List.getElem?_map, e]
    rfl
  · exact tupleKind_stays.stays (fun b o vs n e _ => hk b o (Nat.ne_of_lt (Heap.lt_size e)) (by simp) e) (keyAt x hx)
  · have hm : (s.heap.objs.size == sysModules) = false := beq_eq_false_iff_ne.mpr (Nat.ne_of_gt I.big)
    have kt := kt_merge (kvs := []) (xs := []) w1 (fun q hq => (hp q hq).2) (fun j q u h1 h2 => (w2 j q u h1 h2).1) Paired.nil
    obtain ⟨o, es, ep, d1, d2, d3, d4, d5, d6⟩ := hd'
    have nS : H s.heap.objs.size = none := I.hok.fresh (Nat.le_refl _)
    refine ⟨.ref s.heap.objs.size, upd H s.heap.objs.size (.dT (mergeT [] (L.map fun q => (q.k, q.v)))), I.laid (t' := tk) (fun b o e => hk b o (by simp) e) (Nat.le_refl _) (show ObjOk X.prog X.w _ _ _ (.dT _) from ⟨?_, hm, _, kt.keeps fun b ys e => ?_, o, es, ep, d1, d2, d3, d4, d6⟩), rfl, q _ nS⟩
    · have := merge_len (L.map fun q => (q.k, q.v)) []
      simp at this
      exact Nat.le_trans this (Nat.le_trans hl (by decide))
    · rw [upd_ne (ne_of_none e nS)]
      exact e
/-! ### as data -/
def pairsT : List D → Option (List (List Key × D))
  | [] => some []
  | .tup [k, v] :: r => (keyT k).bind fun k => (pairsT r).map ((k, v) :: ·)
  | _ :: _ => none
def mergeD (acc : List (List Key) × List D) (l : List (List Key × D)) : List (List Key) × List D := l.foldl (fun acc p => (putKs acc.1 p.1, putXs acc.1 acc.2 p.1 p.2)) acc
def cDictT : List D → Option D
  | [.lst ps] => if small ps.length = true then (pairsT ps).map fun l => .dT (mergeD ([], []) l).1 (mergeD ([], []) l).2 else none
  | _ => none
section
variable {P : Pm} {F H : Hp}
theorem pairsT_is : ∀ {ps : List D} {vs : List V} {l : List (List Key × D)}, IsL P F ps vs → pairsT ps = some l → ∃ L : List Pq, vs = (L.map fun q => V.ref q.a) ∧ L.length = ps.length ∧ (∀ q ∈ L, F q.a = some (.tup [.ref q.b, q.v]) ∧ F q.b = some (.tup (q.k.map kV))) ∧ (L.map fun q => q.k) = l.map (·.1) ∧ IsL P F (l.map (·.2)) (L.map fun q => q.v)
  | [], _, _, i, h => by
    cases h
    obtain rfl := i.unnil
    exact ⟨[], rfl, rfl, fun q hq => by simp at hq, rfl, .nil⟩
  | p :: ps, _, l, i, h => by
    obtain ⟨v, r, rfl, i1, i2⟩ := i.uncons
    unfold pairsT at h
    split at h
    · rename_i h0
      cases h0
    · rename_i k d r' h0
      cases h0
      cases hk : keyT k with
      | none =>
        rw [hk] at h
        cases h
      | some kk =>
        rw [hk] at h
        cases hr : pairsT ps with
        | none =>
          have h' : (pairsT ps).map ((kk, d) :: ·) = some l := h
          rw [hr] at h'
          cases h'
        | some l' =>
          have h' : (pairsT ps).map ((kk, d) :: ·) = some l := h
          rw [hr] at h'
          cases h'
          obtain ⟨L, e1, e2, e3, e4, e5⟩ := pairsT_is i2 hr
          rw [Is] at i1
          obtain ⟨a, ws, rfl, h1, j⟩ := i1
          obtain ⟨w1, r1, rfl, j1, j⟩ := j.uncons
          obtain ⟨w2, r2, rfl, j2, j⟩ := j.uncons
          obtain rfl := j.unnil
          obtain ⟨b, rfl, hb⟩ := keyT_is j1 hk
          refine ⟨⟨a, kk, b, w2⟩ :: L, by simp [e1], by simp [e2], fun q hq => ?_, by simp [e4], .cons j2 e5⟩
          rcases List.mem_cons.mp hq with rfl | hq
          · exact ⟨h1, hb⟩
          · exact e3 q hq
    · cases h
theorem mergeD_is : ∀ {L : List Pq} {l : List (List Key × D)} {ks : List (List Key)} {xs : List D} {vs : List V}, (L.map fun q => q.k) = l.map (·.1) → IsL P F (l.map (·.2)) (L.map fun q => q.v) → ks.length = vs.length → IsL P F xs vs →
    ∃ vs', mergeT (ks.zip vs) (L.map fun q => (q.k, q.v)) = (mergeD (ks, xs) l).1.zip vs' ∧ (mergeD (ks, xs) l).1.length = vs'.length ∧ IsL P F (mergeD (ks, xs) l).2 vs'
  | [], [], ks, xs, vs, _, _, hl, i => ⟨vs, rfl, hl, i⟩
  | [], _ :: _, _, _, _, e, _, _, _ => by cases e
  | _ :: _, [], _, _, _, e, _, _, _ => by cases e
  | q :: L, p :: l, ks, xs, vs, e, j, hl, i => by
    rw [List.map_cons, List.map_cons] at e j
    have e1 : q.k = p.1 := (List.cons.inj e).1
    obtain ⟨v0, r0, ev, j1, j2⟩ := j.uncons
    cases ev
    obtain ⟨k1, k2, k3⟩ := put_is (k := q.k) j1 hl i
    obtain ⟨vs', m1, m2, m3⟩ := mergeD_is (L := L) (l := l) (ks := putKs ks q.k) (xs := putXs ks xs q.k p.2) (vs := putXs ks vs q.k q.v) (List.cons.inj e).2 j2 k2 k3
    have e2 : mergeD (ks, xs) (p :: l) = mergeD (putKs ks q.k, putXs ks xs q.k p.2) l := by
      rw [e1]
      rfl
    rw [e2]
    refine ⟨vs', ?_, m2, m3⟩
    rw [← m1, ← k1]
    rfl
end
section
variable {X : Cx} {P : Pm}
/-- dict(pairs): a new dict -/
theorem nd_dictT {F0 : Fz} {H0 : Hp} {W : WX} {e : Expr} {fa : Env → Res D} {p pos : Pos} (hcalm : X.calm = true) (hu : X.A.units + 8 < cLine) (hm : X.mg "dict" = none) (ha : PE X e (tV P F0 H0 W fa)) (hg : Gl X "dict" := by rfl)
    (he : starEach [e] X.env = (false, eval e X.env) :: starEach [] X.env := by rfl) (hpl : (backTo pos (starEach [] X.env)).any (·.1) = false := by rfl) :
    PE X (.Call (.Name "dict" p) [e] [] pos) (tN P F0 H0 W (fun ρ => do let x ← fa ρ; opt (cDictT [x]))) :=
  (pe_callTy (call_dictT hcalm hu) hg hm (by decide +kernel) (pa_cons ha pa_nil he) (by decide) (by decide) he hpl).imp fun σ H Q ⟨F, ρ, er, z⟩ => by
  show tV P F0 H0 W fa σ H _
  refine ⟨F, ρ, er, (PostG.bind (rel := rVw P) z).imp ?_⟩
  rintro v H1 ⟨F1, d, g, i, q⟩
  obtain ⟨d', hd, q'⟩ := opt_of q
  unfold cDictT at hd
  split at hd
  · rename_i ps hps
    cases hps
    obtain ⟨a, vs, rfl, h1, h2⟩ := i
    split at hd
    · rename_i hz
      cases hl : pairsT ps with
      | none =>
        rw [hl] at hd
        cases hd
      | some l =>
        rw [hl] at hd
        cases hd
        obtain ⟨L, e1, e2, e3, e4, e5⟩ := pairsT_is h2 hl
        obtain ⟨vs', m1, m2, m3⟩ := mergeD_is (ks := []) (xs := []) (vs := []) e4 e5 rfl .nil
        refine ⟨a, L, rfl, e1 ▸ h1, fun q hq => ⟨g.s.ex _ _ (e3 q hq).1, g.s.ex _ _ (e3 q hq).2⟩, by rw [e2]; exact of_decide_eq_true hz, fun p hp => ?_⟩
        have m1' : mergeT [] (L.map fun q => (q.k, q.v)) = (mergeD ([], []) l).1.zip vs' := m1
        rw [m1']
        exact q' _ F1 _ (.junk g.s (.new hp)) ⟨p, rfl, g.h.back hp, g.s.back hp, vs', upd_same, m2, m3⟩
    · cases hd
  · cases hd
end
end
end DL
namespace DL
open PySem L2
open PyProof.Rows (seqObj)

/-! ### sorted(d, reverse=b), the keys tuples of integers -/
def kI : Key → Int
  | .inl i => i
  | .inr _ => 0
def isInl : Key → Bool
  | .inl _ => true
  | .inr _ => false
def encT (k : List Key) : PyData := .tuple ((k.map kI).map .int)
def okSort (ks : List (List Key)) : Bool := ks.all (fun k => k.all isInl) && (decide (ks.length < 2) || ks.all (fun k => !k.isEmpty))
section
variable {prog : Program} {w : World} {A : Around} {E : Value → Shared → Prop} {s : Shared} {β : Type} {vs : List Value} {bs : List β} {enc : β → PyData} {R : Value → β → Prop}
theorem no_swo : SrtO.Swo (fun _ _ : Value => false) := ⟨fun _ _ h => (by cases h), fun _ _ _ _ _ => rfl⟩
theorem list_sort_any {a : Addr} {n : Nat} {b : Bool} {P : PySem.Fin → Shared → Prop} (ho : s.heap.get? a = some (seqObj "list" vs.toArray n)) (e : PySem.W.EachIs R vs bs) (er : PySem.W.EachIs (fun v b => ∃ as, Reads s.heap v (enc b) as ∧ a ∉ as) vs bs) (hal : PySem.W.AllAlike (bs.map enc))
    (hk : bs.length < 2 ∨ PySem.W.Sortable (bs.map enc)) (hL : bs.length ≤ sizeLine) (hu : ∀ b, b ∈ bs → A.units + (enc b).depth < cLine)
    (h : ∀ out, PySem.W.EachIs R out (bs.mergeSort (PySem.W.dataLe b enc)) → P (.done (.ret .none)) { s with heap := PyProof.Rows.sortedHeap s.heap a vs (List.toArray out) }) :
    wpAny (model prog w) A (Builtin.«list.sort» ⟨[.ref a], [(Str.ofString "reverse", .bool b)]⟩) P E s := by
  have hl : vs.length = bs.length := e.length
  rcases hk with hk | hk
  · refine SrtR.list_sort_ordR no_swo ho (by omega) (fun h2 => absurd h2 (by omega)) fun out h1 h2 => ?_
    have eo : (if b = true then out.toArray.reverse else out.toArray) = vs.toArray := by
      have h3 : out.Perm vs := by
        have := h2.perm
        split at this
        · exact this.trans (List.reverse_perm _)
        · exact this
      have h4 : out = vs := by
        match vs, h3, (by omega : vs.length < 2) with
        | [], h3, _ => exact List.perm_nil.mp h3
        | [x], h3, _ => exact List.perm_singleton.mp h3
      subst h4
      split
      · match out, (by omega : out.length < 2) with
        | [], _ => rfl
        | [x], _ => rfl
      · rfl
    rw [eo]
    refine h vs ?_
    have : bs.mergeSort (PySem.W.dataLe b enc) = bs := by
      match bs, hk with
      | [], _ => simp
      | [x], _ => simp
    rw [this]
    exact e
  · have er' : PySem.W.EachIs (fun v b => ∃ as, Reads (PySem.W.sortingHeap s.heap a vs) v (enc b) as) vs bs := PySem.W.each_keepBut (h' := PySem.W.sortingHeap s.heap a vs) (fun _ _ hb q => PySem.W.sortingHeap_old hb q) (fun o q => by rw [ho] at q; rw [← Option.some.inj q]) hal er
    refine PySem.W.list_sort_rev_vals (κ := PySem.W.dataKind (PySem.W.sortingHeap s.heap a vs) (bs.map enc)) ho (PySem.W.SortsAt.data (s := { s with heap := PySem.W.sortingHeap s.heap a vs }) (PySem.W.each_map (R := fun v d => ∃ as, Reads (PySem.W.sortingHeap s.heap a vs) v d as) enc er') hal hk (PySem.W.bound_map hu)) (by omega) ?_
    exact h _ (PySem.W.sortVals_data b e er' hal)
end
section
variable {X : Cx} {pins : List (Addr × Obj)} {σ : St} {H : Hp} {s : Shared}
theorem reads_ints {h : Heap} : ∀ {k : List Key} {us : List Value}, k.all isInl = true → Vals (k.map kV) us → ReadsAll h us ((k.map kI).map .int) []
  | [], _, _, .nil => .nil
  | .inl i :: k, _, hk, .cons (b := u) r t => by
    obtain ⟨t', rfl⟩ := (show ∃ t, u = Value.int i t from r)
    have := ReadsAll.cons (h := h) (Reads.int i t') (reads_ints (h := h) (k := k) (by simpa [isInl] using hk) t)
    simpa [kI] using this
  | .inr x :: k, _, hk, _ => by simp [isInl] at hk
theorem reads_key {h : Heap} (I : Inv X pins σ H s) (kp : ∀ b o, s.heap.get? b = some o → h.get? b = some o) {k : List Key} {b : Addr} (hk : k.all isInl = true) (hb : H b = some (.tup (k.map kV))) : Reads h (.ref b) (encT k) [] := by
  obtain ⟨_, its, rv, o, h1, h2, n, h3⟩ := (show ObjOk X.prog X.w H s.heap b (.tup (k.map kV)) from I.hok _ _ hb)
  exact .tuple (kp _ _ h1) h2 h3 (by simpa using reads_ints hk rv)
theorem alike_encT (k k' : List Key) : PySem.W.alike (encT k) (encT k') = true := by
  unfold encT
  rw [PySem.W.alike]
  exact PySem.W.alike_ints _ _
theorem depth_encT (k : List Key) : (encT k).depth ≤ 1 := by
  unfold encT
  rw [PyData.depth, PySem.W.depth_ints]
  omega
theorem each_keys_of {h : Heap} (I : Inv X pins σ H s) (kp : ∀ b o, s.heap.get? b = some o → h.get? b = some o) : ∀ {kvs : List (List Key × V)} {bs : List Addr}, IsKeys H kvs bs → (kvs.map (·.1)).all (fun k => k.all isInl) = true →
    PySem.W.EachIs (fun v (p : List Key × Addr) => v = .ref p.2 ∧ H p.2 = some (.tup (p.1.map kV))) (bs.map Value.ref) ((kvs.map (·.1)).zip bs) ∧ PySem.W.EachIs (fun v (p : List Key × Addr) => ∃ as, Reads h v (encT p.1) as ∧ h.objs.size ∉ as) (bs.map Value.ref) ((kvs.map (·.1)).zip bs)
  | [], _, .nil, _ => ⟨.nil, .nil⟩
  | kv :: kvs, _, .cons h1 h2, hk => by
    simp only [List.map_cons, List.all_cons, Bool.and_eq_true] at hk
    obtain ⟨e1, e2⟩ := each_keys_of I kp h2 hk.2
    exact ⟨.cons ⟨rfl, h1⟩ e1, .cons ⟨[], reads_key I kp hk.1 h1, by simp⟩ e2⟩
theorem each_out : ∀ {out : List Value} {L : List (List Key × Addr)}, PySem.W.EachIs (fun v (p : List Key × Addr) => v = .ref p.2 ∧ H p.2 = some (.tup (p.1.map kV))) out L → out = (L.map (·.2)).map Value.ref ∧ ∀ p ∈ L, H p.2 = some (.tup (p.1.map kV))
  | _, _, .nil => ⟨rfl, fun p hp => by simp at hp⟩
  | _, _, .cons ⟨h1, h2⟩ t => by
    obtain ⟨e1, e2⟩ := each_out t
    subst h1
    refine ⟨by rw [e1]; rfl, fun p hp => ?_⟩
    rcases List.mem_cons.mp hp with rfl | hp
    · exact h2
    · exact e2 p hp
theorem keys_zip {kvs : List (List Key × V)} {bs : List Addr} (h : IsKeys H kvs bs) : ((kvs.map (·.1)).zip bs).map (·.1) = kvs.map (·.1) := by
  have l : kvs.length = bs.length := Paired.length h
  rw [List.map_fst_zip]
  simp [l]
end
section
variable {X : Cx}
theorem call_sortedT (hcalm : X.calm = true) (hu : X.A.units + 8 < cLine) : CallRK X (.builtin "sorted") [Str.ofString "reverse"] (fun xs zs H Q => ∃ (a : Addr) (kvs : List (List Key × V)) (b : Bool), xs = [.ref a] ∧ zs = [.bl b] ∧ Rd H a (.dT kvs) ∧ okSort (kvs.map (·.1)) = true ∧
    ∀ (p : Addr) (L : List (List Key × Addr)), H p = none → L.map (·.1) = (kvs.map (·.1)).mergeSort (PySem.W.dataLe b encT) → (∀ q ∈ L, H q.2 = some (.tup (q.1.map kV))) → Q (.ref p) (upd H p (.lst (L.map fun q => V.ref q.2)))) := by
  intro pins s σ H xs zs us ws Q I r rz ⟨d, kvs, b, ex, ez, hd, hok, q⟩
  subst ex ez
  obtain ⟨u, rfl, rx⟩ := r.one
  cases rx
  obtain ⟨u, rfl, rx⟩ := rz.one
  cases rx
  simp only [okSort, Bool.and_eq_true, Bool.or_eq_true, decide_eq_true_eq] at hok
  obtain ⟨hk1, hk2⟩ := hok
  obtain ⟨z, hs, ks, pr, o, es, ep, ho, hx, hdt, he, hn⟩ := (show ObjOk X.prog X.w H s.heap d (.dT kvs) from hd.ok I.hok)
  have l1 : es.size = ks.length := size_of_entries he
  have l2 : kvs.length = ks.length := Paired.length pr
  have hkeys := isKeys_of pr
  show wpAny _ _ (call (.builtin "sorted") [Value.ref d] [(Str.ofString "reverse", Value.bool b)]) _ _ _
  refine PyProof.Rows.call_function_entry_kw PyProof.Rows.kind_sorted PyProof.Rows.plain_sorted PyProof.Rows.entry_sorted (PyProof.Rows.args_sorted_rev _ _) ?_
  unfold Builtin.«sorted»
  refine wpAny_bind (m := checkCount "sorted" 1 1 _) (wpAny_pure ?_)
  refine wpAny_bind (PySem.W.kdu_collect (A := X.A.in1) (kdl_raw hs hx hdt) (I.ok.hd hcalm) ho (by omega) fun h' tk acc' kp it => ?_)
  have ea : acc'.toList = (ks.map fun x => x.2.1).map Value.ref := by
    have hl : acc'.toList.length = ks.length := by rw [Array.length_toList, it.1]; exact l1
    apply List.ext_getElem?
    intro j
    rw [List.map_map, List.getElem?_map]
    cases hj : acc'.toList[j]? with
    | none =>
      have h1 := List.getElem?_eq_none_iff.mp hj
      rw [List.getElem?_eq_none (by omega)]
      all_goals rfl
    | some v =>
      obtain ⟨en, hen, hv⟩ := it.2 j v (by rw [← Array.getElem?_toList]; exact hj)
      have qe := entry_at he j
      rw [hen] at qe
      cases hb : ks[j]? with
      | none =>
        rw [hb] at qe
        exact nomatch (show some en = none from qe)
      | some b =>
        rw [hb] at qe
        have e2 : en = entryOfKey (tupleKind (mixKind X.prog X.w)) b := Option.some.inj qe
        rw [hv, e2]
        all_goals rfl
  have I1 : Inv X pins σ H { s with heap := h', toks := tk } := I.kept kp
  have hal : acc'.toList.length ≤ sizeLine := by rw [ea, List.length_map, List.length_map]; omega
  refine wpAny_bind (wpAny_newList ?_ hal)
  have hoL : (h'.push (seqObj "list" acc'.toList.toArray 0)).get? h'.objs.size = some (seqObj "list" acc'.toList.toArray 0) := Heap.get?_push_size _ rfl
  have hol : ∀ b o, h'.get? b = some o → (h'.push (seqObj "list" acc'.toList.toArray 0)).get? b = some o := fun b o e => Heap.get?_push_of_some _ e
  show wpAny _ _ _ _ _ { s with heap := h'.push (seqObj "list" acc'.toList.toArray 0), toks := tk }
  obtain ⟨ee, _⟩ := each_keys_of (h := h') I1 (fun b o e => e) hkeys hk1
  rw [← ea] at ee
  have er : PySem.W.EachIs (fun v (p : List Key × Addr) => ∃ as, Reads (h'.push (seqObj "list" acc'.toList.toArray 0)) v (encT p.1) as ∧ h'.objs.size ∉ as) (acc'.toList) ((kvs.map (·.1)).zip (ks.map fun x => x.2.1)) := by
    refine (PySem.W.each_mem ee).mono fun v p ⟨⟨e1, e2⟩, hm⟩ => ?_
    have hin : p.1 ∈ kvs.map (·.1) := (List.of_mem_zip hm).1
    exact ⟨[], e1 ▸ reads_key I1 hol (List.all_eq_true.mp hk1 _ hin) e2, by simp⟩
  refine wpAny_bind (wpAny_holding (PyProof.Rows.wpAny_call_entry_kw PyProof.Rows.slot_list_sort ⟨_, hoL, rfl⟩ PyProof.Rows.entry_list_sort ?_ (PyProof.Rows.args_list_sort_rev _ _)))
  have lz : ((kvs.map (·.1)).zip (ks.map fun x => x.2.1)).length = kvs.length := by simp [l2]
  refine list_sort_any (s := { s with heap := h'.push (seqObj "list" acc'.toList.toArray 0), toks := tk }) (enc := fun p => encT p.1) hoL ee er (PySem.W.AllAlike.of fun p p' => alike_encT _ _) ?_ (by rw [lz]; omega) (fun p hp => ?_) fun out hout => ⟨_, rfl, ?_⟩
  · rcases hk2 with h2 | h2
    · left
      rw [lz]
      simpa using h2
    · right
      left
      intro d' hd'
      obtain ⟨p, hp, rfl⟩ := List.mem_map.mp hd'
      have := List.all_eq_true.mp h2 _ (List.of_mem_zip hp).1
      unfold encT
      cases hp1 : p.1 with
      | nil =>
        rw [hp1] at this
        simp at this
      | cons x r => exact ⟨_, _, rfl⟩
  · have := depth_encT p.1
    show X.A.units + 1 + 1 + (encT p.1).depth < cLine
    omega
  · obtain ⟨eo, hL⟩ := each_out hout
    obtain ⟨e', he'⟩ := PyProof.Rows.sortedHeap_at (vs := acc'.toList) (out := out.toArray) hoL
    have hm1 : (((kvs.map (·.1)).zip (ks.map fun x => x.2.1)).mergeSort (PySem.W.dataLe b fun p => encT p.1)).map (·.1) = (kvs.map (·.1)).mergeSort (PySem.W.dataLe b encT) := by
      have := PySem.W.sort_maps (r := PySem.W.dataLe b fun p : List Key × Addr => encT p.1) (s := PySem.W.dataLe b encT) (fun p : List Key × Addr => p.1) (l := (kvs.map (·.1)).zip (ks.map fun x => x.2.1)) (fun _ _ _ _ => rfl)
      rw [this, keys_zip hkeys]
    have hlen : ((((kvs.map (·.1)).zip (ks.map fun x => x.2.1)).mergeSort (PySem.W.dataLe b fun p => encT p.1)).map fun q => V.ref q.2).length ≤ sizeLine := by
      rw [List.length_map, List.length_mergeSort, lz]
      omega
    have rv : Vals ((((kvs.map (·.1)).zip (ks.map fun x => x.2.1)).mergeSort (PySem.W.dataLe b fun p => encT p.1)).map fun q => V.ref q.2) out := by
      rw [eo]
      have := vals_refs ((((kvs.map (·.1)).zip (ks.map fun x => x.2.1)).mergeSort (PySem.W.dataLe b fun p => encT p.1)).map (·.2))
      rw [List.map_map] at this
      exact this
    refine wpAny_pure ⟨_, rfl, .ref h'.objs.size, upd H h'.objs.size (.lst _), I1.laid (t' := tk) (fun b u e => ?_) (Nat.le_refl _)
      (show ObjOk X.prog X.w _ _ _ (.lst _) from ⟨hlen, out, e', rv, he'⟩), rfl, q _ _ (I1.hok.fresh (Nat.le_refl _)) hm1 hL⟩
    have hb : b < h'.objs.size := Heap.lt_size e
    rw [PyProof.Rows.sortedHeap_old (Nat.ne_of_lt hb) (by rw [PyProof.Rows.size_push']; exact Nat.lt_succ_of_lt hb)]
    exact Heap.get?_push_of_some _ e
end
/-! ### as data -/
def cSortT : D → D → Option D
  | .dT ks xs, .bl b => if okSort ks = true then some (.lst ((ks.mergeSort (PySem.W.dataLe b encT)).map ktD)) else none
  | _, _ => none
section
variable {P : Pm} {F H : Hp}
theorem tups_in : ∀ {L : List (List Key × Addr)} {F : Hp}, Sb P F H → (∀ q ∈ L, H q.2 = some (.tup (q.1.map kV))) → ∃ F2, Grow P F H F2 H ∧ IsL P F2 ((L.map (·.1)).map ktD) (L.map fun q => V.ref q.2)
  | [], F, s, h => ⟨F, .refl s, .nil⟩
  | q :: L, F, s, h => by
    obtain ⟨F1, g1, e1⟩ := tup_in s (h q List.mem_cons_self)
    obtain ⟨F2, g2, i2⟩ := tups_in (L := L) g1.s fun x hx => h x (List.mem_cons_of_mem _ hx)
    exact ⟨F2, g1.trans g2, .cons (is_ktD (g2.f _ _ e1)) i2⟩
end
section
variable {X : Cx} {P : Pm}
theorem pd_sortT {F0 : Fz} {H0 : Hp} {W : WX} {e b : Expr} {fa fb : Env → Res D} {p pos kpos : Pos} (hcalm : X.calm = true) (hu : X.A.units + 8 < cLine) (hm : X.mg "sorted" = none) (ha : PE X e (tV P F0 H0 W fa)) (hb : PE X b (tE P F0 H0 W fb)) (hg : Gl X "sorted" := by rfl)
    (hs : starEach [e] X.env = (false, eval e X.env) :: starEach [] X.env := by rfl) (he : backTo pos (starEach [e] X.env) = (false, eval e X.env) :: backTo pos (starEach [] X.env) := by rfl) (hpl : (backTo pos (starEach [e] X.env)).any (·.1) = false := by rfl)
    (hall : (backToKw pos (keywordEach [⟨some "reverse", b, kpos⟩] X.env)).all (·.1.isSome) = true := by rfl) (hnone : (backToKw pos (keywordEach [⟨some "reverse", b, kpos⟩] X.env)).any (·.1.isNone) = false := by rfl) (hks : (backToKw pos (keywordEach [⟨some "reverse", b, kpos⟩] X.env)).filterMap (·.1) = [Str.ofString "reverse"] := by rfl) :
    PE X (.Call (.Name "sorted" p) [e] [⟨some "reverse", b, kpos⟩] pos) (tE P F0 H0 W (fun ρ => do let x ← fa ρ; let y ← fb ρ; opt (cSortT x y))) :=
  (pe_callBK (call_sortedT hcalm hu) hg hm (by decide +kernel) (pa_cons ha pa_nil hs) (pk_cons hb pk_nil) (by decide) (by decide) he hpl hall hnone hks).imp fun σ H Q ⟨F, ρ, er, z⟩ => by
  show tV P F0 H0 W fa σ H _
  refine ⟨F, ρ, er, (PostG.bind (rel := rVw P) z).imp ?_⟩
  rintro v H1 ⟨F1, d, g, i, z⟩
  show tE P F0 H0 W fb σ H1 _
  refine ⟨F1, ρ, er.grow g, (PostG.bind (rel := rIs P) z).imp ?_⟩
  rintro y H2 ⟨F2, dy, g2, i2, q⟩
  obtain ⟨d', hd, q'⟩ := opt_of q
  have iv := i.mono g2.f g2.h d
  unfold cSortT at hd
  split at hd
  · rename_i ks xs b'
    split at hd
    · rename_i hk
      cases hd
      obtain ⟨a, vs, rfl, h1, h2, h3⟩ := iv
      have e1 : (ks.zip vs).map (·.1) = ks := by
        rw [List.map_fst_zip]
        omega
      cases (show y = .bl b' from i2)
      refine ⟨a, _, b', rfl, rfl, h1, by rw [e1]; exact hk, fun p L hp hL hq => ?_⟩
      rw [e1] at hL
      obtain ⟨F3, g3, i3⟩ := tups_in g2.s hq
      rw [hL] at i3
      exact q' _ (upd F3 p (.lst (L.map fun q => V.ref q.2))) _ (g3.trans (.new g3.s hp)) (by rw [rIs, Is]; exact ⟨p, _, rfl, .inl upd_same, i3.mono (.new (g3.s.back hp)) _⟩)
    · cases hd
  · cases hd
end
end DL
namespace DL
open PySem L2 PySem.ErrX

/-! ### x(lambda: e), where x is: try: a() / except T as n: return n.f / return None -/
abbrev rcBody (a e n f : Str) (j2 : Nat) (p1 p2 p3 p4 p5 p6 p7 p8 p9 p10 p11 : Pos) : List Stmt := [.Try [.Expr (.Call (.Name a p1) [] [] p2) p3] [.ExceptHandler (some (.Name e p4)) (some n) [.Return (some (.Attribute (.Name n p5) f p6)) p7] p8] [] [] p9, .Return (some (.Constant .none j2 p10)) p11]
def TTc (K : PySem.W.Frag) (cv : Value) (C : Addr) (f : Str) : (XK → Hp → VK → Prop) → Hp → VK → Prop := fun tl H Q => tl (fun cls d H' => PySem.W.exmOne K cls cv = some true ∧ cls = .ref C ∧ ∃ (dd : Addr) (v : V), d = some dd ∧ H' dd = some (.xd [(f, v)]) ∧ Q v H') H (fun _ H' => Q .non H')
section
variable {X : Cx}
theorem count_gives {x a e n f q : Str} {sg : Scope} {g C fI : Addr} {cdg cv : Value} {j2 : Nat} {p1 p2 p3 p4 p5 p6 p7 p8 p9 p10 p11 : Pos} (T : ErrTxt X.prog X.K X.mg e f C fI) (hge : sg.names.lookup e = some .globalImplicit) (hme : X.mg e = some cv ∨ (X.mg e = none ∧ bootBuiltins e = some cv ∧ e ≠ "__name__")) (hde : (e == ("__debug__" : Str)) = false)
    (hN : ([a, n] : List Str).Nodup) (hln : sg.names.lookup n = some .local) (hd : (n == ("__debug__" : Str)) = false) (hcd : (n == ("__classdict__" : Str)) = false) :
    LamX.GivesTo X [a, n] x sg g cdg (rcBody a e n f j2 p1 p2 p3 p4 p5 p6 p7 p8 p9 p10 p11) a q (TTc X.K cv C f) := by
  intro fa c' s H Q tl act hc h
  refine ⟨_, pss_cons (ps_try_as (X := (cxOf C8.CX0 X.prog X.w X.K X.mg X.base [a, n] x sg g cdg X.A X.stack s H C8.E0).nox) (c := cv) (i := 1) (n := n)
      (tb := fun W D σ H => ∃ Ech : XK, (∀ cls d σ' H', σ'.length = 2 → Ech cls d H' → W cls d σ' H') ∧ σ[0]? = some (some (.ref fa)) ∧ H c' = some (LamX.CodeO c' q) ∧ tl Ech H (fun _ H1 => D.nx σ H1))
      rfl rfl hN rfl hln ⟨hge, hde, hme⟩ LamX.takes0 (fun W pn xe tk _ => ?_) (fun ad oe cls d pn hz hf => pss_one (ps_ret (pe_fe (X := (cxOf C8.CX0 X.prog X.w X.K X.mg X.base [a, n] x sg g cdg X.A X.stack s H C8.E0).nox) T hz hf (pe_var (i := 1) rfl (.inl hln) hd hcd) rfl)))) (pss_one (ps_ret pe_non)), ?_⟩
  · refine ⟨fun pins s' σ H' D I h' => ?_⟩
    obtain ⟨Ech, hW, h1, h2, h3⟩ := h'
    have tk' : Takes ((cxOf C8.CX0 X.prog X.w X.K X.mg X.base [a, n] x sg g cdg X.A X.stack s H C8.E0).tr pn xe) (fun cls d σ' H' => σ'.length = 2 → W cls d σ' H') := by
      rintro u s2 ⟨a', B, sI, pins', σ', H2, cls, d, e, J, nb, up, sky, na, os, ag, w⟩
      exact tk u s2 ⟨a', B, sI, pins', σ', H2, cls, d, e, J, nb, up, sky, na, os, ag, w J.len⟩
    exact (pss_one (ps_expr (act _ pn xe Ech p1 p2 tk' (fun cls d σ' H' z hl => hW cls d σ' H' hl z)))).run pins s' σ H' D I ⟨h1, h2, h3⟩
  · refine ⟨fun cls d H' => PySem.W.exmOne X.K cls cv = some true ∧ cls = .ref C ∧ ∃ (dd : Addr) (v : V), d = some dd ∧ H' dd = some (.xd [(f, v)]) ∧ Q v H', fun cls d σ' H' hl ⟨z1, z2, dd, v, z3, z4, z5⟩ => ⟨true, z1, fun _ ad ha => ?_, fun w => by cases w⟩, rfl, hc, h⟩
    refine ⟨.ref ad, ?_, rfl, z2, dd, v, z3, z4, z5⟩
    exact get_set_self (by omega)
end
def rcD (cz : Nat) : Res D → Res D
  | .ok _ => .ok .non
  | .err c p => if c = cz then payD p else .bad
  | .bad => .bad
/-- the def that takes the lambda -/
structure RcD (prog : Program) (K : PySem.W.Frag) (mg : Str → Option Value) (x a e n f : Str) (C fI : Addr) : Prop where
  ex : ∃ (st : Stmt) (g : Addr) (fd : FuncData) (j2 : Nat) (p1 p2 p3 p4 p5 p6 p7 p8 p9 p10 p11 : Pos), Fun K x x st g fd ∧ mg x = some (.ref g) ∧ Binds K fd [a] [] ∧ FnScope [a, n] [a] (defScope st) ∧ Vis (defScope st) a ∧
    defBody st = rcBody a e n f j2 p1 p2 p3 p4 p5 p6 p7 p8 p9 p10 p11 ∧ (defScope st).names.lookup e = some .globalImplicit ∧ (defScope st).names.lookup n = some .local
  et : ErrTxt prog K mg e f C fI
  nd : (e == ("__debug__" : Str)) = false
  nn : (n == ("__debug__" : Str)) = false
  nc : (n == ("__classdict__" : Str)) = false
section
variable {X : Cx} {P : Pm} {F0 : Fz} {H0 : Hp} {W : WX}
theorem pd_count {x a e n f' : Str} {cz k : Nat} {c t C fI : Addr} {params : Arguments} {body : Expr} {scope : Scope} {p lpos pos : Pos} {fb : Env → Res D} (R : RcD X.prog X.K X.mg x a e n f' C fI) (hxc : P.xc cz = .ref C) (hxf : P.xf cz = f') (hex : PySem.W.exmOne X.K (.ref C) (.ref C) = some true) (TA : TabAt P X.base X.mg c t (X.env.qual ++ "<lambda>")) (hcode : X.env.code = .ref c)
    (hr : Room (k + 2) X.A) (L : LamX.LamS X.env.scope scope) (hdef : defaultsOf params X.env = ([], []))
    (hbind : ∀ (q : Str) (cl : List (Str × Addr)) (pm cv ctv : Value), bindArgs (PySem.W.kla_fn "<lambda>" q params body scope cl pm cv ctv) ⟨[], []⟩ = pure [])
    (hbody : ∀ (A : Around) (outer : List PySem.Env) (s : Shared) (H : Hp) (E : XK) (f c' : Addr), Room k (A.deeper (LamX.lamEnv X scope s.heap.objs.size f c')) → Takes (LamX.lamCx X A outer s H E scope f c') (WE0 E) → PE (LamX.lamCx X A outer s H E scope f c') body (tE P F0 H0 (WE0 E) fb))
    (hg : Gl X x := by rfl) (hdb : (x == ("__debug__" : Str)) = false := by decide) (hd : (a == ("__debug__" : Str)) = false := by decide) (hcd : (a == ("__classdict__" : Str)) = false := by decide) :
    PE X (.Call (.Name x p) [.Lambda params body scope lpos] [] pos) (tE P F0 H0 W (fun ρ => rcD cz (fb ρ))) := by
  obtain ⟨st, g, fd, j2, p1, p2, p3, p4, p5, p6, p7, p8, p9, p10, p11, Fu, hm, hb, Sg, hva, hbg, hge, hln⟩ := R.ex
  obtain ⟨oc, od, kV, doc, pm, an, cdv, ct, osl, rfl, lk, hcd'⟩ := Fu.ex
  have hG : LamX.GivesTo X [a, n] x (defScope st) g cdv (defBody st) a (X.env.qual ++ "<lambda>") (TTc X.K (.ref C) C f') := by
    rw [hbg]
    exact count_gives R.et hge (.inl R.et.gC) R.nd Sg.nd hln R.nn R.nc
  refine (LamX.pe_lamcall (T := P.T) (t := fun E => tE P F0 H0 (WE0 E) fb) hg hm Fu.kp lk hcd' hb Sg rfl hva hG TA.tb hcode TA.mem TA.one hr L hdef hbind (fun A outer s H E f c' hr' => hbody A outer s H E f c' hr' (takes_of rfl rfl rfl rfl)) hdb hd hcd).imp fun σ H Q ⟨F, ρ, er, z⟩ => ?_
  replace z : PostG P W (rIs P) (rcD cz (fb ρ)) F σ H Q := z
  refine ⟨er.s.tabs, fun H1 e1 t1 => ?_⟩
  have eT : ExT H H1 := ⟨fun a o h n => e1 a o h fun ps hp => by
    subst hp
    cases n⟩
  have g1 : Grow P F H F H1 := ⟨.refl F, eT, er.s.ext' eT t1, fun _ _ e => .inl e⟩
  refine ⟨F, ρ, er.grow g1, ?_⟩
  cases hf : fb ρ with
  | ok d =>
    rw [hf] at z
    exact fun v F' H' g i => z .non F' H' (g1.trans g) is_non
  | err c p =>
    rw [hf] at z
    by_cases hz : c = cz
    · have e2 : rcD cz (.err c p) = payD p := if_pos hz
      rw [e2] at z
      cases p with
      | none => exact z.elim
      | some d =>
        subst hz
        refine fun F' H' y g q => ?_
        obtain ⟨a1, v, h1, h2, h3⟩ := q
        rw [hxf] at h2
        exact ⟨by rw [hxc]; exact hex, hxc, a1, v, h1, h2, z v F' H' (g1.trans g) h3⟩
    · have e2 : rcD cz (.err c p) = .bad := if_neg hz
      rw [e2] at z
      exact z.elim
  | bad =>
    rw [hf] at z
    exact z.elim
end
end DL
namespace DL
open PySem L2

/-! ### an operator on two instances of one class -/
def opO (cn : Nat) (G : List D → Res D) : D → D → Res D
  | .obj c xs, .obj c' ys => if c = cn ∧ c' = cn then fnG 2 G [.obj c xs, .obj c' ys] else .bad
  | _, _ => .bad
section
variable {X : Cx} {P : Pm} {F0 : Fz} {H0 : Hp} {W : WX} {a b c : Expr} {fa fb fc : Env → Res D} {pos : Pos} {σ : L2.St} {H F : Hp} {k cn : Nat} {op : Operator} {m : Str} {G : List D → Res D}
theorem pd_opO (hd : PySem.dunder op.info.2 = m) (hsf : PySem.W.selfFirst X.K (P.C cn) = true)
    (c : OwnD X.prog X.w X.K X.mg X.base P k m cn 2 G) (hr : Room k X.A) (tk : Takes X W) (ha : PE X a (tE P F0 H0 W fa)) (hb : PE X b (tE P F0 H0 W fb)) :
    PE X (.BinOp a op b pos) (tE P F0 H0 W (fN (opO cn G) fa fb)) := by
  obtain ⟨f, fd, ps, c1, c2, c3⟩ := c.ex
  refine ⟨fun pins s σ H Q I h => ?_⟩
  refine wpAny_BinOp (binT ha hb I (two_ofE h) fun v u s2 x y H2 I2 rx ry ⟨F, dx, dy, e, i1, i2, q⟩ => ?_)
  unfold opO at q
  split at q
  · split at q
    · rename_i hc
      obtain ⟨rfl, h'⟩ := hc
      subst h'
      obtain ⟨ad, dd, vs, rfl, h1, h2, h3⟩ := obj_of i1
      obtain ⟨bd, dd', vs', rfl, h1', h2', h3'⟩ := obj_of i2
      obtain rfl : v = Value.ref ad := rx
      obtain rfl : u = Value.ref bd := ry
      obtain ⟨ox, od, J, _⟩ := ins_data I2 (e.ex _ _ h1)
      obtain ⟨ox', od', J', _⟩ := ins_data I2 (e.ex _ _ h1')
      obtain ⟨mm, Fr⟩ := I2.fr
      refine PySem.W.binop_K Fr I2.ok.mod.kin J J'.type hsf (by rw [hd]; exact c2.at_) c2.fn ?_
      exact wpAny_mono (run_at (vs := [.ref ad, .ref bd]) (ds := [_, _]) c1 (sub_here hr) c3 tk I2 (.cons rfl (.cons rfl .nil)) e (.cons i1 (.cons i2 .nil)) q) (fun _ _ z => CmpBack_of z) fun _ _ z => z
    · exact q.elim
  · exact q.elim
/-! ### a list times an int -/
def repD : D → D → Option D
  | .lst xs, .int k => if 0 ≤ k ∧ k < 1000 ∧ xs.length ≤ 1000 then some (.lst (List.replicate k.toNat xs).flatten) else none
  | _, _ => none
theorem op_repR : OpR X (binaryOp .Mult) (fun x y H Q => ∃ l k xs, x = .ref l ∧ y = .int k ∧ Rd H l (.lst xs) ∧ -(2 ^ 63) ≤ k ∧ k < 2 ^ 63 ∧ xs.length * k.toNat ≤ sizeLine ∧ ∀ p, H p = none → Q (.ref p) (upd H p (.lst (List.replicate k.toNat xs).flatten))) := by
  intro pins s σ H x y v u Q I rx ry h
  obtain ⟨l, k, xs, rfl, rfl, hH, h1, h2, hz, q⟩ := h
  cases rx
  obtain ⟨t, rfl⟩ := ry
  obtain ⟨z, its, n, r, e⟩ := Inv.rdl I hH
  have hl : xs.length = its.length := r.length
  have hlen : its.toArray.size * k.toNat ≤ sizeLine := by rw [List.size_toArray, ← hl]; exact hz
  have hcap : ¬ its.toArray.size * k.toNat > (2 ^ 63 - 1) / 8 := by
    have : (sizeLine : Nat) ≤ (2 ^ 63 - 1) / 8 := by decide
    omega
  have hfit : ¬ (!Builtin.List.listFitsIndex k) = true := by
    rw [fitsIndex_both h1 h2]
    exact Bool.false_ne_true
  have hlong : ¬ Builtin.List.listTooLong (its.toArray.size * k.toNat) = true := by
    rw [notLongL hlen]
    exact Bool.false_ne_true
  have hnew : List.foldl (fun x1 x2 => x1 ++ x2) #[] (List.replicate (if its.toArray.isEmpty = true then 0 else k.toNat) its.toArray) = (List.replicate k.toNat its).flatten.toArray := by
    have f0 : ∀ m : Nat, List.foldl (fun x1 x2 => x1 ++ x2) #[] (List.replicate m its.toArray) = (List.replicate m its).flatten.toArray := fun m => by
      have := foldl_rep its m []
      rw [List.nil_append] at this
      exact this
    rw [f0]
    cases its with
    | nil => simp
    | cons a r' => rw [if_neg (by simp)]
  refine wpAny_binaryOp_repeat_ref (T := "list") (U := "int") (by decide) ⟨_, e, rfl⟩ (fun s' => typeIs_int s' k t) noFill_list_mul F.fills_int_mul F.slot_int_rmul repeat_list F.slot_int_index.lookup
    (call_meets F.slot_int_rmul (typeIs_int s k t) F.entry_int_rmul (F.args_int_rmul_2 _ _) (int___rmul___int_list k t l its.toArray n)
      ⟨e, rfl, ⟨_, e, rfl⟩, call_meets F.slot_list_mul ⟨_, e, rfl⟩ F.entry_list_mul (F.args_list_mul_2 _ _) (AutoListH.list___mul___list_int_3 l its.toArray n k t hfit hcap hlong) ⟨e, ?_⟩⟩)
  rw [hnew]
  exact ⟨.ref _, _, I.lnew (t' := s.toks) (r.rep k.toNat) (by rw [PyProof.Rows.lm_len_rep_flat, Nat.mul_comm]; exact hz), rfl, q _ I.fresh⟩
theorem isL_rep {ds : List D} {vs : List V} (h : IsL P F ds vs) : ∀ n : Nat, IsL P F (List.replicate n ds).flatten (List.replicate n vs).flatten
  | 0 => .nil
  | n + 1 => by
    rw [List.replicate_succ, List.replicate_succ, List.flatten_cons, List.flatten_cons]
    exact h.append (isL_rep h n)
theorem io_rep : OpR X (binaryOp .Mult) (r2O P repD) := fun pins s σ H x y u v Q I rx ry h => by
  obtain ⟨F, dx, dy, d, e, i1, i2, hd, q⟩ := h
  unfold repD at hd
  split at hd
  · rename_i xs k
    split at hd
    · rename_i hk
      cases hd
      obtain ⟨l, vs, rfl, h1, h2⟩ := i1
      cases (show y = .int k from i2)
      refine op_repR pins s σ H _ _ u v Q I rx ry ⟨l, k, vs, rfl, rfl, h1, by omega, by omega, ?_, fun p hp => ?_⟩
      · rw [← h2.length]
        have a1 : xs.length * k.toNat ≤ 1000 * 1000 := Nat.mul_le_mul hk.2.2 (by omega)
        exact Nat.le_trans a1 (by decide)
      · exact q _ (upd F p (.lst (List.replicate k.toNat vs).flatten)) _ (.new e hp) (by rw [Is]; exact ⟨p, _, rfl, .inl upd_same, (isL_rep h2 _).mono (.new (e.back hp)) _⟩)
    · cases hd
  · cases hd
/-! ### a op b op c -/
def chainK (k : Res D) : D → Res D
  | .bl true => k
  | .bl false => .ok (.bl false)
  | _ => .bad
abbrev fChain (r r' : D → D → Option D) (fa fb fc : Env → Res D) : Env → Res D := fun ρ => do let x ← fa ρ; let y ← fb ρ; let z ← opt (r x y); chainK (do let w ← fc ρ; opt (r' y w)) z
theorem chain_of {r r' : D → D → Option D} {Q : VK} (h : tE P F0 H0 W (fChain r r' fa fb fc) σ H Q) : tChain (r2O P r) (r2O P r') (tE P F0 H0 W fa) (tE P F0 H0 W fb) (tE P F0 H0 W fc) σ H Q := by
  obtain ⟨F, ρ, er, z⟩ := h
  refine ⟨F, ρ, er, (PostG.bind (rel := rIs P) z).imp ?_⟩
  rintro x H1 ⟨F1, dx, g1, i1, z1⟩
  refine ⟨F1, ρ, er.grow g1, (PostG.bind (rel := rIs P) z1).imp ?_⟩
  rintro y H2 ⟨F2, dy, g2, i2, z2⟩
  have er2 := (er.grow g1).grow g2
  replace z2 := PostG.bind (rel := rIs P) z2
  obtain ⟨d, hd, q⟩ := opt_of z2
  refine ⟨F2, dx, dy, d, g2.s, (i1.mono g2.f dx).vw g2.s dx, i2.vw g2.s dy, hd, ?_⟩
  rintro z F3 H3 g3 i3
  obtain ⟨F4, d4, g4, i4, q4⟩ := q z F3 H3 g3 i3
  unfold chainK at q4
  split at q4
  · cases (show z = .bl true from i4)
    refine ⟨true, rfl, ?_⟩
    rw [if_pos rfl]
    refine ⟨F4, ρ, er2.grow g4, (PostG.bind (rel := rIs P) q4).imp ?_⟩
    rintro w H5 ⟨F5, dw, g5, i5, q5⟩
    obtain ⟨d6, h6, q6⟩ := opt_of q5
    exact ⟨F5, dy, dw, d6, g5.s, ((i2.mono g4.f dy).mono g5.f dy).vw g5.s dy, i5.vw g5.s dw, h6, q6⟩
  · cases (show z = .bl false from i4)
    refine ⟨false, rfl, ?_⟩
    rw [if_neg (by decide)]
    exact q4.here g4.s is_bl
  · exact q4.elim
theorem pd_chain {o o' : CmpOp} {r r' : D → D → Option D} (ho : OpR X (compareOp o) (r2O P r)) (ho' : OpR X (compareOp o') (r2O P r')) (ha : PE X a (tE P F0 H0 W fa)) (hb : PE X b (tE P F0 H0 W fb)) (hc : PE X c (tE P F0 H0 W fc)) (hm : lastMarks [o, o'] [b, c] = false := by with_unfolding_all rfl) :
    PE X (.Compare a [o, o'] [b, c] pos) (tE P F0 H0 W (fChain r r' fa fb fc)) := (pe_chain ho ho' ha hb hc hm).imp fun σ H Q h => chain_of h
theorem td_chain {o o' : CmpOp} {r r' : D → D → Option D} (ho : OpR X (compareOp o) (r2O P r)) (ho' : OpR X (compareOp o') (r2O P r')) (ha : PE X a (tE P F0 H0 W fa)) (hb : PE X b (tE P F0 H0 W fb)) (hc : PE X c (tE P F0 H0 W fc)) (hm : lastMarks [o, o'] [b, c] = false := by with_unfolding_all rfl) :
    PT X (.Compare a [o, o'] [b, c] pos) (tT P F0 H0 W (tB' (fChain r r' fa fb fc))) := (pt_chain ho ho' ha hb hc hm).imp fun σ H Q h => by
  have := tB_of h
  exact chain_of this
end
end DL
namespace DL
open PySem L2

/-! ### zip of lists and tuples, mixed -/
def SqK (k : Bool) (K : PySem.W.Frag) (H : Hp) (a : Addr) (xs : List V) : Prop := match k with
  | true => SqL K H a xs
  | false => SqT K H a xs
def HpK (k : Bool) (h : Heap) (a : Addr) (items : Array Value) : Prop := match k with
  | true => h.IsList a items
  | false => h.IsTuple a items
def ItK (k : Bool) (h : Heap) (it a : Addr) (i : Nat) : Prop := match k with
  | true => h.IsListIter it a i
  | false => h.IsTupleIter it a i
def itO (k : Bool) (a : Addr) : Obj := match k with
  | true => { cls := .type "list_iterator", data := .fields #[.ref a, .int 0 0] }
  | false => { cls := .type "tuple_iterator", data := .fields #[.ref a, .int 0 0] }
section
variable {prog : Program} {w : World} {A : Around}
theorem draws_K (k : Bool) (hh : A.handled = none) (it a : Addr) (hne : a ≠ it) (items : Array Value) : Draws prog w A it [it, a] items.size (fun i v => items[i]? = some v) (fun i h => ItK k h it a i ∧ HpK k h a items) := by
  cases k with
  | true => exact Draws.list hh it a hne items
  | false => exact Draws.tuple hh it a hne items
theorem endK (k : Bool) {it a : Addr} {i : Nat} {items : Array Value} {E : Value → Shared → Prop} {s : Shared} {Q : Value → Shared → Prop} (hh : A.handled = none) (h1 : ItK k s.heap it a i) (h2 : HpK k s.heap a items) (hx : items[i]? = none)
    (hE : ∀ h' e, Heap.ExtBut it s.heap h' → (∃ o, h'.get? e = some o ∧ o.cls = .type "StopIteration") → E (.ref e) { s with heap := h' }) : wpAny (model prog w) A (Builtin.SmallTypes.nextOf (.ref it)) Q E s := by
  cases k with
  | true => exact wpAny_nextOf_list_end hh h1 h2 hx hE
  | false => exact wpAny_nextOf_tuple_end hh h1 h2 hx hE
/-- an iterator at i, whether at its end or not -/
theorem draws_at (k : Bool) (hh : A.handled = none) (it a : Addr) (hne : a ≠ it) (items : Array Value) (i : Nat) {h : Heap} (h1 : ItK k h it a i) (h2 : HpK k h a items) :
    ∃ (n : Nat) (P : Nat → Value → Prop) (St : Nat → Heap → Prop), Draws prog w A it [it, a] n P St ∧ St i h ∧ i ≤ n ∧ (items.size ≤ i → n = i) := by
  by_cases hi : i < items.size
  · exact ⟨_, _, _, draws_K k hh it a hne items, ⟨h1, h2⟩, Nat.le_of_lt hi, fun q => by omega⟩
  · refine ⟨i, fun _ _ => False, fun j h => j = i ∧ ItK k h it a i ∧ HpK k h a items, ⟨fun j h st => ?_, fun j h h' st hk => ?_, fun j s Q E hj st => ?_, fun s Q E st hE => ?_⟩, ⟨rfl, h1, h2⟩, Nat.le_refl _, fun _ => rfl⟩
    · cases k with
      | true =>
        obtain ⟨_, ⟨o, e, _⟩, _⟩ := st
        exact ⟨o, e⟩
      | false =>
        obtain ⟨_, ⟨o, e, _⟩, _⟩ := st
        exact ⟨o, e⟩
    · refine ⟨st.1, ?_⟩
      cases k with
      | true => exact ⟨Heap.IsListIter.at st.2.1 fun o e => hk it (by simp) o e, Heap.IsList.at st.2.2 fun o e => hk a (by simp) o e⟩
      | false => exact ⟨Heap.IsTupleIter.at st.2.1 fun o e => hk it (by simp) o e, Heap.IsTuple.at st.2.2 fun o e => hk a (by simp) o e⟩
    · exact absurd st.1 (by omega)
    · exact endK k hh st.2.1 st.2.2 (by simp; omega) hE
theorem begins_K (k : Bool) (a : Addr) (items : Array Value) : Begins (.ref a) (itO k a) fun h => HpK k h a items := by
  cases k with
  | true => exact begins_list a items
  | false => exact begins_tuple a items
theorem ItK.at {k : Bool} {h h' : Heap} {it a : Addr} {i : Nat} (x : ItK k h it a i) (hk : ∀ o, h.get? it = some o → h'.get? it = some o) : ItK k h' it a i := by
  cases k with
  | true => exact Heap.IsListIter.at x hk
  | false => exact Heap.IsTupleIter.at x hk
theorem ItK.ob {k : Bool} {h : Heap} {it a : Addr} {i : Nat} (x : ItK k h it a i) : ∃ o, h.get? it = some o ∧ ∀ v, o.data ≠ .cell v := by
  cases k with
  | true =>
    obtain ⟨o, e, _, d⟩ := x
    exact ⟨o, e, fun v q => by rw [d] at q; cases q⟩
  | false =>
    obtain ⟨o, e, _, d⟩ := x
    exact ⟨o, e, fun v q => by rw [d] at q; cases q⟩
theorem itK_new {k : Bool} {h : Heap} {it a : Addr} (e : h.get? it = some (itO k a)) : ItK k h it a 0 := by
  cases k with
  | true => exact ⟨_, e, rfl, rfl⟩
  | false => exact ⟨_, e, rfl, rfl⟩
theorem HpK.lt {k : Bool} {h : Heap} {a : Addr} {items : Array Value} (x : HpK k h a items) : a < h.objs.size := by
  cases k with
  | true =>
    obtain ⟨o, e, _⟩ := x
    exact Heap.lt_size e
  | false =>
    obtain ⟨o, e, _⟩ := x
    exact Heap.lt_size e
end
section
variable {X : Cx} {pins : List (Addr × Obj)} {σ : St} {H : Hp} {s : Shared}
theorem seqK (I : Inv X pins σ H s) {k : Bool} {a : Addr} {xs : List V} (h : SqK k X.K H a xs) : ∃ its : List Value, Vals xs its ∧ HpK k s.heap a its.toArray := by
  cases k with
  | true =>
    obtain ⟨its, rv, p, _⟩ := I.list h
    exact ⟨its, rv, p.isList⟩
  | false =>
    obtain ⟨its, rv, p, _⟩ := I.tuple h
    exact ⟨its, rv, p⟩
theorem injK (I : Inv X pins σ H s) {k : Bool} {a : Addr} {xs ys : List V} (h : SqK k X.K H a xs) (h' : SqK k X.K H a ys) : xs = ys := by
  cases k with
  | true => exact I.list_inj h h'
  | false => exact I.tuple_inj h h'
end
def ItzK (kx ky : Bool) (K : PySem.W.Frag) (a b : Addr) : It :=
  ⟨fun i H => ∃ (xs ys : List V) (x y : V), SqK kx K H a xs ∧ SqK ky K H b ys ∧ xs[i]? = some x ∧ ys[i]? = some y,
    fun i H v H' => ∃ T x y, v = .ref T ∧ H T = none ∧ H' = upd H T (.tup [x, y]) ∧ (∀ xs, SqK kx K H a xs → xs[i]? = some x) ∧ ∀ ys, SqK ky K H b ys → ys[i]? = some y,
    fun i H => ∃ xs ys : List V, SqK kx K H a xs ∧ SqK ky K H b ys ∧ (xs.length ≤ i ∨ ys.length ≤ i)⟩
theorem turn_zipK {P : Program} {w : World} {K : PySem.W.Frag} {elts : List Expr} {kk : Nat} {tpos : Pos} {kx ky : Bool} {a b z TI TO i1 i2 : Addr} (D : ZipSep2 z TI TO i1 i2 [i1, a] [i2, b]) (na : a ≠ i1) (nb : b ≠ i2) :
    Turn P w K (.Tuple elts kk tpos) (ItzK kx ky K a b) [z, TI, TO, i1, i2] z (fun i h => IsZip h z TI TO .none ∧ IsTupOf2 h TI (.ref i1) (.ref i2) ∧ (∃ x y, IsTupOf2 h TO x y) ∧ ItK kx h i1 a i ∧ ItK ky h i2 b i) where
  mem := by simp
  obj := fun i h st c hc => by
    obtain ⟨hz, hTI, ⟨x, y, hTO⟩, h1, h2⟩ := st
    simp only [List.mem_cons, List.not_mem_nil, or_false] at hc
    rcases hc with q | q | q | q | q
    · rw [q]; exact ⟨_, hz, fun v q => nomatch q⟩
    · rw [q]; exact ⟨_, hTI, fun v q => nomatch q⟩
    · rw [q]; exact ⟨_, hTO, fun v q => nomatch q⟩
    · rw [q]; exact h1.ob
    · rw [q]; exact h2.ob
  keep := fun i h h' st k => by
    obtain ⟨hz, hTI, ⟨x, y, hTO⟩, h1, h2⟩ := st
    exact ⟨k z (by simp) _ hz, k TI (by simp) _ hTI, ⟨x, y, k TO (by simp) _ hTO⟩, h1.at fun o q => k i1 (by simp) o q, h2.at fun o q => k i2 (by simp) o q⟩
  item := by
    intro X hP hw hK hc i pins s σ H E I hf st hg
    subst hP hw hK
    obtain ⟨hz, hTI, ⟨x0, y0, hTO⟩, h1, h2⟩ := st
    obtain ⟨xs, ys, x, y, hqx, hqy, hx, hy⟩ := hg
    obtain ⟨its, rv, p⟩ := seqK I hqx
    obtain ⟨its2, rv2, p2⟩ := seqK I hqy
    obtain ⟨u, hu, ru⟩ := rv.get hx
    obtain ⟨u2, hu2, ru2⟩ := rv2.get hy
    have hzl : z < s.heap.objs.size := Heap.lt_size hz
    have D1 := draws_K (prog := X.prog) (w := X.w) (A := X.A.in1) kx (I.ok.hd hc) i1 a na its.toArray
    have D2 := draws_K (prog := X.prog) (w := X.w) (A := X.A.in1) ky (I.ok.hd hc) i2 b nb its2.toArray
    refine wpAny_pyNext_zipD2_item D D1 D2 hz hTI hTO ⟨h1, p⟩ ⟨h2, p2⟩ (by simpa using lt_of_get hu) (by simpa using lt_of_get hu2) fun w1 w2 h' tk e1 e2 z' TO' h1' h2' hT hsz hk => ?_
    have e1' : w1 = u := by
      have : its.toArray[i]? = some w1 := e1
      simp [hu] at this
      exact this.symm
    have e2' : w2 = u2 := by
      have : its2.toArray[i]? = some w2 := e2
      simp [hu2] at this
      exact this.symm
    subst e1' e2'
    refine ⟨_, rfl, wpAny_letOwnedTupleGo_zip (s := { s with heap := h', toks := tk }) z' fun h'' z'' sb => ?_⟩
    have hT2 : h''.get? s.heap.objs.size = some { cls := .type "tuple", data := .seq #[w1, w2] } := (sb.2 _ (Nat.ne_of_gt hzl)).trans hT
    have new : ObjOk X.prog X.w (upd H s.heap.objs.size (.tup [x, y])) h'' s.heap.objs.size (.tup [x, y]) :=
      ⟨by show 2 ≤ sizeLine; decide, [w1, w2], .cons ru (.cons ru2 .nil), ⟨_, hT2, rfl, _, rfl⟩⟩
    have I1 : Inv X pins σ (upd H s.heap.objs.size (.tup [x, y])) { s with heap := h'', toks := tk } :=
      I.turnedNew (t' := tk) (ch := [z, TI, TO, i1, i2]) (fun c o hb q => (sb.2 c (fun q' => hb (by simp [q']))).trans (hk c o (fun q' => hb (by simp [q'])) (fun q' => hb (by simp [q'])) (fun q' => hb (by simp [q'])) (fun q' => hb (by simp [q'])) q)) hf (Nat.le_refl _) new
    refine ⟨.ref s.heap.objs.size, _, I1, rfl, ⟨_, x, y, rfl, I.hok.fresh (Nat.le_refl _), rfl, fun l hl => by rw [injK I hl hqx]; exact hx, fun l hl => by rw [injK I hl hqy]; exact hy⟩, ⟨z'', ?_, ⟨w1, w2, ?_⟩, ?_, ?_⟩, fun c hcm => ?_⟩
    · exact (sb.2 _ D.TIz).trans (hk _ _ D.TIz D.TITO D.TIi1 D.TIi2 hTI)
    · exact (sb.2 _ D.TOz).trans TO'
    · exact h1'.1.at fun o q => (sb.2 _ (Ne.symm D.zi1)).trans q
    · exact h2'.1.at fun o q => (sb.2 _ (Ne.symm D.zi2)).trans q
    · obtain ⟨o1, g1, _⟩ := h1.ob
      obtain ⟨o2, g2, _⟩ := h2.ob
      have hlt : c < s.heap.objs.size := by
        simp only [List.mem_cons, List.not_mem_nil, or_false] at hcm
        rcases hcm with q | q | q | q | q
        · rw [q]; exact hzl
        · rw [q]; exact Heap.lt_size hTI
        · rw [q]; exact Heap.lt_size hTO
        · rw [q]; exact Heap.lt_size g1
        · rw [q]; exact Heap.lt_size g2
      rw [upd_ne (Nat.ne_of_lt hlt)]
      exact (hf c hcm).1
  done := by
    intro X hP hw hK hc i pins s σ H E I hf st hg
    subst hP hw hK
    obtain ⟨hz, hTI, ⟨x0, y0, hTO⟩, h1, h2⟩ := st
    obtain ⟨xs, ys, hqx, hqy, hend⟩ := hg
    obtain ⟨its, rv, p⟩ := seqK I hqx
    obtain ⟨its2, rv2, p2⟩ := seqK I hqy
    have l1 := rv.length
    have l2 := rv2.length
    obtain ⟨n1, P1, St1, D1, st1, le1, eq1⟩ := draws_at (prog := X.prog) (w := X.w) (A := X.A.in1) kx (I.ok.hd hc) i1 a na its.toArray i h1 p
    obtain ⟨n2, P2, St2, D2, st2, le2, eq2⟩ := draws_at (prog := X.prog) (w := X.w) (A := X.A.in1) ky (I.ok.hd hc) i2 b nb its2.toArray i h2 p2
    have he : i = n1 ∨ i = n2 := by
      rcases hend with q | q
      · exact .inl (eq1 (by simpa [← l1] using q)).symm
      · exact .inr (eq2 (by simpa [← l2] using q)).symm
    exact wpAny_pyNext_zipD2_end D D1 D2 hz hTI hTO st1 st2 le1 le2 he fun h' tk hk => ⟨rfl, I.turnedL (t' := tk) (ch := [z, TI, TO, i1, i2]) (fun c o hb q =>
      hk c o (fun q' => hb (by simp [q'])) (fun q' => hb (by simp [q'])) (fun q' => hb (by simp [q'])) (fun q' => hb (by simp [q'])) q) hf⟩
  self := fun A i s Q E st h => wpAny_pyIter_zip st.1 h
def iZipK (K : PySem.W.Frag) (ta : TA) : TI := fun σ H R => ta σ H fun vs H1 => ∃ kx ky a b xs ys, vs = [.ref a, .ref b] ∧ SqK kx K H1 a xs ∧ SqK ky K H1 b ys ∧ R (ItzK kx ky K a b) H1
theorem pi_zipK {X : Cx} {e e2 : Expr} {ta : TA} {p pos tpos : Pos} {elts : List Expr} {kk : Nat} (hg : Gl X "zip") (hm : X.mg "zip" = none) (ha : PA X [e, e2] ta)
    (hs : starEach [e, e2] X.env = (false, eval e X.env) :: starEach [e2] X.env := by rfl) (hpl : (backTo pos (starEach [e2] X.env)).any (·.1) = false := by rfl) :
    PI X (.Tuple elts kk tpos) (.Call (.Name "zip" p) [e, e2] [] pos) (iZipK X.K ta) := by
  refine ⟨fun pins s σ H R I h => ?_⟩
  refine PyProof.Rows.Call_ (ld_blt I hg hm PyProof.Rows.boot_zip (PyProof.Rows.callWith_type1 (thn (ha.run pos pins s σ H _ I h) fun us s1 ⟨vs, H1, I1, r1, q1⟩ => ?_) hs hpl))
  obtain ⟨kx, ky, a, b, xs, ys, ex, hqx, hqy, q⟩ := q1
  subst ex
  obtain ⟨u1, u2, rfl, r1, r2⟩ := r1.two
  cases r1
  cases r2
  obtain ⟨its, rv, p1⟩ := seqK I1 hqx
  obtain ⟨its2, rv2, p2⟩ := seqK I1 hqy
  refine zip_begins2 (begins_K kx a its.toArray) (begins_K ky b its2.toArray) p1 p2 fun h' hz hTI hTO h1 h2 hsz hk => wpAny_pyIter_zip hz ?_
  have I2 : Inv X pins σ H1 { s1 with heap := h' } := I1.kept (t' := s1.toks) hk
  refine ⟨s1.heap.objs.size + 4, [s1.heap.objs.size + 4, s1.heap.objs.size + 2, s1.heap.objs.size + 3, s1.heap.objs.size, s1.heap.objs.size + 1], _, _, H1, rfl, I2, turn_zipK (zip_sep2 (fp1 := [a]) (fp2 := [b]) (fun c hc => ?_) (fun c hc => ?_)) (Nat.ne_of_lt p1.lt) (Nat.ne_of_lt (Nat.lt_succ_of_lt p2.lt)), ⟨hz, hTI, ⟨_, _, hTO⟩, itK_new h1, itK_new h2⟩, fun c hcm => ?_, q⟩
  · rw [List.mem_singleton.mp hc]
    exact p1.lt
  · rw [List.mem_singleton.mp hc]
    exact p2.lt
  · have hle : s1.heap.objs.size ≤ c := by
      simp only [List.mem_cons, List.not_mem_nil, or_false] at hcm
      rcases hcm with z | z | z | z | z
      · rw [z]; exact Nat.le_add_right _ _
      · rw [z]; exact Nat.le_add_right _ _
      · rw [z]; exact Nat.le_add_right _ _
      · rw [z]; exact Nat.le_refl _
      · rw [z]; exact Nat.le_add_right _ _
    exact I1.fpOk hle (I1.hok.fresh hle)
/-! as data -/
def seqB : D → Option (Bool × List D)
  | .lst xs => some (true, xs)
  | .tup xs => some (false, xs)
  | _ => none
def zipA : List D → Res (List D)
  | [x, y] => match seqB x, seqB y with
    | some p, some q => .ok (zipL p.2 q.2)
    | _, _ => .bad
  | _ => .bad
section
variable {X : Cx} {P : Pm} {F0 : Fz} {H0 : Hp} {W : WX} {a b : Expr} {fs : Env → Res (List D)} {pos p : Pos} {F H : Hp}
theorem seqB_is {x : D} {v : V} {k : Bool} {xs : List D} (s : Sb P F H) (i : Is P F x v) (h : seqB x = some (k, xs)) : ∃ a vs, v = .ref a ∧ IsL P F xs vs ∧ ∀ K F1 H1, Ex F F1 → Sb P F1 H1 → SqK k K H1 a vs := by
  unfold seqB at h
  split at h
  · cases h
    rw [Is] at i
    obtain ⟨a, vs, rfl, h1, h2⟩ := i
    exact ⟨a, vs, rfl, h2, fun K F1 H1 e1 e2 => .inl ((e2.sub e1).rd h1)⟩
  · cases h
    rw [Is] at i
    obtain ⟨a, vs, rfl, h1, h2⟩ := i
    exact ⟨a, vs, rfl, h2, fun K F1 H1 e1 e2 => .inl (.inl (e2.ex _ _ (e1 _ _ h1)))⟩
  · cases h
theorem id_zipA {elts : List Expr} {kk : Nat} {tpos : Pos} (hg : Gl X "zip") (hm : X.mg "zip" = none) (ha : PA X [a, b] (tL P F0 H0 W fs)) (hs : starEach [a, b] X.env = (false, eval a X.env) :: starEach [b] X.env := by rfl) (hpl : (backTo pos (starEach [b] X.env)).any (·.1) = false := by rfl) :
    PI X (.Tuple elts kk tpos) (.Call (.Name "zip" p) [a, b] [] pos) (tI P F0 H0 W (fun ρ => fs ρ >>= zipA)) := (pi_zipK hg hm ha hs hpl).imp fun σ H R ⟨F, ρ, er, z⟩ => by
  refine ⟨F, ρ, er, (PostG.bind (rel := rLs P) z).imp ?_⟩
  rintro vs H1 ⟨F1, ds, g, i, q⟩
  unfold zipA at q
  split at q
  · rename_i x y
    obtain ⟨v, r, rfl, i1, i⟩ := i.uncons
    obtain ⟨v2, r2, rfl, i2, i⟩ := i.uncons
    obtain rfl := i.unnil
    split at q
    · rename_i p q' hp hq'
      obtain ⟨kx, xs⟩ := p
      obtain ⟨ky, ys⟩ := q'
      obtain ⟨a1, vs1, rfl, j1, k1⟩ := seqB_is g.s i1 hp
      obtain ⟨a2, vs2, rfl, j2, k2⟩ := seqB_is g.s i2 hq'
      refine ⟨kx, ky, a1, a2, vs1, vs2, rfl, k1 _ _ _ (.refl _) g.s, k2 _ _ _ (.refl _) g.s, q.here g.s fun j F2 H2 e1 e2 => ?_⟩
      have hr1 := k1 X.K F2 H2 e1 e2
      have hr2 := k2 X.K F2 H2 e1 e2
      refine ⟨fun d hd => ?_, fun hl => ⟨vs1, vs2, hr1, hr2, ?_⟩⟩
      · obtain ⟨x, y, hx, hy, rfl⟩ := zipL_get hd
        obtain ⟨vx, k1, k2⟩ := j1.get hx
        obtain ⟨vy, l1, l2⟩ := j2.get hy
        refine ⟨⟨vs1, vs2, vx, vy, hr1, hr2, k1, l1⟩, ?_⟩
        rintro v H3 ⟨T, x', y', rfl, hT, rfl, hx', hy'⟩
        have e3 := hx' vs1 hr1
        have e4 := hy' vs2 hr2
        rw [k1] at e3
        rw [l1] at e4
        cases e3
        cases e4
        exact pair_D e2 hT (k2.mono e1 x) (l2.mono e1 y)
      · rw [zipL_len, j1.length, j2.length] at hl
        omega
    · exact q.elim
  · exact q.elim
end
end DL
namespace DL
open PySem L2

/-! ### enumerate of a list or a tuple -/
theorem enum_new1 {v : Value} {o : Obj} {H : Heap → Prop} (B : Begins v o H) :
    Meets (Builtin.«enumerate.__new__» ⟨[.type "enumerate", v], []⟩) (fun _ R s => H s.heap ∧
      R (.ok (.ret (.ref (s.heap.push o).objs.size))) { s with heap := (s.heap.push o).push { cls := .type "enumerate", data := .fields #[.none, .bool false, .ref s.heap.objs.size, rawInt 0, .none, .none] } }) :=
  .of_wp fun prog w A R s h => by
    obtain ⟨hp, g, d, tk, os⟩ := s
    obtain ⟨h1, h⟩ := h
    have hsub := sub_enumerate
    have step : ∀ {A' : Around} {E : Value → Shared → Prop} {Q : Value → Shared → Prop}, Q (.ref hp.objs.size) ⟨hp.push o, g, d, tk, os⟩ → wpAny (model prog w) A' (pyIter v) Q E ⟨hp, g, d, tk, os⟩ :=
      fun q => B.iter prog w _ _ ⟨hp, g, d, tk, os⟩ _ h1 q
    wp_walk using step
    refine wpAny_stack_any fun st => wpAny_pure ?_
    split
    · rename_i c _ _ _ _ _
      cases (c == Value.type "enumerate") <;> (wp_walk using step; exact ⟨_, rfl, h⟩)
    · wp_walk using step
      exact ⟨_, rfl, h⟩
section
variable {prog : Program} {w : World} {A : Around} {E : Value → Shared → Prop} {s : Shared}
theorem enum_made {v : Value} {o : Obj} {H : Heap → Prop} {Q : Value → Shared → Prop} (B : Begins v o H) (h1 : H s.heap)
    (h : ∀ h', IsEnum h' (s.heap.objs.size + 1) s.heap.objs.size 0 .none → h'.get? s.heap.objs.size = some o → (∀ b o, s.heap.get? b = some o → h'.get? b = some o) → Q (.ref (s.heap.objs.size + 1)) { s with heap := h' }) :
    wpAny (model prog w) A (call (.type "enumerate") [v]) Q E s := by
  refine callType_new F.called_enumerate (by decide) (F.typeCall_enumerate_1 _) (F.newCall_enumerate_1 _) (fun obj => F.args_object_init_2 obj _) F.entry_enumerate_new (enum_new1 B) ⟨h1, ?_⟩
  have hz : (s.heap.push o).objs.size = s.heap.objs.size + 1 := Heap.size_push ..
  have he : IsEnum ((s.heap.push o).push { cls := .type "enumerate", data := .fields #[.none, .bool false, .ref s.heap.objs.size, rawInt 0, .none, .none] }) (s.heap.push o).objs.size s.heap.objs.size 0 .none := Heap.get?_push_size _ rfl
  show _ ∧ _
  rw [hz] at he ⊢
  exact ⟨⟨_, he, rfl⟩, h _ he (Heap.get?_push_of_some _ (Heap.get?_push_size _ B.free)) fun b o x => Heap.get?_push_of_some _ (Heap.get?_push_of_some _ x)⟩
end
def IteK (k : Bool) (K : PySem.W.Frag) (a : Addr) : It :=
  ⟨fun i H => ∃ (xs : List V) (x : V), SqK k K H a xs ∧ xs[i]? = some x, fun i H v H' => ∃ T x, v = .ref T ∧ H T = none ∧ H' = upd H T (.tup [.int (i : Nat), x]) ∧ ∀ xs, SqK k K H a xs → xs[i]? = some x, fun i H => ∃ xs : List V, SqK k K H a xs ∧ xs.length ≤ i⟩
theorem turn_enumK {P : Program} {w : World} {K : PySem.W.Frag} {elts : List Expr} {kk : Nat} {tpos : Pos} {k : Bool} {a e it : Addr} (na : a ≠ it) (ne : e ≠ it) (nea : e ≠ a) :
    Turn P w K (.Tuple elts kk tpos) (IteK k K a) [e, it] e (fun i h => (∃ old, IsEnum h e it ((i : Nat) : Int) old) ∧ ItK k h it a i) where
  mem := by simp
  obj := fun i h st c hc => by
    obtain ⟨⟨old, he⟩, hit⟩ := st
    simp only [List.mem_cons, List.not_mem_nil, or_false] at hc
    rcases hc with q | q
    · rw [q]; exact ⟨_, he, fun v q => nomatch q⟩
    · rw [q]; exact hit.ob
  keep := fun i h h' st k => by
    obtain ⟨⟨old, he⟩, hit⟩ := st
    exact ⟨⟨old, k e (by simp) _ he⟩, hit.at fun o q => k it (by simp) o q⟩
  item := by
    intro X hP hw hK hc i pins s σ H E I hf st hg
    subst hP hw hK
    obtain ⟨⟨old, he⟩, hit⟩ := st
    obtain ⟨xs, x, hq, hx⟩ := hg
    obtain ⟨its, rv, p⟩ := seqK I hq
    obtain ⟨u, hu, ru⟩ := rv.get hx
    have hel : e < s.heap.objs.size := Heap.lt_size he
    have D := draws_K (prog := X.prog) (w := X.w) (A := X.A.in1) k (I.ok.hd hc) it a na its.toArray
    refine wpAny_pyNext_enum_itemD D he ⟨hit, p⟩ (by simpa using lt_of_get hu) ne (by simp [ne, nea]) fun w1 h' tk e1 ho hit' hT hsz hk => ?_
    have e1' : w1 = u := by
      have : its.toArray[i]? = some w1 := e1
      simp [hu] at this
      exact this.symm
    subst e1'
    refine ⟨_, rfl, wpAny_letOwnedTupleGo_enum (s := { s with heap := h', toks := tk + 1 }) ho fun h'' he' sb => ?_⟩
    have hT2 : h''.get? s.heap.objs.size = some { cls := .type "tuple", data := .seq #[.int i tk, w1] } := (sb.2 _ (Nat.ne_of_gt hel)).trans hT
    have new : ObjOk X.prog X.w (upd H s.heap.objs.size (.tup [.int (i : Nat), x])) h'' s.heap.objs.size (.tup [.int (i : Nat), x]) :=
      ⟨by show 2 ≤ sizeLine; decide, [.int i tk, w1], .cons ⟨_, rfl⟩ (.cons ru .nil), ⟨_, hT2, rfl, _, rfl⟩⟩
    have I1 : Inv X pins σ (upd H s.heap.objs.size (.tup [.int (i : Nat), x])) { s with heap := h'', toks := tk + 1 } :=
      I.turnedNew (t' := tk + 1) (ch := [e, it]) (fun c o hb q => (sb.2 c (fun q' => hb (by simp [q']))).trans (hk c o (fun q' => hb (by simp [q'])) (fun q' => hb (by simp [q'])) q)) hf (Nat.le_refl _) new
    refine ⟨.ref s.heap.objs.size, _, I1, rfl, ⟨_, x, rfl, I.hok.fresh (Nat.le_refl _), rfl, fun l hl => by rw [injK I hl hq]; exact hx⟩, ⟨⟨w1, ?_⟩, hit'.1.at fun o q => (sb.2 _ (Ne.symm ne)).trans q⟩, fun c hcm => ?_⟩
    · have e1 : ((i + 1 : Nat) : Int) = (i : Int) + 1 := by omega
      rw [e1]
      exact he'
    · obtain ⟨o1, g1, _⟩ := hit.ob
      have hlt : c < s.heap.objs.size := by
        simp only [List.mem_cons, List.not_mem_nil, or_false] at hcm
        rcases hcm with q | q
        · rw [q]; exact hel
        · rw [q]; exact Heap.lt_size g1
      rw [upd_ne (Nat.ne_of_lt hlt)]
      exact (hf c hcm).1
  done := by
    intro X hP hw hK hc i pins s σ H E I hf st hg
    subst hP hw hK
    obtain ⟨⟨old, he⟩, hit⟩ := st
    obtain ⟨xs, hq, hend⟩ := hg
    obtain ⟨its, rv, p⟩ := seqK I hq
    have l1 := rv.length
    obtain ⟨n1, P1, St1, D1, st1, le1, eq1⟩ := draws_at (prog := X.prog) (w := X.w) (A := X.A.in1) k (I.ok.hd hc) it a na its.toArray i hit p
    have en := eq1 (by simpa [← l1] using hend)
    subst en
    refine wpAny_pyNext_enum_endD D1 he st1 fun h' hk => ⟨rfl, I.turnedL (t' := s.toks) (ch := [e, it]) (fun c o hb q => hk c o (fun q' => hb (by simp [q'])) q) hf⟩
  self := fun A i s Q E st h => let ⟨⟨_, he⟩, _⟩ := st; wpAny_pyIter_enum he h
def iEnuK (K : PySem.W.Frag) (ta : TA) : TI := fun σ H R => ta σ H fun vs H1 => ∃ k a xs, vs = [.ref a] ∧ SqK k K H1 a xs ∧ R (IteK k K a) H1
theorem pi_enuK {X : Cx} {e : Expr} {ta : TA} {p pos tpos : Pos} {elts : List Expr} {kk : Nat} (hg : Gl X "enumerate") (hm : X.mg "enumerate" = none) (ha : PA X [e] ta) (hs : starEach [e] X.env = [(false, eval e X.env)] := by rfl) :
    PI X (.Tuple elts kk tpos) (.Call (.Name "enumerate" p) [e] [] pos) (iEnuK X.K ta) := by
  refine ⟨fun pins s σ H R I h => ?_⟩
  refine PyProof.Rows.Call_ (ld_blt I hg hm PyProof.Rows.boot_enumerate (PyProof.Rows.callWith_type1 (thn (ha.run pos pins s σ H _ I h) fun us s1 ⟨vs, H1, I1, r1, q1⟩ => ?_) hs rfl))
  obtain ⟨k, a, xs, ex, hq, q⟩ := q1
  subst ex
  obtain ⟨u1, rfl, r2⟩ := r1.one
  obtain rfl : u1 = Value.ref a := r2
  obtain ⟨its, rv, p1⟩ := seqK I1 hq
  refine enum_made (begins_K k a its.toArray) p1 fun h' he h1 hk => wpAny_pyIter_enum he ?_
  have I2 : Inv X pins σ H1 { s1 with heap := h' } := I1.kept (t' := s1.toks) hk
  refine ⟨s1.heap.objs.size + 1, [s1.heap.objs.size + 1, s1.heap.objs.size], _, _, H1, rfl, I2, turn_enumK (Nat.ne_of_lt p1.lt) (Nat.succ_ne_self _) (Nat.ne_of_gt (Nat.lt_succ_of_lt p1.lt)), ⟨⟨.none, he⟩, itK_new h1⟩, fun c hcm => ?_, q⟩
  have hle : s1.heap.objs.size ≤ c := by
    simp only [List.mem_cons, List.not_mem_nil, or_false] at hcm
    rcases hcm with z | z
    · rw [z]; exact Nat.le_add_right _ _
    · rw [z]; exact Nat.le_refl _
  exact I1.fpOk hle (I1.hok.fresh hle)
/-! as data -/
def enuA : List D → Res (List D)
  | [x] => match seqB x with
    | some p => .ok (enuL p.2)
    | none => .bad
  | _ => .bad
section
variable {X : Cx} {P : Pm} {F0 : Fz} {H0 : Hp} {W : WX} {a b : Expr} {fs : Env → Res (List D)} {pos p : Pos} {F H : Hp}
theorem enuL_get {xs : List D} {j : Nat} {d : D} (h : (enuL xs)[j]? = some d) : ∃ x, xs[j]? = some x ∧ d = .tup [.int (j : Nat), x] := by
  unfold enuL at h
  rw [List.getElem?_map] at h
  cases hz : xs.zipIdx[j]? with
  | none =>
    rw [hz] at h
    cases h
  | some q =>
    rw [hz] at h
    cases h
    rw [List.getElem?_zipIdx] at hz
    cases hx : xs[j]? with
    | none =>
      rw [hx] at hz
      cases hz
    | some x =>
      rw [hx] at hz
      simp at hz
      subst hz
      exact ⟨x, rfl, rfl⟩
theorem id_enuA {elts : List Expr} {kk : Nat} {tpos : Pos} (hg : Gl X "enumerate") (hm : X.mg "enumerate" = none) (ha : PA X [a] (tL P F0 H0 W fs)) (hs : starEach [a] X.env = [(false, eval a X.env)] := by rfl) :
    PI X (.Tuple elts kk tpos) (.Call (.Name "enumerate" p) [a] [] pos) (tI P F0 H0 W (fun ρ => fs ρ >>= enuA)) := (pi_enuK hg hm ha hs).imp fun σ H R ⟨F, ρ, er, z⟩ => by
  refine ⟨F, ρ, er, (PostG.bind (rel := rLs P) z).imp ?_⟩
  rintro vs H1 ⟨F1, ds, g, i, q⟩
  unfold enuA at q
  split at q
  · rename_i x
    obtain ⟨v, r, rfl, i1, i⟩ := i.uncons
    obtain rfl := i.unnil
    split at q
    · rename_i p hp
      obtain ⟨kx, xs⟩ := p
      obtain ⟨a1, vs1, rfl, j1, k1⟩ := seqB_is g.s i1 hp
      refine ⟨kx, a1, vs1, rfl, k1 _ _ _ (.refl _) g.s, q.here g.s fun j F2 H2 e1 e2 => ?_⟩
      have hr1 := k1 X.K F2 H2 e1 e2
      refine ⟨fun d hd => ?_, fun hl => ⟨vs1, hr1, ?_⟩⟩
      · obtain ⟨x, hx, rfl⟩ := enuL_get hd
        obtain ⟨vx, k1, k2⟩ := j1.get hx
        refine ⟨⟨vs1, vx, hr1, k1⟩, ?_⟩
        rintro v H3 ⟨T, x', rfl, hT, rfl, hx'⟩
        have e3 := hx' vs1 hr1
        rw [k1] at e3
        cases e3
        exact pair_D e2 hT is_int (k2.mono e1 x)
      · rw [← j1.length]
        simpa [enuL] using hl
    · exact q.elim
  · exact q.elim
end
end DL
namespace DL
open PySem L2
section
variable {X : Cx} {P : Pm} {F0 : Fz} {H0 : Hp} {W : WX} {a b c e o : Expr} {es : List Expr} {fa fb fc : Env → Res D} {fs : Env → Res (List D)} {pos p apos : Pos} {us : List Nat} {hs : List D → Env → Option Env} {F H : Hp} {σ : L2.St}
/-! ### a, b = a list -/
def hLst (hs : List D → Env → Option Env) : D → Env → Option Env := fun d ρ => match d with
  | .lst ds => hs ds ρ
  | _ => none
theorem gd_lst {k n : Nat} (hc : X.calm = true) (h : PGs X es (tGts P F0 H0 us hs)) (hn : (assignEach es X.env).length = n := by rfl) (hst : (assignEach es X.env).findIdx? (·.1) = none := by rfl) :
    PG X (.Tuple es k pos) (tGt P F0 H0 us (hLst fun ds ρ => if ds.length = n then hs ds ρ else none)) := (pg_unl hc h hn hst).imp fun v σ H Q ⟨F, ρ, d, ρ', er, i1, e, q⟩ => by
  cases d with
  | lst ds =>
    have e' : (if ds.length = n then hs ds ρ else none) = some ρ' := e
    split at e'
    · rename_i hl
      rw [Is] at i1
      obtain ⟨a, vs, rfl, h1, h2⟩ := i1
      exact ⟨a, vs, rfl, .inl (er.s.rd h1), by rw [← h2.length]; exact hl, F, ρ, ds, ρ', er, h2, e', q⟩
    · cases e'
  | _ => cases e
/-! ### a text in a tuple of texts -/
def strsD : List D → Option (List Str)
  | [] => some []
  | .str z :: r => (strsD r).map (z :: ·)
  | _ :: _ => none
theorem strsD_of : ∀ {ds : List D} {vs : List V} {zs : List Str}, strsD ds = some zs → IsL P F ds vs → vs = zs.map V.str
  | [], _, _, h, i => by
    cases h
    obtain rfl := i.unnil
    rfl
  | d :: ds, _, zs, h, i => by
    obtain ⟨v, r, rfl, i1, i2⟩ := i.uncons
    cases d with
    | str z =>
      have h' : (strsD ds).map (z :: ·) = some zs := h
      cases hz : strsD ds with
      | none =>
        rw [hz] at h'
        cases h'
      | some zs' =>
        rw [hz] at h'
        cases h'
        rw [un_str i1, strsD_of hz i2]
        rfl
    | _ => cases h
def inT (x y : D) : Option D := match x, y with
  | .str z, .tup ys => (strsD ys).map fun zs => .bl (zs.any fun w => w == z)
  | _, _ => none
theorem io_inT : OpR X (compareOp .In) (r2O P inT) := fun pins s σ H x y u v Q I rx ry h => by
  obtain ⟨F, dx, dy, d, e, i1, i2, hd, q⟩ := h
  unfold inT at hd
  split at hd
  · rename_i z ys
    cases hz : strsD ys with
    | none =>
      rw [hz] at hd
      cases hd
    | some zs =>
      rw [hz] at hd
      cases hd
      obtain ⟨ad, vs, rfl, h0, h1, h2⟩ := i2
      cases (show x = .str z from i1)
      have ev := strsD_of hz h2
      subst ev
      refine op_in_seq pins s σ H _ _ u v Q I rx ry ⟨ad, _, rfl, .inr (.inl h1), rfl, ?_, ?_⟩
      · rw [List.all_eq_true]
        intro w hw
        obtain ⟨w', _, rfl⟩ := List.mem_map.mp hw
        rfl
      · have : inV (.str z) (zs.map V.str) = zs.any fun w => w == z := by
          unfold inV
          rw [List.any_map]
          rfl
        show Q (.bl (inV (.str z) (zs.map V.str))) H
        rw [this]
        exact q.bl e
  · cases hd
/-! ### max of a list of integers -/
def intsD : List D → Option (List Int)
  | [] => some []
  | .int z :: r => (intsD r).map (z :: ·)
  | _ :: _ => none
theorem intsD_of : ∀ {ds : List D} {vs : List V} {zs : List Int}, intsD ds = some zs → IsL P F ds vs → vs = zs.map V.int
  | [], _, _, h, i => by
    cases h
    obtain rfl := i.unnil
    rfl
  | d :: ds, _, zs, h, i => by
    obtain ⟨v, r, rfl, i1, i2⟩ := i.uncons
    cases d with
    | int z =>
      have h' : (intsD ds).map (z :: ·) = some zs := h
      cases hz : intsD ds with
      | none =>
        rw [hz] at h'
        cases h'
      | some zs' =>
        rw [hz] at h'
        cases h'
        rw [un_int i1, intsD_of hz i2]
        rfl
    | _ => cases h
def maxI (z : Int) (zs : List Int) : Int := zs.foldl max z
theorem maxI_spec : ∀ (zs : List Int) (z : Int), (maxI z zs = z ∨ maxI z zs ∈ zs) ∧ z ≤ maxI z zs ∧ ∀ y ∈ zs, y ≤ maxI z zs
  | [], z => ⟨.inl rfl, Int.le_refl _, fun y hy => by simp at hy⟩
  | x :: zs, z => by
    obtain ⟨h1, h2, h3⟩ := maxI_spec zs (max z x)
    have e : maxI z (x :: zs) = maxI (max z x) zs := rfl
    rw [e]
    refine ⟨?_, by omega, fun y hy => ?_⟩
    · rcases h1 with h1 | h1
      · rcases Int.le_total z x with hz | hz
        · right
          rw [h1, Int.max_eq_right hz]
          exact List.mem_cons_self
        · left
          rw [h1, Int.max_eq_left hz]
      · exact .inr (List.mem_cons_of_mem _ h1)
    · rcases List.mem_cons.mp hy with rfl | hy
      · omega
      · exact h3 y hy
def cMax : List D → Option D
  | [.lst (.int z :: r)] => (intsD r).map fun zs => .int (maxI z zs)
  | _ => none
theorem ic_max (hc : X.calm = true) : CallR X (.builtin "max") (rcO P cMax) := fun pins s σ H xs us Q I rx ⟨F, ds, d, e, i, hd, q⟩ => by
  unfold cMax at hd
  split at hd
  · rename_i z r
    cases hz : intsD r with
    | none =>
      rw [hz] at hd
      cases hd
    | some zs =>
      rw [hz] at hd
      cases hd
      obtain ⟨v, r', rfl, i1, i⟩ := i.uncons
      obtain rfl := i.unnil
      obtain ⟨a, vs, rfl, h1, h2⟩ := i1
      have ev : vs = (z :: zs).map V.int := intsD_of (by show (intsD r).map (z :: ·) = _; rw [hz]; rfl) h2
      subst ev
      refine cr_max hc pins s σ H _ us Q I rx ⟨a, z :: zs, rfl, .inl h1, by simp, fun m hm hm' => ?_⟩
      obtain ⟨k1, k2, k3⟩ := maxI_spec zs z
      have : m = maxI z zs := by
        apply Int.le_antisymm
        · rcases List.mem_cons.mp hm with rfl | hm
          · exact k2
          · exact k3 _ hm
        · rcases k1 with k1 | k1
          · rw [k1]
            exact hm' _ List.mem_cons_self
          · exact hm' _ (List.mem_cons_of_mem _ k1)
      subst this
      exact q.here e is_int
  · cases hd
/-! ### a call as a statement -/
abbrev sDrop (f : Env → Res D) : Env → RS := fun ρ => bindS (f ρ) ρ fun _ => .nx ρ
theorem sd_drop (he : PE X e (tE P F0 H0 W fa)) (hs : swapsWith e none pos.line X.env = pure false := by rfl) : PS X (.Expr e pos) (tS P F0 H0 W (sDrop fa)) := (ps_expr he hs).imp fun N σ H ⟨F, ρ, er, z⟩ => by
  refine ⟨F, ρ, er, (PostS.bind (rel := rIs P) er z).imp ?_⟩
  rintro v H1 ⟨F1, d, g, j, q⟩
  exact q _ F1 H1 (er.grow g) (.refl F1)
/-! ### an integer of the top -/
theorem pd_gli {x : Str} {z : Int} (hg : Gl X x) (hm : ∃ t, X.mg x = some (.int z t)) (hd : (x == ("__debug__" : Str)) = false) : PE X (.Name x pos) (tE P F0 H0 W (fK (.int z))) := by
  obtain ⟨t, ht⟩ := hm
  exact pd_const (pe_glob hg ht (v := .int z) ⟨t, rfl⟩ hd) fun F => by rw [Is]
/-! ### isinstance -/
def ib_tuple : D → Option Bool
  | .tup _ => some true
  | .scr _ => none
  | _ => some false
def ib_str : D → Option Bool
  | .str _ => some true
  | .scr _ => none
  | _ => some false
def ib_list : D → Option Bool
  | .lst _ => some true
  | .scr _ => none
  | _ => some false
def ib_cls (n : Nat) : D → Option Bool
  | .obj c _ => some (c == n)
  | .scr _ => none
  | _ => some false
/-! ### a new list by a slice -/
def slcL (x : D) (l h : Option Int) : Option D := match x with
  | .lst _ => slcD x l h
  | _ => none
theorem nd_slcL {lo hi : Option Expr} {fl fh : Env → Res (Option Int)} {p2 : Pos} (ha : PE X a (tV P F0 H0 W fa)) (hl : PO X lo (tOp' P F0 H0 W fl)) (hh : PO X hi (tOp' P F0 H0 W fh)) :
    PE X (.Subscript a (.Slice lo hi none p2) pos) (tN P F0 H0 W (fun ρ => do let x ← fa ρ; let l ← fl ρ; let h ← fh ρ; opt (slcL x l h))) :=
  (pe_slice sl_list ha hl hh).imp fun σ H Q ⟨F, ρ, er, z⟩ => by
  refine ⟨F, ρ, er, (PostG.bind (rel := rVw P) z).imp ?_⟩
  rintro x H1 ⟨F1, d, g1, i1, z1⟩
  refine ⟨F1, ρ, er.grow g1, (PostG.bind (rel := rOp) z1).imp ?_⟩
  rintro l H2 ⟨F2, l', g2, rfl, z2⟩
  refine ⟨F2, ρ, (er.grow g1).grow g2, (PostG.bind (rel := rOp) z2).imp ?_⟩
  rintro h H3 ⟨F3, h', g3, rfl, z3⟩
  obtain ⟨dr, hd, q⟩ := opt_of z3
  have i3 : Vw P F3 H3 d x := (i1.mono g2.f g2.h d).mono g3.f g3.h d
  cases d with
  | lst ds =>
    cases (show some (D.lst (cutD ds l h)) = some dr from hd)
    obtain ⟨ad, vs, rfl, h1, h2⟩ := i3
    refine ⟨ad, vs, rfl, .inl h1, fun p hp => ?_⟩
    have gg := (g1.trans g2).trans g3
    exact q _ F3 _ (.junk g3.s (.new hp)) ⟨p, rfl, gg.h.back hp, g3.s.back hp, _, upd_same, h2.cut _ _⟩
  | _ => cases hd
/-! ### x[i] = v of an owned list -/
def lputE (i : Nat) (ρ : Env) (y d : D) : RS := match ρ[i]?, y with
  | some (some (.ow (.lst xs))), .int k => match ixN xs.length k with
    | some j => .nx (ρ.set i (some (.ow (.lst (xs.set j d)))))
    | none => .bad
  | _, _ => .bad
abbrev sLput (i : Nat) (fk fv : Env → Res D) : Env → RS := fun ρ => bindS (fv ρ) ρ fun d => bindS (isOw i ρ) ρ fun _ => bindS (fk ρ) ρ fun y => lputE i ρ y d
theorem sd_lput (i : Nat) {x : Str} {p1 pos' : Pos} (hk : PE X b (tE P F0 H0 W fb)) (hv : PE X c (tE P F0 H0 W fc)) (hN : X.N[i]? = some x := by rfl) (hvi : Vis X.env.scope x := by first | exact Or.inl rfl | exact Or.inr (Or.inl rfl) | exact Or.inr (Or.inr rfl)) (hd : (x == ("__debug__" : Str)) = false := by decide)
    (hcd : (x == ("__classdict__" : Str)) = false := by decide)
    (ha : ∀ v, assign (.Subscript (.Name x p1) b pos') X.env v = (do
      let ov ← holding [v] (eval (.Name x p1) X.env)
      let iv ← holding [v, ov] (eval b X.env)
      standAt pos'
      holding [v, ov, iv] (setItem ov iv v)
      release [v, ov, iv] []) := by intro _; rfl)
    (hs : swapsWithSole [.Subscript (.Name x p1) b pos'] c pos.line X.env = pure false := by rfl) (hw : swappedStores [.Subscript (.Name x p1) b pos'] c X.env = pure none := by rfl) :
    PS X (.Assign [.Subscript (.Name x p1) b pos'] c pos) (tS P F0 H0 W (sLput i fb fc)) := (ps_asg hv (pg_sub (pe_var hN hvi hd hcd) hk set_list ha) hs hw).imp fun N σ H ⟨F, ρ, er, z⟩ => by
  refine ⟨F, ρ, er, (PostS.bind (rel := rIs P) er z).imp ?_⟩
  rintro v H1 ⟨F1, d, g1, i1, z1⟩
  have er1 := er.grow g1
  rcases isOw_cases i ρ with hb | ⟨xs, hb, hρ⟩
  · rw [hb] at z1
    exact z1.elim
  · rw [hb] at z1
    replace z1 : PostS P F0 H0 W F1 (bindS (fb ρ) ρ fun y => lputE i ρ y d) N := z1
    obtain ⟨ad, hσ, _⟩ := er1.ow i _ hρ
    refine ⟨.ref ad, hσ, F1, ρ, er1, (PostS.bind (rel := rIs P) er1 z1).imp ?_⟩
    rintro y H3 ⟨F3, dy, g3, i3, z3⟩
    have er3 := er1.grow g3
    obtain ⟨ad', h1, h2, h3, vs, h4, h5⟩ := er3.ow i _ hρ
    rw [hσ] at h1
    cases h1
    unfold lputE at z3
    rw [hρ] at z3
    cases dy with
    | int k =>
      dsimp only at z3
      cases hj : ixN xs.length k with
      | none =>
        rw [hj] at z3
        exact z3.elim
      | some j =>
        rw [hj] at z3
        dsimp only at z3
        obtain rfl := un_int i3
        refine ⟨ad, vs, k, j, rfl, rfl, h4, by rw [← h5.length]; exact hj, z3 σ F3 _ (er3.mut hρ hσ ⟨_, upd_same, ?_⟩) (.refl F3)⟩
        exact IsL.set j h5 (i1.mono g3.f d)
    | _ => exact z3.elim
end
section
variable {K : PySem.W.Frag} {P : Pm} {C : Addr}
theorem kit_tuple (h : ∀ c, PySem.W.kitOne K (.ref (P.C c)) (.type "tuple") = some false) : ∀ d b, ib_tuple d = some b → PySem.W.kitOne K (tyD P d) (.type "tuple") = some b := by
  intro d b hb
  cases d <;> simp only [ib_tuple, Option.some.injEq] at hb <;> (try subst hb) <;> first | exact kit_ty rfl | exact h _ | cases hb
theorem kit_str (h : ∀ c, PySem.W.kitOne K (.ref (P.C c)) (.type "str") = some false) : ∀ d b, ib_str d = some b → PySem.W.kitOne K (tyD P d) (.type "str") = some b := by
  intro d b hb
  cases d <;> simp only [ib_str, Option.some.injEq] at hb <;> (try subst hb) <;> first | exact kit_ty rfl | exact h _ | cases hb
theorem kit_list (h : ∀ c, PySem.W.kitOne K (.ref (P.C c)) (.type "list") = some false) : ∀ d b, ib_list d = some b → PySem.W.kitOne K (tyD P d) (.type "list") = some b := by
  intro d b hb
  cases d <;> simp only [ib_list, Option.some.injEq] at hb <;> (try subst hb) <;> first | exact kit_ty rfl | exact h _ | cases hb
theorem kit_cls {n : Nat} (hC : ∀ c, c ≠ n → PySem.W.kitOne K (.ref (P.C c)) (.ref (P.C n)) = some false) (h : NoB K (P.C n)) : ∀ d b, ib_cls n d = some b → PySem.W.kitOne K (tyD P d) (.ref (P.C n)) = some b := by
  intro d b hb
  cases d <;> simp only [ib_cls, Option.some.injEq] at hb <;> (try subst hb) <;> first | exact h.n1 | exact h.n2 | exact h.n3 | exact h.n4 | exact h.n5 | exact h.n6 | exact h.n7 | cases hb | skip
  rename_i c xs
  show PySem.W.kitOne K (.ref (P.C c)) (.ref (P.C n)) = some (c == n)
  by_cases hc : c = n
  · subst hc
    unfold PySem.W.kitOne
    rw [if_pos (by simp)]
    simp
  · rw [hC c hc]
    simp [hc]
end
end DL
namespace DL
open PySem L2
@[simp] abbrev fDict (f : Env → Res D) : Env → Res D := fun ρ => do let x ← f ρ; opt (cDictT [x])
@[simp] abbrev fSlcL (a : Env → Res D) (l h : Env → Res (Option Int)) : Env → Res D := fun ρ => do let x ← a ρ; let u ← l ρ; let v ← h ρ; opt (slcL x u v)
@[simp] abbrev fSort (a b : Env → Res D) : Env → Res D := fun ρ => do let x ← a ρ; let y ← b ρ; opt (cSortT x y)
@[simp] abbrev fRc (cz : Nat) (f : Env → Res D) : Env → Res D := fun ρ => rcD cz (f ρ)
@[simp] abbrev iZipA (f : Env → Res (List D)) : Env → Res (List D) := fun ρ => f ρ >>= zipA
@[simp] abbrev iEnuA (f : Env → Res (List D)) : Env → Res (List D) := fun ρ => f ρ >>= enuA
/-- of two classes: number 1, or not -/
def ib_c1 : D → Option Bool
  | .obj c _ => some (c == 1)
  | .scr _ => none
  | _ => some false
def ib_c0 : D → Option Bool
  | .obj c _ => some (c != 1)
  | .scr _ => none
  | _ => some false
theorem un1 {k : Nat} {A : Around} (r : Room k A) : A.units + 1 < cLine := by
  have := units65 r
  omega
theorem un8 {k : Nat} {A : Around} (r : Room k A) : A.units + 8 < cLine := by
  have := units65 r
  omega
theorem zip_no {ks : List Str} {f : Str} (h : f ∉ ks) (d : List D) : (ks.zip d).lookup f = (none : Option D) := by
  induction ks generalizing d with
  | nil => rfl
  | cons k ks ih =>
    cases d with
    | nil => rfl
    | cons x d =>
      have h1 : (f == k) = false := beq_eq_false_iff_ne.mpr fun e => h (by rw [e]; exact List.mem_cons_self)
      rw [List.zip_cons_cons, List.lookup_cons, h1]
      exact ih (fun m => h (List.mem_cons_of_mem _ m)) d
end DL
/-! == of lists, tuples and dicts whose items are compared by code: the answer may be False, too -/
namespace GQ
open PySem PySem.SeqAt
open AutoSeq1 (wpAny_loadPart')
open MeetsSeq MeetsSeq2 MeetsSeq3 SeqRoads2
section
variable {prog : Program} {w : World} {A : Around} {R : Result → Shared → Prop}
def ListB (prog : Program) (w : World) (A : Around) (E : Value → Shared → Prop) (l b : Addr) (N : Nat) (I : Nat → Shared → Prop) (J : Shared → Prop) : Prop :=
  ∀ i s, I i s → ∃ (items items2 : Array Value) (n n2 : Nat), s.heap.get? l = some { cls := .type "list", data := .seq items n } ∧ s.heap.get? b = some { cls := .type "list", data := .seq items2 n2 } ∧ items.size = N ∧ items2.size = N ∧
    ∀ (h1 : i < items.size) (h2 : i < items2.size), wpAny (model prog w) A.in1 (eqBool items[i] items2[i]) (fun r s' => (r = true ∧ I (i + 1) s') ∨ (r = false ∧ J s' ∧ ∃ (its its2 : Array Value) (m m2 : Nat), s'.heap.get? l = some { cls := .type "list", data := .seq its m } ∧ s'.heap.get? b = some { cls := .type "list", data := .seq its2 m2 } ∧ its.size = N ∧ its2.size = N)) E s
theorem eq_loopB (l b : Addr) (N : Nat) (I : Nat → Shared → Prop) (J : Shared → Prop) (hl : ListB prog w A (fun e s' => R (.error e) s') l b N I J)
    (fin : ∀ s, I N s → R (.ok (.ret (.bool true))) s) (finF : ∀ s, J s → R (.ok (.ret (.bool false))) s) (k : Nat) :
    ∀ i : Nat, N - i = k → i ≤ N → ∀ s, I i s →
      wpAny (model prog w) A.in1 (Builtin.«list.__eq__.loop» ⟨[.ref l, .ref b, rawInt i, rawInt 2], []⟩) (FinOf prog w A R) (fun e s' => R (.error e) s') s := by
  induction k with
  | zero =>
    intro i hk hi s h
    obtain ⟨items, items2, n, n2, hl1, hb1, hs1, hs2, _⟩ := hl _ _ h
    have hi' : i = N := by omega
    have hR : R (.ok (.ret (.bool true))) s := fin s (hi' ▸ h)
    obtain ⟨hp, g, d, tk, os⟩ := s
    wp_walk using wpAny_loadPart' hl1, wpAny_loadPart' hb1
    have hi1 : items[((i : Nat) : Int).toNat]? = none := by simp; omega
    have hi2 : items2[((i : Nat) : Int).toNat]? = none := by simp; omega
    rw [hi1, hi2]
    wp_walk using wpAny_loadPart' hl1, wpAny_loadPart' hb1
    show R (.ok (.ret (.bool (items.size == items2.size)))) _
    rw [hs1, hs2]
    simpa using hR
  | succ k ih =>
    intro i hk hi s h
    obtain ⟨items, items2, n, n2, hl1, hb1, hs1, hs2, turn⟩ := hl _ _ h
    have hlt : i < items.size := by omega
    have hlt2 : i < items2.size := by omega
    have ht := turn hlt hlt2
    obtain ⟨hp, g, d, tk, os⟩ := s
    wp_walk using wpAny_loadPart' hl1, wpAny_loadPart' hb1
    have hi1 : items[((i : Nat) : Int).toNat]? = some items[i] := by simp [hlt]
    have hi2 : items2[((i : Nat) : Int).toNat]? = some items2[i] := by simp [hlt2]
    have hc : ((i : Int) + 1) = ((i + 1 : Nat) : Int) := by omega
    rw [hi1, hi2]
    refine wpAny_bind (wpAny_mono ht (fun r s2 h2 => ?_) fun _ _ x => x)
    rcases h2 with ⟨hr, h2⟩ | ⟨hr, hJ, its, its2, m, m2, hl2, hb2, hs3, hs4⟩
    · subst hr
      have hrec := ih (i + 1) (by omega) (by omega) s2 h2
      obtain ⟨hp2, g2, d2, tk2, os2⟩ := s2
      wp_walk
      rw [hc]
      exact ⟨plainId_quiet plain_eq_loop _, codeAny_builtin entry_eq_loop (by
        rw [Around.under_plainId plain_eq_loop _]
        exact hrec)⟩
    · subst hr
      have hR := finF s2 hJ
      obtain ⟨hp2, g2, d2, tk2, os2⟩ := s2
      have hj1 : its[((i : Nat) : Int).toNat]? = some (its[i]'(by omega)) := by
        rw [Int.toNat_natCast]
        exact Array.getElem?_eq_getElem (by omega)
      have hj2 : its2[((i : Nat) : Int).toNat]? = some (its2[i]'(by omega)) := by
        rw [Int.toNat_natCast]
        exact Array.getElem?_eq_getElem (by omega)
      wp_walk using wpAny_loadPart' hl2, wpAny_loadPart' hb2
      rw [hj1, hj2]
      wp_walk
      simpa using hR
theorem list_eqB (l b : Addr) (N : Nat) (I : Nat → Shared → Prop) (J : Shared → Prop) (hl : ListB prog w A (fun e s' => R (.error e) s') l b N I J)
    (fin : ∀ s, I N s → R (.ok (.ret (.bool true))) s) (finF : ∀ s, J s → R (.ok (.ret (.bool false))) s) {s : Shared} (h : I 0 s) :
    wpAny (model prog w) A.in1 (Builtin.«list.__eq__» ⟨[.ref l, .ref b], []⟩) (FinOf prog w A R) (fun e s' => R (.error e) s') s := by
  obtain ⟨items, items2, n, n2, hl1, hb1, hs1, hs2, _⟩ := hl _ _ h
  have hrec := eq_loopB (A := A) (R := R) l b N I J hl fin finF _ 0 rfl (Nat.zero_le _) s h
  obtain ⟨hp, g, d, tk, os⟩ := s
  have f3 := AutoSeq1.sub_list_list
  have hne : ¬ (items.size != items2.size) = true := by simp [hs1, hs2]
  wp_walk using wpAny_loadPart' hl1, wpAny_loadPart' hb1
  exact ⟨plainId_quiet plain_eq_loop _, codeAny_builtin entry_eq_loop (by
    rw [Around.under_plainId plain_eq_loop _]
    exact hrec)⟩
theorem tuple_eqB (l b : Addr) (items items2 : Array Value) (n n2 : Nat) (dd dd2 : Option Addr) (sl sl2 : Array (Option Value)) (hsz : items.size = items2.size) (I : Nat → Shared → Prop) (J : Shared → Prop)
    (turn : ∀ i (h1 : i < items.size) (h2 : i < items2.size) s, I i s → wpAny (model prog w) A.in1 (eqBool items[i] items2[i]) (fun r s' => (r = true ∧ I (i + 1) s') ∨ (r = false ∧ J s')) (fun e s' => R (.error e) s') s)
    (fin : ∀ s, I items.size s → R (.ok (.ret (.bool true))) s) (finF : ∀ s, J s → R (.ok (.ret (.bool false))) s) {s : Shared} (hl1 : s.heap.get? l = some { cls := .type "tuple", dict := dd, data := .seq items n, slots := sl }) (hb1 : s.heap.get? b = some { cls := .type "tuple", dict := dd2, data := .seq items2 n2, slots := sl2 }) (h : I 0 s) :
    wpAny (model prog w) A.in1 (Builtin.«tuple.__eq__» ⟨[.ref l, .ref b], []⟩) (FinOf prog w A R) (fun e s' => R (.error e) s') s := by
  have f2 := AutoSeq1.sub_tuple_tuple
  have hZ : (items.toList.zip items2.toList).length = items.size := by simp [hsz]
  have h0 := h
  obtain ⟨hp, g, d, tk, os⟩ := s
  wp_walk using wpAny_loadPart' hl1, wpAny_loadPart' hb1, wpAny_forIn_list _ (fun rest b s' => b.1 = none ∧ ∃ i, rest = (items.toList.zip items2.toList).drop i ∧ i ≤ items.size ∧ I i s') _
  case turn =>
    rintro ⟨y, x⟩ rest b s' ⟨hb', i, hz, hi, hI⟩
    have hlt : i < (items.toList.zip items2.toList).length := by
      rcases Nat.lt_or_ge i (items.toList.zip items2.toList).length with h' | h'
      · exact h'
      · rw [List.drop_of_length_le h'] at hz; cases hz
    have h1 : i < items.size := hZ ▸ hlt
    have h2 : i < items2.size := hsz ▸ h1
    rw [List.drop_eq_getElem_cons hlt] at hz
    injection hz with hyx hrest
    have hy : y = items[i] := by have := congrArg Prod.fst hyx; simpa using this
    have hx : x = items2[i] := by have := congrArg Prod.snd hyx; simpa using this
    subst hy hx
    refine wpAny_bind (wpAny_mono (turn i h1 h2 s' hI) (fun r s2 q2 => ?_) fun _ _ x => x)
    rcases q2 with ⟨hr, q2⟩ | ⟨hr, hJ⟩
    · subst hr
      wp_walk
      exact ⟨rfl, i + 1, hrest, h1, q2⟩
    · subst hr
      have hR := finF s2 hJ
      wp_walk
      simpa using hR
  case fin =>
    rintro ⟨b1, b2⟩ s' ⟨hb', i, hz, hi, hI⟩
    simp only at hb'
    subst hb'
    have hge : items.size ≤ i := by
      rcases Nat.lt_or_ge i (items.toList.zip items2.toList).length with h' | h'
      · rw [List.drop_eq_getElem_cons h'] at hz; cases hz
      · exact hZ ▸ h'
    have hi' : i = items.size := by omega
    have hR : R (.ok (.ret (.bool true))) s' := fin s' (hi' ▸ hI)
    wp_walk
    simpa [Builtin.Tuple.tupleCompareSizes, hsz] using hR
  case h =>
    exact ⟨rfl, 0, rfl, Nat.zero_le _, h0⟩
end
section
variable {prog : Program} {w : World} {A : Around} {E : Value → Shared → Prop} {s : Shared}
theorem rc_listB {l b : Addr} {N : Nat} {Q : Value → Shared → Prop} (hu : A.units < cLine) (I : Nat → Shared → Prop) (J : Shared → Prop) (hl : ListB prog w A E l b N I J)
    (fin : ∀ s, I N s → Q (.bool true) s) (finF : ∀ s, J s → Q (.bool false) s) (h : I 0 s) : wpAny (model prog w) A (richCompare .Eq (.ref l) (.ref b)) Q E s := by
  obtain ⟨items, items2, n, n2, hl1, hb1, _, _, _⟩ := hl _ _ h
  refine wpAny_richCompare_same_room (op := .Eq) ⟨_, hl1, rfl⟩ ⟨_, hb1, rfl⟩ F.slot_list_eq (call_here F.slot_list_eq ⟨_, hl1, rfl⟩ F.entry_list_eq (F.args_list_eq_2 _ _) ?_) hu
  exact list_eqB (R := wants (fun v s' => v ≠ .notImplemented ∧ Q v s') E) l b N I J hl (fun s' q => ⟨(fun x => nomatch x), fin s' q⟩) (fun s' q => ⟨(fun x => nomatch x), finF s' q⟩) h
theorem rc_tupB {l b : Addr} {items items2 : Array Value} {Q : Value → Shared → Prop} (hsz : items.size = items2.size) (hu : A.units < cLine) (I : Nat → Shared → Prop) (J : Shared → Prop)
    (hl : s.heap.IsTuple l items) (hb : s.heap.IsTuple b items2)
    (turn : ∀ i (h1 : i < items.size) (h2 : i < items2.size) s, I i s → wpAny (model prog w) A.in1 (eqBool items[i] items2[i]) (fun r s' => (r = true ∧ I (i + 1) s') ∨ (r = false ∧ J s')) E s)
    (fin : ∀ s, I items.size s → Q (.bool true) s) (finF : ∀ s, J s → Q (.bool false) s) (h : I 0 s) : wpAny (model prog w) A (richCompare .Eq (.ref l) (.ref b)) Q E s := by
  obtain ⟨⟨cls, dd, data, sl⟩, ho, hc, n, hd⟩ := id hl
  obtain ⟨⟨cls2, dd2, data2, sl2⟩, ho2, hc2, n2, hd2⟩ := id hb
  simp only at hc hd hc2 hd2
  subst hc hd hc2 hd2
  refine wpAny_richCompare_same_room (op := .Eq) ⟨_, ho, rfl⟩ ⟨_, ho2, rfl⟩ F.slot_tuple_eq (call_here F.slot_tuple_eq ⟨_, ho, rfl⟩ F.entry_tuple_eq (F.args_tuple_eq_2 _ _) ?_) hu
  exact tuple_eqB (R := wants (fun v s' => v ≠ .notImplemented ∧ Q v s') E) l b items items2 n n2 dd dd2 sl sl2 hsz I J turn (fun s' q => ⟨(fun x => nomatch x), fin s' q⟩) (fun s' q => ⟨(fun x => nomatch x), finF s' q⟩) ho ho2 h
end
end GQ
/-! the same of != -/
namespace GQ
open PySem PySem.SeqAt
open AutoSeq1 (wpAny_loadPart')
open MeetsSeq MeetsSeq2 MeetsSeq3 SeqRoads2
section
variable {prog : Program} {w : World} {A : Around} {R : Result → Shared → Prop}
theorem ne_loopB (l b : Addr) (N : Nat) (I : Nat → Shared → Prop) (J : Shared → Prop) (hl : ListB prog w A (fun e s' => R (.error e) s') l b N I J)
    (fin : ∀ s, I N s → R (.ok (.ret (.bool false))) s) (finF : ∀ s, J s → R (.ok (.ret (.bool true))) s) (k : Nat) :
    ∀ i : Nat, N - i = k → i ≤ N → ∀ s, I i s →
      wpAny (model prog w) A.in1 (Builtin.«list.__eq__.loop» ⟨[.ref l, .ref b, rawInt i, rawInt 3], []⟩) (FinOf prog w A R) (fun e s' => R (.error e) s') s := by
  induction k with
  | zero =>
    intro i hk hi s h
    obtain ⟨items, items2, n, n2, hl1, hb1, hs1, hs2, _⟩ := hl _ _ h
    have hi' : i = N := by omega
    have hR : R (.ok (.ret (.bool false))) s := fin s (hi' ▸ h)
    obtain ⟨hp, g, d, tk, os⟩ := s
    wp_walk using wpAny_loadPart' hl1, wpAny_loadPart' hb1
    have hi1 : items[((i : Nat) : Int).toNat]? = none := by simp; omega
    have hi2 : items2[((i : Nat) : Int).toNat]? = none := by simp; omega
    rw [hi1, hi2]
    wp_walk using wpAny_loadPart' hl1, wpAny_loadPart' hb1
    show R (.ok (.ret (.bool (items.size != items2.size)))) _
    rw [hs1, hs2]
    simpa using hR
  | succ k ih =>
    intro i hk hi s h
    obtain ⟨items, items2, n, n2, hl1, hb1, hs1, hs2, turn⟩ := hl _ _ h
    have hlt : i < items.size := by omega
    have hlt2 : i < items2.size := by omega
    have ht := turn hlt hlt2
    obtain ⟨hp, g, d, tk, os⟩ := s
    wp_walk using wpAny_loadPart' hl1, wpAny_loadPart' hb1
    have hi1 : items[((i : Nat) : Int).toNat]? = some items[i] := by simp [hlt]
    have hi2 : items2[((i : Nat) : Int).toNat]? = some items2[i] := by simp [hlt2]
    have hc : ((i : Int) + 1) = ((i + 1 : Nat) : Int) := by omega
    rw [hi1, hi2]
    refine wpAny_bind (wpAny_mono ht (fun r s2 h2 => ?_) fun _ _ x => x)
    rcases h2 with ⟨hr, h2⟩ | ⟨hr, hJ, its, its2, m, m2, hl2, hb2, hs3, hs4⟩
    · subst hr
      have hrec := ih (i + 1) (by omega) (by omega) s2 h2
      obtain ⟨hp2, g2, d2, tk2, os2⟩ := s2
      wp_walk
      rw [hc]
      exact ⟨plainId_quiet plain_eq_loop _, codeAny_builtin entry_eq_loop (by
        rw [Around.under_plainId plain_eq_loop _]
        exact hrec)⟩
    · subst hr
      have hR := finF s2 hJ
      obtain ⟨hp2, g2, d2, tk2, os2⟩ := s2
      have hj1 : its[((i : Nat) : Int).toNat]? = some (its[i]'(by omega)) := by
        rw [Int.toNat_natCast]
        exact Array.getElem?_eq_getElem (by omega)
      have hj2 : its2[((i : Nat) : Int).toNat]? = some (its2[i]'(by omega)) := by
        rw [Int.toNat_natCast]
        exact Array.getElem?_eq_getElem (by omega)
      wp_walk using wpAny_loadPart' hl2, wpAny_loadPart' hb2
      rw [hj1, hj2]
      wp_walk
      simpa using hR
theorem list_neB (l b : Addr) (N : Nat) (I : Nat → Shared → Prop) (J : Shared → Prop) (hl : ListB prog w A (fun e s' => R (.error e) s') l b N I J)
    (fin : ∀ s, I N s → R (.ok (.ret (.bool false))) s) (finF : ∀ s, J s → R (.ok (.ret (.bool true))) s) {s : Shared} (h : I 0 s) :
    wpAny (model prog w) A.in1 (Builtin.«list.__ne__» ⟨[.ref l, .ref b], []⟩) (FinOf prog w A R) (fun e s' => R (.error e) s') s := by
  obtain ⟨items, items2, n, n2, hl1, hb1, hs1, hs2, _⟩ := hl _ _ h
  have hrec := ne_loopB (A := A) (R := R) l b N I J hl fin finF _ 0 rfl (Nat.zero_le _) s h
  obtain ⟨hp, g, d, tk, os⟩ := s
  have f3 := AutoSeq1.sub_list_list
  have hne : ¬ (items.size != items2.size) = true := by simp [hs1, hs2]
  wp_walk using wpAny_loadPart' hl1, wpAny_loadPart' hb1
  exact ⟨plainId_quiet plain_eq_loop _, codeAny_builtin entry_eq_loop (by
    rw [Around.under_plainId plain_eq_loop _]
    exact hrec)⟩
theorem tuple_neB (l b : Addr) (items items2 : Array Value) (n n2 : Nat) (dd dd2 : Option Addr) (sl sl2 : Array (Option Value)) (hsz : items.size = items2.size) (I : Nat → Shared → Prop) (J : Shared → Prop)
    (turn : ∀ i (h1 : i < items.size) (h2 : i < items2.size) s, I i s → wpAny (model prog w) A.in1 (eqBool items[i] items2[i]) (fun r s' => (r = true ∧ I (i + 1) s') ∨ (r = false ∧ J s')) (fun e s' => R (.error e) s') s)
    (fin : ∀ s, I items.size s → R (.ok (.ret (.bool false))) s) (finF : ∀ s, J s → R (.ok (.ret (.bool true))) s) {s : Shared} (hl1 : s.heap.get? l = some { cls := .type "tuple", dict := dd, data := .seq items n, slots := sl }) (hb1 : s.heap.get? b = some { cls := .type "tuple", dict := dd2, data := .seq items2 n2, slots := sl2 }) (h : I 0 s) :
    wpAny (model prog w) A.in1 (Builtin.«tuple.__ne__» ⟨[.ref l, .ref b], []⟩) (FinOf prog w A R) (fun e s' => R (.error e) s') s := by
  have f2 := AutoSeq1.sub_tuple_tuple
  have hZ : (items.toList.zip items2.toList).length = items.size := by simp [hsz]
  have h0 := h
  obtain ⟨hp, g, d, tk, os⟩ := s
  wp_walk using wpAny_loadPart' hl1, wpAny_loadPart' hb1, wpAny_forIn_list _ (fun rest b s' => b.1 = none ∧ ∃ i, rest = (items.toList.zip items2.toList).drop i ∧ i ≤ items.size ∧ I i s') _
  case turn =>
    rintro ⟨y, x⟩ rest b s' ⟨hb', i, hz, hi, hI⟩
    have hlt : i < (items.toList.zip items2.toList).length := by
      rcases Nat.lt_or_ge i (items.toList.zip items2.toList).length with h' | h'
      · exact h'
      · rw [List.drop_of_length_le h'] at hz; cases hz
    have h1 : i < items.size := hZ ▸ hlt
    have h2 : i < items2.size := hsz ▸ h1
    rw [List.drop_eq_getElem_cons hlt] at hz
    injection hz with hyx hrest
    have hy : y = items[i] := by have := congrArg Prod.fst hyx; simpa using this
    have hx : x = items2[i] := by have := congrArg Prod.snd hyx; simpa using this
    subst hy hx
    refine wpAny_bind (wpAny_mono (turn i h1 h2 s' hI) (fun r s2 q2 => ?_) fun _ _ x => x)
    rcases q2 with ⟨hr, q2⟩ | ⟨hr, hJ⟩
    · subst hr
      wp_walk
      exact ⟨rfl, i + 1, hrest, h1, q2⟩
    · subst hr
      have hR := finF s2 hJ
      wp_walk
      simpa using hR
  case fin =>
    rintro ⟨b1, b2⟩ s' ⟨hb', i, hz, hi, hI⟩
    simp only at hb'
    subst hb'
    have hge : items.size ≤ i := by
      rcases Nat.lt_or_ge i (items.toList.zip items2.toList).length with h' | h'
      · rw [List.drop_eq_getElem_cons h'] at hz; cases hz
      · exact hZ ▸ h'
    have hi' : i = items.size := by omega
    have hR : R (.ok (.ret (.bool false))) s' := fin s' (hi' ▸ hI)
    wp_walk
    simpa [Builtin.Tuple.tupleCompareSizes, hsz] using hR
  case h =>
    exact ⟨rfl, 0, rfl, Nat.zero_le _, h0⟩
end
section
variable {prog : Program} {w : World} {A : Around} {E : Value → Shared → Prop} {s : Shared}
theorem rn_listB {l b : Addr} {N : Nat} {Q : Value → Shared → Prop} (hu : A.units < cLine) (I : Nat → Shared → Prop) (J : Shared → Prop) (hl : ListB prog w A E l b N I J)
    (fin : ∀ s, I N s → Q (.bool false) s) (finF : ∀ s, J s → Q (.bool true) s) (h : I 0 s) : wpAny (model prog w) A (richCompare .NotEq (.ref l) (.ref b)) Q E s := by
  obtain ⟨items, items2, n, n2, hl1, hb1, _, _, _⟩ := hl _ _ h
  refine wpAny_richCompare_same_room (op := .NotEq) ⟨_, hl1, rfl⟩ ⟨_, hb1, rfl⟩ F.slot_list_ne (call_here F.slot_list_ne ⟨_, hl1, rfl⟩ F.entry_list_ne (F.args_list_ne_2 _ _) ?_) hu
  exact list_neB (R := wants (fun v s' => v ≠ .notImplemented ∧ Q v s') E) l b N I J hl (fun s' q => ⟨(fun x => nomatch x), fin s' q⟩) (fun s' q => ⟨(fun x => nomatch x), finF s' q⟩) h
theorem rn_tupB {l b : Addr} {items items2 : Array Value} {Q : Value → Shared → Prop} (hsz : items.size = items2.size) (hu : A.units < cLine) (I : Nat → Shared → Prop) (J : Shared → Prop)
    (hl : s.heap.IsTuple l items) (hb : s.heap.IsTuple b items2)
    (turn : ∀ i (h1 : i < items.size) (h2 : i < items2.size) s, I i s → wpAny (model prog w) A.in1 (eqBool items[i] items2[i]) (fun r s' => (r = true ∧ I (i + 1) s') ∨ (r = false ∧ J s')) E s)
    (fin : ∀ s, I items.size s → Q (.bool false) s) (finF : ∀ s, J s → Q (.bool true) s) (h : I 0 s) : wpAny (model prog w) A (richCompare .NotEq (.ref l) (.ref b)) Q E s := by
  obtain ⟨⟨cls, dd, data, sl⟩, ho, hc, n, hd⟩ := id hl
  obtain ⟨⟨cls2, dd2, data2, sl2⟩, ho2, hc2, n2, hd2⟩ := id hb
  simp only at hc hd hc2 hd2
  subst hc hd hc2 hd2
  refine wpAny_richCompare_same_room (op := .NotEq) ⟨_, ho, rfl⟩ ⟨_, ho2, rfl⟩ F.slot_tuple_ne (call_here F.slot_tuple_ne ⟨_, ho, rfl⟩ F.entry_tuple_ne (F.args_tuple_ne_2 _ _) ?_) hu
  exact tuple_neB (R := wants (fun v s' => v ≠ .notImplemented ∧ Q v s') E) l b items items2 n n2 dd dd2 sl sl2 hsz I J turn (fun s' q => ⟨(fun x => nomatch x), fin s' q⟩) (fun s' q => ⟨(fun x => nomatch x), finF s' q⟩) ho ho2 h
end
end GQ
/-! == and != of dicts whose values are compared by code -/
namespace PySem.W
open Lean Elab Tactic Meta PySem PySem.Calls PyProof.Rows PyProof.V PySem.Spec
section
variable {prog : Program} {w : World} {K : Type} [DecidableEq K] {knd : KeyKind prog w K} {A : Around} {E : Value → Shared → Prop} {s : Shared}
/-- the turns of a comparison of two dicts: at each the dicts stand as they were -/
structure DTurn (prog : Program) (w : World) {K : Type} [DecidableEq K] (A : Around) (E : Value → Shared → Prop) (s : Shared) (a b : Addr) (ka kb : List (K × Value)) (I : Nat → Shared → Prop) (J : Shared → Prop) : Prop where
  keep : ∀ i s', I i s' → s'.heap.get? a = s.heap.get? a ∧ s'.heap.get? b = s.heap.get? b
  turn : ∀ i k v s', I i s' → ka[i]? = some (k, v) → (valueAt kb k = none ∧ J s') ∨ ∃ y, valueAt kb k = some y ∧ wpAny (model prog w) A (eqBool v y) (fun r s2 => (r = true ∧ I (i + 1) s2) ∨ (r = false ∧ J s2)) E s'
theorem samePairsB {nm : String} {a b : Addr} {ka kb : List (K × Value)} {Q : Bool → Shared → Prop} {I : Nat → Shared → Prop} {J : Shared → Prop} (ha : (a == sysModules) = false) (hb : (b == sysModules) = false)
    (da : s.heap.DictOf knd a ka) (db : s.heap.DictOf knd b kb) (t : DTurn prog w A E s a b ka kb I J) (hlen : ka.length = kb.length) (fin : ∀ s', I ka.length s' → Q true s') (finF : ∀ s', J s' → Q false s') (h0 : I 0 s) :
    wpAny (model prog w) A (Builtin.Dict.samePairs nm a b) Q E s := by
  obtain ⟨oa, es, ep, hoa, _, hda, hka, hpa, _⟩ := da
  obtain ⟨ob, es', ep', hob, _, hdb, hkb, hpb, _⟩ := db
  have hla : ka.length = es.size := by rw [← hpa.length]; exact Array.length_toList
  have hlb : kb.length = es'.size := by rw [← hpb.length]; exact Array.length_toList
  have hfind : ∀ k, findBy knd.is es' k = valueAt kb k := fun k => by
    rw [← hpb.find k]
    clear hlb hpb hkb hdb hob
    obtain ⟨l⟩ := es'
    simp [findBy]
  have hsz : es.size = es'.size := by rw [← hla, ← hlb, hlen]
  have hoa' : ∀ {i s'}, I i s' → s'.heap.get? a = some oa := fun hi => by rw [(t.keep _ _ hi).1, hoa]
  have hob' : ∀ {i s'}, I i s' → s'.heap.get? b = some ob := fun hi => by rw [(t.keep _ _ hi).2, hob]
  unfold Builtin.Dict.samePairs Builtin.Dict.showsAll
  rw [if_neg (show ¬ (a == sysModules) = true by rw [ha]; exact Bool.false_ne_true), if_neg (show ¬ (b == sysModules) = true by rw [hb]; exact Bool.false_ne_true)]
  refine wpAny_bind (wpAny_pure (wpAny_bind (wpAny_pure ?_)))
  refine wpAny_bind (wpAny_dictEntries hoa hda ?_)
  dsimp only
  refine wpAny_bind (wpAny_dictEntries hob hdb ?_)
  rw [if_neg (by rw [hsz]; simp)]
  refine wpAny_bind (wpAny_dictEpoch hoa hda ?_)
  refine wpAny_bind ?_
  rw [Std.Legacy.Range.forIn_eq_forIn_range']
  simp only [Std.Legacy.Range.size, Nat.sub_zero, Nat.add_sub_cancel, Nat.div_one]
  refine wpAny_forIn_list _
    (fun rest q s' => q = (none, ()) ∧ ∃ i, rest = List.range' i (es.size - i) ∧ i ≤ es.size ∧ I i s')
    _ ?_ ?_ _ _ ⟨rfl, 0, by simp, Nat.zero_le _, h0⟩
  · rintro x rest q s' ⟨rfl, i, hr, hi, hI⟩
    have hlt : i < es.size := by
      rcases Nat.lt_or_ge i es.size with h | h
      · exact h
      · rw [Nat.sub_eq_zero_of_le h] at hr; simp at hr
    obtain ⟨rfl, hrest⟩ : x = i ∧ rest = List.range' (i + 1) (es.size - (i + 1)) := by
      have e : es.size - i = (es.size - (i + 1)) + 1 := by omega
      rw [e, List.range'_succ] at hr
      injection hr with h1 h2
      exact ⟨h1, h2⟩
    refine wpAny_bind (wpAny_dictEntries (hoa' hI) hda ?_)
    rw [Array.getElem?_eq_getElem hlt]
    have hlt' : x < ka.length := by rw [hla]; exact hlt
    obtain ⟨k, v, hkv⟩ : ∃ k v, ka[x] = (k, v) := ⟨_, _, rfl⟩
    obtain ⟨hkey, hval⟩ := hpa.get? (i := x) (e := es[x]) (k := k) (v := v) (by rw [Array.getElem?_toList]; exact Array.getElem?_eq_getElem hlt) (by rw [List.getElem?_eq_getElem hlt', hkv])
    obtain ⟨k', hk', hh⟩ := hka es[x] (Array.getElem_mem hlt)
    have ekk : k' = k := knd.inj _ _ _ hk' hkey
    rw [ekk] at hh
    have hturn := t.turn x k v s' hI (by rw [List.getElem?_eq_getElem hlt', hkv])
    show wpAny _ _ (holding [es[x].key, es[x].val] _ >>= _) _ _ _
    rw [hh]
    refine wpAny_bind (wpAny_holding (wpAny_bind (wpAny_dictFind_of hkey (hob' hI) hdb hkb ?_)))
    cases hj : es'.findIdx? fun e => knd.is k e.key with
    | none =>
      have hn : valueAt kb k = none := by rw [← hfind k, findBy_of_findIdx?, hj]
      rcases hturn with ⟨_, hJ⟩ | ⟨y, hy, _⟩
      · refine wpAny_pure ?_
        show wpAny _ _ (if (!false) = true then _ else _) _ _ _
        rw [if_pos (by decide)]
        exact wpAny_pure (wpAny_pure (finF _ hJ))
      · rw [hn] at hy; exact nomatch hy
    | some j =>
      obtain ⟨hjlt, _, _⟩ := Array.findIdx?_eq_some_iff_getElem.mp hj
      have hv' : valueAt kb k = some es'[j].val := by
        rw [← hfind k, findBy_of_findIdx?, hj]
        simp [Array.getElem?_eq_getElem hjlt]
      refine wpAny_bind (wpAny_dictEntries (hob' hI) hdb ?_)
      rw [Array.getElem?_eq_getElem hjlt]
      rcases hturn with ⟨hn, _⟩ | ⟨y, hy, he⟩
      · rw [hv'] at hn; exact nomatch hn
      · have ey : es'[j].val = y := Option.some.inj (hv'.symm.trans hy)
        rw [← ey, ← hval] at he
        refine wpAny_holding (wpAny_mono he (fun r s2 q2 => ?_) fun _ _ x => x)
        rcases q2 with ⟨rfl, hI2⟩ | ⟨rfl, hJ⟩
        · show wpAny _ _ (if (!true) = true then _ else _) _ _ _
          rw [if_neg (by decide)]
          refine wpAny_bind (wpAny_dictEpoch (hoa' hI2) hda ?_)
          rw [if_neg (by simp)]
          exact wpAny_pure ⟨rfl, x + 1, hrest, hlt, hI2⟩
        · show wpAny _ _ (if (!false) = true then _ else _) _ _ _
          rw [if_pos (by decide)]
          exact wpAny_pure (wpAny_pure (finF _ hJ))
  · rintro q s' ⟨rfl, i, hr, hi, hI⟩
    have hin : i = es.size := by
      rcases Nat.lt_or_ge i es.size with h | h
      · have e : es.size - i = (es.size - (i + 1)) + 1 := by omega
        rw [e, List.range'_succ] at hr; exact nomatch hr
      · exact Nat.le_antisymm hi h
    refine wpAny_pure ?_
    rw [hin, ← hla] at hI
    exact fin _ hI
theorem dict_eqB {a b : Addr} {ka kb : List (K × Value)} {I : Nat → Shared → Prop} {J : Shared → Prop} {Q : Value → Shared → Prop} (ha : (a == sysModules) = false) (hb : (b == sysModules) = false)
    (da : s.heap.DictOf knd a ka) (db : s.heap.DictOf knd b kb) (hu : A.units < cLine) (t : DTurn prog w A.in1 E s a b ka kb I J) (hlen : ka.length = kb.length) (fin : ∀ s', I ka.length s' → Q (.bool true) s') (finF : ∀ s', J s' → Q (.bool false) s') (h0 : I 0 s) :
    wpAny (model prog w) A (richCompare .Eq (.ref a) (.ref b)) Q E s := by
  refine wpAny_richCompare_same_room (op := .Eq) da.typeIs db.typeIs PySem.F.slot_dict_eq (wpAny_call_entry PySem.F.slot_dict_eq da.typeIs PySem.F.entry_dict_eq ?_ (PySem.F.args_dict_eq_2 _ _)) hu
  show wpAny _ _ (Builtin.Dict.dictSlotArgs "__eq__" ⟨[.ref a, .ref b], []⟩ >>= _) _ _ s
  refine wpAny_bind ?_
  unfold Builtin.Dict.dictSlotArgs
  refine wpAny_bind (wpAny_notOrdered_dict da.typeIs ?_)
  show wpAny _ _ (pure (Value.ref a, Value.ref b)) _ _ s
  refine wpAny_pure ?_
  refine wpAny_bind (wpAny_isInstance (T := "dict") db.typeIs PySem.F.sub_dict_dict ?_)
  simp only [Bool.not_true, Bool.false_eq_true, if_false]
  refine wpAny_bind (wpAny_pure (wpAny_bind (wpAny_pure ?_)))
  refine wpAny_bind (samePairsB ha hb da db t hlen (fun s' q => ?_) (fun s' q => ?_) h0)
  · exact wpAny_pure ⟨_, rfl, (fun x => nomatch x), by simpa using fin s' q⟩
  · exact wpAny_pure ⟨_, rfl, (fun x => nomatch x), by simpa using finF s' q⟩
theorem dict_neB {a b : Addr} {ka kb : List (K × Value)} {I : Nat → Shared → Prop} {J : Shared → Prop} {Q : Value → Shared → Prop} (ha : (a == sysModules) = false) (hb : (b == sysModules) = false)
    (da : s.heap.DictOf knd a ka) (db : s.heap.DictOf knd b kb) (hu : A.units < cLine) (t : DTurn prog w A.in1 E s a b ka kb I J) (hlen : ka.length = kb.length) (fin : ∀ s', I ka.length s' → Q (.bool false) s') (finF : ∀ s', J s' → Q (.bool true) s') (h0 : I 0 s) :
    wpAny (model prog w) A (richCompare .NotEq (.ref a) (.ref b)) Q E s := by
  refine wpAny_richCompare_same_room (op := .NotEq) da.typeIs db.typeIs PySem.F.slot_dict_ne (wpAny_call_entry PySem.F.slot_dict_ne da.typeIs PySem.F.entry_dict_ne ?_ (PySem.F.args_dict_ne_2 _ _)) hu
  show wpAny _ _ (Builtin.Dict.dictSlotArgs "__ne__" ⟨[.ref a, .ref b], []⟩ >>= _) _ _ s
  refine wpAny_bind ?_
  unfold Builtin.Dict.dictSlotArgs
  refine wpAny_bind (wpAny_notOrdered_dict da.typeIs ?_)
  show wpAny _ _ (pure (Value.ref a, Value.ref b)) _ _ s
  refine wpAny_pure ?_
  refine wpAny_bind (wpAny_isInstance (T := "dict") db.typeIs PySem.F.sub_dict_dict ?_)
  simp only [Bool.not_true, Bool.false_eq_true, if_false]
  refine wpAny_bind (wpAny_pure (wpAny_bind (wpAny_pure ?_)))
  refine wpAny_bind (samePairsB ha hb da db t hlen (fun s' q => ?_) (fun s' q => ?_) h0)
  · exact wpAny_pure ⟨_, rfl, (fun x => nomatch x), by simpa using fin s' q⟩
  · exact wpAny_pure ⟨_, rfl, (fun x => nomatch x), by simpa using finF s' q⟩
end
end PySem.W
/-! the same of dicts with tuples as keys -/
namespace PySem.W
open Lean Elab Tactic Meta PySem PySem.Calls PyProof.Rows PyProof.V PySem.Spec
section
variable {prog : Program} {w : World} {K : Type} [DecidableEq K] {knd : HeapKind prog w K} {A : Around} {E : Value → Shared → Prop} {s : Shared}
structure HTurn (prog : Program) (w : World) {K : Type} [DecidableEq K] (knd : HeapKind prog w K) (A : Around) (E : Value → Shared → Prop) (s : Shared) (a b : Addr) (xa xb : List (K × Addr × Value)) (I : Nat → Shared → Prop) (J : Shared → Prop) : Prop where
  keep : ∀ i s', I i s' → s'.heap.get? a = s.heap.get? a ∧ s'.heap.get? b = s.heap.get? b ∧ (∀ x ∈ xa, knd.is s'.heap x.1 x.2.1) ∧ ∀ x ∈ xb, knd.is s'.heap x.1 x.2.1
  turn : ∀ i k p v s', I i s' → xa[i]? = some (k, p, v) → (atKey xb k = none ∧ J s') ∨ ∃ q y, atKey xb k = some (q, y) ∧ wpAny (model prog w) A (eqBool v y) (fun r s2 => (r = true ∧ I (i + 1) s2) ∨ (r = false ∧ J s2)) E s'
theorem samePairsH {nm : String} {a b : Addr} {xa xb : List (K × Addr × Value)} {Q : Bool → Shared → Prop} {I : Nat → Shared → Prop} {J : Shared → Prop} (hu : knd.room A) (ha : (a == sysModules) = false) (hb : (b == sysModules) = false)
    (da : s.heap.DictOfH knd a xa) (db : s.heap.DictOfH knd b xb) (t : HTurn prog w knd A E s a b xa xb I J) (hlen : xa.length = xb.length) (fin : ∀ s', I xa.length s' → Q true s') (finF : ∀ s', J s' → Q false s') (h0 : I 0 s) :
    wpAny (model prog w) A (Builtin.Dict.samePairs nm a b) Q E s := by
  obtain ⟨oa, es, ep, hoa, _, hda, hea, _, hna⟩ := da
  obtain ⟨ob, es', ep', hob, _, hdb, heb, _, hnb⟩ := db
  have hla : es.size = xa.length := by rw [← Array.length_toList, hea, List.length_map]
  have hlb : es'.size = xb.length := by rw [← Array.length_toList, heb, List.length_map]
  have hsz : es.size = es'.size := by rw [hla, hlb, hlen]
  have hoa' : ∀ {i s'}, I i s' → s'.heap.get? a = some oa := fun hi => by rw [(t.keep _ _ hi).1, hoa]
  have hob' : ∀ {i s'}, I i s' → s'.heap.get? b = some ob := fun hi => by rw [(t.keep _ _ hi).2.1, hob]
  unfold Builtin.Dict.samePairs Builtin.Dict.showsAll
  rw [if_neg (show ¬ (a == sysModules) = true by rw [ha]; exact Bool.false_ne_true), if_neg (show ¬ (b == sysModules) = true by rw [hb]; exact Bool.false_ne_true)]
  refine wpAny_bind (wpAny_pure (wpAny_bind (wpAny_pure ?_)))
  refine wpAny_bind (wpAny_dictEntries hoa hda ?_)
  dsimp only
  refine wpAny_bind (wpAny_dictEntries hob hdb ?_)
  rw [if_neg (by rw [hsz]; simp)]
  refine wpAny_bind (wpAny_dictEpoch hoa hda ?_)
  refine wpAny_bind ?_
  rw [Std.Legacy.Range.forIn_eq_forIn_range']
  simp only [Std.Legacy.Range.size, Nat.sub_zero, Nat.add_sub_cancel, Nat.div_one]
  refine wpAny_forIn_list _
    (fun rest q s' => q = (none, ()) ∧ ∃ i, rest = List.range' i (es.size - i) ∧ i ≤ es.size ∧ I i s')
    _ ?_ ?_ _ _ ⟨rfl, 0, by simp, Nat.zero_le _, h0⟩
  · rintro x rest q s' ⟨rfl, i, hr, hi, hI⟩
    have hlt : i < es.size := by
      rcases Nat.lt_or_ge i es.size with h | h
      · exact h
      · rw [Nat.sub_eq_zero_of_le h] at hr; simp at hr
    obtain ⟨rfl, hrest⟩ : x = i ∧ rest = List.range' (i + 1) (es.size - (i + 1)) := by
      have e : es.size - i = (es.size - (i + 1)) + 1 := by omega
      rw [e, List.range'_succ] at hr
      injection hr with h1 h2
      exact ⟨h1, h2⟩
    refine wpAny_bind (wpAny_dictEntries (hoa' hI) hda ?_)
    rw [Array.getElem?_eq_getElem hlt]
    have hlt' : x < xa.length := by rw [← hla]; exact hlt
    obtain ⟨k, p, v, hkv⟩ : ∃ k p v, xa[x] = (k, p, v) := ⟨_, _, _, rfl⟩
    have hge : es[x] = entryOfKey knd (k, p, v) := by
      have h1 : es.toList[x]? = (xa.map (entryOfKey knd))[x]? := by rw [hea]
      rw [Array.getElem?_toList, Array.getElem?_eq_getElem hlt, List.getElem?_map, List.getElem?_eq_getElem hlt', hkv] at h1
      exact Option.some.inj h1
    obtain ⟨_, _, hisa, hisb⟩ := t.keep _ _ hI
    have hmem : (k, p, v) ∈ xa := by rw [← hkv]; exact List.getElem_mem hlt'
    have hkey : knd.is s'.heap k p := hisa _ hmem
    have hturn := t.turn x k p v s' hI (by rw [List.getElem?_eq_getElem hlt', hkv])
    show wpAny _ _ (holding [es[x].key, es[x].val] _ >>= _) _ _ _
    rw [hge]
    refine wpAny_bind (wpAny_holding (wpAny_bind (wpAny_dictFind_heap (xs := xb) hu hkey (hob' hI) hdb heb hisb hnb (fun hno => ?_) (fun j q hj => ?_))))
    · have hn := atKey_none_of_get hno
      rcases hturn with ⟨_, hJ⟩ | ⟨q, y, hy, _⟩
      · refine wpAny_pure ?_
        show wpAny _ _ (if (!false) = true then _ else _) _ _ _
        rw [if_pos (by decide)]
        exact wpAny_pure (wpAny_pure (finF _ hJ))
      · rw [hn] at hy; exact nomatch hy
    · have hat := atKey_of_get hnb hj
      have hjlt : j < es'.size := by
        rw [hlb]
        exact (List.getElem?_eq_some_iff.mp hj).1
      have hge' : es'[j] = entryOfKey knd (k, q) := by
        have h1 : es'.toList[j]? = (xb.map (entryOfKey knd))[j]? := by rw [heb]
        rw [Array.getElem?_toList, Array.getElem?_eq_getElem hjlt, List.getElem?_map, hj] at h1
        exact Option.some.inj h1
      refine wpAny_bind (wpAny_dictEntries (hob' hI) hdb ?_)
      rw [Array.getElem?_eq_getElem hjlt]
      rcases hturn with ⟨hn, _⟩ | ⟨q', y, hy, he⟩
      · rw [hat] at hn; exact nomatch hn
      · have eq' : q = (q', y) := Option.some.inj (hat.symm.trans hy)
        subst eq'
        show wpAny _ _ (holding [es'[j].val] (eqBool v es'[j].val)) _ _ _
        rw [hge']
        refine wpAny_holding (wpAny_mono he (fun r s2 q2 => ?_) fun _ _ x => x)
        rcases q2 with ⟨rfl, hI2⟩ | ⟨rfl, hJ⟩
        · show wpAny _ _ (if (!true) = true then _ else _) _ _ _
          rw [if_neg (by decide)]
          refine wpAny_bind (wpAny_dictEpoch (hoa' hI2) hda ?_)
          rw [if_neg (by simp)]
          exact wpAny_pure ⟨rfl, x + 1, hrest, hlt, hI2⟩
        · show wpAny _ _ (if (!false) = true then _ else _) _ _ _
          rw [if_pos (by decide)]
          exact wpAny_pure (wpAny_pure (finF _ hJ))
  · rintro q s' ⟨rfl, i, hr, hi, hI⟩
    have hin : i = es.size := by
      rcases Nat.lt_or_ge i es.size with h | h
      · have e : es.size - i = (es.size - (i + 1)) + 1 := by omega
        rw [e, List.range'_succ] at hr; exact nomatch hr
      · exact Nat.le_antisymm hi h
    refine wpAny_pure ?_
    rw [hin, hla] at hI
    exact fin _ hI
/-- sizes differ -/
theorem samePairsN {nm : String} {a b : Addr} {oa ob : Obj} {es es' : Array DictEntry} {ep ep' : Nat} {Q : Bool → Shared → Prop} (ha : (a == sysModules) = false) (hb : (b == sysModules) = false) (hoa : s.heap.get? a = some oa) (hda : oa.data = .dict es ep) (hob : s.heap.get? b = some ob) (hdb : ob.data = .dict es' ep') (hsz : es.size ≠ es'.size) (h : Q false s) :
    wpAny (model prog w) A (Builtin.Dict.samePairs nm a b) Q E s := by
  unfold Builtin.Dict.samePairs Builtin.Dict.showsAll
  rw [if_neg (show ¬ (a == sysModules) = true by rw [ha]; exact Bool.false_ne_true), if_neg (show ¬ (b == sysModules) = true by rw [hb]; exact Bool.false_ne_true)]
  refine wpAny_bind (wpAny_pure (wpAny_bind (wpAny_pure ?_)))
  refine wpAny_bind (wpAny_dictEntries hoa hda ?_)
  dsimp only
  refine wpAny_bind (wpAny_dictEntries hob hdb ?_)
  rw [if_pos (by simpa using hsz)]
  exact wpAny_bind (wpAny_rule (wpAny_pure h))
/-- a == b, a != b of two dicts, by their pairs -/
theorem dict_rc {a b : Addr} {Q : Value → Shared → Prop} (ta : s.TypeIs (.ref a) "dict") (tb : s.TypeIs (.ref b) "dict") (hu : A.units < cLine) (h : ∀ nm, wpAny (model prog w) A.in1 (Builtin.Dict.samePairs nm a b) (fun r s' => Q (.bool r) s') E s) :
    wpAny (model prog w) A (richCompare .Eq (.ref a) (.ref b)) Q E s := by
  refine wpAny_richCompare_same_room (op := .Eq) ta tb PySem.F.slot_dict_eq (wpAny_call_entry PySem.F.slot_dict_eq ta PySem.F.entry_dict_eq ?_ (PySem.F.args_dict_eq_2 _ _)) hu
  show wpAny _ _ (Builtin.Dict.dictSlotArgs "__eq__" ⟨[.ref a, .ref b], []⟩ >>= _) _ _ s
  refine wpAny_bind ?_
  unfold Builtin.Dict.dictSlotArgs
  refine wpAny_bind (wpAny_notOrdered_dict ta ?_)
  show wpAny _ _ (pure (Value.ref a, Value.ref b)) _ _ s
  refine wpAny_pure ?_
  refine wpAny_bind (wpAny_isInstance (T := "dict") tb PySem.F.sub_dict_dict ?_)
  simp only [Bool.not_true, Bool.false_eq_true, if_false]
  refine wpAny_bind (wpAny_pure (wpAny_bind (wpAny_pure ?_)))
  refine wpAny_bind (wpAny_mono (h _) (fun r s' q => ?_) fun _ _ x => x)
  exact wpAny_pure ⟨_, rfl, (fun x => nomatch x), by simpa using q⟩
theorem dict_rn {a b : Addr} {Q : Value → Shared → Prop} (ta : s.TypeIs (.ref a) "dict") (tb : s.TypeIs (.ref b) "dict") (hu : A.units < cLine) (h : ∀ nm, wpAny (model prog w) A.in1 (Builtin.Dict.samePairs nm a b) (fun r s' => Q (.bool (!r)) s') E s) :
    wpAny (model prog w) A (richCompare .NotEq (.ref a) (.ref b)) Q E s := by
  refine wpAny_richCompare_same_room (op := .NotEq) ta tb PySem.F.slot_dict_ne (wpAny_call_entry PySem.F.slot_dict_ne ta PySem.F.entry_dict_ne ?_ (PySem.F.args_dict_ne_2 _ _)) hu
  show wpAny _ _ (Builtin.Dict.dictSlotArgs "__ne__" ⟨[.ref a, .ref b], []⟩ >>= _) _ _ s
  refine wpAny_bind ?_
  unfold Builtin.Dict.dictSlotArgs
  refine wpAny_bind (wpAny_notOrdered_dict ta ?_)
  show wpAny _ _ (pure (Value.ref a, Value.ref b)) _ _ s
  refine wpAny_pure ?_
  refine wpAny_bind (wpAny_isInstance (T := "dict") tb PySem.F.sub_dict_dict ?_)
  simp only [Bool.not_true, Bool.false_eq_true, if_false]
  refine wpAny_bind (wpAny_pure (wpAny_bind (wpAny_pure ?_)))
  refine wpAny_bind (wpAny_mono (h _) (fun r s' q => ?_) fun _ _ x => x)
  refine wpAny_pure ⟨_, rfl, (fun x => nomatch x), ?_⟩
  cases r <;> simpa using q
end
end PySem.W
/-! == of data, own classes by their own __eq__ -/
namespace DL
open PySem L2
/-! the same data, class numbers aside -/
mutual
def sameD : D → D → Bool
  | .non, .non => true
  | .bl a, .bl b => a == b
  | .int a, .int b => decide (a = b)
  | .str a, .str b => decide (a = b)
  | .lst xs, .lst ys => sameDs xs ys
  | .tup xs, .tup ys => sameDs xs ys
  | .dK ks xs, .dK ls ys => decide (ks = ls) && sameDs xs ys
  | .dT ks xs, .dT ls ys => decide (ks = ls) && sameDs xs ys
  | .obj _ xs, .obj _ ys => sameDs xs ys
  | .scr _, _ => true
  | _, .scr _ => true
  | _, _ => false
def sameDs : List D → List D → Bool
  | [], [] => true
  | x :: xs, y :: ys => sameD x y && sameDs xs ys
  | _, _ => false
end
theorem zip_inj {α β : Type} : ∀ {ks : List α} {ls : List α} {vs ws : List β}, ks.length = vs.length → ls.length = ws.length → ks.zip vs = ls.zip ws → ks = ls ∧ vs = ws
  | [], [], [], [], _, _, _ => ⟨rfl, rfl⟩
  | k :: ks, l :: ls, v :: vs, w :: ws, h1, h2, e => by
    simp only [List.zip_cons_cons, List.cons.injEq, Prod.mk.injEq] at e
    obtain ⟨r1, r2⟩ := zip_inj (by simpa using h1) (by simpa using h2) e.2
    rw [e.1.1, e.1.2, r1, r2]
    exact ⟨rfl, rfl⟩
  | [], _ :: _, [], _ :: _, _, _, e => by simp at e
  | _ :: _, [], _ :: _, [], _, _, e => by simp at e
  | [], _, _ :: _, _, h, _, _ => by simp at h
  | _ :: _, _, [], _, h, _, _ => by simp at h
  | _, [], _, _ :: _, _, h, _ => by simp at h
  | _, _ :: _, _, [], _, h, _ => by simp at h
theorem zip_inj2 {α β : Type} : ∀ {ks : List α} {ls : List α} {vs ws : List β}, vs.length ≤ ks.length → ws.length ≤ ls.length → ks.zip vs = ls.zip ws → vs = ws
  | _, _, [], [], _, _, _ => rfl
  | k :: ks, l :: ls, v :: vs, w :: ws, h1, h2, e => by
    simp only [List.zip_cons_cons, List.cons.injEq, Prod.mk.injEq] at e
    have r := zip_inj2 (by simpa using h1) (by simpa using h2) e.2
    rw [e.1.2, r]
  | [], _, _ :: _, _, h, _, _ => by simp at h
  | _, [], _, _ :: _, _, h, _ => by simp at h
  | _ :: _, _ :: _, [], _ :: _, _, _, e => by simp at e
  | _ :: _, _ :: _, _ :: _, [], _, _, e => by simp at e
  | [], _ :: _, [], _ :: _, _, _, e => by simp at e
  | _ :: _, [], _ :: _, [], _, _, e => by simp at e
section
variable {P : Pm} {F H : Hp}
theorem rd_uniq {a : Addr} {u v : HO} (hu : ∀ o w, u ≠ .frz o w) (hv : ∀ o w, v ≠ .frz o w) (h1 : Rd F a u) (h2 : Rd F a v) : u = v := by
  rcases h1 with h1 | ⟨o, h1⟩ <;> rcases h2 with h2 | ⟨o', h2⟩
  · exact Option.some.inj (h1.symm.trans h2)
  · have := Option.some.inj (h1.symm.trans h2)
    exact (hu _ _ this).elim
  · have := Option.some.inj (h1.symm.trans h2)
    exact (hv _ _ this.symm).elim
  · have := Option.some.inj (h1.symm.trans h2)
    injection this
def Shp (P : Pm) (F : Hp) (d : D) (u : HO) : Prop := match d with
  | .lst xs => ∃ vs, u = .lst vs ∧ IsL P F xs vs
  | .tup xs => ∃ vs, u = .tup vs ∧ IsL P F xs vs
  | .dK ks xs => ∃ vs, u = .dK (ks.zip vs) ∧ ks.length = vs.length ∧ IsL P F xs vs
  | .dT ks xs => ∃ vs, u = .dT (ks.zip vs) ∧ ks.length = vs.length ∧ IsL P F xs vs
  | .obj c xs => ∃ dx vs, u = .ins (P.C c) dx ((P.nm c).zip vs) ∧ vs.length ≤ (P.nm c).length ∧ IsL P F xs vs
  | _ => False
def flatD : D → Option V
  | .non => some .non
  | .bl b => some (.bl b)
  | .int i => some (.int i)
  | .str s => some (.str s)
  | _ => none
def isScr : D → Bool
  | .scr _ => true
  | _ => false
theorem is_cases {d : D} {v : V} (h : Is P F d v) : (flatD d = some v) ∨ (∃ a u, v = .ref a ∧ Rd F a u ∧ (∀ o w, u ≠ .frz o w) ∧ Shp P F d u) ∨ isScr d = true := by
  cases d with
  | non => rw [Is] at h; subst h; exact .inl rfl
  | bl b => rw [Is] at h; subst h; exact .inl rfl
  | int i => rw [Is] at h; subst h; exact .inl rfl
  | str s => rw [Is] at h; subst h; exact .inl rfl
  | lst xs =>
    rw [Is] at h
    obtain ⟨a, vs, h1, h2, h3⟩ := h
    exact .inr (.inl ⟨a, .lst vs, h1, h2, (fun _ _ z => by cases z), vs, rfl, h3⟩)
  | tup xs =>
    rw [Is] at h
    obtain ⟨a, vs, h1, h2, h3⟩ := h
    exact .inr (.inl ⟨a, .tup vs, h1, .inl h2, (fun _ _ z => by cases z), vs, rfl, h3⟩)
  | dK ks xs =>
    rw [Is] at h
    obtain ⟨a, o, vs, h1, h2, h3, h4⟩ := h
    exact .inr (.inl ⟨a, .dK (ks.zip vs), h1, .inr ⟨o, h2⟩, (fun _ _ z => by cases z), vs, rfl, h3, h4⟩)
  | dT ks xs =>
    rw [Is] at h
    obtain ⟨a, o, vs, h1, h2, h3, h4⟩ := h
    exact .inr (.inl ⟨a, .dT (ks.zip vs), h1, .inr ⟨o, h2⟩, (fun _ _ z => by cases z), vs, rfl, h3, h4⟩)
  | obj c xs =>
    rw [Is] at h
    obtain ⟨a, dx, vs, h1, h2, h3, h4⟩ := h
    exact .inr (.inl ⟨a, _, h1, .inl h2, (fun _ _ z => by cases z), dx, vs, rfl, h3, h4⟩)
  | scr ns => exact .inr (.inr rfl)
theorem flat_same : ∀ {d d' : D} {v : V}, flatD d = some v → flatD d' = some v → sameD d d' = true := by
  intro d d' v h h'
  cases d <;> cases h <;> cases d' <;> cases h' <;> simp [sameD]
theorem same_scr {d d' : D} (h : isScr d = true ∨ isScr d' = true) : sameD d d' = true := by
  rcases h with h | h
  · cases d <;> cases h
    cases d' <;> simp [sameD]
  · cases d' <;> cases h
    cases d <;> simp [sameD]
theorem flat_ref {d : D} {a : Addr} (h : flatD d = some (.ref a)) : False := by
  cases d <;> cases h
theorem nil_uniq {es : List D} {vs : List V} (h : IsL P F [] vs) (h' : IsL P F es vs) : sameDs [] es = true := by
  rw [IsL] at h
  subst h
  cases es with
  | nil => rw [sameDs]
  | cons e es =>
    rw [IsL] at h'
    obtain ⟨_, _, h, _⟩ := h'
    cases h
def kids : D → List D
  | .lst xs => xs
  | .tup xs => xs
  | .dK _ xs => xs
  | .dT _ xs => xs
  | .obj _ xs => xs
  | _ => []
theorem shp_core : ∀ (d : D) {d' : D} {u : HO}, (∀ {es : List D} {vs : List V}, IsL P F (kids d) vs → IsL P F es vs → sameDs (kids d) es = true) → Shp P F d u → Shp P F d' u → sameD d d' = true
  | .lst xs, d', u, ih, h, h' => by
    obtain ⟨vs, rfl, i⟩ := h
    cases d' with
    | lst ys =>
      obtain ⟨ws, e, j⟩ := h'
      cases e
      rw [sameD]
      exact ih i j
    | tup ys => obtain ⟨ws, e, j⟩ := h'; cases e
    | dK ls ys => obtain ⟨ws, e, j⟩ := h'; cases e
    | dT ls ys => obtain ⟨ws, e, j⟩ := h'; cases e
    | obj c ys => obtain ⟨dx, ws, e, j⟩ := h'; cases e
    | _ => exact h'.elim
  | .tup xs, d', u, ih, h, h' => by
    obtain ⟨vs, rfl, i⟩ := h
    cases d' with
    | tup ys =>
      obtain ⟨ws, e, j⟩ := h'
      cases e
      rw [sameD]
      exact ih i j
    | lst ys => obtain ⟨ws, e, j⟩ := h'; cases e
    | dK ls ys => obtain ⟨ws, e, j⟩ := h'; cases e
    | dT ls ys => obtain ⟨ws, e, j⟩ := h'; cases e
    | obj c ys => obtain ⟨dx, ws, e, j⟩ := h'; cases e
    | _ => exact h'.elim
  | .dK ks xs, d', u, ih, h, h' => by
    obtain ⟨vs, rfl, l, i⟩ := h
    cases d' with
    | dK ls ys =>
      obtain ⟨ws, e, l', j⟩ := h'
      injection e with e
      obtain ⟨e1, e2⟩ := zip_inj l l' e
      subst e1 e2
      rw [sameD, show sameDs xs ys = true from ih i j]
      simp
    | lst ys => obtain ⟨ws, e, j⟩ := h'; cases e
    | tup ys => obtain ⟨ws, e, j⟩ := h'; cases e
    | dT ls ys => obtain ⟨ws, e, j⟩ := h'; cases e
    | obj c ys => obtain ⟨dx, ws, e, j⟩ := h'; cases e
    | _ => exact h'.elim
  | .dT ks xs, d', u, ih, h, h' => by
    obtain ⟨vs, rfl, l, i⟩ := h
    cases d' with
    | dT ls ys =>
      obtain ⟨ws, e, l', j⟩ := h'
      injection e with e
      obtain ⟨e1, e2⟩ := zip_inj l l' e
      subst e1 e2
      rw [sameD, show sameDs xs ys = true from ih i j]
      simp
    | lst ys => obtain ⟨ws, e, j⟩ := h'; cases e
    | tup ys => obtain ⟨ws, e, j⟩ := h'; cases e
    | dK ls ys => obtain ⟨ws, e, j⟩ := h'; cases e
    | obj c ys => obtain ⟨dx, ws, e, j⟩ := h'; cases e
    | _ => exact h'.elim
  | .obj c xs, d', u, ih, h, h' => by
    obtain ⟨dx, vs, rfl, l, i⟩ := h
    cases d' with
    | obj c' ys =>
      obtain ⟨dx', ws, e, l', j⟩ := h'
      injection e with _ _ e
      have e2 := zip_inj2 l l' e
      subst e2
      rw [sameD]
      exact ih i j
    | lst ys => obtain ⟨ws, e, j⟩ := h'; cases e
    | tup ys => obtain ⟨ws, e, j⟩ := h'; cases e
    | dK ls ys => obtain ⟨ws, e, j⟩ := h'; cases e
    | dT ls ys => obtain ⟨ws, e, j⟩ := h'; cases e
    | _ => exact h'.elim
  | .non, _, _, _, h, _ => h.elim
  | .bl _, _, _, _, h, _ => h.elim
  | .int _, _, _, _, h, _ => h.elim
  | .str _, _, _, _, h, _ => h.elim
  | .scr _, _, _, _, h, _ => h.elim
theorem is_core (d : D) {d' : D} {v : V} (ih : ∀ {es : List D} {vs : List V}, IsL P F (kids d) vs → IsL P F es vs → sameDs (kids d) es = true) (h : Is P F d v) (h' : Is P F d' v) : sameD d d' = true := by
    rcases is_cases h with c | c | c
    · rcases is_cases h' with c' | c' | c'
      · exact flat_same c c'
      · obtain ⟨a, u, rfl, _⟩ := c'
        exact (flat_ref c).elim
      · exact same_scr (.inr c')
    · rcases is_cases h' with c' | c' | c'
      · obtain ⟨a, u, rfl, _⟩ := c
        exact (flat_ref c').elim
      · obtain ⟨a, u, rfl, r1, n1, s1⟩ := c
        obtain ⟨a', u', e, r2, n2, s2⟩ := c'
        cases e
        have eu := rd_uniq n1 n2 r1 r2
        subst eu
        exact shp_core d ih s1 s2
      · exact same_scr (.inr c')
    · exact same_scr (.inl c)
mutual
theorem is_uniq : ∀ (d : D) {d' : D} {v : V}, Is P F d v → Is P F d' v → sameD d d' = true
  | .lst xs, _, _, h, h' => is_core (.lst xs) (fun i j => isL_uniq xs i j) h h'
  | .tup xs, _, _, h, h' => is_core (.tup xs) (fun i j => isL_uniq xs i j) h h'
  | .dK ks xs, _, _, h, h' => is_core (.dK ks xs) (fun i j => isL_uniq xs i j) h h'
  | .dT ks xs, _, _, h, h' => is_core (.dT ks xs) (fun i j => isL_uniq xs i j) h h'
  | .obj c xs, _, _, h, h' => is_core (.obj c xs) (fun i j => isL_uniq xs i j) h h'
  | .non, _, _, h, h' => is_core .non (fun i j => nil_uniq i j) h h'
  | .bl b, _, _, h, h' => is_core (.bl b) (fun i j => nil_uniq i j) h h'
  | .int b, _, _, h, h' => is_core (.int b) (fun i j => nil_uniq i j) h h'
  | .str b, _, _, h, h' => is_core (.str b) (fun i j => nil_uniq i j) h h'
  | .scr b, _, _, h, h' => is_core (.scr b) (fun i j => nil_uniq i j) h h'
theorem isL_uniq : ∀ (ds : List D) {es : List D} {vs : List V}, IsL P F ds vs → IsL P F es vs → sameDs ds es = true
  | [], es, vs, h, h' => by
    rw [IsL] at h
    subst h
    cases es with
    | nil => rw [sameDs]
    | cons e es =>
      rw [IsL] at h'
      obtain ⟨_, _, h, _⟩ := h'
      cases h
  | d :: ds, es, vs, h, h' => by
    rw [IsL] at h
    obtain ⟨v, r, rfl, h1, h2⟩ := h
    cases es with
    | nil =>
      rw [IsL] at h'
      cases h'
    | cons e es =>
      rw [IsL] at h'
      obtain ⟨v', r', h, h3, h4⟩ := h'
      cases h
      rw [sameDs, is_uniq d h1 h3, isL_uniq ds h2 h4]
      rfl
end
end
/-! ### the comparison -/
def eqOs (f : D → D → Option Bool) : List D → List (Option D) → Option Bool
  | [], _ => some true
  | _ :: _, none :: _ => some false
  | x :: xs, some y :: r => (f x y).bind fun b => if b = true then eqOs f xs r else some false
  | _ :: _, [] => none
/-- an own __eq__ -/
def ownE (GE : Nat → Option (List D → Res D)) (c : Nat) (x y : D) : Option Bool := (GE c).bind fun g => match g [x, y] with
  | .ok (.bl true) => some true
  | .ok (.bl false) => if sameD x y = true then none else some false
  | _ => none
def eqB (GE : Nat → Option (List D → Res D)) : D → D → Option Bool
  | .obj c xs, y => if isScr y = true then none else ownE GE c (.obj c xs) y
  | .int i, .obj c ys => ownE GE c (.obj c ys) (.int i)
  | x, y => eqP x y
def eqDi {κ : Type} [DecidableEq κ] (f : D → D → Option Bool) (ks : List κ) (xs : List D) (ls : List κ) (ys : List D) : Option Bool :=
  if ks.Nodup ∧ ks.length = xs.length ∧ ls.length = ys.length then (if ks.length = ls.length then eqOs f xs (ks.map (valD ls ys)) else some false) else none
def eqC (f : D → D → Option Bool) : D → D → Option Bool
  | .lst xs, .lst ys => if xs.length = ys.length then eqOs f xs (ys.map some) else some false
  | .tup xs, .tup ys => if xs.length = ys.length then eqOs f xs (ys.map some) else none
  | .dT ks xs, .dT ls ys => eqDi f ks xs ls ys
  | .dK ks xs, .dK ls ys => eqDi f ks xs ls ys
  | _, _ => none
def orE (a b : Option Bool) : Option Bool := match a with
  | some x => some x
  | none => b
def eqX (GE : Nat → Option (List D → Res D)) : Nat → D → D → Option Bool
  | 0, x, y => eqB GE x y
  | m + 1, x, y => orE (eqB GE x y) (eqC (eqX GE m) x y)
theorem eqX_s (GE : Nat → Option (List D → Res D)) (m : Nat) (x y : D) : eqX GE (m + 1) x y = orE (eqB GE x y) (eqC (eqX GE m) x y) := rfl
end DL
namespace DL
open PySem L2
mutual
theorem pd_same : ∀ (x : D) {y : D} {p q : PyData}, sameD x y = true → toPD x = some p → toPD y = some q → PyData.eqv p q = true
  | .non, y, p, q, h, h1, h2 => by
    cases y <;> first | (cases h; done) | skip
    · cases h1; cases h2; rfl
    · cases h2
  | .bl b, y, p, q, h, h1, h2 => by
    cases y <;> first | (cases h; done) | skip
    · cases h1; cases h2; rw [sameD] at h; rw [PyData.eqv]; exact h
    · cases h2
  | .int b, y, p, q, h, h1, h2 => by
    cases y <;> first | (cases h; done) | skip
    · cases h1; cases h2; rw [sameD] at h; rw [PyData.eqv]; simpa using h
    · cases h2
  | .str b, y, p, q, h, h1, h2 => by
    cases y <;> first | (cases h; done) | skip
    · cases h1; cases h2; rw [sameD] at h; rw [PyData.eqv]; simpa using h
    · cases h2
  | .lst xs, y, p, q, h, h1, h2 => by
    cases y with
    | scr _ => cases h2
    | lst ys =>
      rw [toPD] at h1 h2
      cases e1 : toPDs xs with
      | none => rw [e1] at h1; cases h1
      | some ps =>
        cases e2 : toPDs ys with
        | none => rw [e2] at h2; cases h2
        | some qs =>
          rw [e1] at h1
          rw [e2] at h2
          cases h1
          cases h2
          rw [sameD] at h
          rw [PyData.eqv]
          exact pds_same xs h e1 e2
    | _ => simp [sameD] at h
  | .tup xs, y, p, q, h, h1, h2 => by
    cases y with
    | scr _ => cases h2
    | tup ys =>
      rw [toPD] at h1 h2
      cases e1 : toPDs xs with
      | none => rw [e1] at h1; cases h1
      | some ps =>
        cases e2 : toPDs ys with
        | none => rw [e2] at h2; cases h2
        | some qs =>
          rw [e1] at h1
          rw [e2] at h2
          cases h1
          cases h2
          rw [sameD] at h
          rw [PyData.eqv]
          exact pds_same xs h e1 e2
    | _ => simp [sameD] at h
  | .dK _ _, _, _, _, _, h1, _ => by cases h1
  | .dT _ _, _, _, _, _, h1, _ => by cases h1
  | .obj _ _, _, _, _, _, h1, _ => by cases h1
  | .scr _, _, _, _, _, h1, _ => by cases h1
theorem pds_same : ∀ (xs : List D) {ys : List D} {ps qs : List PyData}, sameDs xs ys = true → toPDs xs = some ps → toPDs ys = some qs → PyData.eqvAll ps qs = true
  | [], ys, ps, qs, h, h1, h2 => by
    cases ys with
    | nil => cases h1; cases h2; rfl
    | cons _ _ => cases h
  | x :: xs, ys, ps, qs, h, h1, h2 => by
    cases ys with
    | nil => cases h
    | cons y ys =>
      rw [sameDs, Bool.and_eq_true] at h
      rw [toPDs] at h1 h2
      cases e1 : toPD x with
      | none => rw [e1] at h1; cases h1
      | some p =>
        cases e2 : toPD y with
        | none => rw [e2] at h2; cases h2
        | some q =>
          cases e3 : toPDs xs with
          | none => rw [e1, e3] at h1; cases h1
          | some ps' =>
            cases e4 : toPDs ys with
            | none => rw [e2, e4] at h2; cases h2
            | some qs' =>
              rw [e1, e3] at h1
              rw [e2, e4] at h2
              cases h1
              cases h2
              rw [PyData.eqvAll, pd_same x h.1 e1 e2, pds_same xs h.2 e3 e4]
              rfl
end
theorem eqP_same {x y : D} {b : Bool} (h : eqP x y = some b) (hs : sameD x y = true) : b = true := by
  obtain ⟨p, q, h1, h2, h3, h4, rfl⟩ := eqP_of h
  exact pd_same x hs h1 h2
variable {GE : Nat → Option (List D → Res D)}
theorem ownE_same {c : Nat} {x y : D} {b : Bool} (h : ownE GE c x y = some b) (hs : sameD x y = true) : b = true := by
  unfold ownE at h
  cases hg : GE c with
  | none => rw [hg] at h; cases h
  | some g =>
    rw [hg, Option.bind_some] at h
    split at h
    · cases h; rfl
    · rw [if_pos hs] at h; cases h
    · cases h
theorem eqB_same {x y : D} {b : Bool} (h : eqB GE x y = some b) (hs : sameD x y = true) : b = true := by
  unfold eqB at h
  split at h
  · split at h
    · cases h
    · exact ownE_same h hs
  · simp [sameD] at hs
  · exact eqP_same h hs
theorem sameDs_len : ∀ {xs ys : List D}, sameDs xs ys = true → xs.length = ys.length
  | [], [], _ => rfl
  | [], _ :: _, h => by cases h
  | _ :: _, [], h => by cases h
  | x :: xs, y :: ys, h => by
    rw [sameDs, Bool.and_eq_true] at h
    simp [sameDs_len h.2]
theorem sameDs_get : ∀ {xs ys : List D} {i : Nat} {x y : D}, sameDs xs ys = true → xs[i]? = some x → ys[i]? = some y → sameD x y = true
  | [], _, i, x, y, _, h, _ => by simp at h
  | _ :: _, [], i, x, y, h, _, _ => by cases h
  | a :: xs, b :: ys, 0, x, y, h, h1, h2 => by
    rw [sameDs, Bool.and_eq_true] at h
    simp at h1 h2
    rw [← h1, ← h2]
    exact h.1
  | a :: xs, b :: ys, i + 1, x, y, h, h1, h2 => by
    rw [sameDs, Bool.and_eq_true] at h
    exact sameDs_get h.2 (by simpa using h1) (by simpa using h2)
theorem eqOs_same {f : D → D → Option Bool} (hf : ∀ x y b, f x y = some b → sameD x y = true → b = true) : ∀ {xs : List D} {os : List (Option D)} {b : Bool}, eqOs f xs os = some b → xs.length = os.length → (∀ (i : Nat) x o, xs[i]? = some x → os[i]? = some o → ∃ y, o = some y ∧ sameD x y = true) → b = true
  | [], _, b, h, _, _ => by cases h; rfl
  | x :: xs, [], b, h, hl, _ => by simp at hl
  | x :: xs, o :: os, b, h, hl, hs => by
    obtain ⟨y, rfl, h1⟩ := hs 0 x o rfl rfl
    rw [eqOs] at h
    cases e : f x y with
    | none => rw [e] at h; cases h
    | some k =>
      rw [e, Option.bind_some] at h
      have hk := hf x y k e h1
      rw [if_pos hk] at h
      exact eqOs_same hf h (by simpa using hl) fun i x o hx ho => hs (i + 1) x o (by simpa using hx) (by simpa using ho)
theorem valD_at {κ : Type} [DecidableEq κ] : ∀ {ks : List κ} {ys : List D} {i : Nat} {k : κ} {y : D}, ks.Nodup → ks[i]? = some k → ys[i]? = some y → valD ks ys k = some y
  | [], _, i, k, y, _, h, _ => by simp at h
  | _ :: _, [], i, k, y, _, _, h => by simp at h
  | a :: ks, b :: ys, 0, k, y, _, h1, h2 => by
    simp at h1 h2
    subst h1 h2
    simp [valD]
  | a :: ks, b :: ys, i + 1, k, y, hn, h1, h2 => by
    rw [List.nodup_cons] at hn
    have h1' : ks[i]? = some k := by simpa using h1
    have hne : ¬ a = k := fun e => hn.1 (by rw [e]; exact List.mem_of_getElem? h1')
    have ih := valD_at hn.2 h1' (show ys[i]? = some y by simpa using h2)
    unfold valD at ih ⊢
    rw [List.zip_cons_cons, List.find?_cons]
    simp only [hne, decide_false]
    exact ih
theorem eqDi_same {κ : Type} [DecidableEq κ] {f : D → D → Option Bool} (hf : ∀ x y b, f x y = some b → sameD x y = true → b = true) {ks : List κ} {xs ys : List D} {b : Bool} (h : eqDi f ks xs ks ys = some b) (hs : sameDs xs ys = true) : b = true := by
  unfold eqDi at h
  split at h
  · rename_i hc
    rw [if_pos rfl] at h
    refine eqOs_same hf h (by rw [List.length_map, hc.2.1]) fun i x o hx ho => ?_
    rw [List.getElem?_map] at ho
    cases hk : ks[i]? with
    | none => rw [hk] at ho; cases ho
    | some k =>
      rw [hk] at ho
      cases ho
      have hi : i < ys.length := by
        have := (List.getElem?_eq_some_iff.mp hk).1
        omega
      refine ⟨ys[i], valD_at hc.1 hk (List.getElem?_eq_getElem hi), sameDs_get hs hx (List.getElem?_eq_getElem hi)⟩
  · cases h
theorem eqX_same : ∀ (m : Nat) (x y : D) (b : Bool), eqX GE m x y = some b → sameD x y = true → b = true
  | 0, x, y, b, h, hs => eqB_same h hs
  | m + 1, x, y, b, h, hs => by
    have ih := eqX_same m
    rw [eqX_s] at h
    cases hb : eqB GE x y with
    | some b' =>
      rw [hb] at h
      cases h
      exact eqB_same hb hs
    | none =>
      rw [hb] at h
      replace h : eqC (eqX GE m) x y = some b := h
      unfold eqC at h
      split at h
      · rw [sameD] at hs
        rw [if_pos (sameDs_len hs)] at h
        refine eqOs_same ih h (by rw [List.length_map]; exact sameDs_len hs) fun i x o hx ho => ?_
        rw [List.getElem?_map] at ho
        rename_i ys
        cases hk : ys[i]? with
        | none => rw [hk] at ho; cases ho
        | some y =>
          rw [hk] at ho
          cases ho
          exact ⟨y, rfl, sameDs_get hs hx hk⟩
      · rw [sameD] at hs
        rw [if_pos (sameDs_len hs)] at h
        refine eqOs_same ih h (by rw [List.length_map]; exact sameDs_len hs) fun i x o hx ho => ?_
        rw [List.getElem?_map] at ho
        rename_i ys
        cases hk : ys[i]? with
        | none => rw [hk] at ho; cases ho
        | some y =>
          rw [hk] at ho
          cases ho
          exact ⟨y, rfl, sameDs_get hs hx hk⟩
      · rw [sameD, Bool.and_eq_true] at hs
        have := of_decide_eq_true hs.1
        subst this
        exact eqDi_same ih h hs.2
      · rw [sameD, Bool.and_eq_true] at hs
        have := of_decide_eq_true hs.1
        subst this
        exact eqDi_same ih h hs.2
      · cases h
end DL
namespace DL
open PySem L2
/-- what the top tells of the classes with an __eq__ -/
structure EqCs (K : PySem.W.Frag) (P : Pm) (GE : Nat → Option (List D → Res D)) : Prop where
  nf : ∀ c g d, GE c = some g → isScr d = false → PySem.W.notFirst K (P.C c) (tyD P d) = true
  isi : ∀ c, IsiC K (P.C c)
  s2 : ∀ c g, GE c = some g → PySem.W.subIn K (.ref (P.C c)) (.type "int") = some false
  ne : ∀ c g, GE c = some g → PySem.W.findIn K (.ref (P.C c)) "__ne__" = some (some (.builtin "object.__ne__"))
section
variable {X : Cx} {P : Pm} {GE : Nat → Option (List D → Res D)} {k : Nat} {σ : L2.St} {H F : Hp} {W : WX}
theorem looks_type {M : Model} {h : Heap} {y : Addr} {o : Obj} (ho : h.get? y = some o) (hex : o.ExactDict) : PySem.W.Looks M h (typeOf (.ref y)) (.type "dict") :=
  (PySem.W.Looks.ld ho).andThen (by rw [hex.1]; exact .now)
theorem ty_looksT {pins : List (Addr × Obj)} {s : Shared} {d : D} {v : V} {u : Value} (hI : ∀ c, IsiC X.K (P.C c)) (I : Inv X pins σ H s) (e : Sb P F H) (i : Is P F d v) (r : RelV v u) (hs : isScr d = false) : PySem.W.Looks (model X.prog X.w) s.heap (typeOf u) (tyD P d) := by
  by_cases hd : ∃ ks xs, d = .dT ks xs
  · obtain ⟨ks, xs, rfl⟩ := hd
    obtain ⟨a, o, vs, rfl, h1, h2, h3⟩ := un_dT i
    obtain rfl : u = Value.ref a := r
    obtain ⟨_, _, xs', _, dd⟩ := dt_rd I.hok (.inr ⟨o, e.ex _ _ h1⟩)
    obtain ⟨od, _, _, ho, hex, _⟩ := dd
    exact looks_type ho hex
  · obtain ⟨Pp, kx, hp, _⟩ := kit_of I r ((i.vw e d).ty hI (fun ns q => by subst q; cases hs) (fun ks xs q => hd ⟨ks, xs, q⟩))
    exact kx.ty _ _ I.kIn hp
/-- what a comparison leaves -/
abbrev EqQ (X : Cx) (P : Pm) (pins : List (Addr × Obj)) (σ : L2.St) (F H : Hp) (s' : Shared) : Prop := ∃ F' H', Inv X pins σ H' s' ∧ Grow P F H F' H'
theorem ownE_of {c : Nat} {x y : D} {b : Bool} (h : ownE GE c x y = some b) : ∃ g, GE c = some g ∧ g [x, y] = .ok (.bl b) := by
  unfold ownE at h
  cases hg : GE c with
  | none => rw [hg] at h; cases h
  | some g =>
    rw [hg, Option.bind_some] at h
    refine ⟨g, rfl, ?_⟩
    split at h
    · rename_i e; cases h; exact e
    · rename_i e
      split at h
      · cases h
      · cases h; exact e
    · cases h
/-- the call of an own __eq__ -/
theorem own_call {A : Around} {g : List D → Res D} {b : Bool} {pins : List (Addr × Obj)} {s : Shared} {x y : V} {u v : Value} {dx dy : D} {f : Addr} {fd : FuncData} {ps : List Str} (Fn : FnOk X.prog X.w X.K X.mg X.base (L2.CX X.prog X.w) k f fd ps (spD P 2 g)) (hb : Binds X.K fd ps []) (tk : Takes X W) (sb : Sub X k A) (I : Inv X pins σ H s) (rx : RelV x u) (ry : RelV y v) (e : Sb P F H) (i1 : Is P F dx x) (i2 : Is P F dy y) (hg : g [dx, dy] = .ok (.bl b)) :
    wpAny (model X.prog X.w) A (call (.ref f) [u, v]) (fun r s' => r = .bool b ∧ EqQ X P pins σ F H s') X.xe s := by
  have q : PostG P W (rIs P) (fnG 2 g [dx, dy]) F σ H (fun w H' => w = .bl b ∧ ∃ F', Grow P F H F' H') := by
    have : fnG 2 g [dx, dy] = .ok (.bl b) := by
      show (if [dx, dy].length = 2 then g [dx, dy] else Res.bad) = _
      rw [if_pos (show [dx, dy].length = 2 from rfl), hg]
    rw [this]
    exact fun w F' H' gr i => ⟨un_bl i, F', gr⟩
  refine wpAny_mono (run_at (vs := [x, y]) (ds := [dx, dy]) Fn sb hb tk I (.cons rx (.cons ry .nil)) e (.cons i1 (.cons i2 .nil)) q) (fun r s' z => ?_) fun _ _ z => z
  obtain ⟨w, H', I', rw', hw, F', gr⟩ := z
  subst hw
  exact ⟨rw', F', H', I', gr⟩
theorem cmpBack_eq {Q : Shared → Prop} {b : Bool} {r : Value} {s' : Shared} (h : r = .bool b ∧ Q s') : PySem.W.CmpBack (fun r s' => r = .bool b ∧ Q s') r s' := by
  obtain ⟨rfl, q⟩ := h
  exact ⟨rfl, q⟩
/-- richCompare .Eq by an own __eq__, or of plain data -/
theorem rcB_run (E : EqCs X.K P GE) (hG : ∀ c g, GE c = some g → OwnD X.prog X.w X.K X.mg X.base P k "__eq__" c 2 g) (tk : Takes X W) {A : Around} {pins : List (Addr × Obj)} {s : Shared} {x y : V} {u v : Value} {dx dy : D} {b : Bool} (hb : eqB GE dx dy = some b) (sb : Sub X k A) (I : Inv X pins σ H s) (rx : RelV x u) (ry : RelV y v) (e : Sb P F H) (i1 : Is P F dx x) (i2 : Is P F dy y) :
    wpAny (model X.prog X.w) A (richCompare .Eq u v) (fun r s' => r = .bool b ∧ EqQ X P pins σ F H s') X.xe s := by
  unfold eqB at hb
  split at hb
  · split at hb
    · cases hb
    · rename_i hns
      have hns : isScr dy = false := by simpa using hns
      obtain ⟨g, hg, hgb⟩ := ownE_of hb
      obtain ⟨f, fd, ps, c1, c2, c3⟩ := (hG _ g hg).ex
      obtain ⟨ad, dd, vs, rfl, h1, h2, h3⟩ := obj_of i1
      obtain rfl : u = Value.ref ad := rx
      obtain ⟨ox, od, J, _⟩ := ins_data I (e.ex _ _ h1)
      obtain ⟨mm, Fr⟩ := I.fr
      refine PySem.W.cmp_K (op := .Eq) sb.room.units0 Fr I.ok.mod.kin J (ty_looksT E.isi I e i2 ry hns) (E.nf _ g _ hg hns) c2.at_ c2.fn ?_
      exact wpAny_mono (own_call c1 c3 tk sb I (x := .ref ad) rfl ry e i1 i2 hgb) (fun _ _ z => cmpBack_eq z) fun _ _ z => z
  · obtain ⟨g, hg, hgb⟩ := ownE_of hb
    obtain ⟨f, fd, ps, c1, c2, c3⟩ := (hG _ g hg).ex
    obtain ⟨bd, dd', vs', rfl, h1', h2', h3'⟩ := obj_of i2
    obtain rfl : v = Value.ref bd := ry
    obtain rfl := un_int i1
    obtain ⟨t, rfl⟩ := rx
    obtain ⟨ox', od', J', hp⟩ := ins_data I (e.ex _ _ h1')
    obtain ⟨mm, Fr⟩ := I.fr
    refine PySem.ErrX.req_K sb.room.units0 Fr I.ok.mod.kin J' hp c2.at_ c2.fn (E.s2 _ g hg) ?_
    exact wpAny_mono (own_call c1 c3 tk sb I (x := .ref bd) (y := .int _) rfl ⟨t, rfl⟩ e i2 i1 hgb) (fun _ _ z => cmpBack_eq z) fun _ _ z => z
  · obtain ⟨p1, p2, h1, h2, h3, h4, rfl⟩ := eqP_of hb
    obtain ⟨as, r1⟩ := Dp.reads I p1 x u (i1.dp e dx h1) rx
    obtain ⟨bs, r2⟩ := Dp.reads I p2 y v (i2.dp e dy h2) ry
    exact SeqAt.compareEq_shaped r1 r2 h3 h4 sb.room.units ⟨rfl, F, H, I, .refl e⟩
/-- how == runs at this depth -/
def EqRun (X : Cx) (P : Pm) (n : Nat) (f : D → D → Option Bool) : Prop := ∀ (dx dy : D) (b : Bool), f dx dy = some b → ∀ (A : Around) (pins : List (Addr × Obj)) (s : Shared) (σ : L2.St) (F H : Hp) (x y : V) (u v : Value), L2.Sub X n A → Inv X pins σ H s → RelV x u → RelV y v → Sb P F H → Is P F dx x → Is P F dy y →
  wpAny (model X.prog X.w) A (eqBool u v) (fun r s' => r = b ∧ EqQ X P pins σ F H s') X.xe s
def RcRun (X : Cx) (P : Pm) (n : Nat) (f : D → D → Option Bool) : Prop := ∀ (dx dy : D) (b : Bool), f dx dy = some b → ∀ (A : Around) (pins : List (Addr × Obj)) (s : Shared) (σ : L2.St) (F H : Hp) (x y : V) (u v : Value), L2.Sub X n A → Inv X pins σ H s → RelV x u → RelV y v → Sb P F H → Is P F dx x → Is P F dy y →
  wpAny (model X.prog X.w) A (richCompare .Eq u v) (fun r s' => r = .bool b ∧ EqQ X P pins σ F H s') X.xe s
/-- the turns over two lists of items -/
structure LI (X : Cx) (P : Pm) (f : D → D → Option Bool) (pins : List (Addr × Obj)) (σ : L2.St) (F H : Hp) (xs : List D) (os : List (Option D)) (b : Bool) (i : Nat) (s' : Shared) : Prop where
  q : EqQ X P pins σ F H s'
  e : eqOs f (xs.drop i) (os.drop i) = some b
theorem eqOs_turn {f : D → D → Option Bool} {xs : List D} {os : List (Option D)} {b : Bool} {i : Nat} {x : D} (h : eqOs f (xs.drop i) (os.drop i) = some b) (hx : xs[i]? = some x) : (os[i]? = some none ∧ b = false) ∨ ∃ y r, os[i]? = some (some y) ∧ f x y = some r ∧ ((r = true ∧ eqOs f (xs.drop (i + 1)) (os.drop (i + 1)) = some b) ∨ (r = false ∧ b = false)) := by
  have hi := (List.getElem?_eq_some_iff.mp hx).1
  have e1 : xs.drop i = x :: xs.drop (i + 1) := by
    rw [List.drop_eq_getElem_cons hi]
    congr 1
    exact (List.getElem?_eq_some_iff.mp hx).2
  rw [e1] at h
  cases ho : os[i]? with
  | none =>
    have : os.drop i = [] := List.drop_of_length_le (List.getElem?_eq_none_iff.mp ho)
    rw [this] at h
    cases h
  | some o =>
    have hj := (List.getElem?_eq_some_iff.mp ho).1
    have e2 : os.drop i = o :: os.drop (i + 1) := by
      rw [List.drop_eq_getElem_cons hj]
      congr 1
      exact (List.getElem?_eq_some_iff.mp ho).2
    rw [e2] at h
    cases o with
    | none =>
      rw [eqOs] at h
      cases h
      exact .inl ⟨rfl, rfl⟩
    | some y =>
      rw [eqOs] at h
      cases hf : f x y with
      | none => rw [hf] at h; cases h
      | some r =>
        rw [hf, Option.bind_some] at h
        refine .inr ⟨y, r, rfl, hf, ?_⟩
        cases r with
        | true =>
          rw [if_pos rfl] at h
          exact .inl ⟨rfl, h⟩
        | false =>
          rw [if_neg (by decide)] at h
          cases h
          exact .inr ⟨rfl, rfl⟩
/-- one turn -/
theorem li_turn {n : Nat} {f : D → D → Option Bool} (hf : EqRun X P n f) {A : Around} (sb : L2.Sub X n A) {pins : List (Addr × Obj)} {xs : List D} {os : List (Option D)} {b : Bool} {i : Nat} {s' : Shared} {x y : D} {vx vy : V} {u v : Value} (l : LI X P f pins σ F H xs os b i s') (hx : xs[i]? = some x) (hy : os[i]? = some (some y)) (i1 : Is P F x vx) (i2 : Is P F y vy) (rx : RelV vx u) (ry : RelV vy v) :
    wpAny (model X.prog X.w) A (eqBool u v) (fun r s2 => (r = true ∧ LI X P f pins σ F H xs os b (i + 1) s2) ∨ (r = false ∧ b = false ∧ EqQ X P pins σ F H s2)) X.xe s' := by
  obtain ⟨F1, H1, I1, g1⟩ := l.q
  rcases eqOs_turn l.e hx with ⟨h0, _⟩ | ⟨y', r, hy', hr, hrest⟩
  · rw [hy] at h0
    cases h0
  · rw [hy] at hy'
    cases hy'
    refine wpAny_mono (hf x y r hr A pins s' σ F1 H1 vx vy u v sb I1 rx ry g1.s (i1.mono g1.f x) (i2.mono g1.f y)) (fun r' s2 z => ?_) fun _ _ z => z
    obtain ⟨rfl, F2, H2, I2, g2⟩ := z
    rcases hrest with ⟨h1, h2⟩ | ⟨h1, h2⟩
    · exact .inl ⟨h1, ⟨F2, H2, I2, g1.trans g2⟩, h2⟩
    · exact .inr ⟨h1, h2, F2, H2, I2, g1.trans g2⟩
theorem eqOs_end {f : D → D → Option Bool} {xs : List D} {os : List (Option D)} {b : Bool} (h : eqOs f (xs.drop xs.length) (os.drop xs.length) = some b) : b = true := by
  rw [List.drop_length] at h
  cases h
  rfl
theorem vals_at {vs : List V} {its : List Value} {i : Nat} {v : V} (r : Vals vs its) (hv : vs[i]? = some v) (h : i < its.toArray.size) : RelV v its.toArray[i] := by
  obtain ⟨u, hu, ru⟩ := r.get hv
  have e : its[i]? = some its.toArray[i] := by
    have h1' : i < its.length := by simpa using h
    rw [List.getElem?_eq_getElem h1'] <;> simp
  rw [e] at hu
  cases hu
  exact ru
end
end DL
namespace DL
open PySem L2
section
variable {X : Cx} {P : Pm} {k n : Nat} {σ : L2.St} {H F : Hp} {W : WX} {f : D → D → Option Bool}
theorem paired_get {α β : Type} {R : α → β → Prop} : ∀ {l : List α} {m : List β} {i : Nat} {y : β}, Paired R l m → m[i]? = some y → ∃ x, l[i]? = some x ∧ R x y
  | _, _, i, y, .nil, h => by simp at h
  | _, _, 0, y, .cons r t, h => by
    simp at h
    subst h
    exact ⟨_, rfl, r⟩
  | _, _, i + 1, y, .cons r t, h => by
    obtain ⟨x, hx, rx⟩ := paired_get t (by simpa using h)
    exact ⟨x, by simpa using hx, rx⟩
theorem zip_at {α β : Type} {ks : List α} {vs : List β} {i : Nat} {k : α} {v : β} (h : (ks.zip vs)[i]? = some (k, v)) : ks[i]? = some k ∧ vs[i]? = some v := by
  rw [List.getElem?_zip_eq_some] at h
  exact h
theorem eqBool_rc {A : Around} {s : Shared} {E : Value → Shared → Prop} {prog : Program} {w : World} {u v : Value} {b : Bool} {Q : Shared → Prop} (hne : ¬ (u == v) = true) (hf : ∀ a c, u ≠ .float a c) (h : wpAny (model prog w) A (richCompare .Eq u v) (fun r s' => r = .bool b ∧ Q s') E s) : wpAny (model prog w) A (eqBool u v) (fun r s' => r = b ∧ Q s') E s := by
  unfold eqBool
  refine wpAny_holding ?_
  refine wpAny_ite_split (fun hab => absurd hab hne) (fun _ => ?_)
  have fin : wpAny (model prog w) A (do truthOfDropped (← richCompare .Eq u v)) (fun r s' => r = b ∧ Q s') E s := by
    refine wpAny_bind (wpAny_mono h (fun r s' hv => ?_) fun _ _ x => x)
    obtain ⟨rfl, q⟩ := hv
    exact wpAny_truthy_bool ⟨rfl, q⟩
  cases u with
  | float a c => exact absurd rfl (hf a c)
  | _ => exact fin
/-- what of a comparison is not plain data -/
def refD : D → D → Bool
  | .obj _ _, _ => true
  | .int _, .obj _ _ => true
  | .lst _, _ => true
  | .tup _, _ => true
  | .dT _ _, _ => true
  | .dK _ _, _ => true
  | _, _ => false
theorem ref_ne {dx dy : D} {x y : V} {u v : Value} (hr : refD dx dy = true) (rx : RelV x u) (ry : RelV y v) (i1 : Is P F dx x) (i2 : Is P F dy y) (hid : ¬ ∃ a, x = .ref a ∧ y = .ref a) (hs2 : isScr dy = false) : (¬ (u == v) = true) ∧ ∀ a c, u ≠ .float a c := by
  have hx : (∃ a, x = .ref a) ∨ ((∃ i, x = .int i) ∧ ∃ b, y = .ref b) := by
    rcases is_cases i1 with c | ⟨a, _, h, _⟩ | c
    · cases dx with
      | int i =>
        cases dy with
        | obj c' ys =>
          obtain ⟨b, _, _, h, _⟩ := obj_of i2
          have c2 : some (V.int i) = some x := c
          exact .inr ⟨⟨i, (Option.some.inj c2).symm⟩, b, h⟩
        | _ => cases hr
      | non => cases hr
      | bl _ => cases hr
      | str _ => cases hr
      | _ => cases c
    · exact .inl ⟨a, h⟩
    · cases dx with
      | scr ns => simp [refD] at hr
      | _ => cases c
  rcases hx with ⟨a, rfl⟩ | ⟨⟨i, rfl⟩, b, rfl⟩
  · obtain rfl : u = Value.ref a := rx
    refine ⟨fun h => ?_, fun _ _ h => by cases h⟩
    have h := eq_of_beq h
    subst h
    cases y with
    | ref b =>
      have : Value.ref a = Value.ref b := ry
      cases this
      exact hid ⟨a, rfl, rfl⟩
    | _ => first | (obtain ⟨t, e⟩ := ry; cases e; done) | cases ry
  · obtain ⟨t, rfl⟩ := rx
    refine ⟨fun h => ?_, fun _ _ h => by cases h⟩
    have h := eq_of_beq h
    subst h
    cases ry
theorem RcRun.eq (hR : RcRun X P n f) (hS : ∀ x y b, f x y = some b → sameD x y = true → b = true) (hp : ∀ x y b, f x y = some b → (eqP x y = some b) ∨ (refD x y = true ∧ isScr y = false)) : EqRun X P n f := by
  intro dx dy b h A pins s σ F H x y u v sb I rx ry e i1 i2
  rcases hp dx dy b h with hp | ⟨hp, hs⟩
  · obtain ⟨p1, p2, h1, h2, h3, h4, rfl⟩ := eqP_of hp
    obtain ⟨as, r1⟩ := Dp.reads I p1 x u (i1.dp e dx h1) rx
    obtain ⟨bs, r2⟩ := Dp.reads I p2 y v (i2.dp e dy h2) ry
    exact SeqAt.eqAt_reads p1 p2 A s u v as bs r1 r2 (SeqAt.canLay_of_shaped h3) (SeqAt.canLay_of_shaped h4) (SeqAt.room_of_shaped h3 sb.room.units) X.prog X.w X.xe _ ⟨rfl, F, H, I, .refl e⟩
  · by_cases hid : ∃ a, x = .ref a ∧ y = .ref a
    · obtain ⟨a, rfl, rfl⟩ := hid
      obtain rfl : u = Value.ref a := rx
      obtain rfl : v = Value.ref a := ry
      have hb := hS dx dy b h (is_uniq dx i1 i2)
      subst hb
      exact SeqAt.EqAt.same (A := A) (s := s) (.ref a) X.prog X.w X.xe _ ⟨rfl, F, H, I, .refl e⟩
    · obtain ⟨h1, h2⟩ := ref_ne hp rx ry i1 i2 hid hs
      exact eqBool_rc h1 h2 (hR dx dy b h A pins s σ F H x y u v sb I rx ry e i1 i2)
/-! ### lists, tuples -/
theorem lst_at {pins : List (Addr × Obj)} {s : Shared} {a : Addr} {vs : List V} (I : Inv X pins σ H s) (h : Rd H a (.lst vs)) : ∃ (its : List Value) (m : Nat), Vals vs its ∧ s.heap.get? a = some { cls := .type "list", data := .seq its.toArray m } := by
  obtain ⟨_, its, m, r, e⟩ := h.ok I.hok
  exact ⟨its, m, r, e⟩
theorem some_at {ys : List D} {i : Nat} {y : D} (h : ys[i]? = some y) : (ys.map some)[i]? = some (some y) := by
  rw [List.getElem?_map, h]
  rfl
theorem get_of_lt {α : Type} {l : List α} {i : Nat} (h : i < l.length) : ∃ x, l[i]? = some x := ⟨l[i], List.getElem?_eq_getElem h⟩
theorem listB_of (hf : EqRun X P n f) {A : Around} (sb : L2.Sub X (n + 1) A) {pins : List (Addr × Obj)} {a b : Addr} {xs ys : List D} {vs ws : List V} {r : Bool} (h1 : Rd F a (.lst vs)) (h2 : Rd F b (.lst ws)) (j1 : IsL P F xs vs) (j2 : IsL P F ys ws) (hl : xs.length = ys.length) :
    GQ.ListB X.prog X.w A X.xe a b xs.length (LI X P f pins σ F H xs (ys.map some) r) (fun s' => r = false ∧ EqQ X P pins σ F H s') := by
  intro i s' l
  obtain ⟨F1, H1, I1, g1⟩ := l.q
  have hv := j1.length
  have hw := j2.length
  obtain ⟨its, m, r1, e1⟩ := lst_at I1 (g1.s.rd (g1.f.rd h1))
  obtain ⟨its2, m2, r2, e2⟩ := lst_at I1 (g1.s.rd (g1.f.rd h2))
  have z1 := r1.length
  have z2 := r2.length
  refine ⟨its.toArray, its2.toArray, m, m2, e1, e2, by rw [List.size_toArray]; omega, by rw [List.size_toArray]; omega, fun h3 h4 => ?_⟩
  rw [List.size_toArray] at h3 h4
  obtain ⟨x, hx⟩ := get_of_lt (l := xs) (i := i) (by omega)
  obtain ⟨y, hy⟩ := get_of_lt (l := ys) (i := i) (by omega)
  obtain ⟨vx, hvx, ix⟩ := j1.get hx
  obtain ⟨vy, hvy, iy⟩ := j2.get hy
  refine wpAny_mono (li_turn hf sb.in1 l hx (some_at hy) ix iy (vals_at r1 hvx (by rw [List.size_toArray]; exact h3)) (vals_at r2 hvy (by rw [List.size_toArray]; exact h4))) (fun r' s2 z => ?_) fun _ _ z => z
  rcases z with z | ⟨q1, q2, q3⟩
  · exact .inl z
  · obtain ⟨F2, H2, I2, g2⟩ := id q3
    obtain ⟨its', m', r1', e1'⟩ := lst_at I2 (g2.s.rd (g2.f.rd h1))
    obtain ⟨its2', m2', r2', e2'⟩ := lst_at I2 (g2.s.rd (g2.f.rd h2))
    have y1 := r1'.length
    have y2 := r2'.length
    exact .inr ⟨q1, ⟨q2, q3⟩, its'.toArray, its2'.toArray, m', m2', e1', e2', by rw [List.size_toArray]; omega, by rw [List.size_toArray]; omega⟩
theorem rc_lst (hf : EqRun X P n f) {A : Around} (sb : L2.Sub X (n + 1) A) {pins : List (Addr × Obj)} {s : Shared} {xs ys : List D} {x y : V} {u v : Value} {r : Bool} (h : eqC f (.lst xs) (.lst ys) = some r) (I : Inv X pins σ H s) (rx : RelV x u) (ry : RelV y v) (e : Sb P F H) (i1 : Is P F (.lst xs) x) (i2 : Is P F (.lst ys) y) :
    wpAny (model X.prog X.w) A (richCompare .Eq u v) (fun q s' => q = .bool r ∧ EqQ X P pins σ F H s') X.xe s := by
  obtain ⟨a, vs, rfl, h1, j1⟩ := un_lst i1
  obtain ⟨b, ws, rfl, h2, j2⟩ := un_lst i2
  obtain rfl : u = Value.ref a := rx
  obtain rfl : v = Value.ref b := ry
  replace h : (if xs.length = ys.length then eqOs f xs (ys.map some) else some false) = some r := h
  by_cases hl : xs.length = ys.length
  · rw [if_pos hl] at h
    refine GQ.rc_listB sb.room.units0 _ _ (listB_of (pins := pins) (H := H) (r := r) hf sb h1 h2 j1 j2 hl) (fun s' l => ?_) (fun s' q => ⟨by rw [q.1], q.2⟩) ⟨⟨F, H, I, .refl e⟩, h⟩
    have := eqOs_end l.e
    subst this
    exact ⟨rfl, l.q⟩
  · rw [if_neg hl] at h
    cases h
    obtain ⟨its, m, r1, e1⟩ := lst_at I (e.rd h1)
    obtain ⟨its2, m2, r2, e2⟩ := lst_at I (e.rd h2)
    have z1 := r1.length
    have z2 := r2.length
    have hv := j1.length
    have hw := j2.length
    exact SeqAt.RcAt.lists_lengths (items := its.toArray) (items2 := its2.toArray) ⟨_, e1, rfl, m, rfl⟩ ⟨_, e2, rfl, m2, rfl⟩ (by simp; omega) sb.room.units0 X.prog X.w X.xe _ ⟨rfl, F, H, I, .refl e⟩
theorem un_tup1 {xs : List D} {v : V} (h : Is P F (.tup xs) v) : ∃ a vs, v = .ref a ∧ F a = some (.tup vs) ∧ IsL P F xs vs := by
  rw [Is] at h
  exact h
theorem rc_tup (hf : EqRun X P n f) {A : Around} (sb : L2.Sub X (n + 1) A) {pins : List (Addr × Obj)} {s : Shared} {xs ys : List D} {x y : V} {u v : Value} {r : Bool} (h : eqC f (.tup xs) (.tup ys) = some r) (I : Inv X pins σ H s) (rx : RelV x u) (ry : RelV y v) (e : Sb P F H) (i1 : Is P F (.tup xs) x) (i2 : Is P F (.tup ys) y) :
    wpAny (model X.prog X.w) A (richCompare .Eq u v) (fun q s' => q = .bool r ∧ EqQ X P pins σ F H s') X.xe s := by
  obtain ⟨a, vs, rfl, h1, j1⟩ := un_tup1 i1
  obtain ⟨b, ws, rfl, h2, j2⟩ := un_tup1 i2
  obtain rfl : u = Value.ref a := rx
  obtain rfl : v = Value.ref b := ry
  replace h : (if xs.length = ys.length then eqOs f xs (ys.map some) else none) = some r := h
  by_cases hl : xs.length = ys.length
  · rw [if_pos hl] at h
    obtain ⟨its, r1, e1, _⟩ := I.tuple (.inl (.inl (e.ex _ _ h1)))
    obtain ⟨its2, r2, e2, _⟩ := I.tuple (.inl (.inl (e.ex _ _ h2)))
    have z1 := r1.length
    have z2 := r2.length
    have hv := j1.length
    have hw := j2.length
    refine GQ.rc_tupB (items := its.toArray) (items2 := its2.toArray) (by rw [List.size_toArray, List.size_toArray]; omega) sb.room.units0 (LI X P f pins σ F H xs (ys.map some) r) (fun s' => r = false ∧ EqQ X P pins σ F H s') e1 e2 (fun i h3 h4 s' l => ?_) (fun s' l => ?_) (fun s' q => ⟨by rw [q.1], q.2⟩) ⟨⟨F, H, I, .refl e⟩, h⟩
    · rw [List.size_toArray] at h3 h4
      obtain ⟨x, hx⟩ := get_of_lt (l := xs) (i := i) (by omega)
      obtain ⟨y, hy⟩ := get_of_lt (l := ys) (i := i) (by omega)
      obtain ⟨vx, hvx, ix⟩ := j1.get hx
      obtain ⟨vy, hvy, iy⟩ := j2.get hy
      exact li_turn hf sb.in1 l hx (some_at hy) ix iy (vals_at r1 hvx (by rw [List.size_toArray]; exact h3)) (vals_at r2 hvy (by rw [List.size_toArray]; exact h4))
    · have l' := l.e
      rw [List.size_toArray, show its.length = xs.length by omega] at l'
      have := eqOs_end l'
      subst this
      exact ⟨rfl, l.q⟩
  · rw [if_neg hl] at h
    cases h
end
end DL
namespace DL
open PySem L2
section
variable {X : Cx} {P : Pm} {k n : Nat} {σ : L2.St} {H F : Hp} {W : WX} {f : D → D → Option Bool}
theorem relO_none {v : Option Value} (h : RelO none v) : v = none := by
  cases v with
  | none => rfl
  | some _ => exact h.elim
theorem relO_some {x : V} {v : Option Value} (h : RelO (some x) v) : ∃ u, v = some u ∧ RelV x u := by
  cases v with
  | none => exact h.elim
  | some u => exact ⟨u, rfl, h⟩
theorem get_map_some {κ : Type} {g : κ → Option D} {ks : List κ} {i : Nat} {k : κ} (h : ks[i]? = some k) : (ks.map g)[i]? = some (g k) := by
  rw [List.getElem?_map, h]
  rfl
/-- the turn at the i-th key -/
theorem di_turn {κ : Type} [DecidableEq κ] (hf : EqRun X P n f) {A : Around} (sb : L2.Sub X n A) {pins : List (Addr × Obj)} {ks ls : List κ} {xs ys : List D} {vs ws : List V} {r : Bool} {i : Nat} {s' : Shared} {q : κ} {vx : V} {u : Value} {o : Option Value}
    (l : LI X P f pins σ F H xs (ks.map (valD ls ys)) r i s') (j1 : IsL P F xs vs) (j2 : IsL P F ys ws) (hq : ks[i]? = some q) (hv : vs[i]? = some vx) (rx : RelV vx u) (ro : RelO (valV (ls.zip ws) q) o) :
    (o = none ∧ r = false ∧ EqQ X P pins σ F H s') ∨ ∃ v, o = some v ∧ wpAny (model X.prog X.w) A (eqBool u v) (fun r' s2 => (r' = true ∧ LI X P f pins σ F H xs (ks.map (valD ls ys)) r (i + 1) s2) ∨ (r' = false ∧ r = false ∧ EqQ X P pins σ F H s2)) X.xe s' := by
  obtain ⟨x, hx, ix⟩ := j1.get' hv
  have ho := get_map_some (g := valD ls ys) hq
  obtain ⟨w1, w2⟩ := valD_is (P := P) (F := F) (k := q) (ks := ls) (xs := ys) (vs := ws) j2
  cases hval : valD ls ys q with
  | none =>
    rw [hval] at ho
    rcases eqOs_turn l.e hx with ⟨_, hr⟩ | ⟨y, _, hy, _⟩
    · rw [w2 hval] at ro
      exact .inl ⟨relO_none ro, hr, l.q⟩
    · rw [ho] at hy
      cases hy
  | some y =>
    rw [hval] at ho
    obtain ⟨vy, hvy, iy⟩ := w1 y hval
    rw [hvy] at ro
    obtain ⟨v, rfl, ry⟩ := relO_some ro
    exact .inr ⟨v, rfl, li_turn hf sb l hx ho ix iy rx ry⟩
theorem frz_get {pins : List (Addr × Obj)} {s : Shared} {a : Addr} {o : Obj} {w : HO} (I : Inv X pins σ H s) (h : H a = some (.frz o w)) : s.heap.get? a = some o := (I.hok a _ h).1
/-- dicts with tuples as keys -/
theorem pairs_dT (hf : EqRun X P n f) {A : Around} (sb : L2.Sub X n A) {pins : List (Addr × Obj)} {s : Shared} {ks ls : List (List Key)} {xs ys : List D} {a b : Addr} {oa ob : Obj} {vs ws : List V} {r : Bool} (h : eqDi f ks xs ls ys = some r) (I : Inv X pins σ H s) (e : Sb P F H)
    (h1 : F a = some (.frz oa (.dT (ks.zip vs)))) (l1 : ks.length = vs.length) (j1 : IsL P F xs vs) (h2 : F b = some (.frz ob (.dT (ls.zip ws)))) (l2 : ls.length = ws.length) (j2 : IsL P F ys ws) (nm : String) :
    wpAny (model X.prog X.w) A (Builtin.Dict.samePairs nm a b) (fun q s' => q = r ∧ EqQ X P pins σ F H s') X.xe s := by
  obtain ⟨z1, m1, xa, ka, da⟩ := dt_rd I.hok (.inr ⟨oa, e.ex _ _ h1⟩)
  obtain ⟨z2, m2, xb, kb, db⟩ := dt_rd I.hok (.inr ⟨ob, e.ex _ _ h2⟩)
  have y1 := j1.length
  have y2 := j2.length
  have la := Paired.length ka
  have lb := Paired.length kb
  rw [List.length_zip] at la lb
  unfold eqDi at h
  split at h
  case isFalse => cases h
  rename_i hc
  by_cases hl : ks.length = ls.length
  · rw [if_pos hl] at h
    have stays : ∀ {F1 H1 : Hp}, Grow P F H F1 H1 → ∀ {kvs : List (List Key × V)} {xs : List (List Key × Addr × Value)}, KT H kvs xs → ∀ {s' : Shared}, Inv X pins σ H1 s' → ∀ x ∈ xs, (tupleKind (mixKind X.prog X.w)).is s'.heap x.1 x.2.1 := by
      intro F1 H1 g kvs xs kt s' I' x hx
      obtain ⟨i, hi⟩ := List.mem_iff_getElem?.mp hx
      obtain ⟨p, _, e1, e2, _⟩ := paired_get kt hi
      have := g.h.dat e2
      rw [e1] at this
      exact key_of I'.hok this
    refine PySem.W.samePairsH (knd := tupleKind (mixKind X.prog X.w)) (I := LI X P f pins σ F H xs (ks.map (valD ls ys)) r) (J := fun s' => r = false ∧ EqQ X P pins σ F H s') sb.room.units0 m1 m2 da db ⟨fun i s' l => ?_, fun i q p v s' l hi => ?_⟩ (by omega) (fun s' l => ?_) (fun s' q => ⟨q.1.symm, q.2⟩) ⟨⟨F, H, I, .refl e⟩, h⟩
    · obtain ⟨F1, H1, I1, g1⟩ := l.q
      have q1 := frz_get I1 (g1.s.ex _ _ (g1.f _ _ h1))
      have q2 := frz_get I1 (g1.s.ex _ _ (g1.f _ _ h2))
      refine ⟨by rw [q1, frz_get I (e.ex _ _ h1)], by rw [q2, frz_get I (e.ex _ _ h2)], stays g1 ka I1, stays g1 kb I1⟩
    · obtain ⟨pp, hpp, e1, e2, e3⟩ := paired_get ka hi
      obtain ⟨g1, g2⟩ := zip_at (k := pp.1) (v := pp.2) hpp
      have e1 : pp.1 = q := e1
      rw [e1] at g1
      rcases di_turn (o := (atKey xb q).map (·.2)) hf sb l j1 j2 g1 g2 e3 (kb.val q) with ⟨o1, o2, o3⟩ | ⟨y, o1, o2⟩
      · left
        refine ⟨?_, o2, o3⟩
        cases hk : atKey xb q with
        | none => rfl
        | some _ => rw [hk] at o1; cases o1
      · right
        cases hk : atKey xb q with
        | none => rw [hk] at o1; cases o1
        | some p' =>
          rw [hk] at o1
          cases o1
          exact ⟨p'.1, p'.2, rfl, o2⟩
    · have l' := l.e
      rw [show xa.length = xs.length by omega] at l'
      have := eqOs_end l'
      exact ⟨this.symm, l.q⟩
  · rw [if_neg hl] at h
    cases h
    obtain ⟨o1, es1, ep1, q1, _, q2, q3, _⟩ := da
    obtain ⟨o2, es2, ep2, q1', _, q2', q3', _⟩ := db
    refine PySem.W.samePairsN m1 m2 q1 q2 q1' q2' ?_ ⟨rfl, F, H, I, .refl e⟩
    rw [← Array.length_toList, ← Array.length_toList, q3, q3', List.length_map, List.length_map]
    omega
theorem rc_dT (hf : EqRun X P n f) {A : Around} (sb : L2.Sub X (n + 1) A) {pins : List (Addr × Obj)} {s : Shared} {ks ls : List (List Key)} {xs ys : List D} {x y : V} {u v : Value} {r : Bool} (h : eqC f (.dT ks xs) (.dT ls ys) = some r) (I : Inv X pins σ H s) (rx : RelV x u) (ry : RelV y v) (e : Sb P F H) (i1 : Is P F (.dT ks xs) x) (i2 : Is P F (.dT ls ys) y) :
    wpAny (model X.prog X.w) A (richCompare .Eq u v) (fun q s' => q = .bool r ∧ EqQ X P pins σ F H s') X.xe s := by
  obtain ⟨a, oa, vs, rfl, h1, l1, j1⟩ := un_dT i1
  obtain ⟨b, ob, ws, rfl, h2, l2, j2⟩ := un_dT i2
  obtain rfl : u = Value.ref a := rx
  obtain rfl : v = Value.ref b := ry
  obtain ⟨_, _, _, _, da⟩ := dt_rd I.hok (.inr ⟨oa, e.ex _ _ h1⟩)
  obtain ⟨_, _, _, _, db⟩ := dt_rd I.hok (.inr ⟨ob, e.ex _ _ h2⟩)
  refine PySem.W.dict_rc da.typeIs db.typeIs sb.room.units0 fun nm => ?_
  exact wpAny_mono (pairs_dT hf sb.in1 h I e h1 l1 j1 h2 l2 j2 nm) (fun q s' z => ⟨by rw [z.1], z.2⟩) fun _ _ z => z
end
end DL
namespace DL
open PySem L2
section
variable {X : Cx} {P : Pm} {k n : Nat} {σ : L2.St} {H F : Hp} {W : WX} {f : D → D → Option Bool} {GE : Nat → Option (List D → Res D)}
theorem pairs_dK (hf : EqRun X P n f) {A : Around} (sb : L2.Sub X n A) {pins : List (Addr × Obj)} {s : Shared} {ks ls : List Key} {xs ys : List D} {a b : Addr} {oa ob : Obj} {vs ws : List V} {r : Bool} (h : eqDi f ks xs ls ys = some r) (I : Inv X pins σ H s) (e : Sb P F H)
    (h1 : F a = some (.frz oa (.dK (ks.zip vs)))) (l1 : ks.length = vs.length) (j1 : IsL P F xs vs) (h2 : F b = some (.frz ob (.dK (ls.zip ws)))) (l2 : ls.length = ws.length) (j2 : IsL P F ys ws) (nm : String) :
    wpAny (model X.prog X.w) A (Builtin.Dict.samePairs nm a b) (fun q s' => q = r ∧ EqQ X P pins σ F H s') X.xe s := by
  obtain ⟨z1, m1, xa, ka, da⟩ := dk_rd I.hok (.inr ⟨oa, e.ex _ _ h1⟩)
  obtain ⟨z2, m2, xb, kb, db⟩ := dk_rd I.hok (.inr ⟨ob, e.ex _ _ h2⟩)
  have y1 := j1.length
  have y2 := j2.length
  have la := Paired.length ka
  have lb := Paired.length kb
  rw [List.length_zip] at la lb
  unfold eqDi at h
  split at h
  case isFalse => cases h
  rename_i hc
  by_cases hl : ks.length = ls.length
  · rw [if_pos hl] at h
    refine PySem.W.samePairsB (I := LI X P f pins σ F H xs (ks.map (valD ls ys)) r) (J := fun s' => r = false ∧ EqQ X P pins σ F H s') m1 m2 da db ⟨fun i s' l => ?_, fun i q v s' l hi => ?_⟩ (by omega) (fun s' l => ?_) (fun s' q => ⟨q.1.symm, q.2⟩) ⟨⟨F, H, I, .refl e⟩, h⟩
    · obtain ⟨F1, H1, I1, g1⟩ := l.q
      have q1 := frz_get I1 (g1.s.ex _ _ (g1.f _ _ h1))
      have q2 := frz_get I1 (g1.s.ex _ _ (g1.f _ _ h2))
      exact ⟨by rw [q1, frz_get I (e.ex _ _ h1)], by rw [q2, frz_get I (e.ex _ _ h2)]⟩
    · obtain ⟨pp, hpp, e1, e3⟩ := paired_get ka hi
      obtain ⟨g1, g2⟩ := zip_at (k := pp.1) (v := pp.2) hpp
      have e1 : pp.1 = q := e1
      rw [e1] at g1
      exact di_turn hf sb l j1 j2 g1 g2 e3 (KV.val kb q)
    · have l' := l.e
      rw [show xa.length = xs.length by omega] at l'
      have := eqOs_end l'
      exact ⟨this.symm, l.q⟩
  · rw [if_neg hl] at h
    cases h
    obtain ⟨o1, es1, ep1, q1, _, q2, _, q3, _⟩ := da
    obtain ⟨o2, es2, ep2, q1', _, q2', _, q3', _⟩ := db
    refine PySem.W.samePairsN m1 m2 q1 q2 q1' q2' ?_ ⟨rfl, F, H, I, .refl e⟩
    have a1 := q3.length
    have a2 := q3'.length
    rw [Array.length_toList] at a1 a2
    omega
theorem dk_ty {s : Shared} {a : Addr} {vs : List (Key × Value)} (h : s.heap.DictOf (mixKind X.prog X.w) a vs) : s.TypeIs (.ref a) "dict" := h.typeIs
theorem rc_dK (hf : EqRun X P n f) {A : Around} (sb : L2.Sub X (n + 1) A) {pins : List (Addr × Obj)} {s : Shared} {ks ls : List Key} {xs ys : List D} {x y : V} {u v : Value} {r : Bool} (h : eqC f (.dK ks xs) (.dK ls ys) = some r) (I : Inv X pins σ H s) (rx : RelV x u) (ry : RelV y v) (e : Sb P F H) (i1 : Is P F (.dK ks xs) x) (i2 : Is P F (.dK ls ys) y) :
    wpAny (model X.prog X.w) A (richCompare .Eq u v) (fun q s' => q = .bool r ∧ EqQ X P pins σ F H s') X.xe s := by
  obtain ⟨a, oa, vs, rfl, h1, l1, j1⟩ := un_dK i1
  obtain ⟨b, ob, ws, rfl, h2, l2, j2⟩ := un_dK i2
  obtain rfl : u = Value.ref a := rx
  obtain rfl : v = Value.ref b := ry
  obtain ⟨_, _, _, _, da⟩ := dk_rd I.hok (.inr ⟨oa, e.ex _ _ h1⟩)
  obtain ⟨_, _, _, _, db⟩ := dk_rd I.hok (.inr ⟨ob, e.ex _ _ h2⟩)
  refine PySem.W.dict_rc da.typeIs db.typeIs sb.room.units0 fun nm => ?_
  exact wpAny_mono (pairs_dK hf sb.in1 h I e h1 l1 j1 h2 l2 j2 nm) (fun q s' z => ⟨by rw [z.1], z.2⟩) fun _ _ z => z
/-- the same of !=, lists -/
theorem rn_lst (hf : EqRun X P n f) {A : Around} (sb : L2.Sub X (n + 1) A) {pins : List (Addr × Obj)} {s : Shared} {xs ys : List D} {x y : V} {u v : Value} {r : Bool} (h : eqC f (.lst xs) (.lst ys) = some r) (I : Inv X pins σ H s) (rx : RelV x u) (ry : RelV y v) (e : Sb P F H) (i1 : Is P F (.lst xs) x) (i2 : Is P F (.lst ys) y) :
    wpAny (model X.prog X.w) A (richCompare .NotEq u v) (fun q s' => q = .bool (!r) ∧ EqQ X P pins σ F H s') X.xe s := by
  obtain ⟨a, vs, rfl, h1, j1⟩ := un_lst i1
  obtain ⟨b, ws, rfl, h2, j2⟩ := un_lst i2
  obtain rfl : u = Value.ref a := rx
  obtain rfl : v = Value.ref b := ry
  replace h : (if xs.length = ys.length then eqOs f xs (ys.map some) else some false) = some r := h
  by_cases hl : xs.length = ys.length
  · rw [if_pos hl] at h
    refine GQ.rn_listB sb.room.units0 _ _ (listB_of (pins := pins) (H := H) (r := r) hf sb h1 h2 j1 j2 hl) (fun s' l => ?_) (fun s' q => ⟨by rw [q.1]; rfl, q.2⟩) ⟨⟨F, H, I, .refl e⟩, h⟩
    have := eqOs_end l.e
    subst this
    exact ⟨rfl, l.q⟩
  · rw [if_neg hl] at h
    cases h
    obtain ⟨its, m, r1, e1⟩ := lst_at I (e.rd h1)
    obtain ⟨its2, m2, r2, e2⟩ := lst_at I (e.rd h2)
    have z1 := r1.length
    have z2 := r2.length
    have hv := j1.length
    have hw := j2.length
    exact SeqAt.RcNeAt.lists_lengths (items := its.toArray) (items2 := its2.toArray) ⟨_, e1, rfl, m, rfl⟩ ⟨_, e2, rfl, m2, rfl⟩ (by simp; omega) sb.room.units0 X.prog X.w X.xe _ ⟨rfl, F, H, I, .refl e⟩
theorem rn_tup (hf : EqRun X P n f) {A : Around} (sb : L2.Sub X (n + 1) A) {pins : List (Addr × Obj)} {s : Shared} {xs ys : List D} {x y : V} {u v : Value} {r : Bool} (h : eqC f (.tup xs) (.tup ys) = some r) (I : Inv X pins σ H s) (rx : RelV x u) (ry : RelV y v) (e : Sb P F H) (i1 : Is P F (.tup xs) x) (i2 : Is P F (.tup ys) y) :
    wpAny (model X.prog X.w) A (richCompare .NotEq u v) (fun q s' => q = .bool (!r) ∧ EqQ X P pins σ F H s') X.xe s := by
  obtain ⟨a, vs, rfl, h1, j1⟩ := un_tup1 i1
  obtain ⟨b, ws, rfl, h2, j2⟩ := un_tup1 i2
  obtain rfl : u = Value.ref a := rx
  obtain rfl : v = Value.ref b := ry
  replace h : (if xs.length = ys.length then eqOs f xs (ys.map some) else none) = some r := h
  by_cases hl : xs.length = ys.length
  · rw [if_pos hl] at h
    obtain ⟨its, r1, e1, _⟩ := I.tuple (.inl (.inl (e.ex _ _ h1)))
    obtain ⟨its2, r2, e2, _⟩ := I.tuple (.inl (.inl (e.ex _ _ h2)))
    have z1 := r1.length
    have z2 := r2.length
    have hv := j1.length
    have hw := j2.length
    refine GQ.rn_tupB (items := its.toArray) (items2 := its2.toArray) (by rw [List.size_toArray, List.size_toArray]; omega) sb.room.units0 (LI X P f pins σ F H xs (ys.map some) r) (fun s' => r = false ∧ EqQ X P pins σ F H s') e1 e2 (fun i h3 h4 s' l => ?_) (fun s' l => ?_) (fun s' q => ⟨by rw [q.1]; rfl, q.2⟩) ⟨⟨F, H, I, .refl e⟩, h⟩
    · rw [List.size_toArray] at h3 h4
      obtain ⟨x, hx⟩ := get_of_lt (l := xs) (i := i) (by omega)
      obtain ⟨y, hy⟩ := get_of_lt (l := ys) (i := i) (by omega)
      obtain ⟨vx, hvx, ix⟩ := j1.get hx
      obtain ⟨vy, hvy, iy⟩ := j2.get hy
      exact li_turn hf sb.in1 l hx (some_at hy) ix iy (vals_at r1 hvx (by rw [List.size_toArray]; exact h3)) (vals_at r2 hvy (by rw [List.size_toArray]; exact h4))
    · have l' := l.e
      rw [List.size_toArray, show its.length = xs.length by omega] at l'
      have := eqOs_end l'
      subst this
      exact ⟨rfl, l.q⟩
  · rw [if_neg hl] at h
    cases h
theorem rn_dT (hf : EqRun X P n f) {A : Around} (sb : L2.Sub X (n + 1) A) {pins : List (Addr × Obj)} {s : Shared} {ks ls : List (List Key)} {xs ys : List D} {x y : V} {u v : Value} {r : Bool} (h : eqC f (.dT ks xs) (.dT ls ys) = some r) (I : Inv X pins σ H s) (rx : RelV x u) (ry : RelV y v) (e : Sb P F H) (i1 : Is P F (.dT ks xs) x) (i2 : Is P F (.dT ls ys) y) :
    wpAny (model X.prog X.w) A (richCompare .NotEq u v) (fun q s' => q = .bool (!r) ∧ EqQ X P pins σ F H s') X.xe s := by
  obtain ⟨a, oa, vs, rfl, h1, l1, j1⟩ := un_dT i1
  obtain ⟨b, ob, ws, rfl, h2, l2, j2⟩ := un_dT i2
  obtain rfl : u = Value.ref a := rx
  obtain rfl : v = Value.ref b := ry
  obtain ⟨_, _, _, _, da⟩ := dt_rd I.hok (.inr ⟨oa, e.ex _ _ h1⟩)
  obtain ⟨_, _, _, _, db⟩ := dt_rd I.hok (.inr ⟨ob, e.ex _ _ h2⟩)
  refine PySem.W.dict_rn da.typeIs db.typeIs sb.room.units0 fun nm => ?_
  exact wpAny_mono (pairs_dT hf sb.in1 h I e h1 l1 j1 h2 l2 j2 nm) (fun q s' z => ⟨by rw [z.1], z.2⟩) fun _ _ z => z
theorem rn_dK (hf : EqRun X P n f) {A : Around} (sb : L2.Sub X (n + 1) A) {pins : List (Addr × Obj)} {s : Shared} {ks ls : List Key} {xs ys : List D} {x y : V} {u v : Value} {r : Bool} (h : eqC f (.dK ks xs) (.dK ls ys) = some r) (I : Inv X pins σ H s) (rx : RelV x u) (ry : RelV y v) (e : Sb P F H) (i1 : Is P F (.dK ks xs) x) (i2 : Is P F (.dK ls ys) y) :
    wpAny (model X.prog X.w) A (richCompare .NotEq u v) (fun q s' => q = .bool (!r) ∧ EqQ X P pins σ F H s') X.xe s := by
  obtain ⟨a, oa, vs, rfl, h1, l1, j1⟩ := un_dK i1
  obtain ⟨b, ob, ws, rfl, h2, l2, j2⟩ := un_dK i2
  obtain rfl : u = Value.ref a := rx
  obtain rfl : v = Value.ref b := ry
  obtain ⟨_, _, _, _, da⟩ := dk_rd I.hok (.inr ⟨oa, e.ex _ _ h1⟩)
  obtain ⟨_, _, _, _, db⟩ := dk_rd I.hok (.inr ⟨ob, e.ex _ _ h2⟩)
  refine PySem.W.dict_rn da.typeIs db.typeIs sb.room.units0 fun nm => ?_
  exact wpAny_mono (pairs_dK hf sb.in1 h I e h1 l1 j1 h2 l2 j2 nm) (fun q s' z => ⟨by rw [z.1], z.2⟩) fun _ _ z => z
/-! ### all together -/
theorem rcC_run (hf : EqRun X P n f) : RcRun X P (n + 1) (eqC f) := by
  intro dx dy b h A pins s σ F H x y u v sb I rx ry e i1 i2
  match dx, dy, h, i1, i2 with
  | .lst xs, .lst ys, h, i1, i2 => exact rc_lst hf sb h I rx ry e i1 i2
  | .tup xs, .tup ys, h, i1, i2 => exact rc_tup hf sb h I rx ry e i1 i2
  | .dT ks xs, .dT ls ys, h, i1, i2 => exact rc_dT hf sb h I rx ry e i1 i2
  | .dK ks xs, .dK ls ys, h, i1, i2 => exact rc_dK hf sb h I rx ry e i1 i2
theorem rnC_run (hf : EqRun X P n f) {dx dy : D} {b : Bool} (h : eqC f dx dy = some b) {A : Around} {pins : List (Addr × Obj)} {s : Shared} {x y : V} {u v : Value} (sb : L2.Sub X (n + 1) A) (I : Inv X pins σ H s) (rx : RelV x u) (ry : RelV y v) (e : Sb P F H) (i1 : Is P F dx x) (i2 : Is P F dy y) :
    wpAny (model X.prog X.w) A (richCompare .NotEq u v) (fun q s' => q = .bool (!b) ∧ EqQ X P pins σ F H s') X.xe s := by
  match dx, dy, h, i1, i2 with
  | .lst xs, .lst ys, h, i1, i2 => exact rn_lst hf sb h I rx ry e i1 i2
  | .tup xs, .tup ys, h, i1, i2 => exact rn_tup hf sb h I rx ry e i1 i2
  | .dT ks xs, .dT ls ys, h, i1, i2 => exact rn_dT hf sb h I rx ry e i1 i2
  | .dK ks xs, .dK ls ys, h, i1, i2 => exact rn_dK hf sb h I rx ry e i1 i2
theorem eqB_ref {x y : D} {b : Bool} (h : eqB GE x y = some b) : (eqP x y = some b) ∨ (refD x y = true ∧ isScr y = false) := by
  unfold eqB at h
  split at h
  · split at h
    · cases h
    · rename_i hs
      exact .inr ⟨rfl, by simpa using hs⟩
  · exact .inr ⟨rfl, rfl⟩
  · exact .inl h
theorem eqC_ref {x y : D} {b : Bool} (h : eqC f x y = some b) : refD x y = true ∧ isScr y = false := by
  unfold eqC at h
  split at h <;> first | exact ⟨rfl, rfl⟩ | cases h
theorem eqX_or {m : Nat} {x y : D} {b : Bool} (h : eqX GE (m + 1) x y = some b) : eqB GE x y = some b ∨ eqC (eqX GE m) x y = some b := by
  rw [eqX_s] at h
  cases hb : eqB GE x y with
  | some b' =>
    rw [hb] at h
    exact .inl h
  | none =>
    rw [hb] at h
    exact .inr h
theorem rcX_run (E : EqCs X.K P GE) (hG : ∀ c g, GE c = some g → OwnD X.prog X.w X.K X.mg X.base P k "__eq__" c 2 g) (tk : Takes X W) : ∀ m : Nat, RcRun X P (m + k) (eqX GE m)
  | 0, dx, dy, b, h, A, pins, s, σ, F, H, x, y, u, v, sb, I, rx, ry, e, i1, i2 => rcB_run E hG tk h (by rw [Nat.zero_add] at sb; exact sb) I rx ry e i1 i2
  | m + 1, dx, dy, b, h, A, pins, s, σ, F, H, x, y, u, v, sb, I, rx, ry, e, i1, i2 => by
    rcases eqX_or h with h | h
    · exact rcB_run E hG tk h (sb.mono (by omega)) I rx ry e i1 i2
    · have ih : EqRun X P (m + k) (eqX GE m) := (rcX_run E hG tk m).eq (eqX_same m) fun x y b h => by
        cases m with
        | zero => exact eqB_ref h
        | succ m =>
          rcases eqX_or h with h | h
          · exact eqB_ref h
          · exact .inr (eqC_ref h)
      exact rcC_run ih dx dy b h A pins s σ F H x y u v (by rw [show m + 1 + k = m + k + 1 by omega] at sb; exact sb) I rx ry e i1 i2
theorem eqX_run (E : EqCs X.K P GE) (hG : ∀ c g, GE c = some g → OwnD X.prog X.w X.K X.mg X.base P k "__eq__" c 2 g) (tk : Takes X W) (m : Nat) : EqRun X P (m + k) (eqX GE m) := (rcX_run E hG tk m).eq (eqX_same m) fun x y b h => by
  cases m with
  | zero => exact eqB_ref h
  | succ m =>
    rcases eqX_or h with h | h
    · exact eqB_ref h
    · exact .inr (eqC_ref h)
/-! ### the rules -/
def eqXR (GE : Nat → Option (List D → Res D)) (m : Nat) (x y : D) : Res D := (opt (eqX GE m x y)) >>= fun b => .ok (.bl b)
def neXR (GE : Nat → Option (List D → Res D)) (m : Nat) (x y : D) : Res D := (opt (eqX GE m x y)) >>= fun b => .ok (.bl (!b))
theorem xr_of {m : Nat} {x y : D} {g : Bool → Bool} {Q : VK} (h : PostG P W (rIs P) ((opt (eqX GE m x y)) >>= fun b => .ok (.bl (g b))) F σ H Q) : ∃ b, eqX GE m x y = some b ∧ ∀ F' H', Grow P F H F' H' → Q (.bl (g b)) H' := by
  cases hb : eqX GE m x y with
  | none =>
    rw [hb] at h
    exact h.elim
  | some b =>
    rw [hb] at h
    exact ⟨b, rfl, fun F' H' gr => h _ F' H' gr is_bl⟩
variable {F0 : Fz} {H0 : Hp} {a b : Expr} {fa fb : Env → Res D}
theorem pc_eqX (m : Nat) (E : EqCs X.K P GE) (hG : ∀ c g, GE c = some g → OwnD X.prog X.w X.K X.mg X.base P k "__eq__" c 2 g) (hr : Room (m + k) X.A) (tk : Takes X W) (ha : PE X a (tE P F0 H0 W fa)) (hb : PE X b (tE P F0 H0 W fb)) : PC X .Eq a b (tE P F0 H0 W (fN (eqXR GE m) fa fb)) := by
  refine ⟨fun pins s σ H Q I h => binT ha hb I (two_ofE h) fun v u s2 x y H2 I2 rx ry ⟨F, dx, dy, e, i1, i2, q⟩ => ?_⟩
  obtain ⟨r, hr', q⟩ := xr_of q
  refine wpAny_mono (rcX_run E hG tk m dx dy r hr' X.A pins s2 σ F H2 x y v u (sub_here hr) I2 rx ry e i1 i2) (fun w s' z => ?_) fun _ _ z => z
  obtain ⟨rfl, F', H', I', g'⟩ := z
  exact ⟨.bl r, H', I', rfl, q F' H' g'⟩
/-- != by an own __eq__, or of plain data -/
theorem rnB_run (E : EqCs X.K P GE) (hG : ∀ c g, GE c = some g → OwnD X.prog X.w X.K X.mg X.base P k "__eq__" c 2 g) (tk : Takes X W) {A : Around} {pins : List (Addr × Obj)} {s : Shared} {x y : V} {u v : Value} {dx dy : D} {b : Bool} (hb : eqB GE dx dy = some b) (sb : L2.Sub X (k + 1) A) (I : Inv X pins σ H s) (rx : RelV x u) (ry : RelV y v) (e : Sb P F H) (i1 : Is P F dx x) (i2 : Is P F dy y) :
    wpAny (model X.prog X.w) A (richCompare .NotEq u v) (fun r s' => r = .bool (!b) ∧ EqQ X P pins σ F H s') X.xe s := by
  unfold eqB at hb
  split at hb
  · split at hb
    · cases hb
    · rename_i hns
      have hns : isScr dy = false := by simpa using hns
      obtain ⟨g, hg, hgb⟩ := ownE_of hb
      obtain ⟨f, fd, ps, c1, c2, c3⟩ := (hG _ g hg).ex
      obtain ⟨ad, dd, vs, rfl, h1, h2, h3⟩ := obj_of i1
      obtain rfl : u = Value.ref ad := rx
      obtain ⟨ox, od, J, _⟩ := ins_data I (e.ex _ _ h1)
      obtain ⟨mm, Fr⟩ := I.fr
      refine PySem.ErrX.ne_K sb.room.units0 sb.in1.room.units0 Fr I.ok.mod.kin J (ty_looksT E.isi I e i2 ry hns) (E.nf _ g _ hg hns) c2.at_ c2.fn (E.ne _ g hg) (E.isi _).hm ?_
      refine wpAny_mono (own_call c1 c3 tk sb.in1 I (x := .ref ad) rfl ry e i1 i2 hgb) (fun r s' z => ?_) fun _ _ z => z
      obtain ⟨rfl, q⟩ := z
      exact ⟨b, rfl, rfl, q⟩
  · obtain ⟨g, hg, hgb⟩ := ownE_of hb
    obtain ⟨f, fd, ps, c1, c2, c3⟩ := (hG _ g hg).ex
    obtain ⟨bd, dd', vs', rfl, h1', h2', h3'⟩ := obj_of i2
    obtain rfl : v = Value.ref bd := ry
    obtain rfl := un_int i1
    obtain ⟨t, rfl⟩ := rx
    obtain ⟨ox', od', J', hp⟩ := ins_data I (e.ex _ _ h1')
    obtain ⟨mm, Fr⟩ := I.fr
    refine PySem.ErrX.rne_K sb.room.units0 sb.in1.room.units0 Fr I.ok.mod.kin J' hp c2.at_ c2.fn (E.ne _ g hg) (E.isi _).hm (E.s2 _ g hg) ?_
    refine wpAny_mono (own_call c1 c3 tk sb.in1 I (x := .ref bd) (y := .int _) rfl ⟨t, rfl⟩ e i2 i1 hgb) (fun r s' z => ?_) fun _ _ z => z
    obtain ⟨rfl, q⟩ := z
    exact ⟨b, rfl, rfl, q⟩
  · obtain ⟨p1, p2, h1, h2, h3, h4, rfl⟩ := eqP_of hb
    obtain ⟨as, r1⟩ := Dp.reads I p1 x u (i1.dp e dx h1) rx
    obtain ⟨bs, r2⟩ := Dp.reads I p2 y v (i2.dp e dy h2) ry
    exact SeqAt.compareNe_shaped r1 r2 h3 h4 sb.room.units ⟨rfl, F, H, I, .refl e⟩
theorem pc_neX (m : Nat) (E : EqCs X.K P GE) (hG : ∀ c g, GE c = some g → OwnD X.prog X.w X.K X.mg X.base P k "__eq__" c 2 g) (hr : Room (m + k + 1) X.A) (tk : Takes X W) (ha : PE X a (tE P F0 H0 W fa)) (hb : PE X b (tE P F0 H0 W fb)) : PC X .NotEq a b (tE P F0 H0 W (fN (neXR GE m) fa fb)) := by
  refine ⟨fun pins s σ H Q I h => binT ha hb I (two_ofE h) fun v u s2 x y H2 I2 rx ry ⟨F, dx, dy, e, i1, i2, q⟩ => ?_⟩
  obtain ⟨r, hr', q⟩ := xr_of q
  have z : wpAny (model X.prog X.w) X.A (richCompare .NotEq v u) (fun q s' => q = .bool (!r) ∧ EqQ X P pins σ F H2 s') X.xe s2 := by
    cases m with
    | zero => exact rnB_run E hG tk hr' ((sub_here hr).mono (by omega)) I2 rx ry e i1 i2
    | succ m =>
      rcases eqX_or hr' with h1 | h1
      · exact rnB_run E hG tk h1 ((sub_here hr).mono (by omega)) I2 rx ry e i1 i2
      · exact rnC_run (eqX_run E hG tk m) h1 ((sub_here hr).mono (by omega)) I2 rx ry e i1 i2
  refine wpAny_mono z (fun w s' z => ?_) fun _ _ z => z
  obtain ⟨rfl, F', H', I', g'⟩ := z
  exact ⟨.bl (!r), H', I', rfl, q F' H' g'⟩
end
end DL
namespace L2
open PySem PySem.Spec PyProof.Rows
open AutoSeq1 (wpAny_loadPart')
/-! ### t * 0, t * 1 -/
theorem tuple_mul1 (l : Addr) (items : Array Value) (n : Nat) (dd : Option Addr) (sl : Array (Option Value)) (u : Tok) :
    Meets (Builtin.«tuple.__mul__» ⟨[.ref l, .int 1 u], []⟩) (fun _ R s => s.heap.get? l = some { cls := .type "tuple", dict := dd, data := .seq items n, slots := sl } ∧ R (.ok (.ret (Value.ref l))) s) :=
  .of_wp fun prog w A R s h => by
    obtain ⟨hp, g, d, tk, os⟩ := s
    obtain ⟨hl, h⟩ := h
    have f1 := AutoSeq1.idx_int
    have c0 : (items.isEmpty || (1 : Int) == 1) = true := by simp
    wp_walk using wpAny_loadPart' hl
    exact ⟨_, rfl, h⟩
theorem tuple_mul0 (l : Addr) (items : Array Value) (n : Nat) (dd : Option Addr) (sl : Array (Option Value)) (u : Tok) (hne : items.isEmpty = false) :
    Meets (Builtin.«tuple.__mul__» ⟨[.ref l, .int 0 u], []⟩) (fun _ R s => s.heap.get? l = some { cls := .type "tuple", dict := dd, data := .seq items n, slots := sl } ∧ R (.ok (.ret (Value.ref s.heap.objs.size))) { s with heap := s.heap.push { cls := Value.type "tuple", data := Data.seq #[] }, toks := s.toks }) :=
  .of_wp fun prog w A R s h => by
    obtain ⟨hp, g, d, tk, os⟩ := s
    obtain ⟨hl, h⟩ := h
    have f1 := AutoSeq1.idx_int
    have c0 : (items.isEmpty || (0 : Int) == 1) = false := by simp [hne]
    wp_walk using wpAny_loadPart' hl
    exact ⟨_, rfl, h⟩
variable {X : Cx}
theorem op_repT1 : OpR X (binaryOp .Mult) (fun x y H Q => ∃ l xs, x = .ref l ∧ y = .int 1 ∧ SqT X.K H l xs ∧ Q (.ref l) H) := by
  intro pins s σ H x y v u Q I rx ry h
  obtain ⟨l, xs, rfl, rfl, hT, q⟩ := h
  cases rx
  obtain ⟨t, rfl⟩ := ry
  obtain ⟨its, r, ⟨⟨cls, dd, data, sl⟩, ho, hc, n, hd⟩, hs⟩ := I.tuple hT
  simp only at hc hd
  subst hc hd
  refine wpAny_binaryOp_repeat_ref (T := "tuple") (U := "int") (by decide) ⟨_, ho, rfl⟩ (fun s' => typeIs_int s' 1 t) noFill_tuple_mul F.fills_int_mul F.slot_int_rmul repeat_tuple F.slot_int_index.lookup
    (call_meets F.slot_int_rmul (typeIs_int s 1 t) F.entry_int_rmul (F.args_int_rmul_2 _ _) (int_rmul_tuple 1 t l its.toArray n dd sl)
      ⟨ho, rfl, ⟨_, ho, rfl⟩, call_meets F.slot_tuple_mul ⟨_, ho, rfl⟩ F.entry_tuple_mul (F.args_tuple_mul_2 _ _) (tuple_mul1 l its.toArray n dd sl t) ⟨ho, ?_⟩⟩)
  exact ⟨.ref l, H, I, rfl, q⟩
theorem op_repT0 : OpR X (binaryOp .Mult) (fun x y H Q => ∃ l xs, x = .ref l ∧ y = .int 0 ∧ SqT X.K H l xs ∧ xs ≠ [] ∧ ∀ p, H p = none → Q (.ref p) (upd H p (.tup []))) := by
  intro pins s σ H x y v u Q I rx ry h
  obtain ⟨l, xs, rfl, rfl, hT, hne, q⟩ := h
  cases rx
  obtain ⟨t, rfl⟩ := ry
  obtain ⟨its, r, ⟨⟨cls, dd, data, sl⟩, ho, hc, n, hd⟩, hs⟩ := I.tuple hT
  simp only at hc hd
  subst hc hd
  have hle : its.length = xs.length := r.length.symm
  have hi : its.toArray.isEmpty = false := by
    cases its with
    | nil => exact absurd (List.eq_nil_of_length_eq_zero hle.symm) hne
    | cons a b => rfl
  refine wpAny_binaryOp_repeat_ref (T := "tuple") (U := "int") (by decide) ⟨_, ho, rfl⟩ (fun s' => typeIs_int s' 0 t) noFill_tuple_mul F.fills_int_mul F.slot_int_rmul repeat_tuple F.slot_int_index.lookup
    (call_meets F.slot_int_rmul (typeIs_int s 0 t) F.entry_int_rmul (F.args_int_rmul_2 _ _) (int_rmul_tuple 0 t l its.toArray n dd sl)
      ⟨ho, rfl, ⟨_, ho, rfl⟩, call_meets F.slot_tuple_mul ⟨_, ho, rfl⟩ F.entry_tuple_mul (F.args_tuple_mul_2 _ _) (tuple_mul0 l its.toArray n dd sl t hi) ⟨ho, ?_⟩⟩)
  refine ⟨.ref s.heap.objs.size, _, I.laid (t' := s.toks) (o := .tup []) (fun b ob q => Heap.get?_push_of_some _ q) (Nat.le_refl _) ?_, rfl, q _ (I.hok.fresh (Nat.le_refl _))⟩
  exact ⟨Nat.zero_le _, [], .nil, IsTup.new _ _⟩
end L2
namespace DL
open PySem L2
section
variable {X : Cx} {P : Pm} {F H : Hp}
def repT : D → D → Option D
  | .tup xs, .int k => if xs ≠ [] ∧ 0 ≤ k ∧ k ≤ 1000 ∧ xs.length ≤ 1000 then some (.tup (List.replicate k.toNat xs).flatten) else none
  | _, _ => none
theorem io_repT : OpR X (binaryOp .Mult) (r2O P repT) := fun pins s σ H x y u v Q I rx ry h => by
  obtain ⟨F, dx, dy, d, e, i1, i2, hd, q⟩ := h
  unfold repT at hd
  split at hd
  · rename_i xs k
    split at hd
    · rename_i hk
      cases hd
      obtain ⟨l, vs, rfl, h0, h1, h2⟩ := i1
      cases (show y = .int k from i2)
      have hl := h2.length
      have hne : vs ≠ [] := fun z => by
        rw [z] at hl
        exact hk.1 (List.eq_nil_of_length_eq_zero hl)
      by_cases k0 : k = 0
      · subst k0
        refine op_repT0 pins s σ H _ _ u v Q I rx ry ⟨l, vs, rfl, rfl, .inl h1, hne, fun p hp => ?_⟩
        exact q _ (upd F p (.tup [])) _ (.new e hp) (by rw [Is]; exact ⟨p, [], rfl, upd_same, .nil⟩)
      · by_cases k1 : k = 1
        · subst k1
          refine op_repT1 pins s σ H _ _ u v Q I rx ry ⟨l, vs, rfl, rfl, .inl h1, ?_⟩
          exact q.here e (by
            rw [Is]
            refine ⟨l, vs, rfl, h0, ?_⟩
            simpa using h2)
        · refine op_repT pins s σ H _ _ u v Q I rx ry ⟨l, k, vs, rfl, rfl, .inl h1, hne, by omega, hk.2.2.1, by omega, fun p hp => ?_⟩
          exact Out.tup q e (isL_rep h2 k.toNat) p hp
    · cases hd
  · cases hd
/-! ### dict(d) -/
/-- the hash of a tuple of integers -/
def hashT (k : List Key) : Int := reduceHash (Builtin.Tuple.tupleHashOf ((k.map kI).map hashInt))
def okCopy (ks : List (List Key)) : Bool := ks.all (fun k => k.all isInl) && decide (ks.map hashT).Nodup
theorem hash_eq {prog : Program} {w : World} {k : List Key} (h : k.all isInl = true) : (tupleKind (mixKind prog w)).hash k = hashT k := by
  show reduceHash (Builtin.Tuple.tupleHashOf (k.map (keyH w))) = reduceHash (Builtin.Tuple.tupleHashOf ((k.map kI).map hashInt))
  rw [List.map_map]
  congr 2
  apply List.map_congr_left
  intro x hx
  have := List.all_eq_true.mp h x hx
  cases x with
  | inl i => rfl
  | inr _ => cases this
theorem call_copyT (hu : X.A.units + 8 < cLine) : CallR X (.type "dict") (fun xs H Q => ∃ (a : Addr) (kvs : List (List Key × V)), xs = [.ref a] ∧ Rd H a (.dT kvs) ∧ okCopy (kvs.map (·.1)) = true ∧ ∀ p, H p = none → Q (.ref p) (upd H p (.dT kvs))) := by
  intro pins s σ H xs us Q I r ⟨a, kvs, ex, hq, hc, q⟩
  subst ex
  obtain ⟨u, eu, rx⟩ := r.one
  subst eu
  cases rx
  obtain ⟨z, hoS, xs, kt, ho⟩ := dt_rd I.hok hq
  unfold okCopy at hc
  rw [Bool.and_eq_true] at hc
  have hkeys : xs.map (·.1) = kvs.map (·.1) := by
    have : ∀ {l : List (List Key × V)} {m : List (List Key × Addr × Value)}, KT H l m → m.map (·.1) = l.map (·.1) := by
      intro l m q
      induction q with
      | nil => rfl
      | cons h t ih => rw [List.map_cons, List.map_cons, ih, h.1]
    exact this kt
  have hap : (xs.map fun x => (tupleKind (mixKind X.prog X.w)).hash x.1).Nodup := by
    have e : (xs.map fun x => (tupleKind (mixKind X.prog X.w)).hash x.1) = (kvs.map (·.1)).map hashT := by
      rw [← hkeys, List.map_map]
      apply List.map_congr_left
      intro x hx
      exact hash_eq (List.all_eq_true.mp hc.1 x.1 (by rw [← hkeys]; exact List.mem_map.mpr ⟨x, hx, rfl⟩))
    rw [e]
    exact of_decide_eq_true hc.2
  have hln : kvs.length = xs.length := Paired.length kt
  have keyAt : ∀ x ∈ xs, (tupleKind (mixKind X.prog X.w)).is s.heap x.1 x.2.1 := let ⟨_, _, _, _, _, _, _, his, _⟩ := ho; his
  refine callType_codes (Q₁ := fun obj s₁ => obj = .ref s.heap.objs.size ∧ s₁ = { s with heap := s.heap.push { cls := .type "dict", data := .dict #[] } }) F.kt_called_dict (F.kt_typeCall_dict_1 _) F.entry_dict_init (kt_code_dict_new _ ⟨rfl, rfl⟩) ?_
  rintro obj s₁ ⟨rfl, rfl⟩
  have hnew : (s.heap.push { cls := .type "dict", data := .dict #[] }).DictOfH (tupleKind (mixKind X.prog X.w)) s.heap.objs.size [] := Heap.DictOfH.new s.heap
  have stay : ∀ x ∈ xs, (tupleKind (mixKind X.prog X.w)).is (s.heap.push { cls := .type "dict", data := .dict #[] }) x.1 x.2.1 := fun x hx => tupleKind_stays.stays (fun b o vs n e _ => Heap.get?_push_of_some _ e) (keyAt x hx)
  have ho' : (s.heap.push { cls := .type "dict", data := .dict #[] }).DictOfH (tupleKind (mixKind X.prog X.w)) a xs := by
    obtain ⟨o, es, ep, h1, h2, h3, h4, h5, h6⟩ := ho
    exact ⟨o, es, ep, Heap.get?_push_of_some _ h1, h2, h3, h4, stay, h6⟩
  have hdo : s.heap.objs.size ≠ a := by
    obtain ⟨_, _, _, hg, _⟩ := ho
    exact fun e => absurd (Heap.lt_size hg) (by rw [e]; exact Nat.lt_irrefl _)
  refine ⟨hnew.typeIs, F.args_dict_init_2 _ _, ?_⟩
  unfold Builtin.«dict.__init__»
  refine wpAny_bind ?_
  unfold Builtin.Dict.selfAndRest
  refine wpAny_bind (wpAny_notOrdered_dict hnew.typeIs ?_)
  show wpAny _ _ (pure (s.heap.objs.size, [Value.ref a])) _ _ _
  refine wpAny_pure ?_
  show wpAny _ _ (Builtin.Dict.updateFrom "dict.__init__" s.heap.objs.size (.ref a) [] .none) _ _ _
  refine updateFrom_dictH (knd := tupleKind (mixKind X.prog X.w)) .none ?_ hdo hoS hnew ho' (.inr ⟨fun x hx => ?_, hap⟩) (by rw [List.length_nil, Nat.zero_add, ← hln]; exact z) fun h' hd' _ hs => ?_
  · show X.A.units + 1 + 1 < cLine
    omega
  · exact tupleKind_stays.tuple (stay x hx)
  · have hn : (xs.map (·.1)).Nodup := Heap.DictOfH.nodup ho
    rw [storedAllH_nil_of_nodup xs hn] at hd'
    have hm : (s.heap.objs.size == sysModules) = false := beq_eq_false_iff_ne.mpr (Nat.ne_of_gt I.big)
    have nS : H s.heap.objs.size = none := I.hok.fresh (Nat.le_refl _)
    obtain ⟨o, es, ep, d1, d2, d3, d4, d5, d6⟩ := hd'
    refine ⟨rfl, .ref s.heap.objs.size, upd H s.heap.objs.size (.dT kvs), I.laid (t' := s.toks) (fun b o e => ?_) (Nat.le_refl _) (show ObjOk X.prog X.w _ _ _ (.dT _) from ⟨z, hm, _, kt.keeps fun b ys e => ?_, o, es, ep, d1, d2, d3, d4, d6⟩), rfl, q _ nS⟩
    · rw [hs.2 b (Nat.ne_of_lt (Heap.lt_size e))]
      exact Heap.get?_push_of_some _ e
    · rw [upd_ne (ne_of_none e nS)]
      exact e
end
end DL
namespace DL
open PySem L2
/-! ### defs whose result is new and the caller's own -/
def spDN (P : Pm) (n : Nat) (G : List D → Res D) : Sp := fun vs H Q E => ∃ F ds, Sb P F H ∧ IsL P F ds vs ∧ ds.length = n ∧ PostG P (WE0 E) (rNw P H) (G ds) F [] H Q
def runO (g : Env → RS) (n : Nat) (ds : List D) : Res D := match g (env0 n ds) with
  | .ro d => .ok d
  | .err c p _ => .err c p
  | _ => .bad
section
variable {prog : Program} {w : World} {K : PySem.W.Frag} {mg : Str → Option Value} {base : Heap} {P : Pm}
theorem fndN {x qual : Str} {st : Stmt} {f : Addr} {fd : FuncData} {N ps : List Str} {k : Nat} {g : Env → RS} (Fu : Fun K x qual st f fd) (S : FnScope N ps (defScope st))
    (hbody : ∀ (cdv : Value) (A : Around) (outer : List PySem.Env) (s : Shared) (H F0 : Hp) (E : XK), Room k (A.deeper (PyProof.Rows.envOfC qual (defScope st) s.heap.objs.size f cdv)) →
      PSs (cxOf (L2.CX prog w) prog w K mg base N qual (defScope st) f cdv A outer s H E) (defBody st) (tS P ⟨F0, none⟩ H (WE0 E) g)) :
    FnOk prog w K mg base (L2.CX prog w) (k + 1) f fd ps (spDN P ps.length (runO g N.length)) := by
  refine Fu.okX S (fun vs H Q E ⟨F, ds, _, i, hl, _⟩ => by rw [← i.length]; exact hl) (fun cdv A outer s H vs Q E hr h => ?_)
  obtain ⟨F, ds, sx, i, hl, z⟩ := h
  refine ⟨_, hbody cdv A outer s H F E hr, F, env0 N.length ds, er_start sx i, ?_⟩
  unfold runO at z
  cases hg : g (env0 N.length ds) with
  | ro d =>
    rw [hg] at z
    exact fun a F' H' gr _ h1 h2 h3 => z (.ref a) F' H' gr ⟨a, rfl, h1, h2, h3⟩
  | err c p ρ =>
    rw [hg] at z
    exact fun σ F' H' y er _ q => z F' H' y er.g q
  | _ =>
    rw [hg] at z
    exact z.elim
end
structure CalN (prog : Program) (w : World) (K : PySem.W.Frag) (mg : Str → Option Value) (base : Heap) (P : Pm) (k : Nat) (x : Str) (n : Nat) (G : List D → Res D) : Prop where
  ex : ∃ f fd ps, FnOk prog w K mg base (L2.CX prog w) k f fd ps (spDN P n G) ∧ mg x = some (.ref f) ∧ PySem.W.keepIn K (.ref f) = true ∧ Binds K fd ps []
section
variable {prog : Program} {w : World} {K : PySem.W.Frag} {mg : Str → Option Value} {base : Heap} {P : Pm}
theorem calN {x y qual : Str} {st : Stmt} {f : Addr} {fd : FuncData} {N ps : List Str} {k : Nat} {g : Env → RS} (Fu : Fun K x qual st f fd) (S : FnScope N ps (defScope st)) (hm : mg y = some (.ref f)) (hb : Binds K fd ps [])
    (hbody : ∀ (cdv : Value) (A : Around) (outer : List PySem.Env) (s : Shared) (H F0 : Hp) (E : XK), Room k (A.deeper (PyProof.Rows.envOfC qual (defScope st) s.heap.objs.size f cdv)) →
      PSs (cxOf (L2.CX prog w) prog w K mg base N qual (defScope st) f cdv A outer s H E) (defBody st) (tS P ⟨F0, none⟩ H (WE0 E) g)) :
    CalN prog w K mg base P (k + 1) y ps.length (runO g N.length) := ⟨f, fd, ps, fndN Fu S hbody, hm, Fu.kp, hb⟩
end
section
variable {X : Cx} {P : Pm} {F0 : Fz} {H0 : Hp} {W : WX} {e : Expr} {es : List Expr} {fs : Env → Res (List D)} {pos p : Pos} {k n : Nat} {x : Str} {G : List D → Res D}
/-- f(e, ..), the result one's own -/
theorem nd_cal (c : CalN X.prog X.w X.K X.mg X.base P k x n G) (hr : Room k X.A) (tk : Takes X W) (ha : PA X (e :: es) (tL P F0 H0 W fs)) (hg : Gl X x := by rfl) (hdb : (x == ("__debug__" : Str)) = false := by decide) (he : starEach (e :: es) X.env = (false, eval e X.env) :: starEach es X.env := by rfl) (hpl : (backTo pos (starEach es X.env)).any (·.1) = false := by rfl) :
    PE X (.Call (.Name x p) (e :: es) [] pos) (tN P F0 H0 W (fun ρ => do let xs ← fs ρ; fnG n G xs)) := by
  obtain ⟨f, fd, ps, Fn, hm, hk, hb⟩ := c.ex
  refine (pe_callSD (E := WE W) Fn hr hg hm hk hb .nil (fun σ => passAt tk σ) ha hdb he hpl).imp fun σ H Q ⟨F, ρ, er, z⟩ => ?_
  refine ⟨F, ρ, er, (PostG.bind (rel := rLs P) z).imp ?_⟩
  rintro vs H1 ⟨F1, ds, g, i, q⟩
  rw [List.append_nil]
  unfold fnG at q
  split at q
  · rename_i hl
    refine ⟨F1, ds, g.s, i, hl, ?_⟩
    cases hG : G ds with
    | ok d =>
      rw [hG] at q
      rintro v F' H' g' ⟨p, rfl, h1, h2, h3⟩
      exact q (.ref p) F' H' g' ⟨p, rfl, g.h.backN h1, h2, h3⟩
    | err c pp =>
      rw [hG] at q
      exact q
    | bad =>
      rw [hG] at q
      exact q.elim
  · exact q.elim
/-! ### one rule of two -/
theorem pd_alt {f g h : Env → Res D} (hf : PE X e (tE P F0 H0 W f)) (hg : PE X e (tE P F0 H0 W g)) (hh : ∀ ρ, h ρ = f ρ ∨ h ρ = g ρ) : PE X e (tE P F0 H0 W h) := ⟨fun pins s σ H Q I ⟨F, ρ, er, z⟩ => by
  rcases hh ρ with e | e
  · rw [e] at z
    exact hf.run pins s σ H Q I ⟨F, ρ, er, z⟩
  · rw [e] at z
    exact hg.run pins s σ H Q I ⟨F, ρ, er, z⟩⟩
theorem nd_alt {f g h : Env → Res D} (hf : PE X e (tN P F0 H0 W f)) (hg : PE X e (tN P F0 H0 W g)) (hh : ∀ ρ, h ρ = f ρ ∨ h ρ = g ρ) : PE X e (tN P F0 H0 W h) := ⟨fun pins s σ H Q I ⟨F, ρ, er, z⟩ => by
  rcases hh ρ with e | e
  · rw [e] at z
    exact hf.run pins s σ H Q I ⟨F, ρ, er, z⟩
  · rw [e] at z
    exact hg.run pins s σ H Q I ⟨F, ρ, er, z⟩⟩
/-! ### dict(d) -/
variable {fa fb fc : Env → Res D}
def cCopy : D → Option D
  | .dK ks xs => some (.dK ks xs)
  | .dT ks xs => if okCopy ks = true then some (.dT ks xs) else none
  | _ => none
theorem nd_copyD (hu : X.A.units + 8 < cLine) (hm : X.mg "dict" = none) (ha : PE X e (tV P F0 H0 W fa)) (hg : Gl X "dict" := by rfl)
    (he : starEach [e] X.env = (false, eval e X.env) :: starEach [] X.env := by rfl) (hpl : (backTo pos (starEach [] X.env)).any (·.1) = false := by rfl) :
    PE X (.Call (.Name "dict" p) [e] [] pos) (tN P F0 H0 W (fun ρ => do let x ← fa ρ; opt (cCopy x))) := by
  have hT := pe_callTy (p := p) (call_copyT hu) hg hm (by decide +kernel) (pa_cons ha pa_nil he) (by decide) (by decide) he hpl
  have hK := pe_callTy (p := p) (call_dictD (X := X)) hg hm (by decide +kernel) (pa_cons ha pa_nil he) (by decide) (by decide) he hpl
  refine ⟨fun pins s σ H Q I ⟨F, ρ, er, z⟩ => ?_⟩
  cases hf : fa ρ with
  | bad =>
    replace z : PostG P W (rNw P H) (fa ρ >>= fun x => opt (cCopy x)) F σ H Q := z
    rw [hf] at z
    exact z.elim
  | err c pp =>
    refine hK.run pins s σ H Q I ⟨F, ρ, er, ?_⟩
    replace z : PostG P W (rNw P H) (fa ρ >>= fun x => opt (cCopy x)) F σ H Q := z
    rw [hf] at z
    rw [hf]
    exact z
  | ok d =>
    replace z : PostG P W (rNw P H) (fa ρ >>= fun x => opt (cCopy x)) F σ H Q := z
    rw [hf] at z
    replace z : PostG P W (rNw P H) (opt (cCopy d)) F σ H Q := z
    cases d with
    | dK ks xs =>
      refine hK.run pins s σ H Q I ⟨F, ρ, er, ?_⟩
      rw [hf]
      rintro v F1 H1 g ⟨a, vs, rfl, h1, h2, h3⟩
      refine ⟨a, _, rfl, h1, fun p hp => ?_⟩
      exact z _ F1 _ (g.trans (.junk g.s (.new hp))) ⟨p, rfl, g.h.back hp, g.s.back hp, vs, upd_same, h2, h3⟩
    | dT ks xs =>
      refine hT.run pins s σ H Q I ⟨F, ρ, er, ?_⟩
      rw [hf]
      replace z : PostG P W (rNw P H) (opt (if okCopy ks = true then some (.dT ks xs) else none)) F σ H Q := z
      by_cases hc : okCopy ks = true
      · rw [if_pos hc] at z
        rintro v F1 H1 g ⟨a, vs, rfl, h1, h2, h3⟩
        refine ⟨a, _, rfl, h1, ?_, fun p hp => ?_⟩
        · rw [List.map_fst_zip (by omega)]
          exact hc
        · exact z _ F1 _ (g.trans (.junk g.s (.new hp))) ⟨p, rfl, g.h.back hp, g.s.back hp, vs, upd_same, h2, h3⟩
      · rw [if_neg hc] at z
        exact z.elim
    | _ => exact z.elim
/-- dict(x): a copy, or of pairs -/
def cDictA (x : D) : Option D := match x with
  | .lst ps => cDictT [.lst ps]
  | x => cCopy x
theorem nd_dictA (hcalm : X.calm = true) (hu : X.A.units + 8 < cLine) (hm : X.mg "dict" = none) (ha : PE X e (tV P F0 H0 W fa)) (hg : Gl X "dict" := by rfl)
    (he : starEach [e] X.env = (false, eval e X.env) :: starEach [] X.env := by rfl) (hpl : (backTo pos (starEach [] X.env)).any (·.1) = false := by rfl) :
    PE X (.Call (.Name "dict" p) [e] [] pos) (tN P F0 H0 W (fun ρ => do let x ← fa ρ; opt (cDictA x))) :=
  nd_alt (nd_dictT hcalm hu hm ha hg he hpl) (nd_copyD hu hm ha hg he hpl) fun ρ => by
    cases hf : fa ρ with
    | ok d =>
      cases d with
      | lst ps => exact .inl rfl
      | _ => exact .inr rfl
    | err c pp => exact .inl rfl
    | bad => exact .inl rfl
end
end DL
namespace DL
open PySem L2
open PyProof.Rows (seqObj)
/-! ### sorted(d), ascending -/
section
variable {X : Cx}
theorem call_sortedT0 (hcalm : X.calm = true) (hu : X.A.units + 8 < cLine) : CallR X (.builtin "sorted") (fun xs H Q => ∃ (a : Addr) (kvs : List (List Key × V)), xs = [.ref a] ∧ Rd H a (.dT kvs) ∧ okSort (kvs.map (·.1)) = true ∧
    ∀ (p : Addr) (L : List (List Key × Addr)), H p = none → L.map (·.1) = (kvs.map (·.1)).mergeSort (PySem.W.dataLe false encT) → (∀ q ∈ L, H q.2 = some (.tup (q.1.map kV))) → Q (.ref p) (upd H p (.lst (L.map fun q => V.ref q.2)))) := by
  intro pins s σ H xs us Q I r ⟨d, kvs, ex, hd, hok, q⟩
  subst ex
  obtain ⟨u, rfl, rx⟩ := r.one
  cases rx
  simp only [okSort, Bool.and_eq_true, Bool.or_eq_true, decide_eq_true_eq] at hok
  obtain ⟨hk1, hk2⟩ := hok
  obtain ⟨z, hs, ks, pr, o, es, ep, ho, hx, hdt, he, hn⟩ := (show ObjOk X.prog X.w H s.heap d (.dT kvs) from hd.ok I.hok)
  have l1 : es.size = ks.length := size_of_entries he
  have l2 : kvs.length = ks.length := Paired.length pr
  have hkeys := isKeys_of pr
  show wpAny _ _ (call (.builtin "sorted") [Value.ref d] []) _ _ _
  refine PyProof.Rows.call_function_entry_kw PyProof.Rows.kind_sorted PyProof.Rows.plain_sorted PyProof.Rows.entry_sorted (PyProof.Rows.args_sorted1 _) ?_
  unfold Builtin.«sorted»
  refine wpAny_bind (m := checkCount "sorted" 1 1 _) (wpAny_pure ?_)
  refine wpAny_bind (PySem.W.kdu_collect (A := X.A.in1) (kdl_raw hs hx hdt) (I.ok.hd hcalm) ho (by omega) fun h' tk acc' kp it => ?_)
  have ea : acc'.toList = (ks.map fun x => x.2.1).map Value.ref := by
    have hl : acc'.toList.length = ks.length := by rw [Array.length_toList, it.1]; exact l1
    apply List.ext_getElem?
    intro j
    rw [List.map_map, List.getElem?_map]
    cases hj : acc'.toList[j]? with
    | none =>
      have h1 := List.getElem?_eq_none_iff.mp hj
      rw [List.getElem?_eq_none (by omega)]
      all_goals rfl
    | some v =>
      obtain ⟨en, hen, hv⟩ := it.2 j v (by rw [← Array.getElem?_toList]; exact hj)
      have qe := entry_at he j
      rw [hen] at qe
      cases hb : ks[j]? with
      | none =>
        rw [hb] at qe
        exact nomatch (show some en = none from qe)
      | some b =>
        rw [hb] at qe
        have e2 : en = entryOfKey (tupleKind (mixKind X.prog X.w)) b := Option.some.inj qe
        rw [hv, e2]
        all_goals rfl
  have I1 : Inv X pins σ H { s with heap := h', toks := tk } := I.kept kp
  have hal : acc'.toList.length ≤ sizeLine := by rw [ea, List.length_map, List.length_map]; omega
  refine wpAny_bind (wpAny_newList ?_ hal)
  have hoL : (h'.push (seqObj "list" acc'.toList.toArray 0)).get? h'.objs.size = some (seqObj "list" acc'.toList.toArray 0) := Heap.get?_push_size _ rfl
  have hol : ∀ b o, h'.get? b = some o → (h'.push (seqObj "list" acc'.toList.toArray 0)).get? b = some o := fun b o e => Heap.get?_push_of_some _ e
  show wpAny _ _ _ _ _ { s with heap := h'.push (seqObj "list" acc'.toList.toArray 0), toks := tk }
  obtain ⟨ee, _⟩ := each_keys_of (h := h') I1 (fun b o e => e) hkeys hk1
  rw [← ea] at ee
  have er : PySem.W.EachIs (fun v (p : List Key × Addr) => ∃ as, Reads (h'.push (seqObj "list" acc'.toList.toArray 0)) v (encT p.1) as ∧ h'.objs.size ∉ as) (acc'.toList) ((kvs.map (·.1)).zip (ks.map fun x => x.2.1)) := by
    refine (PySem.W.each_mem ee).mono fun v p ⟨⟨e1, e2⟩, hm⟩ => ?_
    have hin : p.1 ∈ kvs.map (·.1) := (List.of_mem_zip hm).1
    exact ⟨[], e1 ▸ reads_key I1 hol (List.all_eq_true.mp hk1 _ hin) e2, by simp⟩
  refine wpAny_bind (wpAny_holding (PyProof.Rows.wpAny_call_entry_kw PyProof.Rows.slot_list_sort ⟨_, hoL, rfl⟩ PyProof.Rows.entry_list_sort ?_ (PyProof.Rows.args_list_sort _)))
  have lz : ((kvs.map (·.1)).zip (ks.map fun x => x.2.1)).length = kvs.length := by simp [l2]
  rw [PySem.W.plain_is_rev]
  refine list_sort_any (b := false) (s := { s with heap := h'.push (seqObj "list" acc'.toList.toArray 0), toks := tk }) (enc := fun p => encT p.1) hoL ee er (PySem.W.AllAlike.of fun p p' => alike_encT _ _) ?_ (by rw [lz]; omega) (fun p hp => ?_) fun out hout => ⟨_, rfl, ?_⟩
  · rcases hk2 with h2 | h2
    · left
      rw [lz]
      simpa using h2
    · right
      left
      intro d' hd'
      obtain ⟨p, hp, rfl⟩ := List.mem_map.mp hd'
      have := List.all_eq_true.mp h2 _ (List.of_mem_zip hp).1
      unfold encT
      cases hp1 : p.1 with
      | nil =>
        rw [hp1] at this
        simp at this
      | cons x r => exact ⟨_, _, rfl⟩
  · have := depth_encT p.1
    show X.A.units + 1 + 1 + (encT p.1).depth < cLine
    omega
  · obtain ⟨eo, hL⟩ := each_out hout
    obtain ⟨e', he'⟩ := PyProof.Rows.sortedHeap_at (vs := acc'.toList) (out := out.toArray) hoL
    have hm1 : (((kvs.map (·.1)).zip (ks.map fun x => x.2.1)).mergeSort (PySem.W.dataLe false fun p => encT p.1)).map (·.1) = (kvs.map (·.1)).mergeSort (PySem.W.dataLe false encT) := by
      have := PySem.W.sort_maps (r := PySem.W.dataLe false fun p : List Key × Addr => encT p.1) (s := PySem.W.dataLe false encT) (fun p : List Key × Addr => p.1) (l := (kvs.map (·.1)).zip (ks.map fun x => x.2.1)) (fun _ _ _ _ => rfl)
      rw [this, keys_zip hkeys]
    have hlen : ((((kvs.map (·.1)).zip (ks.map fun x => x.2.1)).mergeSort (PySem.W.dataLe false fun p => encT p.1)).map fun q => V.ref q.2).length ≤ sizeLine := by
      rw [List.length_map, List.length_mergeSort, lz]
      omega
    have rv : Vals ((((kvs.map (·.1)).zip (ks.map fun x => x.2.1)).mergeSort (PySem.W.dataLe false fun p => encT p.1)).map fun q => V.ref q.2) out := by
      rw [eo]
      have := vals_refs ((((kvs.map (·.1)).zip (ks.map fun x => x.2.1)).mergeSort (PySem.W.dataLe false fun p => encT p.1)).map (·.2))
      rw [List.map_map] at this
      exact this
    refine wpAny_pure ⟨_, rfl, .ref h'.objs.size, upd H h'.objs.size (.lst _), I1.laid (t' := tk) (fun b u e => ?_) (Nat.le_refl _)
      (show ObjOk X.prog X.w _ _ _ (.lst _) from ⟨hlen, out, e', rv, he'⟩), rfl, q _ _ (I1.hok.fresh (Nat.le_refl _)) hm1 hL⟩
    have hb : b < h'.objs.size := Heap.lt_size e
    rw [PyProof.Rows.sortedHeap_old (Nat.ne_of_lt hb) (by rw [PyProof.Rows.size_push']; exact Nat.lt_succ_of_lt hb)]
    exact Heap.get?_push_of_some _ e
end
def cSort0 : D → Option D
  | .dT ks xs => if okSort ks = true then some (.lst ((ks.mergeSort (PySem.W.dataLe false encT)).map ktD)) else none
  | _ => none
section
variable {X : Cx} {P : Pm} {F0 : Fz} {H0 : Hp} {W : WX} {e b c o : Expr} {fa fb fc : Env → Res D} {fs : Env → Res (List D)} {p pos kpos apos : Pos}
theorem pd_sort0 (hcalm : X.calm = true) (hu : X.A.units + 8 < cLine) (hm : X.mg "sorted" = none) (ha : PE X e (tV P F0 H0 W fa)) (hg : Gl X "sorted" := by rfl)
    (he : starEach [e] X.env = (false, eval e X.env) :: starEach [] X.env := by rfl) (hpl : (backTo pos (starEach [] X.env)).any (·.1) = false := by rfl) :
    PE X (.Call (.Name "sorted" p) [e] [] pos) (tE P F0 H0 W (fun ρ => do let x ← fa ρ; opt (cSort0 x))) :=
  (pe_callB (call_sortedT0 hcalm hu) hg hm (by decide +kernel) (pa_cons ha pa_nil he) (by decide) (by decide) he hpl).imp fun σ H Q ⟨F, ρ, er, z⟩ => by
  show tV P F0 H0 W fa σ H _
  refine ⟨F, ρ, er, (PostG.bind (rel := rVw P) z).imp ?_⟩
  rintro v H1 ⟨F1, d, g, iv, q⟩
  obtain ⟨d', hd, q'⟩ := opt_of q
  unfold cSort0 at hd
  split at hd
  · rename_i ks xs
    split at hd
    · rename_i hk
      cases hd
      obtain ⟨a, vs, rfl, h1, h2, h3⟩ := iv
      have e1 : (ks.zip vs).map (·.1) = ks := by
        rw [List.map_fst_zip]
        omega
      refine ⟨a, _, rfl, h1, by rw [e1]; exact hk, fun p L hp hL hq => ?_⟩
      rw [e1] at hL
      obtain ⟨F3, g3, i3⟩ := tups_in g.s hq
      rw [hL] at i3
      exact q' _ (upd F3 p (.lst (L.map fun q => V.ref q.2))) _ (g3.trans (.new g3.s hp)) (by rw [rIs, Is]; exact ⟨p, _, rfl, .inl upd_same, i3.mono (.new (g3.s.back hp)) _⟩)
    · cases hd
  · cases hd
end
end DL
namespace DL
open PySem L2
section
variable {X : Cx} {P : Pm} {F0 : Fz} {H0 : Hp} {W : WX} {a e b c o : Expr} {fa fb fc : Env → Res D} {fs : Env → Res (List D)} {p pos kpos apos : Pos} {F H : Hp} {σ : L2.St}
/-! ### x.join(list of texts) -/
def joinD (x y : D) : Option D := match x, y with
  | .str s, .lst ds => (strsD ds).bind fun zs => if (zs.map (·.length)).sum + zs.length * s.length ≤ 1000000 then some (.str (Txt.join s zs)) else none
  | _, _ => none
theorem pd_join (ho : PE X o (tE P F0 H0 W fa)) (he : PE X e (tV P F0 H0 W fb))
    (hbase : attributeBase o "join" X.env (eval o X.env) = eval o X.env := by rfl)
    (hfew : ((backTo pos (starEach [e] X.env)).all (fun x => !x.1) && (backToKw pos (keywordEach [] X.env)).all (fun x => x.1.isSome)
      && decide (([e] : List Expr).length + ([] : List Keyword).length + (if ([] : List Keyword).isEmpty then 0 else 1) < 30)) = true := by rfl)
    (hline : (apos.endLine == pos.line) = true := by rfl) (hs1 : starEach [e] X.env = (false, eval e X.env) :: starEach [] X.env := by rfl) (hplain : (backTo pos (starEach [] X.env)).any (·.1) = false := by rfl) :
    PE X (.Call (.Attribute o "join" apos) [e] [] pos) (tE P F0 H0 W (fun ρ => do let x ← fa ρ; let s ← strD x; let y ← fb ρ; opt (joinD (.str s) y))) :=
  (pe_bm PySem.F.plainAttrs_str PySem.F.slot_str_join PySem.F.type_str_join mt_join ho (pa_cons he pa_nil hs1) hbase hfew hline hs1 hplain).imp fun σ H Q ⟨F, ρ, er, z⟩ => by
  refine ⟨F, ρ, er, (PostG.bind (rel := rIs P) z).imp ?_⟩
  rintro x H1 ⟨F1, d, g1, i1, z1⟩
  obtain ⟨x', rfl, F1', s', g1', e1', z1'⟩ := strD_of g1.s i1 (PostG.bind (rel := rSt) z1)
  cases e1'
  have er1 := (er.grow g1).grow g1'
  refine ⟨rfl, F1', ρ, er1, (PostG.bind (rel := rVw P) z1').imp ?_⟩
  rintro y H2 ⟨F2, d2, g2, i2, z2⟩
  obtain ⟨d', hd, q'⟩ := opt_of z2
  unfold joinD at hd
  split at hd
  · rename_i s ds hs
    cases hs
    cases hz : strsD ds with
    | none => rw [hz] at hd; cases hd
    | some zs =>
      rw [hz, Option.bind_some] at hd
      split at hd
      · rename_i hl
        cases hd
        obtain ⟨l, vs, rfl, h1, h2⟩ := i2
        obtain rfl := strsD_of hz h2
        exact ⟨x', l, zs, rfl, rfl, .inl (.inl h1), Nat.le_trans hl (by decide), Out.str q' g2.s⟩
      · cases hd
  · cases hd
/-! ### str(x), x an instance of the class number cn, or an int -/
def strC (cn : Nat) (G : List D → Res D) : D → Res D
  | .int i => if i.natAbs.log2 < 1920 then .ok (.str (toString i)) else .bad
  | .obj c xs => if c = cn then (do let y ← fnG 1 G [.obj c xs]; let z ← strD y; .ok (.str z)) else .bad
  | _ => .bad
theorem pd_strC {cn k : Nat} {p1 : Pos} {G : List D → Res D} (c : OwnD X.prog X.w X.K X.mg X.base P k "__str__" cn 1 G) (hr : Room (k + 2) X.A) (tk : Takes X W) (hm : X.mg "str" = none) (ha : PE X a (tE P F0 H0 W fa)) (hg : Gl X "str" := by rfl)
    (he : starEach [a] X.env = (false, eval a X.env) :: starEach [] X.env := by rfl) (hpl : (backTo pos (starEach [] X.env)).any (·.1) = false := by rfl) :
    PE X (.Call (.Name "str" p1) [a] [] pos) (tE P F0 H0 W (fM (strC cn G) fa)) := by
  obtain ⟨f, fd, ps, Fn, M, hb⟩ := c.ex
  refine ⟨fun pins s σ H Q I h => ?_⟩
  refine wpAny_Call_Name_kw (ld_blt (u := .type "str") I hg hm (by decide +kernel) ?_)
  obtain ⟨F, ρ, er, z⟩ := h
  refine PyProof.Rows.callWith_type1 (thn ((pa_cons ha pa_nil he).run pos pins s σ H (fun vs H1 => ∃ v, vs = [v] ∧ ∃ F1 d, Grow P F H F1 H1 ∧ Is P F1 d v ∧ PostG P W (rIs P) (strC cn G d) F1 σ H1 Q) I ⟨F, ρ, er, (PostG.bind (rel := rIs P) z).imp fun v H1 q => ⟨v, rfl, q⟩⟩) ?_) he hpl
  rintro us s1 ⟨vs, H1, I1, r1, v, rfl, F1, d, g1, i1, q1⟩
  obtain ⟨u, rfl, rv⟩ := Vals.one r1
  unfold strC at q1
  split at q1
  · have ex := un_int i1
    subst ex
    split at q1
    · rename_i hl
      exact call_str_int pins s1 σ H1 _ _ Q I1 r1 ⟨_, rfl, hl, q1.here g1.s is_str⟩
    · exact q1.elim
  · split at q1
    · rename_i hc
      subst hc
      obtain ⟨ad, dx, vs, rfl, h1, h2, h3⟩ := obj_of i1
      obtain rfl : u = Value.ref ad := rv
      obtain ⟨ox, od, J⟩ := inst_at I1 (g1.s.ex _ _ h1)
      refine PySem.W.kso_call ?_ I1.kIn J M.at_ M.fn ?_
      · have := (hr.in1.in1).units0
        exact this
      · refine thn (run_at (A' := X.A.in1.in1) (vs := [.ref ad]) (ds := [_]) Fn ((sub_here hr).in1.in1) hb tk I1 (.cons rfl .nil) g1.s (.cons i1 .nil) (PostG.bind (rel := rIs P) q1)) ?_
        rintro w s2 ⟨v2, H2, I2, r2, F2, d2, g2, i2, q2⟩
        obtain ⟨x', rfl, F3, t', g3, e3, z3⟩ := strD_of g2.s i2 (PostG.bind (rel := rSt) q2)
        cases e3
        obtain ⟨t, rfl⟩ := r2
        exact ⟨.str x', H2, I2, ⟨t, rfl⟩, z3.here g3.s is_str⟩
    · exact q1.elim
  · exact q1.elim
/-! ### {k: v}, k a tuple -/
def disp1 (x y : D) : Res D := match keyT x with
  | some k => .ok (.dT [k] [y])
  | none => .bad
theorem nd_disp1 {k v : Expr} (hu : X.A.units + 8 < cLine) (hk : PE X k (tE P F0 H0 W fa)) (hv : PE X v (tE P F0 H0 W fb)) :
    PE X (.Dict [some k] [v] pos) (tN P F0 H0 W (fun ρ => do let x ← fa ρ; let y ← fb ρ; disp1 x y)) := by
  refine ⟨fun pins s σ H Q I ⟨F, ρ, er, z⟩ => ?_⟩
  replace z : PostG P W (rNw P H) (do let x ← fa ρ; let y ← fb ρ; disp1 x y) F σ H Q := z
  have hn := I.hok.fresh (Nat.le_refl s.heap.objs.size)
  have I1 := I.laid (a := s.heap.objs.size) (o := .dT []) (h' := s.heap.push { cls := .type "dict", data := .dict #[] }) (t' := s.toks) (fun _ _ q => Heap.get?_push_of_some _ q) (Nat.le_refl _) (dt_empty s.heap I.big)
  rw [PySem.arm_eval_Dict, PySem.zip_pairTrees [some k] [v] X.env pos rfl rfl, PySem.dictDisplay_pairs (PySem.pairTrees [some k] [v] X.env pos) (by intro h; cases h) (by show 1 < 17; decide)]
  refine wpAny_bind (wpAny_standAt (wpAny_bind (PySem.wpAny_subDictH (knd := tupleKind (mixKind X.prog X.w)) (by show X.A.units < cLine; omega) (by show 1 ≤ 15; decide) ?_)))
  have g0 : Grow P F H F (upd H s.heap.objs.size (.dT [])) := .junk er.s (.new hn)
  have pa : PostG P W (rIs P) (fa ρ) F σ (upd H s.heap.objs.size (.dT [])) (fun x H1 => ∃ F1 dx, fa ρ = .ok dx ∧ Grow P F (upd H s.heap.objs.size (.dT [])) F1 H1 ∧ Is P F1 dx x) := by
    cases hfa : fa ρ with
    | ok dx => exact fun x F1 H1 g i => ⟨F1, dx, rfl, g, i⟩
    | err c pp =>
      rw [hfa] at z
      exact fun F' H' y g q => z F' H' y (g0.trans g) q
    | bad =>
      rw [hfa] at z
      exact z.elim
  refine PySem.pairTrees_cons_walk (thn (hk.run pins _ σ _ _ I1 ⟨F, ρ, er.grow g0, pa⟩) ?_)
  rintro u s1 ⟨x, H1, I1', rx, F1, dx, hfa, g1, i1⟩
  rw [hfa, Res.bind_ok] at z
  have pb : PostG P W (rIs P) (fb ρ) F1 σ H1 (fun y H2 => ∃ F2 dy, fb ρ = .ok dy ∧ Grow P F1 H1 F2 H2 ∧ Is P F2 dy y) := by
    cases hfb : fb ρ with
    | ok dy => exact fun x F1 H1 g i => ⟨F1, dy, rfl, g, i⟩
    | err c pp =>
      rw [hfb] at z
      exact fun F' H' y g q => z F' H' y ((g0.trans g1).trans g) q
    | bad =>
      rw [hfb] at z
      exact z.elim
  refine thn (hv.run pins s1 σ H1 _ I1' ⟨F1, ρ, (er.grow g0).grow g1, pb⟩) ?_
  rintro w2 s2 ⟨y, H2, I2, ry, F2, dy, hfb, g2, i2⟩
  rw [hfb, Res.bind_ok] at z
  refine PySem.pairTrees_nil_walk ?_
  unfold disp1 at z
  cases hkk : keyT dx with
  | none =>
    rw [hkk] at z
    exact z.elim
  | some kk =>
    rw [hkk] at z
    obtain ⟨b, rfl, hb⟩ := keyT_is (i1.mono g2.f dx) hkk
    obtain rfl : u = Value.ref b := rx
    have hH : H2 s.heap.objs.size = some (.dT []) := g2.h.dat (g1.h.dat upd_same)
    obtain ⟨_, hsys, xs0, kt0, dd0⟩ := dt_rd I2.hok (.inl hH)
    cases kt0
    have hkey := key_of I2.hok (g2.s.ex _ _ hb)
    refine ⟨[(kk, b, w2)], ⟨rfl, rfl, hkey, trivial⟩, dd0, fun h' tk dd' hs => wpAny_pure ?_⟩
    have ho : ∃ q, h'.get? s.heap.objs.size = some q := let ⟨q, _, _, hq, _⟩ := dd'; ⟨q, hq⟩
    obtain ⟨ob, es, ep, d1, d2, d3, d4, d5, d6⟩ := dd'
    have hbd : H2 b = some (.tup (kk.map kV)) := g2.s.ex _ _ hb
    have hbn : b ≠ s.heap.objs.size := fun e => by
      rw [e, hH] at hbd
      cases hbd
    have I3 : Inv X pins σ (upd H2 s.heap.objs.size (.dT [(kk, y)])) { s2 with heap := h', toks := tk } := d_write I2 (by rw [hH]; exact True.intro) hs ho (show ObjOk X.prog X.w _ _ _ (.dT _) from ⟨by rw [sizeLine_eq]; show 1 ≤ 16777216; decide, hsys, [(kk, b, w2)], .cons ⟨rfl, by rw [upd_ne hbn]; exact hbd, ry⟩ .nil, ob, es, ep, d1, d2, d3, d4, by simp⟩)
    have gg : Grow P F (upd H s.heap.objs.size (.dT [])) F2 H2 := g1.trans g2
    have hF2 : F2 s.heap.objs.size = none := by
      cases q : F2 s.heap.objs.size with
      | none => rfl
      | some o =>
        have hq := g2.s.ex _ _ q
        rw [hH] at hq
        cases hq
        rcases gg.n _ _ q with n | n | ⟨xs, n⟩
        · have := er.s.ex _ _ n
          rw [hn] at this
          cases this
        · exact (n.no upd_same rfl).elim
        · cases n
    refine ⟨.ref s.heap.objs.size, _, I3, rfl, z _ F2 _ ⟨gg.f, ⟨fun a o h hT => ?_⟩, ⟨fun a o h => ?_, g2.s.nt, Tabs.upd g2.s.tabs hH rfl⟩, fun a o h => ?_⟩ ⟨s.heap.objs.size, rfl, .of hn, hF2, [y], by rw [upd_same]; rfl, rfl, .cons i2 .nil⟩⟩
    · have ne : a ≠ s.heap.objs.size := ne_of_none h hn
      rw [upd_ne ne]
      exact gg.h.at_ a o (by rw [upd_ne ne]; exact h) hT
    · rw [upd_ne (fun e => by rw [e, hF2] at h; cases h)]
      exact g2.s.ex a o h
    · exact (g0.trans gg).n a o h
end
end DL
namespace DL
open PySem L2
/-! ### short names, own equality of one class -/
@[simp] abbrev fDictA (f : Env → Res D) : Env → Res D := fun ρ => do let x ← f ρ; opt (cDictA x)
@[simp] abbrev fDisp1 (a b : Env → Res D) : Env → Res D := fun ρ => do let x ← a ρ; let y ← b ρ; disp1 x y
@[simp] abbrev fSort0 (a : Env → Res D) : Env → Res D := fun ρ => do let x ← a ρ; opt (cSort0 x)
@[simp] abbrev fJoin (a b : Env → Res D) : Env → Res D := fun ρ => do let x ← a ρ; let s ← strD x; let y ← b ρ; opt (joinD (.str s) y)
def geOf (c : Nat) (g : List D → Res D) : Nat → Option (List D → Res D) := fun x => if x = c then some g else none
theorem geOf_some {c x : Nat} {g g' : List D → Res D} (h : geOf c g x = some g') : x = c ∧ g' = g := by
  unfold geOf at h
  split at h
  · cases h
    exact ⟨by assumption, rfl⟩
  · cases h
theorem geOf_own {prog : Program} {w : World} {K : PySem.W.Frag} {mg : Str → Option Value} {base : Heap} {P : Pm} {k cn : Nat} {g : List D → Res D} (h : OwnD prog w K mg base P k "__eq__" cn 2 g) :
    ∀ c g', geOf cn g c = some g' → OwnD prog w K mg base P k "__eq__" c 2 g' := fun c g' e => by
  obtain ⟨rfl, rfl⟩ := geOf_some e
  exact h
theorem eqCs_of {K : PySem.W.Frag} {P : Pm} {cn : Nat} (nf : ∀ d, isScr d = false → PySem.W.notFirst K (P.C cn) (tyD P d) = true) (hi : ∀ c, IsiC K (P.C c)) (s2 : PySem.W.subIn K (.ref (P.C cn)) (.type "int") = some false) (ne : PySem.W.findIn K (.ref (P.C cn)) "__ne__" = some (some (.builtin "object.__ne__"))) (g : List D → Res D) : EqCs K P (geOf cn g) where
  nf := fun c g' d e h => by
    obtain ⟨rfl, rfl⟩ := geOf_some e
    exact nf d h
  isi := hi
  s2 := fun c g' e => by
    obtain ⟨rfl, rfl⟩ := geOf_some e
    exact s2
  ne := fun c g' e => by
    obtain ⟨rfl, rfl⟩ := geOf_some e
    exact ne
end DL
namespace DL
open PySem L2
section
variable {X : Cx} {P : Pm} {F0 : Fz} {H0 : Hp} {W : WX} {elt tg iter : Expr} {ifs : List Expr} {scope : Scope} {own : List (Str × Nat)} {pos spos py : Pos} {fi : Env → Res (List D)} {h : D → Env → Option Env} {gt : Env → Res Bool} {fe : Env → Res D}
/-- x = [.. for ..], the list x's own -/
theorem sd_setLc {us : List Nat} {i : Nat} {y : Str} (hc : X.calm = true) (hN : X.N.Nodup) (hi : PI X tg iter (tI P F0 H0 W fi)) (ok : BlkOk X.N X.env.scope scope own) (hu : own.map (·.2) = us)
    (hg : ∀ (s : Shared) (H : Hp) (C : Addr) (cl : List (Str × Addr)) (fp : List Addr), PG (X.blk s H scope (PySem.compEnvC scope cl C X.env) fp) tg (tGt P F0 H0 us h))
    (ht : ∀ (s : Shared) (H : Hp) (C : Addr) (cl : List (Str × Addr)) (fp : List Addr), PTs (X.blk s H scope (PySem.compEnvC scope cl C X.env) fp) ifs (tT P F0 H0 W0 gt))
    (he : ∀ (s : Shared) (H : Hp) (C : Addr) (cl : List (Str × Addr)) (fp : List Addr), PE (X.blk s H scope (PySem.compEnvC scope cl C X.env) fp) elt (tE P F0 H0 W0 fe)) (hy : X.N[i]? = some y := by rfl) (hk : X.env.scope.kind = .function := by rfl) (hyl : X.env.scope.names.lookup y = some .local := by rfl) (hl : (py.line == pos.line) = true := by rfl)
    (hn : (scope.names.any fun (n, k) => n == y && (k == .local || k == .cell)) = false := by rfl) (h0 : F0.S = none ∨ 0 ∉ us := by first | exact Or.inl rfl | exact Or.inr (by decide)) (hi0 : F0.S = none ∨ i ≠ 0 := by first | exact Or.inl rfl | exact Or.inr (by decide))
    (hs : ∀ x, foldedSetIterable iter X.env x = pure x := by intro _; rfl) :
    PS X (.Assign [.Name y py] (.ListComp elt [⟨tg, iter, ifs, 0⟩] scope pos) spos) (tS P F0 H0 W (fun ρ => bindS (do let items ← fi ρ; let ys ← lcD h gt fe (wipeE ρ us) items; mkL ys) ρ fun d => .nx (ρ.set i (some (.ow d))))) :=
  (ps_setLc hc hN hy hyl (sw_true hk hyl hl hn) hi ok hg ht he hs).imp fun N σ H ⟨F, ρ, er, z⟩ => by
  rw [hu]
  refine lc_of (ρ := ρ) h0 er ((PostS.bind (rel := rNw P H) er z).imp ?_)
  rintro v H1 ⟨F1, d, g, ⟨q, rfl, h1, h2, h3⟩, z⟩
  exact z _ F1 H1 (er.putO g i h1 h2 h3 hi0) (.refl F1)
end
end DL
namespace DL.K44
open PySem L2
def nmv : Nat → List Str
  | 1 => ["fields", "parts"]
  | _ => ["top", "bottom"]
def g__law_cell : Env → RS := (sSeq (sIf (tB' (fOp dLt (peek 1) (fB cLenS (lCons (peek 0) lNil))))
  (sRet (fOp itemS (peek 0) (peek 1)))
  .nx)
  (sRet (fK (.int 0))))
def G__law_cell : List D → Res D := runB g__law_cell 2
def fr__law_row_0 : Env → RS := (sFor (iSq (look 1)) (hName 3)
  (sSeq (sApp 2 (fOp (int2 modC) (fB cInt2 (lCons (peek 0) lNil)) (peek 3)))
  (sSet 0 (fOp (int2 fdivC) (peek 0) (peek 3)))))
def fr__law_row_1 : Env → RS := (sFor (iR1 (lCons (fB cLen (lCons (peek 1) lNil)) lNil)) (hName 5)
  (sSeq (sSet 6 (fOp addA (fOp (int2 modC) (fB cInt2 (lCons (fOp (int2 powC) (fOp addA (fOp addA (peek 4) (fOp (int2 mulB) (fK (.int 7919)) (peek 5))) (fK (.int 104729))) (fK (.int 5))) lNil)) (fK (.int 2147483647))) (peek 5)))
  (sApp 2 (fOp (int2 modC) (fB cInt2 (lCons (fOp (int2 modC) (fB cInt2 (lCons (fOp (int2 mulB) (peek 6) (fK (.int 40692))) lNil)) (fK (.int 2147483629))) lNil)) (fOp itemD (peek 1) (peek 5))))))
def g__law_row : Env → RS := (sSeq (sSetO 2 (fLst lNil))
  (sSeq (sIf (tB' (fOp dGe (peek 0) (fOp (int2 powC) (fK (.int 10)) (fK (.int 18)))))
  (sSeq fr__law_row_0
  (sFrz 2 (sRet (look 2))))
  .nx)
  (sSeq (sSet 4 (fOp (int2 modC) (fB cInt2 (lCons (peek 0) lNil)) (fK (.int 2147483647))))
  (sSeq fr__law_row_1
  (sFrz 2 (sRet (look 2)))))))
def G__law_row : List D → Res D := runB g__law_row 7
def g__law_fields : Env → RS := (sRet (fOp itemD (fLst (lCons (fLst (lCons (fK (.str "x")) (lCons (fK (.str "y")) lNil))) (lCons (fLst (lCons (fK (.str "x")) lNil)) (lCons (fLst lNil) (lCons (fLst (lCons (fK (.str "price")) (lCons (fK (.str "many")) lNil))) (lCons (fLst (lCons (fK (.str "b")) (lCons (fK (.str "a")) lNil))) (lCons (fLst (lCons (fK (.str "zz")) lNil)) lNil))))))) (fOp (int2 modC) (peek 0) (fK (.int 6)))))
def G__law_fields : List D → Res D := runB g__law_fields 1
def wh__law_gcd_0 : Env → RS := (whileD (tB' (fOp dGt (peek 1) (fK (.int 0)))) (sPar 0 1 (lCons (look 1) (lCons (fOp (int2 modC) (peek 0) (peek 1)) lNil))) big)
def g__law_gcd : Env → RS := (sSeq (sPar 0 1 (lCons (fB cAbs (lCons (peek 0) lNil)) (lCons (fB cAbs (lCons (peek 1) lNil)) lNil)))
  (sSeq wh__law_gcd_0
  (sRet (look 0))))
def G__law_gcd : List D → Res D := runB g__law_gcd 2
def g__law_low : Env → RS := (sSeq (sAsg (look 0) (hTup fun ds ρ => if ds.length = 2 then (hCons (hName 1) (hCons (hName 2) hNil)) ds ρ else none))
  (sSeq (sSet 3 (fCall 2 G__law_gcd (lCons (look 1) (lCons (look 2) lNil))))
  (sSeq (sIf (tB' (fOp dLt (peek 2) (fK (.int 0))))
  (sSet 3 (fOp dSub (fK (.int 0)) (peek 3)))
  .nx)
  (sRet (fTup (lCons (fOp (int2 fdivC) (peek 1) (peek 3)) (lCons (fOp (int2 fdivC) (peek 2) (peek 3)) lNil)))))))
def G__law_low : List D → Res D := runB g__law_low 4
def fr__law_terms_0 : Env → RS := (sFor (iR1 (lCons (fOp (int2 fdivC) (fB cLen (lCons (peek 0) lNil)) (fK (.int 4))) lNil)) (hName 3)
  (sSeq (sAsg (fSlc (peek 0) (oSo (fOp (int2 mulB) (fK (.int 4)) (peek 3))) (oSo (fOp addA (fOp (int2 mulB) (fK (.int 4)) (peek 3)) (fK (.int 4))))) (hLst fun ds ρ => if ds.length = 4 then (hCons (hName 4) (hCons (hName 5) (hCons (hName 6) (hCons (hName 7) hNil)))) ds ρ else none))
  (sDput 2 (fSlc (fTup (lCons (look 4) (lCons (look 5) lNil))) oNo (oSo (fB cLen (lCons (peek 1) lNil)))) (fCall 1 G__law_low (lCons (fTup (lCons (fOp dSub (peek 6) (fK (.int 9))) (lCons (fOp addA (fK (.int 1)) (peek 7)) lNil))) lNil)))))
def g__law_terms : Env → RS := (sSeq (sSetO 2 (fK (.dT [] [])))
  (sSeq fr__law_terms_0
  (retO 2)))
def G__law_terms : List D → Res D := runO g__law_terms 8
def wh_common_0 : Env → RS := (whileD (tB' (fOp dGt (peek 1) (fK (.int 0)))) (sPar 0 1 (lCons (look 1) (lCons (fOp (int2 modC) (peek 0) (peek 1)) lNil))) big)
def g_common : Env → RS := (sSeq (sPar 0 1 (lCons (fB cAbs (lCons (peek 0) lNil)) (lCons (fB cAbs (lCons (peek 1) lNil)) lNil)))
  (sSeq wh_common_0
  (sRet (look 0))))
def G_common : List D → Res D := runB g_common 2
def g_Ratio___init__ : Env → RS := (sSeq (sIf (tB' (fOp eqD (peek 2) (fK (.int 0))))
  sBad
  .nx)
  (sSeq (sSet 3 (fCall 2 G_common (lCons (look 1) (lCons (look 2) lNil))))
  (sSeq (sIf (tB' (fOp dLt (peek 2) (fK (.int 0))))
  (sSet 3 (fU negC (peek 3)))
  .nx)
  (sSeq (sFld nmv "top" 0 (fOp (int2 fdivC) (peek 1) (peek 3)))
  (sFld nmv "bottom" 0 (fOp (int2 fdivC) (peek 2) (peek 3)))))))
def G_Ratio___init__ : List D → Res (List D) := runI 0 g_Ratio___init__ 4
def g__law_made : Env → RS := (sSeq (sAsg (fCall 1 G__law_low (lCons (look 0) lNil)) (hTup fun ds ρ => if ds.length = 2 then (hCons (hName 2) (hCons (hName 3) hNil)) ds ρ else none))
  (sRet (fIf (tAnd' (tB' (fOp eqD (peek 3) (fK (.int 1)))) (tB' (look 1))) (look 2) (fMk 0 2 G_Ratio___init__ (lCons (look 2) (lCons (look 3) lNil))))))
def G__law_made : List D → Res D := runB g__law_made 4
def lc__law_handed_0 : Env → Res D := (fLc (iKs (look 0)) (hName 2) tYes' (fTup (lCons (look 2) (lCons (fCall 2 G__law_made (lCons (fN dgetR (peek 0) (look 2)) (lCons (look 1) lNil))) lNil))) [2])
def g__law_handed : Env → RS := (sRet (fDict lc__law_handed_0))
def G__law_handed : List D → Res D := runB g__law_handed 3
def lc_is_name_0 : Env → Res D := (fLc (iSq (look 0)) (hName 1) tYes' (fOp inS (peek 1) (fK (.str "abcdefghijklmnopqrstuvwxyz"))) [1])
def g_is_name : Env → RS := (sSeq (sIf (tOr' (tNot' (tB' (fM (isiD ib_str) (peek 0)))) (tNot' (tB' (fChain dLe dLe (fK (.int 1)) (fB cLen (lCons (peek 0) lNil)) (fK (.int 8))))))
  (sRet (fK (.bl false)))
  .nx)
  (sRet (fB cAll (lCons lc_is_name_0 lNil))))
def G_is_name : List D → Res D := runB g_is_name 2
def fr_check_fields_0 : Env → RS := (sFor (iEnuA (lCons (look 0) lNil)) (hTup fun ds ρ => if ds.length = 2 then (hCons (hName 1) (hCons (hName 2) hNil)) ds ρ else none)
  (sIf (tOr' (tNot' (tB' (fCall 1 G_is_name (lCons (look 2) lNil)))) (tB' (fOp inT (peek 2) (fSlc (peek 0) oNo (oSo (look 1))))))
  sBad
  .nx))
def g_check_fields : Env → RS := fr_check_fields_0
def G_check_fields : List D → Res D := runB g_check_fields 3
def g_is_integer : Env → RS := (sRet (vAnd (fM (isiD ib_int) (peek 0)) (vNot (fM (isiD ib_bool) (peek 0)))))
def G_is_integer : List D → Res D := runB g_is_integer 1
def lc_is_powers_0 : Env → Res D := (fLc (iSq (look 0)) (hName 2) tYes' (vAnd (fCall 1 G_is_integer (lCons (look 2) lNil)) (fOp dGe (peek 2) (fK (.int 0)))) [2])
def g_is_powers : Env → RS := (sSeq (sIf (tOr' (tNot' (tB' (fM (isiD ib_tuple) (peek 0)))) (tB' (fOp neD (fB cLen (lCons (peek 0) lNil)) (peek 1))))
  (sRet (fK (.bl false)))
  .nx)
  (sRet (fB cAll (lCons lc_is_powers_0 lNil))))
def G_is_powers : List D → Res D := runB g_is_powers 3
def g_halves_of : Env → RS := (sRet (fIf (tB' (fM (isiD ib_c0) (peek 0))) (fTup (lCons (fU (fldD nmv "top") (peek 0)) (lCons (fU (fldD nmv "bottom") (peek 0)) lNil))) (fTup (lCons (look 0) (lCons (fK (.int 1)) lNil)))))
def G_halves_of : List D → Res D := runB g_halves_of 1
def g_is_number : Env → RS := (sRet (vOr (fCall 1 G_is_integer (lCons (look 0) lNil)) (fM (isiD ib_c0) (peek 0))))
def G_is_number : List D → Res D := runB g_is_number 1
def g_Ratio___eq__ : Env → RS := (sRet (vAnd (fCall 1 G_is_number (lCons (look 1) lNil)) (fOp eqD (fCall 1 G_halves_of (lCons (look 1) lNil)) (fTup (lCons (fU (fldD nmv "top") (peek 0)) (lCons (fU (fldD nmv "bottom") (peek 0)) lNil))))))
def G_Ratio___eq__ : List D → Res D := runB g_Ratio___eq__ 2
def g_plain : Env → RS := (sSeq (sAsg (fCall 1 G_halves_of (lCons (look 0) lNil)) (hTup fun ds ρ => if ds.length = 2 then (hCons (hName 1) (hCons (hName 2) hNil)) ds ρ else none))
  (sRet (fIf (tB' (fOp eqD (peek 2) (fK (.int 1)))) (look 1) (look 0))))
def G_plain : List D → Res D := runB g_plain 3
def fr_one_form_0 : Env → RS := (sFor (iSq (fSort (peek 0) (fK (.bl true)))) (hName 2)
  (sIf (tB' (fN (neN G_Ratio___eq__) (fN dgetR (peek 0) (look 2)) (fK (.int 0))))
  (sDput 1 (look 2) (fCall 1 G_plain (lCons (fN dgetR (peek 0) (look 2)) lNil)))
  .nx))
def g_one_form : Env → RS := (sSeq (sSetO 1 (fK (.dT [] [])))
  (sSeq fr_one_form_0
  (sFrz 1 (sRet (look 1)))))
def G_one_form : List D → Res D := runB g_one_form 3
def fr_Poly___init___0 : Env → RS := (sFor (iKs (look 2)) (hName 3)
  (sIf (tNot' (tB' (fCall 2 G_is_powers (lCons (look 3) (lCons (fB cLen (lCons (fU (fldD nmv "fields") (peek 0)) lNil)) lNil)))))
  sBad
  .nx))
def g_Poly___init__ : Env → RS := (sSeq (sFld nmv "fields" 0 (fB cTup (lCons (peek 1) lNil)))
  (sSeq (sDrop (fCall 1 G_check_fields (lCons (fU (fldD nmv "fields") (peek 0)) lNil)))
  (sSeq fr_Poly___init___0
  (sFld nmv "parts" 0 (fCall 1 G_one_form (lCons (look 2) lNil))))))
def G_Poly___init__ : List D → Res (List D) := runI 1 g_Poly___init__ 4
def lc__law_kept_0 : Env → Res D := (fLc (iKs (look 0)) (hName 1) (tB' (fOp neD (fOp itemD (fN dgetR (peek 0) (look 1)) (fK (.int 0))) (fK (.int 0)))) (fTup (lCons (look 1) (lCons (fN dgetR (peek 0) (look 1)) lNil))) [1])
def g__law_kept : Env → RS := (sRet (fDict lc__law_kept_0))
def G__law_kept : List D → Res D := runB g__law_kept 2
def g_Ratio___str__ : Env → RS := (sSeq (sIf (tB' (fOp eqD (fU (fldD nmv "bottom") (peek 0)) (fK (.int 1))))
  (sRet (fF1 (zF (fU (fldD nmv "top") (peek 0)))))
  .nx)
  (sRet (fF3 (zF (fU (fldD nmv "top") (peek 0))) (zS "/") (zF (fU (fldD nmv "bottom") (peek 0))))))
def G_Ratio___str__ : List D → Res D := runB g_Ratio___str__ 1
def lc__law_text_of_0 : Env → Res D := (fLc (iZipA (lCons (look 1) (lCons (look 2) lNil))) (hTup fun ds ρ => if ds.length = 2 then (hCons (hName 6) (hCons (hName 7) hNil)) ds ρ else none) (tB' (fOp dGt (peek 7) (fK (.int 0)))) (fOp itemD (fLst (lCons (look 6) (lCons (fOp addA (fOp addA (peek 6) (fK (.str "^"))) (fM (strN G_Ratio___str__) (look 7))) lNil))) (fB cInt2 (lCons (fOp dGt (peek 7) (fK (.int 1))) lNil))) [6, 7])
def g__law_text_of : Env → RS := (sSeq (sPar 3 4 (lCons (fB cAbs (lCons (fOp itemD (peek 0) (fK (.int 0))) lNil)) (lCons (fOp itemD (peek 0) (fK (.int 1))) lNil)))
  (sSeq (sSetO 5 lc__law_text_of_0)
  (sSeq (sSet 8 (fIf (tB' (fOp eqD (peek 4) (fK (.int 1)))) (fM (strN G_Ratio___str__) (look 3)) (fOp addA (fOp addA (fM (strN G_Ratio___str__) (look 3)) (fK (.str "/"))) (fM (strN G_Ratio___str__) (look 4)))))
  (sFrz 5 (sRet (fIf (tAnd' (tB' (fOp neD (peek 5) (fLst lNil))) (tB' (fOp eqD (peek 8) (fK (.str "1"))))) (fJoin (fK (.str "*")) (peek 5)) (fJoin (fK (.str "*")) (fOp addA (fLst (lCons (look 8) lNil)) (peek 5)))))))))
def G__law_text_of : List D → Res D := runB g__law_text_of 9
def fr__law_due_0 : Env → RS := (sFor (iSq (fSort (fCall 1 G__law_kept (lCons (look 0) lNil)) (fK (.bl true)))) (hName 3)
  (sSeq (sSet 4 (fIf (tB' (fOp dLt (fOp itemD (fN dgetR (peek 0) (look 3)) (fK (.int 0))) (fK (.int 0)))) (fK (.str "-")) (fK (.str "+"))))
  (sIf (tB' (fOp eqD (peek 2) (fK (.str ""))))
  (sSet 2 (fOp addA (fOp itemD (fLst (lCons (fK (.str "")) (lCons (fK (.str "-")) lNil))) (fB cInt2 (lCons (fOp eqD (peek 4) (fK (.str "-"))) lNil))) (fCall 3 G__law_text_of (lCons (fN dgetR (peek 0) (look 3)) (lCons (look 1) (lCons (look 3) lNil))))))
  (sSet 2 (fOp addA (fOp addA (fOp addA (fOp addA (peek 2) (fK (.str " "))) (peek 4)) (fK (.str " "))) (fCall 3 G__law_text_of (lCons (fN dgetR (peek 0) (look 3)) (lCons (look 1) (lCons (look 3) lNil)))))))))
def g__law_due : Env → RS := (sSeq (sSet 2 (fK (.str "")))
  (sSeq fr__law_due_0
  (sRet (fIf (tB' (fOp neD (peek 2) (fK (.str "")))) (look 2) (fK (.str "0"))))))
def G__law_due : List D → Res D := runB g__law_due 5
def g_Poly___eq__ : Env → RS := (sRet (vAnd (fM (isiD ib_c1) (peek 1)) (vAnd (fOp eqD (fU (fldD nmv "fields") (peek 0)) (fU (fldD nmv "fields") (peek 1))) (fN (eqXR (geOf 0 G_Ratio___eq__) 1) (fU (fldD nmv "parts") (peek 0)) (fU (fldD nmv "parts") (peek 1))))))
def G_Poly___eq__ : List D → Res D := runB g_Poly___eq__ 2
def fr_factors_text_0 : Env → RS := (sFor (iZipA (lCons (look 0) (lCons (look 1) lNil))) (hTup fun ds ρ => if ds.length = 2 then (hCons (hName 3) (hCons (hName 4) hNil)) ds ρ else none)
  (sIf (tB' (fOp dGt (peek 4) (fK (.int 0))))
  (sApp 2 (fIf (tB' (fOp eqD (peek 4) (fK (.int 1)))) (look 3) (fF3 (zF (look 3)) (zS "^") (zF (look 4)))))
  .nx))
def g_factors_text : Env → RS := (sSeq (sSetO 2 (fLst lNil))
  (sSeq fr_factors_text_0
  (sFrz 2 (sRet (look 2)))))
def G_factors_text : List D → Res D := runB g_factors_text 5
def g_top_of : Env → RS := (sRet (fOp itemD (fCall 1 G_halves_of (lCons (look 0) lNil)) (fK (.int 0))))
def G_top_of : List D → Res D := runB g_top_of 1
def g_Ratio___neg__ : Env → RS := (sRet (fMk 0 2 G_Ratio___init__ (lCons (fU negC (fU (fldD nmv "top") (peek 0))) (lCons (fU (fldD nmv "bottom") (peek 0)) lNil))))
def G_Ratio___neg__ : List D → Res D := runB g_Ratio___neg__ 1
def g_term_text : Env → RS := (sSeq (sSet 2 (fIf (tB' (fOp dLt (fCall 1 G_top_of (lCons (look 0) lNil)) (fK (.int 0)))) (fM (negN G_Ratio___neg__) (look 0)) (look 0)))
  (sSeq (sIf (tOr' (tB' (fOp eqD (peek 1) (fLst lNil))) (tB' (fN (neN G_Ratio___eq__) (look 2) (fK (.int 1)))))
  (sRet (fJoin (fK (.str "*")) (fOp addA (fLst (lCons (fM (strN G_Ratio___str__) (look 2)) lNil)) (peek 1))))
  .nx)
  (sRet (fJoin (fK (.str "*")) (peek 1)))))
def G_term_text : List D → Res D := runB g_term_text 3
def fr_joined_terms_0 : Env → RS := (sFor (iSq (look 0)) (hTup fun ds ρ => if ds.length = 2 then (hCons (hName 2) (hCons (hName 3) hNil)) ds ρ else none)
  (sSeq (sIf (tB' (fOp eqD (peek 1) (fK (.str ""))))
  (sSet 1 (fIf (tB' (fOp dLt (fCall 1 G_top_of (lCons (look 2) lNil)) (fK (.int 0)))) (fK (.str "-")) (fK (.str ""))))
  (sSet 1 (fOp addA (peek 1) (fIf (tB' (fOp dLt (fCall 1 G_top_of (lCons (look 2) lNil)) (fK (.int 0)))) (fK (.str " - ")) (fK (.str " + "))))))
  (sSet 1 (fOp addA (peek 1) (fCall 2 G_term_text (lCons (look 2) (lCons (look 3) lNil)))))))
def g_joined_terms : Env → RS := (sSeq (sSet 1 (fK (.str "")))
  (sSeq fr_joined_terms_0
  (sRet (fIf (tB' (fOp neD (peek 1) (fK (.str "")))) (look 1) (fK (.str "0"))))))
def G_joined_terms : List D → Res D := runB g_joined_terms 4
def lc_Poly___str___0 : Env → Res D := (fLc (iKs (fU (fldD nmv "parts") (peek 0))) (hName 2) tYes' (fTup (lCons (fN dgetR (fU (fldD nmv "parts") (peek 0)) (look 2)) (lCons (fCall 2 G_factors_text (lCons (fU (fldD nmv "fields") (peek 0)) (lCons (look 2) lNil))) lNil))) [2])
def g_Poly___str__ : Env → RS := (sSeq (sSetO 1 lc_Poly___str___0)
  (sFrz 1 (sRet (fF1 (zF (fCall 1 G_joined_terms (lCons (look 1) lNil)))))))
def G_Poly___str__ : List D → Res D := runB g_Poly___str__ 3
def g_parts_beside : Env → RS := (sSeq (sIf (tNot' (tB' (fM (isiD ib_c1) (peek 1))))
  sBad
  .nx)
  (sSeq (sIf (tB' (fOp neD (fU (fldD nmv "fields") (peek 1)) (fU (fldD nmv "fields") (peek 0))))
  sBad
  .nx)
  (sRet (fU (fldD nmv "parts") (peek 1)))))
def G_parts_beside : List D → Res D := runB g_parts_beside 2
def g_Ratio___mul__ : Env → RS := (sSeq (sIf (tNot' (tB' (fCall 1 G_is_number (lCons (look 1) lNil))))
  sBad
  .nx)
  (sSeq (sAsg (fCall 1 G_halves_of (lCons (look 1) lNil)) (hTup fun ds ρ => if ds.length = 2 then (hCons (hName 2) (hCons (hName 3) hNil)) ds ρ else none))
  (sRet (fMk 0 2 G_Ratio___init__ (lCons (fOp (int2 mulB) (fU (fldD nmv "top") (peek 0)) (peek 2)) (lCons (fOp (int2 mulB) (fU (fldD nmv "bottom") (peek 0)) (peek 3)) lNil))))))
def G_Ratio___mul__ : List D → Res D := runB g_Ratio___mul__ 4
def g_Ratio___rmul__ : Env → RS := (sRet (fN (opL G_Ratio___mul__) (look 0) (look 1)))
def G_Ratio___rmul__ : List D → Res D := runB g_Ratio___rmul__ 2
def g_Ratio___add__ : Env → RS := (sSeq (sIf (tNot' (tB' (fCall 1 G_is_number (lCons (look 1) lNil))))
  sBad
  .nx)
  (sSeq (sAsg (fCall 1 G_halves_of (lCons (look 1) lNil)) (hTup fun ds ρ => if ds.length = 2 then (hCons (hName 2) (hCons (hName 3) hNil)) ds ρ else none))
  (sRet (fMk 0 2 G_Ratio___init__ (lCons (fOp addA (fOp (int2 mulB) (fU (fldD nmv "top") (peek 0)) (peek 3)) (fOp (int2 mulB) (peek 2) (fU (fldD nmv "bottom") (peek 0)))) (lCons (fOp (int2 mulB) (fU (fldD nmv "bottom") (peek 0)) (peek 3)) lNil))))))
def G_Ratio___add__ : List D → Res D := runB g_Ratio___add__ 4
def g_Ratio___radd__ : Env → RS := (sRet (fN (opL G_Ratio___add__) (look 0) (look 1)))
def G_Ratio___radd__ : List D → Res D := runB g_Ratio___radd__ 2
def fr_added_0 : Env → RS := (sFor (iKs (look 1)) (hName 4)
  (sDput 3 (look 4) (fN (opN (fun i j => some (.int (i + j))) G_Ratio___add__ G_Ratio___radd__) (fDget (peek 3) (look 4) (fK (.int 0))) (fN (opN mulB G_Ratio___mul__ G_Ratio___rmul__) (fN dgetR (peek 1) (look 4)) (look 2)))))
def g_added : Env → RS := (sSeq (sSetO 3 (fDictA (peek 0)))
  (sSeq fr_added_0
  (sFrz 3 (sRet (look 3)))))
def G_added : List D → Res D := runB g_added 5
def g_Poly___add__ : Env → RS := (sRet (fMk 1 2 G_Poly___init__ (lCons (fU (fldD nmv "fields") (peek 0)) (lCons (fCall 3 G_added (lCons (fU (fldD nmv "parts") (peek 0)) (lCons (fCall 2 G_parts_beside (lCons (look 0) (lCons (look 1) lNil))) (lCons (fK (.int 1)) lNil)))) lNil))))
def G_Poly___add__ : List D → Res D := runB g_Poly___add__ 2
def g__law_times : Env → RS := (sRet (fCall 1 G__law_low (lCons (fTup (lCons (fOp (int2 mulB) (fOp itemD (peek 0) (fK (.int 0))) (fOp itemD (peek 1) (fK (.int 0)))) (lCons (fOp (int2 mulB) (fOp itemD (peek 0) (fK (.int 1))) (fOp itemD (peek 1) (fK (.int 1)))) lNil))) lNil)))
def G__law_times : List D → Res D := runB g__law_times 2
def g__law_add : Env → RS := (sRet (fCall 1 G__law_low (lCons (fTup (lCons (fOp addA (fOp (int2 mulB) (fOp itemD (peek 0) (fK (.int 0))) (fOp itemD (peek 1) (fK (.int 1)))) (fOp (int2 mulB) (fOp itemD (peek 1) (fK (.int 0))) (fOp itemD (peek 0) (fK (.int 1))))) (lCons (fOp (int2 mulB) (fOp itemD (peek 0) (fK (.int 1))) (fOp itemD (peek 1) (fK (.int 1)))) lNil))) lNil)))
def G__law_add : List D → Res D := runB g__law_add 2
def fr__law_sum_of_0 : Env → RS := (sFor (iKs (look 1)) (hName 4)
  (sDput 3 (look 4) (fCall 2 G__law_add (lCons (fDget (peek 3) (look 4) (fTup (lCons (fK (.int 0)) (lCons (fK (.int 1)) lNil)))) (lCons (fCall 2 G__law_times (lCons (fN dgetR (peek 1) (look 4)) (lCons (fTup (lCons (look 2) (lCons (fK (.int 1)) lNil))) lNil))) lNil)))))
def g__law_sum_of : Env → RS := (sSeq (sSetO 3 (fDictA (peek 0)))
  (sSeq fr__law_sum_of_0
  (sFrz 3 (sRet (fCall 1 G__law_kept (lCons (look 3) lNil))))))
def G__law_sum_of : List D → Res D := runB g__law_sum_of 5
def fr_law_0 : Env → RS := (sFor (iEnuA (lCons (fSort0 (peek 3)) lNil)) (hTup fun ds ρ => if ds.length = 2 then (hCons (hName 4) (hCons (hName 5) hNil)) ds ρ else none)
  (sSeq (sIf (tB' (fOp eqD (fOp (int2 modC) (fOp addA (fOp itemD (peek 1) (fK (.int 2))) (peek 4)) (fK (.int 4))) (fK (.int 0))))
  (sDput 3 (look 5) (fOp itemD (fLst (lCons (fTup (lCons (fK (.int 1)) (lCons (fK (.int 1)) lNil))) (lCons (fTup (lCons (fU negC (fK (.int 1))) (lCons (fK (.int 1)) lNil))) lNil))) (fOp (int2 modC) (peek 4) (fK (.int 2)))))
  .nx)
  (sIf (tB' (fOp eqD (fOp (int2 modC) (fOp addA (fOp itemD (peek 1) (fK (.int 2))) (peek 4)) (fK (.int 4))) (fK (.int 1))))
  (sDput 3 (look 5) (fCall 1 G__law_low (lCons (fTup (lCons (fOp dSub (fOp (int2 modC) (fB cInt2 (lCons (fCall 2 G__law_cell (lCons (look 0) (lCons (fK (.int 1)) lNil))) lNil)) (fOp (int2 powC) (fK (.int 10)) (fK (.int 30)))) (fOp (int2 powC) (fK (.int 10)) (fK (.int 29)))) (lCons (fOp addA (fK (.int 1)) (peek 4)) lNil))) lNil)))
  .nx)))
def g_law : Env → RS := (sSeq (sSet 1 (fCall 2 G__law_row (lCons (fCall 2 G__law_cell (lCons (look 0) (lCons (fK (.int 0)) lNil))) (lCons (fOp addA (fLst (lCons (fK (.int 6)) (lCons (fK (.int 6)) (lCons (fK (.int 4)) lNil)))) (fOp repD (fLst (lCons (fK (.int 13)) (lCons (fK (.int 13)) (lCons (fK (.int 19)) (lCons (fK (.int 5)) lNil))))) (fK (.int 5)))) lNil))))
  (sSeq (sSet 2 (fCall 1 G__law_fields (lCons (fOp itemD (peek 1) (fK (.int 0))) lNil)))
  (sSeq (sSetO 3 (fCall 2 G__law_terms (lCons (fSlc (peek 1) (oSo (fK (.int 3))) (oSo (fOp addA (fK (.int 3)) (fOp (int2 mulB) (fK (.int 4)) (fOp itemD (peek 1) (fK (.int 1))))))) (lCons (look 2) lNil))))
  (sSeq fr_law_0
  (sSeq (sFrz 3 (sPar 6 7 (lCons (fMk 1 2 G_Poly___init__ (lCons (look 2) (lCons (fCall 2 G__law_handed (lCons (look 3) (lCons (fK (.bl true)) lNil))) lNil))) (lCons (fMk 1 2 G_Poly___init__ (lCons (fB cList (lCons (peek 2) lNil)) (lCons (fCall 2 G__law_handed (lCons (look 3) (lCons (fK (.bl false)) lNil))) lNil))) lNil))))
  (sSeq (sFrz 3 (sSet 8 (fCall 2 G__law_due (lCons (look 3) (lCons (look 2) lNil)))))
  (sSeq (sIf (tOr' (tB' (fOp neD (fM (strC 1 G_Poly___str__) (look 6)) (peek 8))) (tOr' (tB' (fOp neD (fM (strC 1 G_Poly___str__) (look 7)) (peek 8))) (tB' (fN (neXR (geOf 1 G_Poly___eq__) 0) (look 6) (look 7)))))
  (sRet (fK (.bl false)))
  .nx)
  (sSeq (sSet 9 (fMk 1 2 G_Poly___init__ (lCons (look 2) (lCons (fDisp1 (fOp repT (fTup (lCons (fK (.int 1)) lNil)) (fB cLen (lCons (peek 2) lNil))) (fK (.int 1))) lNil))))
  (sFrz 3 (sRet (fOp eqD (fM (strC 1 G_Poly___str__) (fN (opO 1 G_Poly___add__) (look 6) (look 9))) (fCall 2 G__law_due (lCons (fCall 3 G__law_sum_of (lCons (look 3) (lCons (fDisp1 (fOp repT (fTup (lCons (fK (.int 1)) lNil)) (fB cLen (lCons (peek 2) lNil))) (fTup (lCons (fK (.int 1)) (lCons (fK (.int 1)) lNil)))) (lCons (fK (.int 1)) lNil)))) (lCons (look 2) lNil))))))))))))))
def G_law : List D → Res D := runB g_law 10
end DL.K44
namespace DL.K44
open PySem L2
def clv (C C1 : Addr) : Nat → Addr
  | 1 => C1
  | _ => C
abbrev pm (K : PySem.W.Frag) (C C1 : Addr) (TT : List (Addr × Str)) : Pm := ⟨clv C C1, nmv, fun _ => .none, fun _ => "", K, TT⟩
def top (i : Nat) : Stmt := PySem.Challenge.pw_everylist_k44_texts_of_polys.main.body.getD i (.Pass ⟨0, 0, 0, 0⟩)
structure Txt (prog : Program) (K : PySem.W.Frag) (mg : Str → Option Value) (base : Heap) (C C1 : Addr) (TT : List (Addr × Str)) : Prop where
  cl : Cls K C
  nT : NoAttr K C "top"
  nB : NoAttr K C "bottom"
  cl1 : Cls K C1
  nF : NoAttr K C1 "fields"
  nP : NoAttr K C1 "parts"
  g_Ratio : mg "Ratio" = some (.ref C)
  g_Poly : mg "Poly" = some (.ref C1)
  ic : IsiC K C
  ic1 : IsiC K C1
  nob : NoB K C
  nob1 : NoB K C1
  ki : PySem.W.kitOne K (.ref C) (.type "int") = some false
  kb : PySem.W.kitOne K (.ref C) (.type "bool") = some false
  kt : PySem.W.kitOne K (.ref C) (.type "tuple") = some false
  ks : PySem.W.kitOne K (.ref C) (.type "str") = some false
  ki1 : PySem.W.kitOne K (.ref C1) (.type "int") = some false
  kb1 : PySem.W.kitOne K (.ref C1) (.type "bool") = some false
  kt1 : PySem.W.kitOne K (.ref C1) (.type "tuple") = some false
  ks1 : PySem.W.kitOne K (.ref C1) (.type "str") = some false
  k01 : PySem.W.kitOne K (.ref C) (.ref C1) = some false
  k10 : PySem.W.kitOne K (.ref C1) (.ref C) = some false
  n_add : NumC K C "__add__" "__radd__"
  n_mul : NumC K C "__mul__" "__rmul__"
  r_add : ∃ fr, PySem.W.findIn K (.ref C) "__radd__" = some (some (.ref fr))
  r_mul : ∃ fr, PySem.W.findIn K (.ref C) "__rmul__" = some (some (.ref fr))
  ec : EqC K (pm K C C1 TT)
  sf_Poly : PySem.W.selfFirst K C1 = true
  ecs_Ratio : ∀ g, EqCs K (pm K C C1 TT) (geOf 0 g)
  ecs_Poly : ∀ g, EqCs K (pm K C C1 TT) (geOf 1 g)
  kLETTERS : ∃ t, mg "LETTERS" = some (.str "abcdefghijklmnopqrstuvwxyz" t)
  kMOST_LETTERS : ∃ t, mg "MOST_LETTERS" = some (.int 8 t)
  b_abs : mg "abs" = none
  b_len : mg "len" = none
  b_list : mg "list" = none
  b_all : mg "all" = none
  b_int : mg "int" = none
  b_bool : mg "bool" = none
  b_str : mg "str" = none
  b_tuple : mg "tuple" = none
  b_range : mg "range" = none
  b_zip : mg "zip" = none
  b_enumerate : mg "enumerate" = none
  b_isinstance : mg "isinstance" = none
  b_sorted : mg "sorted" = none
  b_dict : mg "dict" = none
  b_max : mg "max" = none
section
variable {prog : Program} {w : World} {K : PySem.W.Frag} {mg : Str → Option Value} {base : Heap} {C C1 : Addr} {TT : List (Addr × Str)}
theorem clv_of {p : Addr → Prop} (h0 : p C) (h1 : p C1) : ∀ c, p (clv C C1 c)
  | 1 => h1
  | 0 => h0
  | _ + 2 => h0
theorem fld_of {f : Str} (h0 : f ∈ nmv 0 → Cls K C ∧ NoAttr K C f) (h1 : f ∈ nmv 1 → Cls K C1 ∧ NoAttr K C1 f) : ∀ c : Nat, f ∈ nmv c → Cls K (clv C C1 c) ∧ NoAttr K (clv C C1 c) f
  | 1 => h1
  | 0 => h0
  | _ + 2 => h0
theorem lk_of {f : Str} (h : ∀ c : Nat, f ∈ nmv c → Cls K (clv C C1 c) ∧ NoAttr K (clv C C1 c) f) : ∀ (c : Nat) (d : List D), ((nmv c).zip d).lookup f ≠ (none : Option D) → Cls K (clv C C1 c) ∧ NoAttr K (clv C C1 c) f := fun c d hn => by
  by_cases hm : f ∈ nmv c
  · exact h c hm
  · exact absurd (zip_no hm d) hn
theorem Txt.s_top (T : Txt prog K mg base C C1 TT) : ∀ c : Nat, ("top" : Str) ∈ nmv c → Cls K (clv C C1 c) ∧ NoAttr K (clv C C1 c) "top" := fld_of (fun _ => ⟨T.cl, T.nT⟩) fun h => absurd h (by decide +kernel)
theorem Txt.s_bottom (T : Txt prog K mg base C C1 TT) : ∀ c : Nat, ("bottom" : Str) ∈ nmv c → Cls K (clv C C1 c) ∧ NoAttr K (clv C C1 c) "bottom" := fld_of (fun _ => ⟨T.cl, T.nB⟩) fun h => absurd h (by decide +kernel)
theorem Txt.s_fields (T : Txt prog K mg base C C1 TT) : ∀ c : Nat, ("fields" : Str) ∈ nmv c → Cls K (clv C C1 c) ∧ NoAttr K (clv C C1 c) "fields" := fld_of (fun h => absurd h (by decide +kernel)) fun _ => ⟨T.cl1, T.nF⟩
theorem Txt.s_parts (T : Txt prog K mg base C C1 TT) : ∀ c : Nat, ("parts" : Str) ∈ nmv c → Cls K (clv C C1 c) ∧ NoAttr K (clv C C1 c) "parts" := fld_of (fun h => absurd h (by decide +kernel)) fun _ => ⟨T.cl1, T.nP⟩
theorem Txt.f_top (T : Txt prog K mg base C C1 TT) : ∀ (c : Nat) (d : List D), ((nmv c).zip d).lookup ("top" : Str) ≠ (none : Option D) → Cls K (clv C C1 c) ∧ NoAttr K (clv C C1 c) "top" := lk_of T.s_top
theorem Txt.f_bottom (T : Txt prog K mg base C C1 TT) : ∀ (c : Nat) (d : List D), ((nmv c).zip d).lookup ("bottom" : Str) ≠ (none : Option D) → Cls K (clv C C1 c) ∧ NoAttr K (clv C C1 c) "bottom" := lk_of T.s_bottom
theorem Txt.f_fields (T : Txt prog K mg base C C1 TT) : ∀ (c : Nat) (d : List D), ((nmv c).zip d).lookup ("fields" : Str) ≠ (none : Option D) → Cls K (clv C C1 c) ∧ NoAttr K (clv C C1 c) "fields" := lk_of T.s_fields
theorem Txt.f_parts (T : Txt prog K mg base C C1 TT) : ∀ (c : Nat) (d : List D), ((nmv c).zip d).lookup ("parts" : Str) ≠ (none : Option D) → Cls K (clv C C1 c) ∧ NoAttr K (clv C C1 c) "parts" := lk_of T.s_parts
theorem Txt.nd (_ : Txt prog K mg base C C1 TT) : ∀ c : Nat, ((pm K C C1 TT).nm c).Nodup
  | 1 => by
    show (["fields", "parts"] : List Str).Nodup
    decide +kernel
  | 0 => by
    show (["top", "bottom"] : List Str).Nodup
    decide +kernel
  | _ + 2 => by
    show (["top", "bottom"] : List Str).Nodup
    decide +kernel
theorem Txt.isi (T : Txt prog K mg base C C1 TT) : ∀ c : Nat, IsiC K ((pm K C C1 TT).C c) := clv_of (p := fun a => IsiC K a) T.ic T.ic1
theorem Txt.kit_int (T : Txt prog K mg base C C1 TT) : ∀ d b, ib_int d = some b → PySem.W.kitOne K (tyD (pm K C C1 TT) d) (.type "int") = some b := DL.kit_int (clv_of (p := fun a => PySem.W.kitOne K (.ref a) (.type "int") = some false) T.ki T.ki1)
theorem Txt.kit_bool (T : Txt prog K mg base C C1 TT) : ∀ d b, ib_bool d = some b → PySem.W.kitOne K (tyD (pm K C C1 TT) d) (.type "bool") = some b := DL.kit_bool (clv_of (p := fun a => PySem.W.kitOne K (.ref a) (.type "bool") = some false) T.kb T.kb1)
theorem Txt.kit_tuple (T : Txt prog K mg base C C1 TT) : ∀ d b, ib_tuple d = some b → PySem.W.kitOne K (tyD (pm K C C1 TT) d) (.type "tuple") = some b := DL.kit_tuple (clv_of (p := fun a => PySem.W.kitOne K (.ref a) (.type "tuple") = some false) T.kt T.kt1)
theorem Txt.kit_str (T : Txt prog K mg base C C1 TT) : ∀ d b, ib_str d = some b → PySem.W.kitOne K (tyD (pm K C C1 TT) d) (.type "str") = some b := DL.kit_str (clv_of (p := fun a => PySem.W.kitOne K (.ref a) (.type "str") = some false) T.ks T.ks1)
theorem Txt.kit_Ratio (T : Txt prog K mg base C C1 TT) : ∀ d b, ib_c0 d = some b → PySem.W.kitOne K (tyD (pm K C C1 TT) d) (.ref C) = some b := by
  intro d b hb
  have h := T.nob
  have self : PySem.W.kitOne K (.ref C) (.ref C) = some true := by
    unfold PySem.W.kitOne
    rw [if_pos (by simp)]
  cases d <;> simp only [ib_c0, Option.some.injEq] at hb <;> (try subst hb) <;> first | exact h.n1 | exact h.n2 | exact h.n3 | exact h.n4 | exact h.n5 | exact h.n6 | exact h.n7 | cases hb | skip
  rename_i c xs
  match c with
  | 1 => exact T.k10
  | 0 => exact self
  | _ + 2 => exact self
theorem Txt.kit_Poly (T : Txt prog K mg base C C1 TT) : ∀ d b, ib_c1 d = some b → PySem.W.kitOne K (tyD (pm K C C1 TT) d) (.ref C1) = some b := by
  intro d b hb
  have h := T.nob1
  have self : PySem.W.kitOne K (.ref C1) (.ref C1) = some true := by
    unfold PySem.W.kitOne
    rw [if_pos (by simp)]
  cases d <;> simp only [ib_c1, Option.some.injEq] at hb <;> (try subst hb) <;> first | exact h.n1 | exact h.n2 | exact h.n3 | exact h.n4 | exact h.n5 | exact h.n6 | exact h.n7 | cases hb | skip
  rename_i c xs
  match c with
  | 1 => exact self
  | 0 => exact T.k01
  | _ + 2 => exact T.k01
abbrev s__law_cell : Stmt := top 31
theorem sc__law_cell : FnScope ["_law_script", "_law_k"] ["_law_script", "_law_k"] (defScope s__law_cell) := ⟨rfl, rfl, rfl, by decide +kernel, rfl, by decide +kernel, by decide +kernel⟩
theorem b__law_cell (T : Txt prog K mg base C C1 TT) (f : Addr) (cdv : Value) (A : Around) (outer : List PySem.Env) (s : Shared) (H : Hp) (F0 : Hp) (e : XK) (hr : Room 0 (A.deeper (PyProof.Rows.envOfC "_law_cell" (defScope s__law_cell) s.heap.objs.size f cdv))) :
    PSs (cxOf (L2.CX prog w) prog w K mg base ["_law_script", "_law_k"] "_law_cell" (defScope s__law_cell) f cdv A outer s H e) (defBody s__law_cell) (tS (pm K C C1 TT) ⟨F0, none⟩ H (WE0 e) g__law_cell) := by
  have sc := sc__law_cell
  have tk : Takes (cxOf (L2.CX prog w) prog w K mg base ["_law_script", "_law_k"] "_law_cell" (defScope s__law_cell) f cdv A outer s H e) (WE0 e) := takes_of rfl rfl rfl rfl
  have h := ((sd_cons (by exact sd_if (by exact td_pc (by exact pd_pc (od_of io_lt) (by exact pd_peek 1) (by exact toV (by exact pd_callB (ic_lenS rfl) rfl T.b_len (by decide +kernel) (by exact av_cons (by exact pd_peek 0) av_nil)))) (nomark _)) (by exact sd_one (by exact sd_ret (by exact pd_ixS rfl (by exact pd_peek 0) (by exact pd_peek 1) (fun _ _ => rfl)))) sd_nil) (by exact sd_one (by exact sd_ret pd_int))) : PSs (cxOf (L2.CX prog w) prog w K mg base ["_law_script", "_law_k"] "_law_cell" (defScope s__law_cell) f cdv A outer s H e) (defBody s__law_cell) (tS (pm K C C1 TT) ⟨F0, none⟩ H (WE0 e) _))
  exact h
abbrev s__law_row : Stmt := top 32
theorem sc__law_row : FnScope ["_law_cell_here", "_law_sizes", "_law_out", "_law_size", "_law_seed", "_law_k", "_law_mixed"] ["_law_cell_here", "_law_sizes"] (defScope s__law_row) := ⟨rfl, rfl, rfl, by decide +kernel, rfl, by decide +kernel, by decide +kernel⟩
theorem b__law_row (T : Txt prog K mg base C C1 TT) (f : Addr) (cdv : Value) (A : Around) (outer : List PySem.Env) (s : Shared) (H : Hp) (F0 : Hp) (e : XK) (hr : Room 0 (A.deeper (PyProof.Rows.envOfC "_law_row" (defScope s__law_row) s.heap.objs.size f cdv))) :
    PSs (cxOf (L2.CX prog w) prog w K mg base ["_law_cell_here", "_law_sizes", "_law_out", "_law_size", "_law_seed", "_law_k", "_law_mixed"] "_law_row" (defScope s__law_row) f cdv A outer s H e) (defBody s__law_row) (tS (pm K C C1 TT) ⟨F0, none⟩ H (WE0 e) g__law_row) := by
  have sc := sc__law_row
  have tk : Takes (cxOf (L2.CX prog w) prog w K mg base ["_law_cell_here", "_law_sizes", "_law_out", "_law_size", "_law_seed", "_law_k", "_law_mixed"] "_law_row" (defScope s__law_row) f cdv A outer s H e) (WE0 e) := takes_of rfl rfl rfl rfl
  have h := ((sd_cons (by exact sd_setN (i := 2) sc.nd rfl (by first | exact Or.inl rfl | exact Or.inr rfl) (by exact nd_lst ad_nil)) (sd_cons (by exact sd_if (by exact td_pc (by exact pd_pc (od_of io_ge) (by exact pd_peek 0) (by exact toV (by exact pd_op (od_of io_pow) (by exact toV pd_int) (by exact toV pd_int)))) (nomark _)) (sd_cons (by exact sd_for (passes_of rfl) rfl (by exact id_seq (by exact pd_name 1)) (by exact gd_name (i := 3) (us := [3]) sc.nd rfl (by first | exact Or.inl rfl | exact Or.inr rfl)) (sd_cons (by exact sd_append 2 (by exact pd_op (od_of io_mod) (by exact toV (by exact pd_callTy ic_int2 rfl T.b_int (by decide +kernel) (by exact av_cons (by exact pd_peek 0) av_nil))) (by exact pd_peek 3))) (by exact sd_one (by exact sd_set (i := 0) sc.nd rfl (by first | exact Or.inl rfl | exact Or.inr rfl) (by exact pd_op (od_of io_fdiv) (by exact pd_peek 0) (by exact pd_peek 3)))))) (by exact sd_one (by exact sd_frz1 2 (by exact sd_ret (by exact pd_name 2))))) sd_nil) (sd_cons (by exact sd_set (i := 4) sc.nd rfl (by first | exact Or.inl rfl | exact Or.inr rfl) (by exact pd_op (od_of io_mod) (by exact toV (by exact pd_callTy ic_int2 rfl T.b_int (by decide +kernel) (by exact av_cons (by exact pd_peek 0) av_nil))) (by exact toV pd_int))) (sd_cons (by exact sd_for (passes_of rfl) rfl (by exact id_range1 rfl T.b_range (by exact ad_cons (by exact pd_callB ic_len rfl T.b_len (by decide +kernel) (by exact av_cons (by exact pd_peek 1) av_nil)) ad_nil)) (by exact gd_name (i := 5) (us := [5]) sc.nd rfl (by first | exact Or.inl rfl | exact Or.inr rfl)) (sd_cons (by exact sd_set (i := 6) sc.nd rfl (by first | exact Or.inl rfl | exact Or.inr rfl) (by exact pd_op (od_of io_addA) (by exact toV (by exact pd_op (od_of io_mod) (by exact toV (by exact pd_callTy ic_int2 rfl T.b_int (by decide +kernel) (by exact av_cons (by exact toV (by exact pd_op (od_of io_pow) (by exact toV (by exact pd_op (od_of io_addA) (by exact toV (by exact pd_op (od_of io_addA) (by exact pd_peek 4) (by exact toV (by exact pd_op (od_of io_mulB) (by exact toV pd_int) (by exact pd_peek 5))))) (by exact toV pd_int))) (by exact toV pd_int))) av_nil))) (by exact toV pd_int))) (by exact pd_peek 5))) (by exact sd_one (by exact sd_append 2 (by exact pd_op (od_of io_mod) (by exact toV (by exact pd_callTy ic_int2 rfl T.b_int (by decide +kernel) (by exact av_cons (by exact toV (by exact pd_op (od_of io_mod) (by exact toV (by exact pd_callTy ic_int2 rfl T.b_int (by decide +kernel) (by exact av_cons (by exact toV (by exact pd_op (od_of io_mulB) (by exact pd_peek 6) (by exact toV pd_int))) av_nil))) (by exact toV pd_int))) av_nil))) (by exact toV (by exact pd_ix (by exact pd_peek 1) (by exact pd_peek 5) (fun _ _ => rfl)))))))) (by exact sd_one (by exact sd_frz1 2 (by exact sd_ret (by exact pd_name 2)))))))) : PSs (cxOf (L2.CX prog w) prog w K mg base ["_law_cell_here", "_law_sizes", "_law_out", "_law_size", "_law_seed", "_law_k", "_law_mixed"] "_law_row" (defScope s__law_row) f cdv A outer s H e) (defBody s__law_row) (tS (pm K C C1 TT) ⟨F0, none⟩ H (WE0 e) _))
  exact h
abbrev s__law_fields : Stmt := top 38
theorem sc__law_fields : FnScope ["_law_draw"] ["_law_draw"] (defScope s__law_fields) := ⟨rfl, rfl, rfl, by decide +kernel, rfl, by decide +kernel, by decide +kernel⟩
theorem b__law_fields (T : Txt prog K mg base C C1 TT) (f : Addr) (cdv : Value) (A : Around) (outer : List PySem.Env) (s : Shared) (H : Hp) (F0 : Hp) (e : XK) (hr : Room 0 (A.deeper (PyProof.Rows.envOfC "_law_fields" (defScope s__law_fields) s.heap.objs.size f cdv))) :
    PSs (cxOf (L2.CX prog w) prog w K mg base ["_law_draw"] "_law_fields" (defScope s__law_fields) f cdv A outer s H e) (defBody s__law_fields) (tS (pm K C C1 TT) ⟨F0, none⟩ H (WE0 e) g__law_fields) := by
  have sc := sc__law_fields
  have tk : Takes (cxOf (L2.CX prog w) prog w K mg base ["_law_draw"] "_law_fields" (defScope s__law_fields) f cdv A outer s H e) (WE0 e) := takes_of rfl rfl rfl rfl
  have h := ((by exact sd_one (by exact sd_ret (by exact pd_ix (by exact toV (by exact pd_lst (by exact ad_cons (by exact pd_lst (by exact ad_cons pd_str (by exact ad_cons pd_str ad_nil))) (by exact ad_cons (by exact pd_lst (by exact ad_cons pd_str ad_nil)) (by exact ad_cons (by exact pd_lst ad_nil) (by exact ad_cons (by exact pd_lst (by exact ad_cons pd_str (by exact ad_cons pd_str ad_nil))) (by exact ad_cons (by exact pd_lst (by exact ad_cons pd_str (by exact ad_cons pd_str ad_nil))) (by exact ad_cons (by exact pd_lst (by exact ad_cons pd_str ad_nil)) ad_nil)))))))) (by exact toV (by exact pd_op (od_of io_mod) (by exact pd_peek 0) (by exact toV pd_int))) (fun _ _ => rfl)))) : PSs (cxOf (L2.CX prog w) prog w K mg base ["_law_draw"] "_law_fields" (defScope s__law_fields) f cdv A outer s H e) (defBody s__law_fields) (tS (pm K C C1 TT) ⟨F0, none⟩ H (WE0 e) _))
  exact h
abbrev s__law_gcd : Stmt := top 33
theorem sc__law_gcd : FnScope ["_law_a", "_law_b"] ["_law_a", "_law_b"] (defScope s__law_gcd) := ⟨rfl, rfl, rfl, by decide +kernel, rfl, by decide +kernel, by decide +kernel⟩
theorem b__law_gcd (T : Txt prog K mg base C C1 TT) (f : Addr) (cdv : Value) (A : Around) (outer : List PySem.Env) (s : Shared) (H : Hp) (F0 : Hp) (e : XK) (hr : Room 0 (A.deeper (PyProof.Rows.envOfC "_law_gcd" (defScope s__law_gcd) s.heap.objs.size f cdv))) :
    PSs (cxOf (L2.CX prog w) prog w K mg base ["_law_a", "_law_b"] "_law_gcd" (defScope s__law_gcd) f cdv A outer s H e) (defBody s__law_gcd) (tS (pm K C C1 TT) ⟨F0, none⟩ H (WE0 e) g__law_gcd) := by
  have sc := sc__law_gcd
  have tk : Takes (cxOf (L2.CX prog w) prog w K mg base ["_law_a", "_law_b"] "_law_gcd" (defScope s__law_gcd) f cdv A outer s H e) (WE0 e) := takes_of rfl rfl rfl rfl
  have h := ((sd_cons (by exact sd_par (i := 0) (j := 1) rfl sc.nd rfl rfl (by decide) rfl rfl (by exact ad_cons (by exact pd_callB ic_abs rfl T.b_abs (by decide +kernel) (by exact av_cons (by exact pd_peek 0) av_nil)) (by exact ad_cons (by exact pd_callB ic_abs rfl T.b_abs (by decide +kernel) (by exact av_cons (by exact pd_peek 1) av_nil)) ad_nil)) rfl) (sd_cons (by exact sd_while big (passes_of rfl) (by exact td_pc (by exact pd_pc (od_of io_gt) (by exact pd_peek 1) (by exact toV pd_int)) (nomark _)) (by exact sd_one (by exact sd_par (i := 0) (j := 1) rfl sc.nd rfl rfl (by decide) rfl rfl (by exact ad_cons (by exact pd_name 1) (by exact ad_cons (by exact pd_op (od_of io_mod) (by exact pd_peek 0) (by exact pd_peek 1)) ad_nil)) rfl))) (by exact sd_one (by exact sd_ret (by exact pd_name 0))))) : PSs (cxOf (L2.CX prog w) prog w K mg base ["_law_a", "_law_b"] "_law_gcd" (defScope s__law_gcd) f cdv A outer s H e) (defBody s__law_gcd) (tS (pm K C C1 TT) ⟨F0, none⟩ H (WE0 e) _))
  exact h
abbrev s__law_low : Stmt := top 34
theorem sc__law_low : FnScope ["_law_pair", "_law_top", "_law_bottom", "_law_by"] ["_law_pair"] (defScope s__law_low) := ⟨rfl, rfl, rfl, by decide +kernel, rfl, by decide +kernel, by decide +kernel⟩
theorem b__law_low (T : Txt prog K mg base C C1 TT) (c__law_gcd : CalD prog w K mg base (pm K C C1 TT) 1 "_law_gcd" 2 G__law_gcd) (f : Addr) (cdv : Value) (A : Around) (outer : List PySem.Env) (s : Shared) (H : Hp) (F0 : Hp) (e : XK) (hr : Room 1 (A.deeper (PyProof.Rows.envOfC "_law_low" (defScope s__law_low) s.heap.objs.size f cdv))) :
    PSs (cxOf (L2.CX prog w) prog w K mg base ["_law_pair", "_law_top", "_law_bottom", "_law_by"] "_law_low" (defScope s__law_low) f cdv A outer s H e) (defBody s__law_low) (tS (pm K C C1 TT) ⟨F0, none⟩ H (WE0 e) g__law_low) := by
  have sc := sc__law_low
  have tk : Takes (cxOf (L2.CX prog w) prog w K mg base ["_law_pair", "_law_top", "_law_bottom", "_law_by"] "_law_low" (defScope s__law_low) f cdv A outer s H e) (WE0 e) := takes_of rfl rfl rfl rfl
  have h := ((sd_cons (by exact sd_asg (by exact pd_name 0) (by exact gd_tup (n := 2) rfl (by exact gd_cons (by exact gd_name (i := 1) (us := [1, 2]) sc.nd rfl (by first | exact Or.inl rfl | exact Or.inr rfl)) (by exact gd_cons (by exact gd_name (i := 2) (us := [1, 2]) sc.nd rfl (by first | exact Or.inl rfl | exact Or.inr rfl)) gd_nil)))) (sd_cons (by exact sd_set (i := 3) sc.nd rfl (by first | exact Or.inl rfl | exact Or.inr rfl) (by exact pd_cal c__law_gcd (hr.mono (by decide)) tk (by exact ad_cons (by exact pd_name 1) (by exact ad_cons (by exact pd_name 2) ad_nil)))) (sd_cons (by exact sd_if (by exact td_pc (by exact pd_pc (od_of io_lt) (by exact pd_peek 2) (by exact toV pd_int)) (nomark _)) (by exact sd_one (by exact sd_set (i := 3) sc.nd rfl (by first | exact Or.inl rfl | exact Or.inr rfl) (by exact pd_op (od_of io_sub) (by exact toV pd_int) (by exact pd_peek 3)))) sd_nil) (by exact sd_one (by exact sd_ret (by exact pd_tup (by exact ad_cons (by exact pd_op (od_of io_fdiv) (by exact pd_peek 1) (by exact pd_peek 3)) (by exact ad_cons (by exact pd_op (od_of io_fdiv) (by exact pd_peek 2) (by exact pd_peek 3)) ad_nil)))))))) : PSs (cxOf (L2.CX prog w) prog w K mg base ["_law_pair", "_law_top", "_law_bottom", "_law_by"] "_law_low" (defScope s__law_low) f cdv A outer s H e) (defBody s__law_low) (tS (pm K C C1 TT) ⟨F0, none⟩ H (WE0 e) _))
  exact h
abbrev s__law_terms : Stmt := top 39
theorem sc__law_terms : FnScope ["_law_draws", "_law_fields_here", "_law_out", "_law_k", "_law_one", "_law_two", "_law_top", "_law_bottom"] ["_law_draws", "_law_fields_here"] (defScope s__law_terms) := ⟨rfl, rfl, rfl, by decide +kernel, rfl, by decide +kernel, by decide +kernel⟩
theorem b__law_terms (T : Txt prog K mg base C C1 TT) (c__law_low : CalD prog w K mg base (pm K C C1 TT) 2 "_law_low" 1 G__law_low) (f : Addr) (cdv : Value) (A : Around) (outer : List PySem.Env) (s : Shared) (H : Hp) (F0 : Hp) (e : XK) (hr : Room 2 (A.deeper (PyProof.Rows.envOfC "_law_terms" (defScope s__law_terms) s.heap.objs.size f cdv))) :
    PSs (cxOf (L2.CX prog w) prog w K mg base ["_law_draws", "_law_fields_here", "_law_out", "_law_k", "_law_one", "_law_two", "_law_top", "_law_bottom"] "_law_terms" (defScope s__law_terms) f cdv A outer s H e) (defBody s__law_terms) (tS (pm K C C1 TT) ⟨F0, none⟩ H (WE0 e) g__law_terms) := by
  have sc := sc__law_terms
  have tk : Takes (cxOf (L2.CX prog w) prog w K mg base ["_law_draws", "_law_fields_here", "_law_out", "_law_k", "_law_one", "_law_two", "_law_top", "_law_bottom"] "_law_terms" (defScope s__law_terms) f cdv A outer s H e) (WE0 e) := takes_of rfl rfl rfl rfl
  have h := ((sd_cons (by exact sd_setN (i := 2) sc.nd rfl (by first | exact Or.inl rfl | exact Or.inr rfl) nd_dnT) (sd_cons (by exact sd_for (passes_of rfl) rfl (by exact id_range1 rfl T.b_range (by exact ad_cons (by exact pd_op (od_of io_fdiv) (by exact toV (by exact pd_callB ic_len rfl T.b_len (by decide +kernel) (by exact av_cons (by exact pd_peek 0) av_nil))) (by exact toV pd_int)) ad_nil)) (by exact gd_name (i := 3) (us := [3]) sc.nd rfl (by first | exact Or.inl rfl | exact Or.inr rfl)) (sd_cons (by exact sd_asg (by exact pd_slc (by exact pd_peek 0) (by exact po_so (by exact pd_op (od_of io_mulB) (by exact toV pd_int) (by exact pd_peek 3))) (by exact po_so (by exact pd_op (od_of io_addA) (by exact toV (by exact pd_op (od_of io_mulB) (by exact toV pd_int) (by exact pd_peek 3))) (by exact toV pd_int)))) (by exact gd_lst (n := 4) rfl (by exact gd_cons (by exact gd_name (i := 4) (us := [4, 5, 6, 7]) sc.nd rfl (by first | exact Or.inl rfl | exact Or.inr rfl)) (by exact gd_cons (by exact gd_name (i := 5) (us := [4, 5, 6, 7]) sc.nd rfl (by first | exact Or.inl rfl | exact Or.inr rfl)) (by exact gd_cons (by exact gd_name (i := 6) (us := [4, 5, 6, 7]) sc.nd rfl (by first | exact Or.inl rfl | exact Or.inr rfl)) (by exact gd_cons (by exact gd_name (i := 7) (us := [4, 5, 6, 7]) sc.nd rfl (by first | exact Or.inl rfl | exact Or.inr rfl)) gd_nil)))))) (by exact sd_one (by exact sd_dput 2 (un1 hr) (by exact pd_slc (by exact toV (by exact pd_tup (by exact ad_cons (by exact pd_name 4) (by exact ad_cons (by exact pd_name 5) ad_nil)))) po_no (by exact po_so (by exact pd_callB ic_len rfl T.b_len (by decide +kernel) (by exact av_cons (by exact pd_peek 1) av_nil)))) (by exact pd_cal c__law_low (hr.mono (by decide)) tk (by exact ad_cons (by exact pd_tup (by exact ad_cons (by exact pd_op (od_of io_sub) (by exact pd_peek 6) (by exact toV pd_int)) (by exact ad_cons (by exact pd_op (od_of io_addA) (by exact toV pd_int) (by exact pd_peek 7)) ad_nil))) ad_nil)))))) (by exact sd_one (by exact sd_retO 2)))) : PSs (cxOf (L2.CX prog w) prog w K mg base ["_law_draws", "_law_fields_here", "_law_out", "_law_k", "_law_one", "_law_two", "_law_top", "_law_bottom"] "_law_terms" (defScope s__law_terms) f cdv A outer s H e) (defBody s__law_terms) (tS (pm K C C1 TT) ⟨F0, none⟩ H (WE0 e) _))
  exact h
abbrev s_common : Stmt := top 8
theorem sc_common : FnScope ["one", "two"] ["one", "two"] (defScope s_common) := ⟨rfl, rfl, rfl, by decide +kernel, rfl, by decide +kernel, by decide +kernel⟩
theorem b_common (T : Txt prog K mg base C C1 TT) (f : Addr) (cdv : Value) (A : Around) (outer : List PySem.Env) (s : Shared) (H : Hp) (F0 : Hp) (e : XK) (hr : Room 0 (A.deeper (PyProof.Rows.envOfC "common" (defScope s_common) s.heap.objs.size f cdv))) :
    PSs (cxOf (L2.CX prog w) prog w K mg base ["one", "two"] "common" (defScope s_common) f cdv A outer s H e) (defBody s_common) (tS (pm K C C1 TT) ⟨F0, none⟩ H (WE0 e) g_common) := by
  have sc := sc_common
  have tk : Takes (cxOf (L2.CX prog w) prog w K mg base ["one", "two"] "common" (defScope s_common) f cdv A outer s H e) (WE0 e) := takes_of rfl rfl rfl rfl
  have h := ((sd_cons (by exact sd_par (i := 0) (j := 1) rfl sc.nd rfl rfl (by decide) rfl rfl (by exact ad_cons (by exact pd_callB ic_abs rfl T.b_abs (by decide +kernel) (by exact av_cons (by exact pd_peek 0) av_nil)) (by exact ad_cons (by exact pd_callB ic_abs rfl T.b_abs (by decide +kernel) (by exact av_cons (by exact pd_peek 1) av_nil)) ad_nil)) rfl) (sd_cons (by exact sd_while big (passes_of rfl) (by exact td_pc (by exact pd_pc (od_of io_gt) (by exact pd_peek 1) (by exact toV pd_int)) (nomark _)) (by exact sd_one (by exact sd_par (i := 0) (j := 1) rfl sc.nd rfl rfl (by decide) rfl rfl (by exact ad_cons (by exact pd_name 1) (by exact ad_cons (by exact pd_op (od_of io_mod) (by exact pd_peek 0) (by exact pd_peek 1)) ad_nil)) rfl))) (by exact sd_one (by exact sd_ret (by exact pd_name 0))))) : PSs (cxOf (L2.CX prog w) prog w K mg base ["one", "two"] "common" (defScope s_common) f cdv A outer s H e) (defBody s_common) (tS (pm K C C1 TT) ⟨F0, none⟩ H (WE0 e) _))
  exact h
abbrev s_Ratio___init__ : Stmt := inClass (top 14) 0
theorem sc_Ratio___init__ : FnScope ["self", "top", "bottom", "share"] ["self", "top", "bottom"] (defScope s_Ratio___init__) := ⟨rfl, rfl, rfl, by decide +kernel, rfl, by decide +kernel, by decide +kernel⟩
theorem b_Ratio___init__ (T : Txt prog K mg base C C1 TT) (c_common : CalD prog w K mg base (pm K C C1 TT) 1 "common" 2 G_common) (f : Addr) (cdv : Value) (A : Around) (outer : List PySem.Env) (s : Shared) (H : Hp) (F0 H0 : Hp) (x : Addr) (e : XK) (hr : Room 1 (A.deeper (PyProof.Rows.envOfC "Ratio.__init__" (defScope s_Ratio___init__) s.heap.objs.size f cdv))) :
    PSs (cxOf (L2.CX prog w) prog w K mg base ["self", "top", "bottom", "share"] "Ratio.__init__" (defScope s_Ratio___init__) f cdv A outer s H e) (defBody s_Ratio___init__) (tS (pm K C C1 TT) ⟨F0, some x⟩ H0 (WE0 e) g_Ratio___init__) := by
  have sc := sc_Ratio___init__
  have tk : Takes (cxOf (L2.CX prog w) prog w K mg base ["self", "top", "bottom", "share"] "Ratio.__init__" (defScope s_Ratio___init__) f cdv A outer s H e) (WE0 e) := takes_of rfl rfl rfl rfl
  have h := ((sd_cons (by exact sd_if (by exact td_pc (by exact pd_pc (od_of (io_eq hr.units)) (by exact pd_peek 2) (by exact toV pd_int)) (nomark _)) (by exact sd_one sd_never) sd_nil) (sd_cons (by exact sd_set (i := 3) sc.nd rfl (by first | exact Or.inl rfl | exact Or.inr rfl) (by exact pd_cal c_common (hr.mono (by decide)) tk (by exact ad_cons (by exact pd_name 1) (by exact ad_cons (by exact pd_name 2) ad_nil)))) (sd_cons (by exact sd_if (by exact td_pc (by exact pd_pc (od_of io_lt) (by exact pd_peek 2) (by exact toV pd_int)) (nomark _)) (by exact sd_one (by exact sd_set (i := 3) sc.nd rfl (by first | exact Or.inl rfl | exact Or.inr rfl) (by exact pd_un (ud_of io_neg) (by exact pd_peek 3)))) sd_nil) (sd_cons (by exact sd_fld (i := 0) T.s_top T.nd (by exact pd_op (od_of io_fdiv) (by exact pd_peek 1) (by exact pd_peek 3))) (by exact sd_one (by exact sd_fld (i := 0) T.s_bottom T.nd (by exact pd_op (od_of io_fdiv) (by exact pd_peek 2) (by exact pd_peek 3)))))))) : PSs (cxOf (L2.CX prog w) prog w K mg base ["self", "top", "bottom", "share"] "Ratio.__init__" (defScope s_Ratio___init__) f cdv A outer s H e) (defBody s_Ratio___init__) (tS (pm K C C1 TT) ⟨F0, some x⟩ H0 (WE0 e) _))
  exact h
abbrev s__law_made : Stmt := top 37
theorem sc__law_made : FnScope ["_law_pair", "_law_is_bare", "_law_top", "_law_bottom"] ["_law_pair", "_law_is_bare"] (defScope s__law_made) := ⟨rfl, rfl, rfl, by decide +kernel, rfl, by decide +kernel, by decide +kernel⟩
theorem b__law_made (T : Txt prog K mg base C C1 TT) (c__law_low : CalD prog w K mg base (pm K C C1 TT) 2 "_law_low" 1 G__law_low) (c_Ratio : MkD prog w K mg base (pm K C C1 TT) 2 "Ratio" 0 2 G_Ratio___init__) (f : Addr) (cdv : Value) (A : Around) (outer : List PySem.Env) (s : Shared) (H : Hp) (F0 : Hp) (e : XK) (hr : Room 3 (A.deeper (PyProof.Rows.envOfC "_law_made" (defScope s__law_made) s.heap.objs.size f cdv))) :
    PSs (cxOf (L2.CX prog w) prog w K mg base ["_law_pair", "_law_is_bare", "_law_top", "_law_bottom"] "_law_made" (defScope s__law_made) f cdv A outer s H e) (defBody s__law_made) (tS (pm K C C1 TT) ⟨F0, none⟩ H (WE0 e) g__law_made) := by
  have sc := sc__law_made
  have tk : Takes (cxOf (L2.CX prog w) prog w K mg base ["_law_pair", "_law_is_bare", "_law_top", "_law_bottom"] "_law_made" (defScope s__law_made) f cdv A outer s H e) (WE0 e) := takes_of rfl rfl rfl rfl
  have h := ((sd_cons (by exact sd_asg (by exact pd_cal c__law_low (hr.mono (by decide)) tk (by exact ad_cons (by exact pd_name 0) ad_nil)) (by exact gd_tup (n := 2) rfl (by exact gd_cons (by exact gd_name (i := 2) (us := [2, 3]) sc.nd rfl (by first | exact Or.inl rfl | exact Or.inr rfl)) (by exact gd_cons (by exact gd_name (i := 3) (us := [2, 3]) sc.nd rfl (by first | exact Or.inl rfl | exact Or.inr rfl)) gd_nil)))) (by exact sd_one (by exact sd_ret (by exact pd_if (by exact PW.pt (by exact td_and (by exact td_pc (by exact pd_pc (od_of (io_eq hr.units)) (by exact pd_peek 3) (by exact toV pd_int)) (nomark _)) (by exact td_and1 (by exact td_val (by exact pd_name 1))))) (by exact pd_name 2) (by exact pd_mk c_Ratio (hr.mono (by decide)) tk (by exact ad_cons (by exact pd_name 2) (by exact ad_cons (by exact pd_name 3) ad_nil))))))) : PSs (cxOf (L2.CX prog w) prog w K mg base ["_law_pair", "_law_is_bare", "_law_top", "_law_bottom"] "_law_made" (defScope s__law_made) f cdv A outer s H e) (defBody s__law_made) (tS (pm K C C1 TT) ⟨F0, none⟩ H (WE0 e) _))
  exact h
abbrev s__law_handed : Stmt := top 41
theorem sc__law_handed : FnScope ["_law_terms_here", "_law_is_bare", "_law_powers"] ["_law_terms_here", "_law_is_bare"] (defScope s__law_handed) := ⟨rfl, rfl, rfl, by decide +kernel, rfl, by decide +kernel, by decide +kernel⟩
theorem b__law_handed (T : Txt prog K mg base C C1 TT) (c__law_made : CalD prog w K mg base (pm K C C1 TT) 4 "_law_made" 2 G__law_made) (f : Addr) (cdv : Value) (A : Around) (outer : List PySem.Env) (s : Shared) (H : Hp) (F0 : Hp) (e : XK) (hr : Room 4 (A.deeper (PyProof.Rows.envOfC "_law_handed" (defScope s__law_handed) s.heap.objs.size f cdv))) :
    PSs (cxOf (L2.CX prog w) prog w K mg base ["_law_terms_here", "_law_is_bare", "_law_powers"] "_law_handed" (defScope s__law_handed) f cdv A outer s H e) (defBody s__law_handed) (tS (pm K C C1 TT) ⟨F0, none⟩ H (WE0 e) g__law_handed) := by
  have sc := sc__law_handed
  have tk : Takes (cxOf (L2.CX prog w) prog w K mg base ["_law_terms_here", "_law_is_bare", "_law_powers"] "_law_handed" (defScope s__law_handed) f cdv A outer s H e) (WE0 e) := takes_of rfl rfl rfl rfl
  have h := ((by exact sd_one (by exact sd_ret (by exact n2e (by exact nd_dictT rfl (un8 hr) T.b_dict (by exact toV (by exact n2e (by exact nd_lc (own := [("_law_powers", 2)]) (us := [2]) rfl sc.nd (by exact id_keys (by exact pd_name 0)) (by show BlkOk ["_law_terms_here", "_law_is_bare", "_law_powers"] (defScope s__law_handed) _ [("_law_powers", 2)]; exact ⟨rfl, by decide +kernel, by decide +kernel, by decide +kernel, by decide +kernel⟩) rfl (fun _ _ _ _ _ => (by exact gd_name (i := 2) (us := [2]) sc.nd rfl (by first | exact Or.inl rfl | exact Or.inr rfl))) (fun _ _ _ _ _ => td_yes) (fun _ _ _ _ _ => (by exact pd_tup (by exact ad_cons (by exact pd_name 2) (by exact ad_cons (by exact pd_cal c__law_made (hr.mono (by decide)) takes0 (by exact ad_cons (by exact pd_dget (un1 hr) (by exact pd_peek 0) (by exact pd_name 2) (fun _ _ => rfl)) (by exact ad_cons (by exact pd_name 1) ad_nil))) ad_nil))))))))))) : PSs (cxOf (L2.CX prog w) prog w K mg base ["_law_terms_here", "_law_is_bare", "_law_powers"] "_law_handed" (defScope s__law_handed) f cdv A outer s H e) (defBody s__law_handed) (tS (pm K C C1 TT) ⟨F0, none⟩ H (WE0 e) _))
  exact h
abbrev s_is_name : Stmt := top 18
theorem sc_is_name : FnScope ["thing", "letter"] ["thing"] (defScope s_is_name) := ⟨rfl, rfl, rfl, by decide +kernel, rfl, by decide +kernel, by decide +kernel⟩
theorem b_is_name (T : Txt prog K mg base C C1 TT) (f : Addr) (cdv : Value) (A : Around) (outer : List PySem.Env) (s : Shared) (H : Hp) (F0 : Hp) (e : XK) (hr : Room 0 (A.deeper (PyProof.Rows.envOfC "is_name" (defScope s_is_name) s.heap.objs.size f cdv))) :
    PSs (cxOf (L2.CX prog w) prog w K mg base ["thing", "letter"] "is_name" (defScope s_is_name) f cdv A outer s H e) (defBody s_is_name) (tS (pm K C C1 TT) ⟨F0, none⟩ H (WE0 e) g_is_name) := by
  have sc := sc_is_name
  have tk : Takes (cxOf (L2.CX prog w) prog w K mg base ["thing", "letter"] "is_name" (defScope s_is_name) f cdv A outer s H e) (WE0 e) := takes_of rfl rfl rfl rfl
  have h := ((sd_cons (by exact sd_if (by exact PW.pt (by exact td_or (by exact td_not (by exact td_val (by exact pd_isi T.isi T.kit_str (.ty "str") (pe_bltn rfl T.b_str (by decide +kernel) rfl) (by exact pd_peek 0) rfl T.b_isinstance))) (by exact td_or1 (by exact td_not (by exact td_chain io_le io_le pd_int (by exact pd_callB ic_len rfl T.b_len (by decide +kernel) (by exact av_cons (by exact pd_peek 0) av_nil)) (by exact pd_gli rfl T.kMOST_LETTERS (by decide))))))) (by exact sd_one (by exact sd_ret pd_bl)) sd_nil) (by exact sd_one (by exact sd_ret (by exact pd_callB (ic_all rfl) rfl T.b_all (by decide +kernel) (by exact av_cons (by exact toV (by exact n2e (by exact nd_lc (own := [("letter", 1)]) (us := [1]) rfl sc.nd (by exact id_seq (by exact pd_name 0)) (by show BlkOk ["thing", "letter"] (defScope s_is_name) _ [("letter", 1)]; exact ⟨rfl, by decide +kernel, by decide +kernel, by decide +kernel, by decide +kernel⟩) rfl (fun _ _ _ _ _ => (by exact gd_name (i := 1) (us := [1]) sc.nd rfl (by first | exact Or.inl rfl | exact Or.inr rfl))) (fun _ _ _ _ _ => td_yes) (fun _ _ _ _ _ => (by exact pd_pcv (by exact pd_pc (od_of io_inS) (by exact pd_peek 1) (by exact toV (by exact pd_gl rfl T.kLETTERS (by decide)))) rfl))))) av_nil))))) : PSs (cxOf (L2.CX prog w) prog w K mg base ["thing", "letter"] "is_name" (defScope s_is_name) f cdv A outer s H e) (defBody s_is_name) (tS (pm K C C1 TT) ⟨F0, none⟩ H (WE0 e) _))
  exact h
abbrev s_check_fields : Stmt := top 20
theorem sc_check_fields : FnScope ["fields", "k", "name"] ["fields"] (defScope s_check_fields) := ⟨rfl, rfl, rfl, by decide +kernel, rfl, by decide +kernel, by decide +kernel⟩
theorem b_check_fields (T : Txt prog K mg base C C1 TT) (c_is_name : CalD prog w K mg base (pm K C C1 TT) 1 "is_name" 1 G_is_name) (f : Addr) (cdv : Value) (A : Around) (outer : List PySem.Env) (s : Shared) (H : Hp) (F0 : Hp) (e : XK) (hr : Room 1 (A.deeper (PyProof.Rows.envOfC "check_fields" (defScope s_check_fields) s.heap.objs.size f cdv))) :
    PSs (cxOf (L2.CX prog w) prog w K mg base ["fields", "k", "name"] "check_fields" (defScope s_check_fields) f cdv A outer s H e) (defBody s_check_fields) (tS (pm K C C1 TT) ⟨F0, none⟩ H (WE0 e) g_check_fields) := by
  have sc := sc_check_fields
  have tk : Takes (cxOf (L2.CX prog w) prog w K mg base ["fields", "k", "name"] "check_fields" (defScope s_check_fields) f cdv A outer s H e) (WE0 e) := takes_of rfl rfl rfl rfl
  have h := ((by exact sd_one (by exact sd_for (passes_of rfl) rfl (by exact id_enuA rfl T.b_enumerate (by exact ad_cons (by exact pd_name 0) ad_nil)) (by exact gd_tup (n := 2) rfl (by exact gd_cons (by exact gd_name (i := 1) (us := [1, 2]) sc.nd rfl (by first | exact Or.inl rfl | exact Or.inr rfl)) (by exact gd_cons (by exact gd_name (i := 2) (us := [1, 2]) sc.nd rfl (by first | exact Or.inl rfl | exact Or.inr rfl)) gd_nil))) (by exact sd_one (by exact sd_if (by exact PW.pt (by exact td_or (by exact td_not (by exact td_val (by exact pd_cal c_is_name (hr.mono (by decide)) tk (by exact ad_cons (by exact pd_name 2) ad_nil)))) (by exact td_or1 (by exact td_pc (by exact pd_pc (od_of io_inT) (by exact pd_peek 2) (by exact toV (by exact pd_slc (by exact pd_peek 0) po_no (by exact po_so (by exact pd_name 1))))) rfl)))) (by exact sd_one sd_never) sd_nil)))) : PSs (cxOf (L2.CX prog w) prog w K mg base ["fields", "k", "name"] "check_fields" (defScope s_check_fields) f cdv A outer s H e) (defBody s_check_fields) (tS (pm K C C1 TT) ⟨F0, none⟩ H (WE0 e) _))
  exact h
abbrev s_is_integer : Stmt := top 9
theorem sc_is_integer : FnScope ["thing"] ["thing"] (defScope s_is_integer) := ⟨rfl, rfl, rfl, by decide +kernel, rfl, by decide +kernel, by decide +kernel⟩
theorem b_is_integer (T : Txt prog K mg base C C1 TT) (f : Addr) (cdv : Value) (A : Around) (outer : List PySem.Env) (s : Shared) (H : Hp) (F0 : Hp) (e : XK) (hr : Room 0 (A.deeper (PyProof.Rows.envOfC "is_integer" (defScope s_is_integer) s.heap.objs.size f cdv))) :
    PSs (cxOf (L2.CX prog w) prog w K mg base ["thing"] "is_integer" (defScope s_is_integer) f cdv A outer s H e) (defBody s_is_integer) (tS (pm K C C1 TT) ⟨F0, none⟩ H (WE0 e) g_is_integer) := by
  have sc := sc_is_integer
  have tk : Takes (cxOf (L2.CX prog w) prog w K mg base ["thing"] "is_integer" (defScope s_is_integer) f cdv A outer s H e) (WE0 e) := takes_of rfl rfl rfl rfl
  have h := ((by exact sd_one (by exact sd_ret (by exact pd_and (by exact pd_isi T.isi T.kit_int (.ty "int") (pe_bltn rfl T.b_int (by decide +kernel) rfl) (by exact pd_peek 0) rfl T.b_isinstance) (by exact pd_one (by exact pd_not (by exact pd_isi T.isi T.kit_bool (.ty "bool") (pe_bltn rfl T.b_bool (by decide +kernel) rfl) (by exact pd_peek 0) rfl T.b_isinstance)))))) : PSs (cxOf (L2.CX prog w) prog w K mg base ["thing"] "is_integer" (defScope s_is_integer) f cdv A outer s H e) (defBody s_is_integer) (tS (pm K C C1 TT) ⟨F0, none⟩ H (WE0 e) _))
  exact h
abbrev s_is_powers : Stmt := top 21
theorem sc_is_powers : FnScope ["thing", "many", "power"] ["thing", "many"] (defScope s_is_powers) := ⟨rfl, rfl, rfl, by decide +kernel, rfl, by decide +kernel, by decide +kernel⟩
theorem b_is_powers (T : Txt prog K mg base C C1 TT) (c_is_integer : CalD prog w K mg base (pm K C C1 TT) 1 "is_integer" 1 G_is_integer) (f : Addr) (cdv : Value) (A : Around) (outer : List PySem.Env) (s : Shared) (H : Hp) (F0 : Hp) (e : XK) (hr : Room 1 (A.deeper (PyProof.Rows.envOfC "is_powers" (defScope s_is_powers) s.heap.objs.size f cdv))) :
    PSs (cxOf (L2.CX prog w) prog w K mg base ["thing", "many", "power"] "is_powers" (defScope s_is_powers) f cdv A outer s H e) (defBody s_is_powers) (tS (pm K C C1 TT) ⟨F0, none⟩ H (WE0 e) g_is_powers) := by
  have sc := sc_is_powers
  have tk : Takes (cxOf (L2.CX prog w) prog w K mg base ["thing", "many", "power"] "is_powers" (defScope s_is_powers) f cdv A outer s H e) (WE0 e) := takes_of rfl rfl rfl rfl
  have h := ((sd_cons (by exact sd_if (by exact PW.pt (by exact td_or (by exact td_not (by exact td_val (by exact pd_isi T.isi T.kit_tuple (.ty "tuple") (pe_bltn rfl T.b_tuple (by decide +kernel) rfl) (by exact pd_peek 0) rfl T.b_isinstance))) (by exact td_or1 (by exact td_pc (by exact pd_pc (od_of (io_ne hr.units)) (by exact toV (by exact pd_callB ic_len rfl T.b_len (by decide +kernel) (by exact av_cons (by exact pd_peek 0) av_nil))) (by exact pd_peek 1)) (nomark _))))) (by exact sd_one (by exact sd_ret pd_bl)) sd_nil) (by exact sd_one (by exact sd_ret (by exact pd_callB (ic_all rfl) rfl T.b_all (by decide +kernel) (by exact av_cons (by exact toV (by exact n2e (by exact nd_lc (own := [("power", 2)]) (us := [2]) rfl sc.nd (by exact id_seq (by exact pd_name 0)) (by show BlkOk ["thing", "many", "power"] (defScope s_is_powers) _ [("power", 2)]; exact ⟨rfl, by decide +kernel, by decide +kernel, by decide +kernel, by decide +kernel⟩) rfl (fun _ _ _ _ _ => (by exact gd_name (i := 2) (us := [2]) sc.nd rfl (by first | exact Or.inl rfl | exact Or.inr rfl))) (fun _ _ _ _ _ => td_yes) (fun _ _ _ _ _ => (by exact pd_and (by exact pd_cal c_is_integer (hr.mono (by decide)) takes0 (by exact ad_cons (by exact pd_name 2) ad_nil)) (by exact pd_one (by exact pd_pcv (by exact pd_pc (od_of io_ge) (by exact pd_peek 2) (by exact toV pd_int)) (nomark _)))))))) av_nil))))) : PSs (cxOf (L2.CX prog w) prog w K mg base ["thing", "many", "power"] "is_powers" (defScope s_is_powers) f cdv A outer s H e) (defBody s_is_powers) (tS (pm K C C1 TT) ⟨F0, none⟩ H (WE0 e) _))
  exact h
abbrev s_halves_of : Stmt := top 11
theorem sc_halves_of : FnScope ["number"] ["number"] (defScope s_halves_of) := ⟨rfl, rfl, rfl, by decide +kernel, rfl, by decide +kernel, by decide +kernel⟩
theorem b_halves_of (T : Txt prog K mg base C C1 TT) (f : Addr) (cdv : Value) (A : Around) (outer : List PySem.Env) (s : Shared) (H : Hp) (F0 : Hp) (e : XK) (hr : Room 0 (A.deeper (PyProof.Rows.envOfC "halves_of" (defScope s_halves_of) s.heap.objs.size f cdv))) :
    PSs (cxOf (L2.CX prog w) prog w K mg base ["number"] "halves_of" (defScope s_halves_of) f cdv A outer s H e) (defBody s_halves_of) (tS (pm K C C1 TT) ⟨F0, none⟩ H (WE0 e) g_halves_of) := by
  have sc := sc_halves_of
  have tk : Takes (cxOf (L2.CX prog w) prog w K mg base ["number"] "halves_of" (defScope s_halves_of) f cdv A outer s H e) (WE0 e) := takes_of rfl rfl rfl rfl
  have h := ((by exact sd_one (by exact sd_ret (by exact pd_if (by exact td_val (by exact pd_isi T.isi T.kit_Ratio (.own _) (pe_glob rfl T.g_Ratio rfl) (by exact pd_peek 0) rfl T.b_isinstance)) (by exact pd_tup (by exact ad_cons (by exact pd_fld (by exact pd_peek 0) T.f_top) (by exact ad_cons (by exact pd_fld (by exact pd_peek 0) T.f_bottom) ad_nil))) (by exact pd_tup (by exact ad_cons (by exact pd_name 0) (by exact ad_cons pd_int ad_nil)))))) : PSs (cxOf (L2.CX prog w) prog w K mg base ["number"] "halves_of" (defScope s_halves_of) f cdv A outer s H e) (defBody s_halves_of) (tS (pm K C C1 TT) ⟨F0, none⟩ H (WE0 e) _))
  exact h
abbrev s_is_number : Stmt := top 10
theorem sc_is_number : FnScope ["thing"] ["thing"] (defScope s_is_number) := ⟨rfl, rfl, rfl, by decide +kernel, rfl, by decide +kernel, by decide +kernel⟩
theorem b_is_number (T : Txt prog K mg base C C1 TT) (c_is_integer : CalD prog w K mg base (pm K C C1 TT) 1 "is_integer" 1 G_is_integer) (f : Addr) (cdv : Value) (A : Around) (outer : List PySem.Env) (s : Shared) (H : Hp) (F0 : Hp) (e : XK) (hr : Room 1 (A.deeper (PyProof.Rows.envOfC "is_number" (defScope s_is_number) s.heap.objs.size f cdv))) :
    PSs (cxOf (L2.CX prog w) prog w K mg base ["thing"] "is_number" (defScope s_is_number) f cdv A outer s H e) (defBody s_is_number) (tS (pm K C C1 TT) ⟨F0, none⟩ H (WE0 e) g_is_number) := by
  have sc := sc_is_number
  have tk : Takes (cxOf (L2.CX prog w) prog w K mg base ["thing"] "is_number" (defScope s_is_number) f cdv A outer s H e) (WE0 e) := takes_of rfl rfl rfl rfl
  have h := ((by exact sd_one (by exact sd_ret (by exact pd_or (by exact pd_cal c_is_integer (hr.mono (by decide)) tk (by exact ad_cons (by exact pd_name 0) ad_nil)) (by exact pd_one (by exact pd_isi T.isi T.kit_Ratio (.own _) (pe_glob rfl T.g_Ratio rfl) (by exact pd_peek 0) rfl T.b_isinstance))))) : PSs (cxOf (L2.CX prog w) prog w K mg base ["thing"] "is_number" (defScope s_is_number) f cdv A outer s H e) (defBody s_is_number) (tS (pm K C C1 TT) ⟨F0, none⟩ H (WE0 e) _))
  exact h
abbrev s_Ratio___eq__ : Stmt := inClass (top 14) 9
theorem sc_Ratio___eq__ : FnScope ["self", "other"] ["self", "other"] (defScope s_Ratio___eq__) := ⟨rfl, rfl, rfl, by decide +kernel, rfl, by decide +kernel, by decide +kernel⟩
theorem b_Ratio___eq__ (T : Txt prog K mg base C C1 TT) (c_halves_of : CalD prog w K mg base (pm K C C1 TT) 1 "halves_of" 1 G_halves_of) (c_is_number : CalD prog w K mg base (pm K C C1 TT) 2 "is_number" 1 G_is_number) (f : Addr) (cdv : Value) (A : Around) (outer : List PySem.Env) (s : Shared) (H : Hp) (F0 : Hp) (e : XK) (hr : Room 2 (A.deeper (PyProof.Rows.envOfC "Ratio.__eq__" (defScope s_Ratio___eq__) s.heap.objs.size f cdv))) :
    PSs (cxOf (L2.CX prog w) prog w K mg base ["self", "other"] "Ratio.__eq__" (defScope s_Ratio___eq__) f cdv A outer s H e) (defBody s_Ratio___eq__) (tS (pm K C C1 TT) ⟨F0, none⟩ H (WE0 e) g_Ratio___eq__) := by
  have sc := sc_Ratio___eq__
  have tk : Takes (cxOf (L2.CX prog w) prog w K mg base ["self", "other"] "Ratio.__eq__" (defScope s_Ratio___eq__) f cdv A outer s H e) (WE0 e) := takes_of rfl rfl rfl rfl
  have h := ((by exact sd_one (by exact sd_ret (by exact pd_and (by exact pd_cal c_is_number (hr.mono (by decide)) tk (by exact ad_cons (by exact pd_name 1) ad_nil)) (by exact pd_one (by exact pd_pcv (by exact pd_pc (od_of (io_eq hr.units)) (by exact toV (by exact pd_cal c_halves_of (hr.mono (by decide)) tk (by exact ad_cons (by exact pd_name 1) ad_nil))) (by exact toV (by exact pd_tup (by exact ad_cons (by exact pd_fld (by exact pd_peek 0) T.f_top) (by exact ad_cons (by exact pd_fld (by exact pd_peek 0) T.f_bottom) ad_nil))))) (nomark _)))))) : PSs (cxOf (L2.CX prog w) prog w K mg base ["self", "other"] "Ratio.__eq__" (defScope s_Ratio___eq__) f cdv A outer s H e) (defBody s_Ratio___eq__) (tS (pm K C C1 TT) ⟨F0, none⟩ H (WE0 e) _))
  exact h
abbrev s_plain : Stmt := top 12
theorem sc_plain : FnScope ["number", "top", "bottom"] ["number"] (defScope s_plain) := ⟨rfl, rfl, rfl, by decide +kernel, rfl, by decide +kernel, by decide +kernel⟩
theorem b_plain (T : Txt prog K mg base C C1 TT) (c_halves_of : CalD prog w K mg base (pm K C C1 TT) 1 "halves_of" 1 G_halves_of) (f : Addr) (cdv : Value) (A : Around) (outer : List PySem.Env) (s : Shared) (H : Hp) (F0 : Hp) (e : XK) (hr : Room 1 (A.deeper (PyProof.Rows.envOfC "plain" (defScope s_plain) s.heap.objs.size f cdv))) :
    PSs (cxOf (L2.CX prog w) prog w K mg base ["number", "top", "bottom"] "plain" (defScope s_plain) f cdv A outer s H e) (defBody s_plain) (tS (pm K C C1 TT) ⟨F0, none⟩ H (WE0 e) g_plain) := by
  have sc := sc_plain
  have tk : Takes (cxOf (L2.CX prog w) prog w K mg base ["number", "top", "bottom"] "plain" (defScope s_plain) f cdv A outer s H e) (WE0 e) := takes_of rfl rfl rfl rfl
  have h := ((sd_cons (by exact sd_asg (by exact pd_cal c_halves_of (hr.mono (by decide)) tk (by exact ad_cons (by exact pd_name 0) ad_nil)) (by exact gd_tup (n := 2) rfl (by exact gd_cons (by exact gd_name (i := 1) (us := [1, 2]) sc.nd rfl (by first | exact Or.inl rfl | exact Or.inr rfl)) (by exact gd_cons (by exact gd_name (i := 2) (us := [1, 2]) sc.nd rfl (by first | exact Or.inl rfl | exact Or.inr rfl)) gd_nil)))) (by exact sd_one (by exact sd_ret (by exact pd_if (by exact td_pc (by exact pd_pc (od_of (io_eq hr.units)) (by exact pd_peek 2) (by exact toV pd_int)) (nomark _)) (by exact pd_name 1) (by exact pd_name 0))))) : PSs (cxOf (L2.CX prog w) prog w K mg base ["number", "top", "bottom"] "plain" (defScope s_plain) f cdv A outer s H e) (defBody s_plain) (tS (pm K C C1 TT) ⟨F0, none⟩ H (WE0 e) _))
  exact h
abbrev s_one_form : Stmt := top 22
theorem sc_one_form : FnScope ["terms", "found", "powers"] ["terms"] (defScope s_one_form) := ⟨rfl, rfl, rfl, by decide +kernel, rfl, by decide +kernel, by decide +kernel⟩
theorem b_one_form (T : Txt prog K mg base C C1 TT) (c___eq__ : OwnD prog w K mg base (pm K C C1 TT) 3 "__eq__" 0 2 G_Ratio___eq__) (c_plain : CalD prog w K mg base (pm K C C1 TT) 2 "plain" 1 G_plain) (f : Addr) (cdv : Value) (A : Around) (outer : List PySem.Env) (s : Shared) (H : Hp) (F0 : Hp) (e : XK) (hr : Room 4 (A.deeper (PyProof.Rows.envOfC "one_form" (defScope s_one_form) s.heap.objs.size f cdv))) :
    PSs (cxOf (L2.CX prog w) prog w K mg base ["terms", "found", "powers"] "one_form" (defScope s_one_form) f cdv A outer s H e) (defBody s_one_form) (tS (pm K C C1 TT) ⟨F0, none⟩ H (WE0 e) g_one_form) := by
  have sc := sc_one_form
  have tk : Takes (cxOf (L2.CX prog w) prog w K mg base ["terms", "found", "powers"] "one_form" (defScope s_one_form) f cdv A outer s H e) (WE0 e) := takes_of rfl rfl rfl rfl
  have h := ((sd_cons (by exact sd_setN (i := 1) sc.nd rfl (by first | exact Or.inl rfl | exact Or.inr rfl) nd_dnT) (sd_cons (by exact sd_for (passes_of rfl) rfl (by exact id_seq (by exact pd_sortT rfl (un8 hr) T.b_sorted (by exact pd_peek 0) pd_bl)) (by exact gd_name (i := 2) (us := [2]) sc.nd rfl (by first | exact Or.inl rfl | exact Or.inr rfl)) (by exact sd_one (by exact sd_if (by exact td_pc (by exact pc_neN T.ec c___eq__ (hr.mono (by decide)) tk (by exact pd_dget (un1 hr) (by exact pd_peek 0) (by exact pd_name 2) (fun _ _ => rfl)) pd_int) (nomark _)) (by exact sd_one (by exact sd_dput 1 (un1 hr) (by exact pd_name 2) (by exact pd_cal c_plain (hr.mono (by decide)) tk (by exact ad_cons (by exact pd_dget (un1 hr) (by exact pd_peek 0) (by exact pd_name 2) (fun _ _ => rfl)) ad_nil)))) sd_nil))) (by exact sd_one (by exact sd_frz1 1 (by exact sd_ret (by exact pd_name 1)))))) : PSs (cxOf (L2.CX prog w) prog w K mg base ["terms", "found", "powers"] "one_form" (defScope s_one_form) f cdv A outer s H e) (defBody s_one_form) (tS (pm K C C1 TT) ⟨F0, none⟩ H (WE0 e) _))
  exact h
abbrev s_Poly___init__ : Stmt := inClass (top 29) 0
theorem sc_Poly___init__ : FnScope ["self", "fields", "terms", "powers"] ["self", "fields", "terms"] (defScope s_Poly___init__) := ⟨rfl, rfl, rfl, by decide +kernel, rfl, by decide +kernel, by decide +kernel⟩
theorem b_Poly___init__ (T : Txt prog K mg base C C1 TT) (c_check_fields : CalD prog w K mg base (pm K C C1 TT) 2 "check_fields" 1 G_check_fields) (c_is_powers : CalD prog w K mg base (pm K C C1 TT) 2 "is_powers" 2 G_is_powers) (c_one_form : CalD prog w K mg base (pm K C C1 TT) 5 "one_form" 1 G_one_form) (f : Addr) (cdv : Value) (A : Around) (outer : List PySem.Env) (s : Shared) (H : Hp) (F0 H0 : Hp) (x : Addr) (e : XK) (hr : Room 5 (A.deeper (PyProof.Rows.envOfC "Poly.__init__" (defScope s_Poly___init__) s.heap.objs.size f cdv))) :
    PSs (cxOf (L2.CX prog w) prog w K mg base ["self", "fields", "terms", "powers"] "Poly.__init__" (defScope s_Poly___init__) f cdv A outer s H e) (defBody s_Poly___init__) (tS (pm K C C1 TT) ⟨F0, some x⟩ H0 (WE0 e) g_Poly___init__) := by
  have sc := sc_Poly___init__
  have tk : Takes (cxOf (L2.CX prog w) prog w K mg base ["self", "fields", "terms", "powers"] "Poly.__init__" (defScope s_Poly___init__) f cdv A outer s H e) (WE0 e) := takes_of rfl rfl rfl rfl
  have h := ((sd_cons (by exact sd_fld (i := 0) T.s_fields T.nd (by exact pd_callTy ic_tup rfl T.b_tuple (by decide +kernel) (by exact av_cons (by exact pd_peek 1) av_nil))) (sd_cons (by exact sd_drop (by exact pd_cal c_check_fields (hr.mono (by decide)) tk (by exact ad_cons (by exact pd_fld (by exact pd_peek 0) T.f_fields) ad_nil))) (sd_cons (by exact sd_for (passes_of rfl) rfl (by exact id_keys (by exact pd_name 2)) (by exact gd_name (i := 3) (us := [3]) sc.nd rfl (by first | exact Or.inl rfl | exact Or.inr rfl)) (by exact sd_one (by exact sd_if (by exact td_not (by exact td_val (by exact pd_cal c_is_powers (hr.mono (by decide)) tk (by exact ad_cons (by exact pd_name 3) (by exact ad_cons (by exact pd_callB ic_len rfl T.b_len (by decide +kernel) (by exact av_cons (by exact toV (by exact pd_fld (by exact pd_peek 0) T.f_fields)) av_nil)) ad_nil))))) (by exact sd_one sd_never) sd_nil))) (by exact sd_one (by exact sd_fld (i := 0) T.s_parts T.nd (by exact pd_cal c_one_form (hr.mono (by decide)) tk (by exact ad_cons (by exact pd_name 2) ad_nil))))))) : PSs (cxOf (L2.CX prog w) prog w K mg base ["self", "fields", "terms", "powers"] "Poly.__init__" (defScope s_Poly___init__) f cdv A outer s H e) (defBody s_Poly___init__) (tS (pm K C C1 TT) ⟨F0, some x⟩ H0 (WE0 e) _))
  exact h
abbrev s__law_kept : Stmt := top 40
theorem sc__law_kept : FnScope ["_law_terms_here", "_law_powers"] ["_law_terms_here"] (defScope s__law_kept) := ⟨rfl, rfl, rfl, by decide +kernel, rfl, by decide +kernel, by decide +kernel⟩
theorem b__law_kept (T : Txt prog K mg base C C1 TT) (f : Addr) (cdv : Value) (A : Around) (outer : List PySem.Env) (s : Shared) (H : Hp) (F0 : Hp) (e : XK) (hr : Room 0 (A.deeper (PyProof.Rows.envOfC "_law_kept" (defScope s__law_kept) s.heap.objs.size f cdv))) :
    PSs (cxOf (L2.CX prog w) prog w K mg base ["_law_terms_here", "_law_powers"] "_law_kept" (defScope s__law_kept) f cdv A outer s H e) (defBody s__law_kept) (tS (pm K C C1 TT) ⟨F0, none⟩ H (WE0 e) g__law_kept) := by
  have sc := sc__law_kept
  have tk : Takes (cxOf (L2.CX prog w) prog w K mg base ["_law_terms_here", "_law_powers"] "_law_kept" (defScope s__law_kept) f cdv A outer s H e) (WE0 e) := takes_of rfl rfl rfl rfl
  have h := ((by exact sd_one (by exact sd_ret (by exact n2e (by exact nd_dictT rfl (un8 hr) T.b_dict (by exact toV (by exact n2e (by exact nd_lc (own := [("_law_powers", 1)]) (us := [1]) rfl sc.nd (by exact id_keys (by exact pd_name 0)) (by show BlkOk ["_law_terms_here", "_law_powers"] (defScope s__law_kept) _ [("_law_powers", 1)]; exact ⟨rfl, by decide +kernel, by decide +kernel, by decide +kernel, by decide +kernel⟩) rfl (fun _ _ _ _ _ => (by exact gd_name (i := 1) (us := [1]) sc.nd rfl (by first | exact Or.inl rfl | exact Or.inr rfl))) (fun _ _ _ _ _ => (by exact pts_one (by exact td_pc (by exact pd_pc (od_of (io_ne hr.units)) (by exact toV (by exact pd_ix (by exact toV (by exact pd_dget (un1 hr) (by exact pd_peek 0) (by exact pd_name 1) (fun _ _ => rfl))) (by exact toV pd_int) (fun _ _ => rfl))) (by exact toV pd_int)) (nomark _)))) (fun _ _ _ _ _ => (by exact pd_tup (by exact ad_cons (by exact pd_name 1) (by exact ad_cons (by exact pd_dget (un1 hr) (by exact pd_peek 0) (by exact pd_name 1) (fun _ _ => rfl)) ad_nil))))))))))) : PSs (cxOf (L2.CX prog w) prog w K mg base ["_law_terms_here", "_law_powers"] "_law_kept" (defScope s__law_kept) f cdv A outer s H e) (defBody s__law_kept) (tS (pm K C C1 TT) ⟨F0, none⟩ H (WE0 e) _))
  exact h
abbrev s_Ratio___str__ : Stmt := inClass (top 14) 10
theorem sc_Ratio___str__ : FnScope ["self"] ["self"] (defScope s_Ratio___str__) := ⟨rfl, rfl, rfl, by decide +kernel, rfl, by decide +kernel, by decide +kernel⟩
theorem b_Ratio___str__ (T : Txt prog K mg base C C1 TT) (f : Addr) (cdv : Value) (A : Around) (outer : List PySem.Env) (s : Shared) (H : Hp) (F0 : Hp) (e : XK) (hr : Room 0 (A.deeper (PyProof.Rows.envOfC "Ratio.__str__" (defScope s_Ratio___str__) s.heap.objs.size f cdv))) :
    PSs (cxOf (L2.CX prog w) prog w K mg base ["self"] "Ratio.__str__" (defScope s_Ratio___str__) f cdv A outer s H e) (defBody s_Ratio___str__) (tS (pm K C C1 TT) ⟨F0, none⟩ H (WE0 e) g_Ratio___str__) := by
  have sc := sc_Ratio___str__
  have tk : Takes (cxOf (L2.CX prog w) prog w K mg base ["self"] "Ratio.__str__" (defScope s_Ratio___str__) f cdv A outer s H e) (WE0 e) := takes_of rfl rfl rfl rfl
  have h := ((sd_cons (by exact sd_if (by exact td_pc (by exact pd_pc (od_of (io_eq hr.units)) (by exact toV (by exact pd_fld (by exact pd_peek 0) T.f_bottom)) (by exact toV pd_int)) (nomark _)) (by exact sd_one (by exact sd_ret (by exact pd_f1 (by exact pf_fmt (by exact pd_fld (by exact pd_peek 0) T.f_top))))) sd_nil) (by exact sd_one (by exact sd_ret (by exact pd_f3 (by exact pf_fmt (by exact pd_fld (by exact pd_peek 0) T.f_top)) pf_str (by exact pf_fmt (by exact pd_fld (by exact pd_peek 0) T.f_bottom)))))) : PSs (cxOf (L2.CX prog w) prog w K mg base ["self"] "Ratio.__str__" (defScope s_Ratio___str__) f cdv A outer s H e) (defBody s_Ratio___str__) (tS (pm K C C1 TT) ⟨F0, none⟩ H (WE0 e) _))
  exact h
abbrev s__law_text_of : Stmt := top 43
theorem sc__law_text_of : FnScope ["_law_pair", "_law_fields_here", "_law_powers", "_law_top", "_law_bottom", "_law_words", "_law_name", "_law_power", "_law_number"] ["_law_pair", "_law_fields_here", "_law_powers"] (defScope s__law_text_of) := ⟨rfl, rfl, rfl, by decide +kernel, rfl, by decide +kernel, by decide +kernel⟩
theorem b__law_text_of (T : Txt prog K mg base C C1 TT) (c___str__ : OwnD prog w K mg base (pm K C C1 TT) 1 "__str__" 0 1 G_Ratio___str__) (f : Addr) (cdv : Value) (A : Around) (outer : List PySem.Env) (s : Shared) (H : Hp) (F0 : Hp) (e : XK) (hr : Room 3 (A.deeper (PyProof.Rows.envOfC "_law_text_of" (defScope s__law_text_of) s.heap.objs.size f cdv))) :
    PSs (cxOf (L2.CX prog w) prog w K mg base ["_law_pair", "_law_fields_here", "_law_powers", "_law_top", "_law_bottom", "_law_words", "_law_name", "_law_power", "_law_number"] "_law_text_of" (defScope s__law_text_of) f cdv A outer s H e) (defBody s__law_text_of) (tS (pm K C C1 TT) ⟨F0, none⟩ H (WE0 e) g__law_text_of) := by
  have sc := sc__law_text_of
  have tk : Takes (cxOf (L2.CX prog w) prog w K mg base ["_law_pair", "_law_fields_here", "_law_powers", "_law_top", "_law_bottom", "_law_words", "_law_name", "_law_power", "_law_number"] "_law_text_of" (defScope s__law_text_of) f cdv A outer s H e) (WE0 e) := takes_of rfl rfl rfl rfl
  have h := ((sd_cons (by exact sd_par (i := 3) (j := 4) rfl sc.nd rfl rfl (by decide) rfl rfl (by exact ad_cons (by exact pd_callB ic_abs rfl T.b_abs (by decide +kernel) (by exact av_cons (by exact toV (by exact pd_ix (by exact pd_peek 0) (by exact toV pd_int) (fun _ _ => rfl))) av_nil)) (by exact ad_cons (by exact pd_ix (by exact pd_peek 0) (by exact toV pd_int) (fun _ _ => rfl)) ad_nil)) rfl) (sd_cons (by exact sd_setLc (i := 5) (own := [("_law_name", 6), ("_law_power", 7)]) (us := [6, 7]) rfl sc.nd (by exact id_zipA rfl T.b_zip (by exact ad_cons (by exact pd_name 1) (by exact ad_cons (by exact pd_name 2) ad_nil))) (by show BlkOk ["_law_pair", "_law_fields_here", "_law_powers", "_law_top", "_law_bottom", "_law_words", "_law_name", "_law_power", "_law_number"] (defScope s__law_text_of) _ [("_law_name", 6), ("_law_power", 7)]; exact ⟨rfl, by decide +kernel, by decide +kernel, by decide +kernel, by decide +kernel⟩) rfl (fun _ _ _ _ _ => (by exact gd_tup (n := 2) rfl (by exact gd_cons (by exact gd_name (i := 6) (us := [6, 7]) sc.nd rfl (by first | exact Or.inl rfl | exact Or.inr rfl)) (by exact gd_cons (by exact gd_name (i := 7) (us := [6, 7]) sc.nd rfl (by first | exact Or.inl rfl | exact Or.inr rfl)) gd_nil)))) (fun _ _ _ _ _ => (by exact pts_one (by exact td_pc (by exact pd_pc (od_of io_gt) (by exact pd_peek 7) (by exact toV pd_int)) (nomark _)))) (fun _ _ _ _ _ => (by exact pd_ix (by exact toV (by exact pd_lst (by exact ad_cons (by exact pd_name 6) (by exact ad_cons (by exact pd_op (od_of io_addA) (by exact toV (by exact pd_op (od_of io_addA) (by exact pd_peek 6) (by exact toV pd_str))) (by exact toV (by exact pd_stD c___str__ (hr.mono (by decide)) takes0 T.b_str (by exact pd_name 7)))) ad_nil)))) (by exact toV (by exact pd_callTy ic_int2 rfl T.b_int (by decide +kernel) (by exact av_cons (by exact toV (by exact pd_pcv (by exact pd_pc (od_of io_gt) (by exact pd_peek 7) (by exact toV pd_int)) (nomark _))) av_nil))) (fun _ _ => rfl)))) (sd_cons (by exact sd_set (i := 8) sc.nd rfl (by first | exact Or.inl rfl | exact Or.inr rfl) (by exact pd_if (by exact td_pc (by exact pd_pc (od_of (io_eq hr.units)) (by exact pd_peek 4) (by exact toV pd_int)) (nomark _)) (by exact pd_stD c___str__ (hr.mono (by decide)) tk T.b_str (by exact pd_name 3)) (by exact pd_op (od_of io_addA) (by exact toV (by exact pd_op (od_of io_addA) (by exact toV (by exact pd_stD c___str__ (hr.mono (by decide)) tk T.b_str (by exact pd_name 3))) (by exact toV pd_str))) (by exact toV (by exact pd_stD c___str__ (hr.mono (by decide)) tk T.b_str (by exact pd_name 4)))))) (by exact sd_one (by exact sd_frz1 5 (by exact sd_ret (by exact pd_if (by exact PW.pt (by exact td_and (by exact td_pc (by exact pd_pc (od_of (io_ne hr.units)) (by exact pd_peek 5) (by exact toV (by exact pd_lst ad_nil))) (nomark _)) (by exact td_and1 (by exact td_pc (by exact pd_pc (od_of (io_eq hr.units)) (by exact pd_peek 8) (by exact toV pd_str)) (nomark _))))) (by exact pd_join pd_str (by exact pd_peek 5)) (by exact pd_join pd_str (by exact toV (by exact pd_op (od_of io_addA) (by exact toV (by exact pd_lst (by exact ad_cons (by exact pd_name 8) ad_nil))) (by exact pd_peek 5))))))))))) : PSs (cxOf (L2.CX prog w) prog w K mg base ["_law_pair", "_law_fields_here", "_law_powers", "_law_top", "_law_bottom", "_law_words", "_law_name", "_law_power", "_law_number"] "_law_text_of" (defScope s__law_text_of) f cdv A outer s H e) (defBody s__law_text_of) (tS (pm K C C1 TT) ⟨F0, none⟩ H (WE0 e) _))
  exact h
abbrev s__law_due : Stmt := top 44
theorem sc__law_due : FnScope ["_law_terms_here", "_law_fields_here", "_law_text", "_law_powers", "_law_sign"] ["_law_terms_here", "_law_fields_here"] (defScope s__law_due) := ⟨rfl, rfl, rfl, by decide +kernel, rfl, by decide +kernel, by decide +kernel⟩
theorem b__law_due (T : Txt prog K mg base C C1 TT) (c__law_kept : CalD prog w K mg base (pm K C C1 TT) 1 "_law_kept" 1 G__law_kept) (c__law_text_of : CalD prog w K mg base (pm K C C1 TT) 4 "_law_text_of" 3 G__law_text_of) (f : Addr) (cdv : Value) (A : Around) (outer : List PySem.Env) (s : Shared) (H : Hp) (F0 : Hp) (e : XK) (hr : Room 4 (A.deeper (PyProof.Rows.envOfC "_law_due" (defScope s__law_due) s.heap.objs.size f cdv))) :
    PSs (cxOf (L2.CX prog w) prog w K mg base ["_law_terms_here", "_law_fields_here", "_law_text", "_law_powers", "_law_sign"] "_law_due" (defScope s__law_due) f cdv A outer s H e) (defBody s__law_due) (tS (pm K C C1 TT) ⟨F0, none⟩ H (WE0 e) g__law_due) := by
  have sc := sc__law_due
  have tk : Takes (cxOf (L2.CX prog w) prog w K mg base ["_law_terms_here", "_law_fields_here", "_law_text", "_law_powers", "_law_sign"] "_law_due" (defScope s__law_due) f cdv A outer s H e) (WE0 e) := takes_of rfl rfl rfl rfl
  have h := ((sd_cons (by exact sd_set (i := 2) sc.nd rfl (by first | exact Or.inl rfl | exact Or.inr rfl) pd_str) (sd_cons (by exact sd_for (passes_of rfl) rfl (by exact id_seq (by exact pd_sortT rfl (un8 hr) T.b_sorted (by exact toV (by exact pd_cal c__law_kept (hr.mono (by decide)) tk (by exact ad_cons (by exact pd_name 0) ad_nil))) pd_bl)) (by exact gd_name (i := 3) (us := [3]) sc.nd rfl (by first | exact Or.inl rfl | exact Or.inr rfl)) (sd_cons (by exact sd_set (i := 4) sc.nd rfl (by first | exact Or.inl rfl | exact Or.inr rfl) (by exact pd_if (by exact td_pc (by exact pd_pc (od_of io_lt) (by exact toV (by exact pd_ix (by exact toV (by exact pd_dget (un1 hr) (by exact pd_peek 0) (by exact pd_name 3) (fun _ _ => rfl))) (by exact toV pd_int) (fun _ _ => rfl))) (by exact toV pd_int)) (nomark _)) pd_str pd_str)) (by exact sd_one (by exact sd_if (by exact td_pc (by exact pd_pc (od_of (io_eq hr.units)) (by exact pd_peek 2) (by exact toV pd_str)) (nomark _)) (by exact sd_one (by exact sd_set (i := 2) sc.nd rfl (by first | exact Or.inl rfl | exact Or.inr rfl) (by exact pd_op (od_of io_addA) (by exact toV (by exact pd_ix (by exact toV (by exact pd_lst (by exact ad_cons pd_str (by exact ad_cons pd_str ad_nil)))) (by exact toV (by exact pd_callTy ic_int2 rfl T.b_int (by decide +kernel) (by exact av_cons (by exact toV (by exact pd_pcv (by exact pd_pc (od_of (io_eq hr.units)) (by exact pd_peek 4) (by exact toV pd_str)) (nomark _))) av_nil))) (fun _ _ => rfl))) (by exact toV (by exact pd_cal c__law_text_of (hr.mono (by decide)) tk (by exact ad_cons (by exact pd_dget (un1 hr) (by exact pd_peek 0) (by exact pd_name 3) (fun _ _ => rfl)) (by exact ad_cons (by exact pd_name 1) (by exact ad_cons (by exact pd_name 3) ad_nil)))))))) (by exact sd_one (by exact sd_set (i := 2) sc.nd rfl (by first | exact Or.inl rfl | exact Or.inr rfl) (by exact pd_op (od_of io_addA) (by exact toV (by exact pd_op (od_of io_addA) (by exact toV (by exact pd_op (od_of io_addA) (by exact toV (by exact pd_op (od_of io_addA) (by exact pd_peek 2) (by exact toV pd_str))) (by exact pd_peek 4))) (by exact toV pd_str))) (by exact toV (by exact pd_cal c__law_text_of (hr.mono (by decide)) tk (by exact ad_cons (by exact pd_dget (un1 hr) (by exact pd_peek 0) (by exact pd_name 3) (fun _ _ => rfl)) (by exact ad_cons (by exact pd_name 1) (by exact ad_cons (by exact pd_name 3) ad_nil)))))))))))) (by exact sd_one (by exact sd_ret (by exact pd_if (by exact td_pc (by exact pd_pc (od_of (io_ne hr.units)) (by exact pd_peek 2) (by exact toV pd_str)) (nomark _)) (by exact pd_name 2) pd_str))))) : PSs (cxOf (L2.CX prog w) prog w K mg base ["_law_terms_here", "_law_fields_here", "_law_text", "_law_powers", "_law_sign"] "_law_due" (defScope s__law_due) f cdv A outer s H e) (defBody s__law_due) (tS (pm K C C1 TT) ⟨F0, none⟩ H (WE0 e) _))
  exact h
abbrev s_Poly___eq__ : Stmt := inClass (top 29) 9
theorem sc_Poly___eq__ : FnScope ["self", "other"] ["self", "other"] (defScope s_Poly___eq__) := ⟨rfl, rfl, rfl, by decide +kernel, rfl, by decide +kernel, by decide +kernel⟩
theorem b_Poly___eq__ (T : Txt prog K mg base C C1 TT) (c___eq__ : OwnD prog w K mg base (pm K C C1 TT) 3 "__eq__" 0 2 G_Ratio___eq__) (f : Addr) (cdv : Value) (A : Around) (outer : List PySem.Env) (s : Shared) (H : Hp) (F0 : Hp) (e : XK) (hr : Room 4 (A.deeper (PyProof.Rows.envOfC "Poly.__eq__" (defScope s_Poly___eq__) s.heap.objs.size f cdv))) :
    PSs (cxOf (L2.CX prog w) prog w K mg base ["self", "other"] "Poly.__eq__" (defScope s_Poly___eq__) f cdv A outer s H e) (defBody s_Poly___eq__) (tS (pm K C C1 TT) ⟨F0, none⟩ H (WE0 e) g_Poly___eq__) := by
  have sc := sc_Poly___eq__
  have tk : Takes (cxOf (L2.CX prog w) prog w K mg base ["self", "other"] "Poly.__eq__" (defScope s_Poly___eq__) f cdv A outer s H e) (WE0 e) := takes_of rfl rfl rfl rfl
  have h := ((by exact sd_one (by exact sd_ret (by exact pd_and (by exact pd_isi T.isi T.kit_Poly (.own _) (pe_glob rfl T.g_Poly rfl) (by exact pd_peek 1) rfl T.b_isinstance) (by exact pd_and (by exact pd_pcv (by exact pd_pc (od_of (io_eq hr.units)) (by exact toV (by exact pd_fld (by exact pd_peek 0) T.f_fields)) (by exact toV (by exact pd_fld (by exact pd_peek 1) T.f_fields))) (nomark _)) (by exact pd_one (by exact pd_pcv (by exact pc_eqX 1 (T.ecs_Ratio _) (geOf_own c___eq__) (hr.mono (by decide)) tk (by exact pd_fld (by exact pd_peek 0) T.f_parts) (by exact pd_fld (by exact pd_peek 1) T.f_parts)) (nomark _))))))) : PSs (cxOf (L2.CX prog w) prog w K mg base ["self", "other"] "Poly.__eq__" (defScope s_Poly___eq__) f cdv A outer s H e) (defBody s_Poly___eq__) (tS (pm K C C1 TT) ⟨F0, none⟩ H (WE0 e) _))
  exact h
abbrev s_factors_text : Stmt := top 25
theorem sc_factors_text : FnScope ["fields", "powers", "found", "name", "power"] ["fields", "powers"] (defScope s_factors_text) := ⟨rfl, rfl, rfl, by decide +kernel, rfl, by decide +kernel, by decide +kernel⟩
theorem b_factors_text (T : Txt prog K mg base C C1 TT) (f : Addr) (cdv : Value) (A : Around) (outer : List PySem.Env) (s : Shared) (H : Hp) (F0 : Hp) (e : XK) (hr : Room 0 (A.deeper (PyProof.Rows.envOfC "factors_text" (defScope s_factors_text) s.heap.objs.size f cdv))) :
    PSs (cxOf (L2.CX prog w) prog w K mg base ["fields", "powers", "found", "name", "power"] "factors_text" (defScope s_factors_text) f cdv A outer s H e) (defBody s_factors_text) (tS (pm K C C1 TT) ⟨F0, none⟩ H (WE0 e) g_factors_text) := by
  have sc := sc_factors_text
  have tk : Takes (cxOf (L2.CX prog w) prog w K mg base ["fields", "powers", "found", "name", "power"] "factors_text" (defScope s_factors_text) f cdv A outer s H e) (WE0 e) := takes_of rfl rfl rfl rfl
  have h := ((sd_cons (by exact sd_setN (i := 2) sc.nd rfl (by first | exact Or.inl rfl | exact Or.inr rfl) (by exact nd_lst ad_nil)) (sd_cons (by exact sd_for (passes_of rfl) rfl (by exact id_zipA rfl T.b_zip (by exact ad_cons (by exact pd_name 0) (by exact ad_cons (by exact pd_name 1) ad_nil))) (by exact gd_tup (n := 2) rfl (by exact gd_cons (by exact gd_name (i := 3) (us := [3, 4]) sc.nd rfl (by first | exact Or.inl rfl | exact Or.inr rfl)) (by exact gd_cons (by exact gd_name (i := 4) (us := [3, 4]) sc.nd rfl (by first | exact Or.inl rfl | exact Or.inr rfl)) gd_nil))) (by exact sd_one (by exact sd_if (by exact td_pc (by exact pd_pc (od_of io_gt) (by exact pd_peek 4) (by exact toV pd_int)) (nomark _)) (by exact sd_one (by exact sd_append 2 (by exact pd_if (by exact td_pc (by exact pd_pc (od_of (io_eq hr.units)) (by exact pd_peek 4) (by exact toV pd_int)) (nomark _)) (by exact pd_name 3) (by exact pd_f3 (by exact pf_fmt (by exact pd_name 3)) pf_str (by exact pf_fmt (by exact pd_name 4)))))) sd_nil))) (by exact sd_one (by exact sd_frz1 2 (by exact sd_ret (by exact pd_name 2)))))) : PSs (cxOf (L2.CX prog w) prog w K mg base ["fields", "powers", "found", "name", "power"] "factors_text" (defScope s_factors_text) f cdv A outer s H e) (defBody s_factors_text) (tS (pm K C C1 TT) ⟨F0, none⟩ H (WE0 e) _))
  exact h
abbrev s_top_of : Stmt := top 13
theorem sc_top_of : FnScope ["number"] ["number"] (defScope s_top_of) := ⟨rfl, rfl, rfl, by decide +kernel, rfl, by decide +kernel, by decide +kernel⟩
theorem b_top_of (T : Txt prog K mg base C C1 TT) (c_halves_of : CalD prog w K mg base (pm K C C1 TT) 1 "halves_of" 1 G_halves_of) (f : Addr) (cdv : Value) (A : Around) (outer : List PySem.Env) (s : Shared) (H : Hp) (F0 : Hp) (e : XK) (hr : Room 1 (A.deeper (PyProof.Rows.envOfC "top_of" (defScope s_top_of) s.heap.objs.size f cdv))) :
    PSs (cxOf (L2.CX prog w) prog w K mg base ["number"] "top_of" (defScope s_top_of) f cdv A outer s H e) (defBody s_top_of) (tS (pm K C C1 TT) ⟨F0, none⟩ H (WE0 e) g_top_of) := by
  have sc := sc_top_of
  have tk : Takes (cxOf (L2.CX prog w) prog w K mg base ["number"] "top_of" (defScope s_top_of) f cdv A outer s H e) (WE0 e) := takes_of rfl rfl rfl rfl
  have h := ((by exact sd_one (by exact sd_ret (by exact pd_ix (by exact toV (by exact pd_cal c_halves_of (hr.mono (by decide)) tk (by exact ad_cons (by exact pd_name 0) ad_nil))) (by exact toV pd_int) (fun _ _ => rfl)))) : PSs (cxOf (L2.CX prog w) prog w K mg base ["number"] "top_of" (defScope s_top_of) f cdv A outer s H e) (defBody s_top_of) (tS (pm K C C1 TT) ⟨F0, none⟩ H (WE0 e) _))
  exact h
abbrev s_Ratio___neg__ : Stmt := inClass (top 14) 3
theorem sc_Ratio___neg__ : FnScope ["self"] ["self"] (defScope s_Ratio___neg__) := ⟨rfl, rfl, rfl, by decide +kernel, rfl, by decide +kernel, by decide +kernel⟩
theorem b_Ratio___neg__ (T : Txt prog K mg base C C1 TT) (c_Ratio : MkD prog w K mg base (pm K C C1 TT) 2 "Ratio" 0 2 G_Ratio___init__) (f : Addr) (cdv : Value) (A : Around) (outer : List PySem.Env) (s : Shared) (H : Hp) (F0 : Hp) (e : XK) (hr : Room 3 (A.deeper (PyProof.Rows.envOfC "Ratio.__neg__" (defScope s_Ratio___neg__) s.heap.objs.size f cdv))) :
    PSs (cxOf (L2.CX prog w) prog w K mg base ["self"] "Ratio.__neg__" (defScope s_Ratio___neg__) f cdv A outer s H e) (defBody s_Ratio___neg__) (tS (pm K C C1 TT) ⟨F0, none⟩ H (WE0 e) g_Ratio___neg__) := by
  have sc := sc_Ratio___neg__
  have tk : Takes (cxOf (L2.CX prog w) prog w K mg base ["self"] "Ratio.__neg__" (defScope s_Ratio___neg__) f cdv A outer s H e) (WE0 e) := takes_of rfl rfl rfl rfl
  have h := ((by exact sd_one (by exact sd_ret (by exact pd_mk c_Ratio (hr.mono (by decide)) tk (by exact ad_cons (by exact pd_un (ud_of io_neg) (by exact toV (by exact pd_fld (by exact pd_peek 0) T.f_top))) (by exact ad_cons (by exact pd_fld (by exact pd_peek 0) T.f_bottom) ad_nil))))) : PSs (cxOf (L2.CX prog w) prog w K mg base ["self"] "Ratio.__neg__" (defScope s_Ratio___neg__) f cdv A outer s H e) (defBody s_Ratio___neg__) (tS (pm K C C1 TT) ⟨F0, none⟩ H (WE0 e) _))
  exact h
abbrev s_term_text : Stmt := top 26
theorem sc_term_text : FnScope ["number", "factors", "size"] ["number", "factors"] (defScope s_term_text) := ⟨rfl, rfl, rfl, by decide +kernel, rfl, by decide +kernel, by decide +kernel⟩
theorem b_term_text (T : Txt prog K mg base C C1 TT) (c_top_of : CalD prog w K mg base (pm K C C1 TT) 2 "top_of" 1 G_top_of) (c___neg__ : OwnD prog w K mg base (pm K C C1 TT) 4 "__neg__" 0 1 G_Ratio___neg__) (c___eq__ : OwnD prog w K mg base (pm K C C1 TT) 3 "__eq__" 0 2 G_Ratio___eq__) (c___str__ : OwnD prog w K mg base (pm K C C1 TT) 1 "__str__" 0 1 G_Ratio___str__) (f : Addr) (cdv : Value) (A : Around) (outer : List PySem.Env) (s : Shared) (H : Hp) (F0 : Hp) (e : XK) (hr : Room 4 (A.deeper (PyProof.Rows.envOfC "term_text" (defScope s_term_text) s.heap.objs.size f cdv))) :
    PSs (cxOf (L2.CX prog w) prog w K mg base ["number", "factors", "size"] "term_text" (defScope s_term_text) f cdv A outer s H e) (defBody s_term_text) (tS (pm K C C1 TT) ⟨F0, none⟩ H (WE0 e) g_term_text) := by
  have sc := sc_term_text
  have tk : Takes (cxOf (L2.CX prog w) prog w K mg base ["number", "factors", "size"] "term_text" (defScope s_term_text) f cdv A outer s H e) (WE0 e) := takes_of rfl rfl rfl rfl
  have h := ((sd_cons (by exact sd_set (i := 2) sc.nd rfl (by first | exact Or.inl rfl | exact Or.inr rfl) (by exact pd_if (by exact td_pc (by exact pd_pc (od_of io_lt) (by exact toV (by exact pd_cal c_top_of (hr.mono (by decide)) tk (by exact ad_cons (by exact pd_name 0) ad_nil))) (by exact toV pd_int)) (nomark _)) (by exact pd_ngD c___neg__ (hr.mono (by decide)) tk (by exact pd_name 0)) (by exact pd_name 0))) (sd_cons (by exact sd_if (by exact PW.pt (by exact td_or (by exact td_pc (by exact pd_pc (od_of (io_eq hr.units)) (by exact pd_peek 1) (by exact toV (by exact pd_lst ad_nil))) (nomark _)) (by exact td_or1 (by exact td_pc (by exact pc_neN T.ec c___eq__ (hr.mono (by decide)) tk (by exact pd_name 2) pd_int) (nomark _))))) (by exact sd_one (by exact sd_ret (by exact pd_join pd_str (by exact toV (by exact pd_op (od_of io_addA) (by exact toV (by exact pd_lst (by exact ad_cons (by exact pd_stD c___str__ (hr.mono (by decide)) tk T.b_str (by exact pd_name 2)) ad_nil))) (by exact pd_peek 1)))))) sd_nil) (by exact sd_one (by exact sd_ret (by exact pd_join pd_str (by exact pd_peek 1)))))) : PSs (cxOf (L2.CX prog w) prog w K mg base ["number", "factors", "size"] "term_text" (defScope s_term_text) f cdv A outer s H e) (defBody s_term_text) (tS (pm K C C1 TT) ⟨F0, none⟩ H (WE0 e) _))
  exact h
abbrev s_joined_terms : Stmt := top 27
theorem sc_joined_terms : FnScope ["pairs", "found", "number", "factors"] ["pairs"] (defScope s_joined_terms) := ⟨rfl, rfl, rfl, by decide +kernel, rfl, by decide +kernel, by decide +kernel⟩
theorem b_joined_terms (T : Txt prog K mg base C C1 TT) (c_top_of : CalD prog w K mg base (pm K C C1 TT) 2 "top_of" 1 G_top_of) (c_term_text : CalD prog w K mg base (pm K C C1 TT) 5 "term_text" 2 G_term_text) (f : Addr) (cdv : Value) (A : Around) (outer : List PySem.Env) (s : Shared) (H : Hp) (F0 : Hp) (e : XK) (hr : Room 5 (A.deeper (PyProof.Rows.envOfC "joined_terms" (defScope s_joined_terms) s.heap.objs.size f cdv))) :
    PSs (cxOf (L2.CX prog w) prog w K mg base ["pairs", "found", "number", "factors"] "joined_terms" (defScope s_joined_terms) f cdv A outer s H e) (defBody s_joined_terms) (tS (pm K C C1 TT) ⟨F0, none⟩ H (WE0 e) g_joined_terms) := by
  have sc := sc_joined_terms
  have tk : Takes (cxOf (L2.CX prog w) prog w K mg base ["pairs", "found", "number", "factors"] "joined_terms" (defScope s_joined_terms) f cdv A outer s H e) (WE0 e) := takes_of rfl rfl rfl rfl
  have h := ((sd_cons (by exact sd_set (i := 1) sc.nd rfl (by first | exact Or.inl rfl | exact Or.inr rfl) pd_str) (sd_cons (by exact sd_for (passes_of rfl) rfl (by exact id_seq (by exact pd_name 0)) (by exact gd_tup (n := 2) rfl (by exact gd_cons (by exact gd_name (i := 2) (us := [2, 3]) sc.nd rfl (by first | exact Or.inl rfl | exact Or.inr rfl)) (by exact gd_cons (by exact gd_name (i := 3) (us := [2, 3]) sc.nd rfl (by first | exact Or.inl rfl | exact Or.inr rfl)) gd_nil))) (sd_cons (by exact sd_if (by exact td_pc (by exact pd_pc (od_of (io_eq hr.units)) (by exact pd_peek 1) (by exact toV pd_str)) (nomark _)) (by exact sd_one (by exact sd_set (i := 1) sc.nd rfl (by first | exact Or.inl rfl | exact Or.inr rfl) (by exact pd_if (by exact td_pc (by exact pd_pc (od_of io_lt) (by exact toV (by exact pd_cal c_top_of (hr.mono (by decide)) tk (by exact ad_cons (by exact pd_name 2) ad_nil))) (by exact toV pd_int)) (nomark _)) pd_str pd_str))) (by exact sd_one (by exact sd_set (i := 1) sc.nd rfl (by first | exact Or.inl rfl | exact Or.inr rfl) (by exact pd_op (od_of io_addA) (by exact pd_peek 1) (by exact toV (by exact pd_if (by exact td_pc (by exact pd_pc (od_of io_lt) (by exact toV (by exact pd_cal c_top_of (hr.mono (by decide)) tk (by exact ad_cons (by exact pd_name 2) ad_nil))) (by exact toV pd_int)) (nomark _)) pd_str pd_str)))))) (by exact sd_one (by exact sd_set (i := 1) sc.nd rfl (by first | exact Or.inl rfl | exact Or.inr rfl) (by exact pd_op (od_of io_addA) (by exact pd_peek 1) (by exact toV (by exact pd_cal c_term_text (hr.mono (by decide)) tk (by exact ad_cons (by exact pd_name 2) (by exact ad_cons (by exact pd_name 3) ad_nil))))))))) (by exact sd_one (by exact sd_ret (by exact pd_if (by exact td_pc (by exact pd_pc (od_of (io_ne hr.units)) (by exact pd_peek 1) (by exact toV pd_str)) (nomark _)) (by exact pd_name 1) pd_str))))) : PSs (cxOf (L2.CX prog w) prog w K mg base ["pairs", "found", "number", "factors"] "joined_terms" (defScope s_joined_terms) f cdv A outer s H e) (defBody s_joined_terms) (tS (pm K C C1 TT) ⟨F0, none⟩ H (WE0 e) _))
  exact h
abbrev s_Poly___str__ : Stmt := inClass (top 29) 13
theorem sc_Poly___str__ : FnScope ["self", "pairs", "powers"] ["self"] (defScope s_Poly___str__) := ⟨rfl, rfl, rfl, by decide +kernel, rfl, by decide +kernel, by decide +kernel⟩
theorem b_Poly___str__ (T : Txt prog K mg base C C1 TT) (c_factors_text : CalD prog w K mg base (pm K C C1 TT) 1 "factors_text" 2 G_factors_text) (c_joined_terms : CalD prog w K mg base (pm K C C1 TT) 6 "joined_terms" 1 G_joined_terms) (f : Addr) (cdv : Value) (A : Around) (outer : List PySem.Env) (s : Shared) (H : Hp) (F0 : Hp) (e : XK) (hr : Room 6 (A.deeper (PyProof.Rows.envOfC "Poly.__str__" (defScope s_Poly___str__) s.heap.objs.size f cdv))) :
    PSs (cxOf (L2.CX prog w) prog w K mg base ["self", "pairs", "powers"] "Poly.__str__" (defScope s_Poly___str__) f cdv A outer s H e) (defBody s_Poly___str__) (tS (pm K C C1 TT) ⟨F0, none⟩ H (WE0 e) g_Poly___str__) := by
  have sc := sc_Poly___str__
  have tk : Takes (cxOf (L2.CX prog w) prog w K mg base ["self", "pairs", "powers"] "Poly.__str__" (defScope s_Poly___str__) f cdv A outer s H e) (WE0 e) := takes_of rfl rfl rfl rfl
  have h := ((sd_cons (by exact sd_setLc (i := 1) (own := [("powers", 2)]) (us := [2]) rfl sc.nd (by exact id_keys (by exact pd_fld (by exact pd_peek 0) T.f_parts)) (by show BlkOk ["self", "pairs", "powers"] (defScope s_Poly___str__) _ [("powers", 2)]; exact ⟨rfl, by decide +kernel, by decide +kernel, by decide +kernel, by decide +kernel⟩) rfl (fun _ _ _ _ _ => (by exact gd_name (i := 2) (us := [2]) sc.nd rfl (by first | exact Or.inl rfl | exact Or.inr rfl))) (fun _ _ _ _ _ => td_yes) (fun _ _ _ _ _ => (by exact pd_tup (by exact ad_cons (by exact pd_dget (un1 hr) (by exact toV (by exact pd_fld (by exact pd_peek 0) T.f_parts)) (by exact pd_name 2) (fun _ _ => rfl)) (by exact ad_cons (by exact pd_cal c_factors_text (hr.mono (by decide)) takes0 (by exact ad_cons (by exact pd_fld (by exact pd_peek 0) T.f_fields) (by exact ad_cons (by exact pd_name 2) ad_nil))) ad_nil))))) (by exact sd_one (by exact sd_frz1 1 (by exact sd_ret (by exact pd_f1 (by exact pf_fmt (by exact pd_cal c_joined_terms (hr.mono (by decide)) tk (by exact ad_cons (by exact pd_name 1) ad_nil)))))))) : PSs (cxOf (L2.CX prog w) prog w K mg base ["self", "pairs", "powers"] "Poly.__str__" (defScope s_Poly___str__) f cdv A outer s H e) (defBody s_Poly___str__) (tS (pm K C C1 TT) ⟨F0, none⟩ H (WE0 e) _))
  exact h
abbrev s_parts_beside : Stmt := top 28
theorem sc_parts_beside : FnScope ["poly", "thing"] ["poly", "thing"] (defScope s_parts_beside) := ⟨rfl, rfl, rfl, by decide +kernel, rfl, by decide +kernel, by decide +kernel⟩
theorem b_parts_beside (T : Txt prog K mg base C C1 TT) (f : Addr) (cdv : Value) (A : Around) (outer : List PySem.Env) (s : Shared) (H : Hp) (F0 : Hp) (e : XK) (hr : Room 0 (A.deeper (PyProof.Rows.envOfC "parts_beside" (defScope s_parts_beside) s.heap.objs.size f cdv))) :
    PSs (cxOf (L2.CX prog w) prog w K mg base ["poly", "thing"] "parts_beside" (defScope s_parts_beside) f cdv A outer s H e) (defBody s_parts_beside) (tS (pm K C C1 TT) ⟨F0, none⟩ H (WE0 e) g_parts_beside) := by
  have sc := sc_parts_beside
  have tk : Takes (cxOf (L2.CX prog w) prog w K mg base ["poly", "thing"] "parts_beside" (defScope s_parts_beside) f cdv A outer s H e) (WE0 e) := takes_of rfl rfl rfl rfl
  have h := ((sd_cons (by exact sd_if (by exact td_not (by exact td_val (by exact pd_isi T.isi T.kit_Poly (.own _) (pe_glob rfl T.g_Poly rfl) (by exact pd_peek 1) rfl T.b_isinstance))) (by exact sd_one sd_never) sd_nil) (sd_cons (by exact sd_if (by exact td_pc (by exact pd_pc (od_of (io_ne hr.units)) (by exact toV (by exact pd_fld (by exact pd_peek 1) T.f_fields)) (by exact toV (by exact pd_fld (by exact pd_peek 0) T.f_fields))) (nomark _)) (by exact sd_one sd_never) sd_nil) (by exact sd_one (by exact sd_ret (by exact pd_fld (by exact pd_peek 1) T.f_parts))))) : PSs (cxOf (L2.CX prog w) prog w K mg base ["poly", "thing"] "parts_beside" (defScope s_parts_beside) f cdv A outer s H e) (defBody s_parts_beside) (tS (pm K C C1 TT) ⟨F0, none⟩ H (WE0 e) _))
  exact h
abbrev s_Ratio___mul__ : Stmt := inClass (top 14) 6
theorem sc_Ratio___mul__ : FnScope ["self", "other", "top", "bottom"] ["self", "other"] (defScope s_Ratio___mul__) := ⟨rfl, rfl, rfl, by decide +kernel, rfl, by decide +kernel, by decide +kernel⟩
theorem b_Ratio___mul__ (T : Txt prog K mg base C C1 TT) (c_is_number : CalD prog w K mg base (pm K C C1 TT) 2 "is_number" 1 G_is_number) (c_halves_of : CalD prog w K mg base (pm K C C1 TT) 1 "halves_of" 1 G_halves_of) (c_Ratio : MkD prog w K mg base (pm K C C1 TT) 2 "Ratio" 0 2 G_Ratio___init__) (f : Addr) (cdv : Value) (A : Around) (outer : List PySem.Env) (s : Shared) (H : Hp) (F0 : Hp) (e : XK) (hr : Room 3 (A.deeper (PyProof.Rows.envOfC "Ratio.__mul__" (defScope s_Ratio___mul__) s.heap.objs.size f cdv))) :
    PSs (cxOf (L2.CX prog w) prog w K mg base ["self", "other", "top", "bottom"] "Ratio.__mul__" (defScope s_Ratio___mul__) f cdv A outer s H e) (defBody s_Ratio___mul__) (tS (pm K C C1 TT) ⟨F0, none⟩ H (WE0 e) g_Ratio___mul__) := by
  have sc := sc_Ratio___mul__
  have tk : Takes (cxOf (L2.CX prog w) prog w K mg base ["self", "other", "top", "bottom"] "Ratio.__mul__" (defScope s_Ratio___mul__) f cdv A outer s H e) (WE0 e) := takes_of rfl rfl rfl rfl
  have h := ((sd_cons (by exact sd_if (by exact td_not (by exact td_val (by exact pd_cal c_is_number (hr.mono (by decide)) tk (by exact ad_cons (by exact pd_name 1) ad_nil)))) (by exact sd_one sd_never) sd_nil) (sd_cons (by exact sd_asg (by exact pd_cal c_halves_of (hr.mono (by decide)) tk (by exact ad_cons (by exact pd_name 1) ad_nil)) (by exact gd_tup (n := 2) rfl (by exact gd_cons (by exact gd_name (i := 2) (us := [2, 3]) sc.nd rfl (by first | exact Or.inl rfl | exact Or.inr rfl)) (by exact gd_cons (by exact gd_name (i := 3) (us := [2, 3]) sc.nd rfl (by first | exact Or.inl rfl | exact Or.inr rfl)) gd_nil)))) (by exact sd_one (by exact sd_ret (by exact pd_mk c_Ratio (hr.mono (by decide)) tk (by exact ad_cons (by exact pd_op (od_of io_mulB) (by exact toV (by exact pd_fld (by exact pd_peek 0) T.f_top)) (by exact pd_peek 2)) (by exact ad_cons (by exact pd_op (od_of io_mulB) (by exact toV (by exact pd_fld (by exact pd_peek 0) T.f_bottom)) (by exact pd_peek 3)) ad_nil))))))) : PSs (cxOf (L2.CX prog w) prog w K mg base ["self", "other", "top", "bottom"] "Ratio.__mul__" (defScope s_Ratio___mul__) f cdv A outer s H e) (defBody s_Ratio___mul__) (tS (pm K C C1 TT) ⟨F0, none⟩ H (WE0 e) _))
  exact h
abbrev s_Ratio___rmul__ : Stmt := inClass (top 14) 7
theorem sc_Ratio___rmul__ : FnScope ["self", "other"] ["self", "other"] (defScope s_Ratio___rmul__) := ⟨rfl, rfl, rfl, by decide +kernel, rfl, by decide +kernel, by decide +kernel⟩
theorem b_Ratio___rmul__ (T : Txt prog K mg base C C1 TT) (c___mul__ : OwnD prog w K mg base (pm K C C1 TT) 4 "__mul__" 0 2 G_Ratio___mul__) (f : Addr) (cdv : Value) (A : Around) (outer : List PySem.Env) (s : Shared) (H : Hp) (F0 : Hp) (e : XK) (hr : Room 4 (A.deeper (PyProof.Rows.envOfC "Ratio.__rmul__" (defScope s_Ratio___rmul__) s.heap.objs.size f cdv))) :
    PSs (cxOf (L2.CX prog w) prog w K mg base ["self", "other"] "Ratio.__rmul__" (defScope s_Ratio___rmul__) f cdv A outer s H e) (defBody s_Ratio___rmul__) (tS (pm K C C1 TT) ⟨F0, none⟩ H (WE0 e) g_Ratio___rmul__) := by
  have sc := sc_Ratio___rmul__
  have tk : Takes (cxOf (L2.CX prog w) prog w K mg base ["self", "other"] "Ratio.__rmul__" (defScope s_Ratio___rmul__) f cdv A outer s H e) (WE0 e) := takes_of rfl rfl rfl rfl
  have h := ((by exact sd_one (by exact sd_ret (by exact pd_opL (by decide) (by decide) T.n_mul T.r_mul c___mul__ (hr.mono (by decide)) tk (by exact pd_name 0) (by exact pd_name 1)))) : PSs (cxOf (L2.CX prog w) prog w K mg base ["self", "other"] "Ratio.__rmul__" (defScope s_Ratio___rmul__) f cdv A outer s H e) (defBody s_Ratio___rmul__) (tS (pm K C C1 TT) ⟨F0, none⟩ H (WE0 e) _))
  exact h
abbrev s_Ratio___add__ : Stmt := inClass (top 14) 1
theorem sc_Ratio___add__ : FnScope ["self", "other", "top", "bottom"] ["self", "other"] (defScope s_Ratio___add__) := ⟨rfl, rfl, rfl, by decide +kernel, rfl, by decide +kernel, by decide +kernel⟩
theorem b_Ratio___add__ (T : Txt prog K mg base C C1 TT) (c_is_number : CalD prog w K mg base (pm K C C1 TT) 2 "is_number" 1 G_is_number) (c_halves_of : CalD prog w K mg base (pm K C C1 TT) 1 "halves_of" 1 G_halves_of) (c_Ratio : MkD prog w K mg base (pm K C C1 TT) 2 "Ratio" 0 2 G_Ratio___init__) (f : Addr) (cdv : Value) (A : Around) (outer : List PySem.Env) (s : Shared) (H : Hp) (F0 : Hp) (e : XK) (hr : Room 3 (A.deeper (PyProof.Rows.envOfC "Ratio.__add__" (defScope s_Ratio___add__) s.heap.objs.size f cdv))) :
    PSs (cxOf (L2.CX prog w) prog w K mg base ["self", "other", "top", "bottom"] "Ratio.__add__" (defScope s_Ratio___add__) f cdv A outer s H e) (defBody s_Ratio___add__) (tS (pm K C C1 TT) ⟨F0, none⟩ H (WE0 e) g_Ratio___add__) := by
  have sc := sc_Ratio___add__
  have tk : Takes (cxOf (L2.CX prog w) prog w K mg base ["self", "other", "top", "bottom"] "Ratio.__add__" (defScope s_Ratio___add__) f cdv A outer s H e) (WE0 e) := takes_of rfl rfl rfl rfl
  have h := ((sd_cons (by exact sd_if (by exact td_not (by exact td_val (by exact pd_cal c_is_number (hr.mono (by decide)) tk (by exact ad_cons (by exact pd_name 1) ad_nil)))) (by exact sd_one sd_never) sd_nil) (sd_cons (by exact sd_asg (by exact pd_cal c_halves_of (hr.mono (by decide)) tk (by exact ad_cons (by exact pd_name 1) ad_nil)) (by exact gd_tup (n := 2) rfl (by exact gd_cons (by exact gd_name (i := 2) (us := [2, 3]) sc.nd rfl (by first | exact Or.inl rfl | exact Or.inr rfl)) (by exact gd_cons (by exact gd_name (i := 3) (us := [2, 3]) sc.nd rfl (by first | exact Or.inl rfl | exact Or.inr rfl)) gd_nil)))) (by exact sd_one (by exact sd_ret (by exact pd_mk c_Ratio (hr.mono (by decide)) tk (by exact ad_cons (by exact pd_op (od_of io_addA) (by exact toV (by exact pd_op (od_of io_mulB) (by exact toV (by exact pd_fld (by exact pd_peek 0) T.f_top)) (by exact pd_peek 3))) (by exact toV (by exact pd_op (od_of io_mulB) (by exact pd_peek 2) (by exact toV (by exact pd_fld (by exact pd_peek 0) T.f_bottom))))) (by exact ad_cons (by exact pd_op (od_of io_mulB) (by exact toV (by exact pd_fld (by exact pd_peek 0) T.f_bottom)) (by exact pd_peek 3)) ad_nil))))))) : PSs (cxOf (L2.CX prog w) prog w K mg base ["self", "other", "top", "bottom"] "Ratio.__add__" (defScope s_Ratio___add__) f cdv A outer s H e) (defBody s_Ratio___add__) (tS (pm K C C1 TT) ⟨F0, none⟩ H (WE0 e) _))
  exact h
abbrev s_Ratio___radd__ : Stmt := inClass (top 14) 2
theorem sc_Ratio___radd__ : FnScope ["self", "other"] ["self", "other"] (defScope s_Ratio___radd__) := ⟨rfl, rfl, rfl, by decide +kernel, rfl, by decide +kernel, by decide +kernel⟩
theorem b_Ratio___radd__ (T : Txt prog K mg base C C1 TT) (c___add__ : OwnD prog w K mg base (pm K C C1 TT) 4 "__add__" 0 2 G_Ratio___add__) (f : Addr) (cdv : Value) (A : Around) (outer : List PySem.Env) (s : Shared) (H : Hp) (F0 : Hp) (e : XK) (hr : Room 4 (A.deeper (PyProof.Rows.envOfC "Ratio.__radd__" (defScope s_Ratio___radd__) s.heap.objs.size f cdv))) :
    PSs (cxOf (L2.CX prog w) prog w K mg base ["self", "other"] "Ratio.__radd__" (defScope s_Ratio___radd__) f cdv A outer s H e) (defBody s_Ratio___radd__) (tS (pm K C C1 TT) ⟨F0, none⟩ H (WE0 e) g_Ratio___radd__) := by
  have sc := sc_Ratio___radd__
  have tk : Takes (cxOf (L2.CX prog w) prog w K mg base ["self", "other"] "Ratio.__radd__" (defScope s_Ratio___radd__) f cdv A outer s H e) (WE0 e) := takes_of rfl rfl rfl rfl
  have h := ((by exact sd_one (by exact sd_ret (by exact pd_opL (by decide) (by decide) T.n_add T.r_add c___add__ (hr.mono (by decide)) tk (by exact pd_name 0) (by exact pd_name 1)))) : PSs (cxOf (L2.CX prog w) prog w K mg base ["self", "other"] "Ratio.__radd__" (defScope s_Ratio___radd__) f cdv A outer s H e) (defBody s_Ratio___radd__) (tS (pm K C C1 TT) ⟨F0, none⟩ H (WE0 e) _))
  exact h
abbrev s_added : Stmt := top 23
theorem sc_added : FnScope ["one", "other", "times", "found", "powers"] ["one", "other", "times"] (defScope s_added) := ⟨rfl, rfl, rfl, by decide +kernel, rfl, by decide +kernel, by decide +kernel⟩
theorem b_added (T : Txt prog K mg base C C1 TT) (c___mul__ : OwnD prog w K mg base (pm K C C1 TT) 4 "__mul__" 0 2 G_Ratio___mul__) (c___rmul__ : OwnD prog w K mg base (pm K C C1 TT) 5 "__rmul__" 0 2 G_Ratio___rmul__) (c___add__ : OwnD prog w K mg base (pm K C C1 TT) 4 "__add__" 0 2 G_Ratio___add__) (c___radd__ : OwnD prog w K mg base (pm K C C1 TT) 5 "__radd__" 0 2 G_Ratio___radd__) (f : Addr) (cdv : Value) (A : Around) (outer : List PySem.Env) (s : Shared) (H : Hp) (F0 : Hp) (e : XK) (hr : Room 5 (A.deeper (PyProof.Rows.envOfC "added" (defScope s_added) s.heap.objs.size f cdv))) :
    PSs (cxOf (L2.CX prog w) prog w K mg base ["one", "other", "times", "found", "powers"] "added" (defScope s_added) f cdv A outer s H e) (defBody s_added) (tS (pm K C C1 TT) ⟨F0, none⟩ H (WE0 e) g_added) := by
  have sc := sc_added
  have tk : Takes (cxOf (L2.CX prog w) prog w K mg base ["one", "other", "times", "found", "powers"] "added" (defScope s_added) f cdv A outer s H e) (WE0 e) := takes_of rfl rfl rfl rfl
  have h := ((sd_cons (by exact sd_setN (i := 3) sc.nd rfl (by first | exact Or.inl rfl | exact Or.inr rfl) (by exact nd_dictA rfl (un8 hr) T.b_dict (by exact pd_peek 0))) (sd_cons (by exact sd_for (passes_of rfl) rfl (by exact id_keys (by exact pd_name 1)) (by exact gd_name (i := 4) (us := [4]) sc.nd rfl (by first | exact Or.inl rfl | exact Or.inr rfl)) (by exact sd_one (by exact sd_dput 3 (un1 hr) (by exact pd_name 4) (by exact pd_opN rb_add (by decide) (by decide) T.n_add io_add c___add__ c___radd__ (hr.mono (by decide)) (hr.mono (by decide)) tk (by exact pd_dgetO (un1 hr) (by exact pd_peek 3) (by exact pd_name 4) pd_int) (by exact pd_opN rb_mul (by decide) (by decide) T.n_mul io_mulB c___mul__ c___rmul__ (hr.mono (by decide)) (hr.mono (by decide)) tk (by exact pd_dget (un1 hr) (by exact pd_peek 1) (by exact pd_name 4) (fun _ _ => rfl)) (by exact pd_name 2)))))) (by exact sd_one (by exact sd_frz1 3 (by exact sd_ret (by exact pd_name 3)))))) : PSs (cxOf (L2.CX prog w) prog w K mg base ["one", "other", "times", "found", "powers"] "added" (defScope s_added) f cdv A outer s H e) (defBody s_added) (tS (pm K C C1 TT) ⟨F0, none⟩ H (WE0 e) _))
  exact h
abbrev s_Poly___add__ : Stmt := inClass (top 29) 2
theorem sc_Poly___add__ : FnScope ["self", "other"] ["self", "other"] (defScope s_Poly___add__) := ⟨rfl, rfl, rfl, by decide +kernel, rfl, by decide +kernel, by decide +kernel⟩
theorem b_Poly___add__ (T : Txt prog K mg base C C1 TT) (c_parts_beside : CalD prog w K mg base (pm K C C1 TT) 1 "parts_beside" 2 G_parts_beside) (c_added : CalD prog w K mg base (pm K C C1 TT) 6 "added" 3 G_added) (c_Poly : MkD prog w K mg base (pm K C C1 TT) 6 "Poly" 1 2 G_Poly___init__) (f : Addr) (cdv : Value) (A : Around) (outer : List PySem.Env) (s : Shared) (H : Hp) (F0 : Hp) (e : XK) (hr : Room 7 (A.deeper (PyProof.Rows.envOfC "Poly.__add__" (defScope s_Poly___add__) s.heap.objs.size f cdv))) :
    PSs (cxOf (L2.CX prog w) prog w K mg base ["self", "other"] "Poly.__add__" (defScope s_Poly___add__) f cdv A outer s H e) (defBody s_Poly___add__) (tS (pm K C C1 TT) ⟨F0, none⟩ H (WE0 e) g_Poly___add__) := by
  have sc := sc_Poly___add__
  have tk : Takes (cxOf (L2.CX prog w) prog w K mg base ["self", "other"] "Poly.__add__" (defScope s_Poly___add__) f cdv A outer s H e) (WE0 e) := takes_of rfl rfl rfl rfl
  have h := ((by exact sd_one (by exact sd_ret (by exact pd_mk c_Poly (hr.mono (by decide)) tk (by exact ad_cons (by exact pd_fld (by exact pd_peek 0) T.f_fields) (by exact ad_cons (by exact pd_cal c_added (hr.mono (by decide)) tk (by exact ad_cons (by exact pd_fld (by exact pd_peek 0) T.f_parts) (by exact ad_cons (by exact pd_cal c_parts_beside (hr.mono (by decide)) tk (by exact ad_cons (by exact pd_name 0) (by exact ad_cons (by exact pd_name 1) ad_nil))) (by exact ad_cons pd_int ad_nil)))) ad_nil))))) : PSs (cxOf (L2.CX prog w) prog w K mg base ["self", "other"] "Poly.__add__" (defScope s_Poly___add__) f cdv A outer s H e) (defBody s_Poly___add__) (tS (pm K C C1 TT) ⟨F0, none⟩ H (WE0 e) _))
  exact h
abbrev s__law_times : Stmt := top 36
theorem sc__law_times : FnScope ["_law_one", "_law_two"] ["_law_one", "_law_two"] (defScope s__law_times) := ⟨rfl, rfl, rfl, by decide +kernel, rfl, by decide +kernel, by decide +kernel⟩
theorem b__law_times (T : Txt prog K mg base C C1 TT) (c__law_low : CalD prog w K mg base (pm K C C1 TT) 2 "_law_low" 1 G__law_low) (f : Addr) (cdv : Value) (A : Around) (outer : List PySem.Env) (s : Shared) (H : Hp) (F0 : Hp) (e : XK) (hr : Room 2 (A.deeper (PyProof.Rows.envOfC "_law_times" (defScope s__law_times) s.heap.objs.size f cdv))) :
    PSs (cxOf (L2.CX prog w) prog w K mg base ["_law_one", "_law_two"] "_law_times" (defScope s__law_times) f cdv A outer s H e) (defBody s__law_times) (tS (pm K C C1 TT) ⟨F0, none⟩ H (WE0 e) g__law_times) := by
  have sc := sc__law_times
  have tk : Takes (cxOf (L2.CX prog w) prog w K mg base ["_law_one", "_law_two"] "_law_times" (defScope s__law_times) f cdv A outer s H e) (WE0 e) := takes_of rfl rfl rfl rfl
  have h := ((by exact sd_one (by exact sd_ret (by exact pd_cal c__law_low (hr.mono (by decide)) tk (by exact ad_cons (by exact pd_tup (by exact ad_cons (by exact pd_op (od_of io_mulB) (by exact toV (by exact pd_ix (by exact pd_peek 0) (by exact toV pd_int) (fun _ _ => rfl))) (by exact toV (by exact pd_ix (by exact pd_peek 1) (by exact toV pd_int) (fun _ _ => rfl)))) (by exact ad_cons (by exact pd_op (od_of io_mulB) (by exact toV (by exact pd_ix (by exact pd_peek 0) (by exact toV pd_int) (fun _ _ => rfl))) (by exact toV (by exact pd_ix (by exact pd_peek 1) (by exact toV pd_int) (fun _ _ => rfl)))) ad_nil))) ad_nil)))) : PSs (cxOf (L2.CX prog w) prog w K mg base ["_law_one", "_law_two"] "_law_times" (defScope s__law_times) f cdv A outer s H e) (defBody s__law_times) (tS (pm K C C1 TT) ⟨F0, none⟩ H (WE0 e) _))
  exact h
abbrev s__law_add : Stmt := top 35
theorem sc__law_add : FnScope ["_law_one", "_law_two"] ["_law_one", "_law_two"] (defScope s__law_add) := ⟨rfl, rfl, rfl, by decide +kernel, rfl, by decide +kernel, by decide +kernel⟩
theorem b__law_add (T : Txt prog K mg base C C1 TT) (c__law_low : CalD prog w K mg base (pm K C C1 TT) 2 "_law_low" 1 G__law_low) (f : Addr) (cdv : Value) (A : Around) (outer : List PySem.Env) (s : Shared) (H : Hp) (F0 : Hp) (e : XK) (hr : Room 2 (A.deeper (PyProof.Rows.envOfC "_law_add" (defScope s__law_add) s.heap.objs.size f cdv))) :
    PSs (cxOf (L2.CX prog w) prog w K mg base ["_law_one", "_law_two"] "_law_add" (defScope s__law_add) f cdv A outer s H e) (defBody s__law_add) (tS (pm K C C1 TT) ⟨F0, none⟩ H (WE0 e) g__law_add) := by
  have sc := sc__law_add
  have tk : Takes (cxOf (L2.CX prog w) prog w K mg base ["_law_one", "_law_two"] "_law_add" (defScope s__law_add) f cdv A outer s H e) (WE0 e) := takes_of rfl rfl rfl rfl
  have h := ((by exact sd_one (by exact sd_ret (by exact pd_cal c__law_low (hr.mono (by decide)) tk (by exact ad_cons (by exact pd_tup (by exact ad_cons (by exact pd_op (od_of io_addA) (by exact toV (by exact pd_op (od_of io_mulB) (by exact toV (by exact pd_ix (by exact pd_peek 0) (by exact toV pd_int) (fun _ _ => rfl))) (by exact toV (by exact pd_ix (by exact pd_peek 1) (by exact toV pd_int) (fun _ _ => rfl))))) (by exact toV (by exact pd_op (od_of io_mulB) (by exact toV (by exact pd_ix (by exact pd_peek 1) (by exact toV pd_int) (fun _ _ => rfl))) (by exact toV (by exact pd_ix (by exact pd_peek 0) (by exact toV pd_int) (fun _ _ => rfl)))))) (by exact ad_cons (by exact pd_op (od_of io_mulB) (by exact toV (by exact pd_ix (by exact pd_peek 0) (by exact toV pd_int) (fun _ _ => rfl))) (by exact toV (by exact pd_ix (by exact pd_peek 1) (by exact toV pd_int) (fun _ _ => rfl)))) ad_nil))) ad_nil)))) : PSs (cxOf (L2.CX prog w) prog w K mg base ["_law_one", "_law_two"] "_law_add" (defScope s__law_add) f cdv A outer s H e) (defBody s__law_add) (tS (pm K C C1 TT) ⟨F0, none⟩ H (WE0 e) _))
  exact h
abbrev s__law_sum_of : Stmt := top 42
theorem sc__law_sum_of : FnScope ["_law_one", "_law_two", "_law_sign", "_law_out", "_law_powers"] ["_law_one", "_law_two", "_law_sign"] (defScope s__law_sum_of) := ⟨rfl, rfl, rfl, by decide +kernel, rfl, by decide +kernel, by decide +kernel⟩
theorem b__law_sum_of (T : Txt prog K mg base C C1 TT) (c__law_times : CalD prog w K mg base (pm K C C1 TT) 3 "_law_times" 2 G__law_times) (c__law_add : CalD prog w K mg base (pm K C C1 TT) 3 "_law_add" 2 G__law_add) (c__law_kept : CalD prog w K mg base (pm K C C1 TT) 1 "_law_kept" 1 G__law_kept) (f : Addr) (cdv : Value) (A : Around) (outer : List PySem.Env) (s : Shared) (H : Hp) (F0 : Hp) (e : XK) (hr : Room 3 (A.deeper (PyProof.Rows.envOfC "_law_sum_of" (defScope s__law_sum_of) s.heap.objs.size f cdv))) :
    PSs (cxOf (L2.CX prog w) prog w K mg base ["_law_one", "_law_two", "_law_sign", "_law_out", "_law_powers"] "_law_sum_of" (defScope s__law_sum_of) f cdv A outer s H e) (defBody s__law_sum_of) (tS (pm K C C1 TT) ⟨F0, none⟩ H (WE0 e) g__law_sum_of) := by
  have sc := sc__law_sum_of
  have tk : Takes (cxOf (L2.CX prog w) prog w K mg base ["_law_one", "_law_two", "_law_sign", "_law_out", "_law_powers"] "_law_sum_of" (defScope s__law_sum_of) f cdv A outer s H e) (WE0 e) := takes_of rfl rfl rfl rfl
  have h := ((sd_cons (by exact sd_setN (i := 3) sc.nd rfl (by first | exact Or.inl rfl | exact Or.inr rfl) (by exact nd_dictA rfl (un8 hr) T.b_dict (by exact pd_peek 0))) (sd_cons (by exact sd_for (passes_of rfl) rfl (by exact id_keys (by exact pd_name 1)) (by exact gd_name (i := 4) (us := [4]) sc.nd rfl (by first | exact Or.inl rfl | exact Or.inr rfl)) (by exact sd_one (by exact sd_dput 3 (un1 hr) (by exact pd_name 4) (by exact pd_cal c__law_add (hr.mono (by decide)) tk (by exact ad_cons (by exact pd_dgetO (un1 hr) (by exact pd_peek 3) (by exact pd_name 4) (by exact pd_tup (by exact ad_cons pd_int (by exact ad_cons pd_int ad_nil)))) (by exact ad_cons (by exact pd_cal c__law_times (hr.mono (by decide)) tk (by exact ad_cons (by exact pd_dget (un1 hr) (by exact pd_peek 1) (by exact pd_name 4) (fun _ _ => rfl)) (by exact ad_cons (by exact pd_tup (by exact ad_cons (by exact pd_name 2) (by exact ad_cons pd_int ad_nil))) ad_nil))) ad_nil)))))) (by exact sd_one (by exact sd_frz1 3 (by exact sd_ret (by exact pd_cal c__law_kept (hr.mono (by decide)) tk (by exact ad_cons (by exact pd_name 3) ad_nil))))))) : PSs (cxOf (L2.CX prog w) prog w K mg base ["_law_one", "_law_two", "_law_sign", "_law_out", "_law_powers"] "_law_sum_of" (defScope s__law_sum_of) f cdv A outer s H e) (defBody s__law_sum_of) (tS (pm K C C1 TT) ⟨F0, none⟩ H (WE0 e) _))
  exact h
abbrev s_law : Stmt := top 45
theorem sc_law : FnScope ["_law_script", "_law_row_here", "_law_fields_here", "_law_terms_here", "_law_k", "_law_powers", "_law_one", "_law_two", "_law_due_here", "_law_more"] ["_law_script"] (defScope s_law) := ⟨rfl, rfl, rfl, by decide +kernel, rfl, by decide +kernel, by decide +kernel⟩
theorem b_law (T : Txt prog K mg base C C1 TT) (c__law_cell : CalD prog w K mg base (pm K C C1 TT) 1 "_law_cell" 2 G__law_cell) (c__law_row : CalD prog w K mg base (pm K C C1 TT) 1 "_law_row" 2 G__law_row) (c__law_fields : CalD prog w K mg base (pm K C C1 TT) 1 "_law_fields" 1 G__law_fields) (c__law_terms : CalN prog w K mg base (pm K C C1 TT) 3 "_law_terms" 2 G__law_terms) (c__law_low : CalD prog w K mg base (pm K C C1 TT) 2 "_law_low" 1 G__law_low) (c__law_handed : CalD prog w K mg base (pm K C C1 TT) 5 "_law_handed" 2 G__law_handed) (c_Poly : MkD prog w K mg base (pm K C C1 TT) 6 "Poly" 1 2 G_Poly___init__) (c__law_due : CalD prog w K mg base (pm K C C1 TT) 5 "_law_due" 2 G__law_due) (c_Poly___eq__ : OwnD prog w K mg base (pm K C C1 TT) 5 "__eq__" 1 2 G_Poly___eq__) (c_Poly___str__ : OwnD prog w K mg base (pm K C C1 TT) 7 "__str__" 1 1 G_Poly___str__) (c_Poly___add__ : OwnD prog w K mg base (pm K C C1 TT) 8 "__add__" 1 2 G_Poly___add__) (c__law_sum_of : CalD prog w K mg base (pm K C C1 TT) 4 "_law_sum_of" 3 G__law_sum_of) (f : Addr) (cdv : Value) (A : Around) (outer : List PySem.Env) (s : Shared) (H : Hp) (F0 : Hp) (e : XK) (hr : Room 9 (A.deeper (PyProof.Rows.envOfC "law" (defScope s_law) s.heap.objs.size f cdv))) :
    PSs (cxOf (L2.CX prog w) prog w K mg base ["_law_script", "_law_row_here", "_law_fields_here", "_law_terms_here", "_law_k", "_law_powers", "_law_one", "_law_two", "_law_due_here", "_law_more"] "law" (defScope s_law) f cdv A outer s H e) (defBody s_law) (tS (pm K C C1 TT) ⟨F0, none⟩ H (WE0 e) g_law) := by
  have sc := sc_law
  have tk : Takes (cxOf (L2.CX prog w) prog w K mg base ["_law_script", "_law_row_here", "_law_fields_here", "_law_terms_here", "_law_k", "_law_powers", "_law_one", "_law_two", "_law_due_here", "_law_more"] "law" (defScope s_law) f cdv A outer s H e) (WE0 e) := takes_of rfl rfl rfl rfl
  have h := ((sd_cons (by exact sd_set (i := 1) sc.nd rfl (by first | exact Or.inl rfl | exact Or.inr rfl) (by exact pd_cal c__law_row (hr.mono (by decide)) tk (by exact ad_cons (by exact pd_cal c__law_cell (hr.mono (by decide)) tk (by exact ad_cons (by exact pd_name 0) (by exact ad_cons pd_int ad_nil))) (by exact ad_cons (by exact pd_op (od_of io_addA) (by exact toV (by exact pd_lst (by exact ad_cons pd_int (by exact ad_cons pd_int (by exact ad_cons pd_int ad_nil))))) (by exact toV (by exact pd_op (od_of io_rep) (by exact toV (by exact pd_lst (by exact ad_cons pd_int (by exact ad_cons pd_int (by exact ad_cons pd_int (by exact ad_cons pd_int ad_nil)))))) (by exact toV pd_int)))) ad_nil)))) (sd_cons (by exact sd_set (i := 2) sc.nd rfl (by first | exact Or.inl rfl | exact Or.inr rfl) (by exact pd_cal c__law_fields (hr.mono (by decide)) tk (by exact ad_cons (by exact pd_ix (by exact pd_peek 1) (by exact toV pd_int) (fun _ _ => rfl)) ad_nil))) (sd_cons (by exact sd_setN (i := 3) sc.nd rfl (by first | exact Or.inl rfl | exact Or.inr rfl) (by exact nd_cal c__law_terms (hr.mono (by decide)) tk (by exact ad_cons (by exact pd_slc (by exact pd_peek 1) (by exact po_so pd_int) (by exact po_so (by exact pd_op (od_of io_addA) (by exact toV pd_int) (by exact toV (by exact pd_op (od_of io_mulB) (by exact toV pd_int) (by exact toV (by exact pd_ix (by exact pd_peek 1) (by exact toV pd_int) (fun _ _ => rfl)))))))) (by exact ad_cons (by exact pd_name 2) ad_nil)))) (sd_cons (by exact sd_for (passes_of rfl) rfl (by exact id_enuA rfl T.b_enumerate (by exact ad_cons (by exact pd_sort0 rfl (un8 hr) T.b_sorted (by exact pd_peek 3)) ad_nil)) (by exact gd_tup (n := 2) rfl (by exact gd_cons (by exact gd_name (i := 4) (us := [4, 5]) sc.nd rfl (by first | exact Or.inl rfl | exact Or.inr rfl)) (by exact gd_cons (by exact gd_name (i := 5) (us := [4, 5]) sc.nd rfl (by first | exact Or.inl rfl | exact Or.inr rfl)) gd_nil))) (sd_cons (by exact sd_if (by exact td_pc (by exact pd_pc (od_of (io_eq hr.units)) (by exact toV (by exact pd_op (od_of io_mod) (by exact toV (by exact pd_op (od_of io_addA) (by exact toV (by exact pd_ix (by exact pd_peek 1) (by exact toV pd_int) (fun _ _ => rfl))) (by exact pd_peek 4))) (by exact toV pd_int))) (by exact toV pd_int)) (nomark _)) (by exact sd_one (by exact sd_dput 3 (un1 hr) (by exact pd_name 5) (by exact pd_ix (by exact toV (by exact pd_lst (by exact ad_cons (by exact pd_tup (by exact ad_cons pd_int (by exact ad_cons pd_int ad_nil))) (by exact ad_cons (by exact pd_tup (by exact ad_cons (by exact pd_un (ud_of io_neg) (by exact toV pd_int)) (by exact ad_cons pd_int ad_nil))) ad_nil)))) (by exact toV (by exact pd_op (od_of io_mod) (by exact pd_peek 4) (by exact toV pd_int))) (fun _ _ => rfl)))) sd_nil) (by exact sd_one (by exact sd_if (by exact td_pc (by exact pd_pc (od_of (io_eq hr.units)) (by exact toV (by exact pd_op (od_of io_mod) (by exact toV (by exact pd_op (od_of io_addA) (by exact toV (by exact pd_ix (by exact pd_peek 1) (by exact toV pd_int) (fun _ _ => rfl))) (by exact pd_peek 4))) (by exact toV pd_int))) (by exact toV pd_int)) (nomark _)) (by exact sd_one (by exact sd_dput 3 (un1 hr) (by exact pd_name 5) (by exact pd_cal c__law_low (hr.mono (by decide)) tk (by exact ad_cons (by exact pd_tup (by exact ad_cons (by exact pd_op (od_of io_sub) (by exact toV (by exact pd_op (od_of io_mod) (by exact toV (by exact pd_callTy ic_int2 rfl T.b_int (by decide +kernel) (by exact av_cons (by exact toV (by exact pd_cal c__law_cell (hr.mono (by decide)) tk (by exact ad_cons (by exact pd_name 0) (by exact ad_cons pd_int ad_nil)))) av_nil))) (by exact toV (by exact pd_op (od_of io_pow) (by exact toV pd_int) (by exact toV pd_int))))) (by exact toV (by exact pd_op (od_of io_pow) (by exact toV pd_int) (by exact toV pd_int)))) (by exact ad_cons (by exact pd_op (od_of io_addA) (by exact toV pd_int) (by exact pd_peek 4)) ad_nil))) ad_nil)))) sd_nil)))) (sd_cons (by exact sd_frz1 3 (by exact sd_par (i := 6) (j := 7) rfl sc.nd rfl rfl (by decide) rfl rfl (by exact ad_cons (by exact pd_mk c_Poly (hr.mono (by decide)) tk (by exact ad_cons (by exact pd_name 2) (by exact ad_cons (by exact pd_cal c__law_handed (hr.mono (by decide)) tk (by exact ad_cons (by exact pd_name 3) (by exact ad_cons pd_bl ad_nil))) ad_nil))) (by exact ad_cons (by exact pd_mk c_Poly (hr.mono (by decide)) tk (by exact ad_cons (by exact pd_callTy ic_list rfl T.b_list (by decide +kernel) (by exact av_cons (by exact pd_peek 2) av_nil)) (by exact ad_cons (by exact pd_cal c__law_handed (hr.mono (by decide)) tk (by exact ad_cons (by exact pd_name 3) (by exact ad_cons pd_bl ad_nil))) ad_nil))) ad_nil)) rfl)) (sd_cons (by exact sd_frz1 3 (by exact sd_set (i := 8) sc.nd rfl (by first | exact Or.inl rfl | exact Or.inr rfl) (by exact pd_cal c__law_due (hr.mono (by decide)) tk (by exact ad_cons (by exact pd_name 3) (by exact ad_cons (by exact pd_name 2) ad_nil))))) (sd_cons (by exact sd_if (by exact PW.pt (by exact td_or (by exact td_pc (by exact pd_pc (od_of (io_ne hr.units)) (by exact toV (by exact pd_strC c_Poly___str__ (hr.mono (by decide)) tk T.b_str (by exact pd_name 6))) (by exact pd_peek 8)) (nomark _)) (by exact td_or (by exact td_pc (by exact pd_pc (od_of (io_ne hr.units)) (by exact toV (by exact pd_strC c_Poly___str__ (hr.mono (by decide)) tk T.b_str (by exact pd_name 7))) (by exact pd_peek 8)) (nomark _)) (by exact td_or1 (by exact td_pc (by exact pc_neX 0 (T.ecs_Poly _) (geOf_own c_Poly___eq__) (hr.mono (by decide)) tk (by exact pd_name 6) (by exact pd_name 7)) (nomark _)))))) (by exact sd_one (by exact sd_ret pd_bl)) sd_nil) (sd_cons (by exact sd_set (i := 9) sc.nd rfl (by first | exact Or.inl rfl | exact Or.inr rfl) (by exact pd_mk c_Poly (hr.mono (by decide)) tk (by exact ad_cons (by exact pd_name 2) (by exact ad_cons (by exact n2e (by exact nd_disp1 (un8 hr) (by exact pd_op (od_of io_repT) (by exact toV (by exact pd_tup (by exact ad_cons pd_int ad_nil))) (by exact toV (by exact pd_callB ic_len rfl T.b_len (by decide +kernel) (by exact av_cons (by exact pd_peek 2) av_nil)))) pd_int)) ad_nil)))) (by exact sd_one (by exact sd_frz1 3 (by exact sd_ret (by exact pd_pcv (by exact pd_pc (od_of (io_eq hr.units)) (by exact toV (by exact pd_strC c_Poly___str__ (hr.mono (by decide)) tk T.b_str (by exact pd_opO (cn := 1) (by decide) T.sf_Poly c_Poly___add__ (hr.mono (by decide)) tk (by exact pd_name 6) (by exact pd_name 9)))) (by exact toV (by exact pd_cal c__law_due (hr.mono (by decide)) tk (by exact ad_cons (by exact pd_cal c__law_sum_of (hr.mono (by decide)) tk (by exact ad_cons (by exact pd_name 3) (by exact ad_cons (by exact n2e (by exact nd_disp1 (un8 hr) (by exact pd_op (od_of io_repT) (by exact toV (by exact pd_tup (by exact ad_cons pd_int ad_nil))) (by exact toV (by exact pd_callB ic_len rfl T.b_len (by decide +kernel) (by exact av_cons (by exact pd_peek 2) av_nil)))) (by exact pd_tup (by exact ad_cons pd_int (by exact ad_cons pd_int ad_nil))))) (by exact ad_cons pd_int ad_nil)))) (by exact ad_cons (by exact pd_name 2) ad_nil))))) (nomark _))))))))))))) : PSs (cxOf (L2.CX prog w) prog w K mg base ["_law_script", "_law_row_here", "_law_fields_here", "_law_terms_here", "_law_k", "_law_powers", "_law_one", "_law_two", "_law_due_here", "_law_more"] "law" (defScope s_law) f cdv A outer s H e) (defBody s_law) (tS (pm K C C1 TT) ⟨F0, none⟩ H (WE0 e) _))
  exact h
end
end DL.K44
namespace DL
open PySem L2
theorem seq_nx (ρ : Env) (g : Env → RS) : seqS (.nx ρ) g = g ρ := rfl
theorem seq_rt (d : D) (g : Env → RS) : seqS (.rt d) g = .rt d := rfl
theorem seq_err (c : Nat) (p : Option D) (ρ : Env) (g : Env → RS) : seqS (.err c p ρ) g = .err c p ρ := rfl
theorem bnd_ok {α : Type} (d : α) (ρ : Env) (k : α → RS) : bindS (.ok d) ρ k = k d := rfl
theorem bnd_err {α : Type} (c : Nat) (p : Option D) (ρ : Env) (k : α → RS) : bindS (Res.err c p : Res α) ρ k = .err c p ρ := rfl
theorem loop_nx (ρ : Env) (g : Env → RS) : loopK (.nx ρ) g = g ρ := rfl
theorem loop_rt (d : D) (g : Env → RS) : loopK (.rt d) g = .rt d := rfl
theorem for_nil (h : D → Env → Option Env) (g : Env → RS) (ρ : Env) : forD h g [] ρ = .nx ρ := rfl
theorem for_cons (h : D → Env → Option Env) (g : Env → RS) (d : D) (r : List D) (ρ : Env) : forD h g (d :: r) ρ = match h d ρ with | none => .bad | some ρ1 => loopK (g ρ1) (forD h g r) := rfl
theorem int_i (i : Int) : cInt2 [.int i] = some (.int i) := rfl
theorem mod_ok {i j : Int} (h : j ≠ 0) : modC i j = some (.int (i.fmod j)) := if_neg h
theorem fdiv_ok {i j : Int} (h : j ≠ 0) (h2 : j.natAbs.log2 < 9000) : fdivC i j = some (.int (i.fdiv j)) := if_pos ⟨h, h2⟩
theorem mul_ok {i j : Int} (h : i.natAbs.log2 + j.natAbs.log2 < 1000000) : mulC i j = some (.int (i * j)) := if_pos h
theorem log2_lt {n k : Nat} (h : n < 2 ^ k) (hk : 0 < k) : n.log2 < k := by
  by_cases h0 : n = 0
  · subst h0
    simpa using hk
  · exact (Nat.log2_lt h0).mpr h
/-- the greatest common divisor by rests -/
theorem gcd_loop (body : Env → RS) (hb : ∀ a b : Nat, b ≠ 0 → body [some (.sh (.int a)), some (.sh (.int b))] = .nx [some (.sh (.int b)), some (.sh (.int ((a % b : Nat) : Int)))]) :
    ∀ (n a b : Nat), b < n → whileD (tB' (fOp dGt (peek 1) (fK (.int 0)))) body n [some (.sh (.int a)), some (.sh (.int b))] = .nx [some (.sh (.int (Nat.gcd a b))), some (.sh (.int 0))]
  | 0, a, b, h => by omega
  | n + 1, a, b, h => by
    by_cases hz : b = 0
    · subst hz
      rw [Nat.gcd_zero_right]
      rfl
    · have hlt : a % b < b := Nat.mod_lt _ (by omega)
      have ih := gcd_loop body hb n b (a % b) (by omega)
      rw [Nat.gcd_comm b, ← Nat.gcd_rec, Nat.gcd_comm b] at ih
      have hd : decide ((0 : Int) < (b : Int)) = true := by simp; omega
      rw [← ih, whileD]
      simp only [tB', fOp, peek, fK, List.getElem?_cons_succ, List.getElem?_cons_zero, Res.bind_ok, dGt, int2, opt, bo, bnd_ok, hd, if_true, hb a b hz, loop_nx]
end DL
namespace DL
open PySem L2 PySem.PyData
theorem beq_s (x y : Str) : (x == y) = decide (x = y) := by
  by_cases h : x = y
  · subst h
    simp
  · rw [decide_eq_false h]
    exact beq_eq_false_iff_ne.mpr h
theorem beq_i (x y : Int) : (x == y) = decide (x = y) := by
  by_cases h : x = y
  · subst h
    simp
  · rw [decide_eq_false h]
    exact beq_eq_false_iff_ne.mpr h
theorem eq_ii (i j : Int) : eqD (.int i) (.int j) = some (.bl (decide (i = j))) := by
  simp [eqD, eqP, toPD, SeqAt.shaped, PyData.canLay0, PyData.depth, PyData.eqv, beq_i]
theorem ne_ii (i j : Int) : neD (.int i) (.int j) = some (.bl (!decide (i = j))) := by
  simp [neD, eqP, toPD, SeqAt.shaped, PyData.canLay0, PyData.depth, PyData.eqv, beq_i]
theorem eq_ss {x y : Str} (hx : strOk x = true) (hy : strOk y = true) : eqD (.str x) (.str y) = some (.bl (decide (x = y))) := by
  simp [eqD, eqP, toPD, SeqAt.shaped, PyData.canLay0, PyData.depth, PyData.eqv, hx, hy, beq_s]
theorem ne_ss {x y : Str} (hx : strOk x = true) (hy : strOk y = true) : neD (.str x) (.str y) = some (.bl (!decide (x = y))) := by
  simp [neD, eqP, toPD, SeqAt.shaped, PyData.canLay0, PyData.depth, PyData.eqv, hx, hy, beq_s]
theorem toPDs_str (xs : List Str) : toPDs (xs.map .str) = some (xs.map .str) := by
  induction xs with
  | nil => rfl
  | cons a r ih => simp [toPDs, toPD, ih]
theorem canLay_strs : ∀ (xs : List Str), (∀ x ∈ xs, strOk x = true) → PyData.canLayAll0 (xs.map .str) = true
  | [], _ => rfl
  | x :: r, h => by
    simp [PyData.canLayAll0, PyData.canLay0, h x List.mem_cons_self, canLay_strs r fun y hy => h y (List.mem_cons_of_mem _ hy)]
theorem depth_strs : ∀ (xs : List Str), PyData.depthAll (xs.map .str) ≤ 1
  | [] => by simp [PyData.depthAll]
  | x :: r => by
    have := depth_strs r
    simp [PyData.depthAll, PyData.depth]
    omega
theorem eqvAll_strs : ∀ (xs ys : List Str), PyData.eqvAll (xs.map .str) (ys.map .str) = decide (xs = ys)
  | [], [] => rfl
  | [], _ :: _ => rfl
  | _ :: _, [] => rfl
  | x :: r, y :: q => by
    simp [PyData.eqvAll, PyData.eqv, eqvAll_strs r q, beq_s]
theorem eqP_strs {xs ys : List Str} (hx : ∀ x ∈ xs, strOk x = true) (hy : ∀ x ∈ ys, strOk x = true) : eqP (.lst (xs.map .str)) (.lst (ys.map .str)) = some (decide (xs = ys)) := by
  have h1 := depth_strs xs
  have h2 := depth_strs ys
  simp only [eqP, toPD, toPDs_str, Option.map_some, Option.bind_some]
  have s1 : SeqAt.shaped (.list (xs.map .str)) = true := by
    simp [SeqAt.shaped, PyData.canLay0, PyData.depth, canLay_strs xs hx]
    omega
  have s2 : SeqAt.shaped (.list (ys.map .str)) = true := by
    simp [SeqAt.shaped, PyData.canLay0, PyData.depth, canLay_strs ys hy]
    omega
  rw [if_pos ⟨s1, s2⟩, PyData.eqv, eqvAll_strs]
end DL
namespace DL.K44
open PySem L2
theorem abs_e (a : Int) : (if a < 0 then -a else a) = ((a.natAbs : Nat) : Int) := by
  split <;> omega
theorem fmod_n (a b : Nat) : ((a : Int).fmod (b : Int)) = ((a % b : Nat) : Int) := by
  rw [Int.fmod_eq_emod_of_nonneg _ (Int.natCast_nonneg b)]
  exact (Int.natCast_emod a b).symm
theorem gcd_body : ∀ a b : Nat, b ≠ 0 → (sPar 0 1 (lCons (look 1) (lCons (fOp (int2 modC) (peek 0) (peek 1)) lNil))) [some (.sh (.int a)), some (.sh (.int b))] = .nx [some (.sh (.int b)), some (.sh (.int ((a % b : Nat) : Int)))] := by
  intro a b hb
  have e := mod_ok (i := (a : Int)) (j := (b : Int)) (by omega)
  rw [fmod_n] at e
  simp [fK, fOp, fU, fM, fIsN, fNotN, tB', tNot', tAnd', tOr', vAnd, vOr, vNot, fIf, lNil, lCons, fLst, fTup, fCall, fMk, fB, fSlc, oNo, oSo, fSplit, fLc, iSq, iR1, tYes', zF, zS, fF1, fF3, sSeq, sRet, sIf, sSet, sSetO, sFor, sApp, sPar, sAsg, sRaise, sFld, sFrz, sBad, sTryAs, fN, fRz, tIfx, sPar3, sRaiseB, iZip, iEnu, fMet, fMkd, fMkk, fDict, fSlcL, fSort, fRc, iZipA, iEnuA, iKs, sDrop, sDput, sLput, fDget, fChain, chainK, hLst, look, peek, bo, opt, mkL, mkT, small, fnG, mkG, int2, negC, seqD, hName, hCons, hNil, hTup, par2, appD, isOw, frz, setF, ptI, isiD, notScr, env0, env0I, selfF, runB, runI, cAbs, cLen, isNone, strD, payD, tryD, noErr, cLenS, itemS, dSub, dLt, dLe, dGt, dGe, notB, isO, zipD, zipL, par3, rzD, rcD, zipA, seqB, enuA, keysD, dgetR, dlookD, isOwD, cMax, cTup, Res.bind_ok, Res.bind_err, Res.bind_bad, seq_nx, seq_rt, seq_err, bnd_ok, bnd_err, loop_nx, loop_rt, for_nil, for_cons, int_i, e]
theorem gcd_run (a b : Int) (h : b.natAbs < big) : runB (sSeq (whileD (tB' (fOp dGt (peek 1) (fK (.int 0)))) (sPar 0 1 (lCons (look 1) (lCons (fOp (int2 modC) (peek 0) (peek 1)) lNil))) big) (sRet (look 0))) 2 [.int a.natAbs, .int b.natAbs] = .ok (.int (Nat.gcd a.natAbs b.natAbs)) := by
  have w := gcd_loop _ gcd_body big a.natAbs b.natAbs h
  show (match seqS (whileD _ _ big [some (.sh (.int a.natAbs)), some (.sh (.int b.natAbs))]) _ with
    | .rt d => Res.ok d
    | .nx _ => .ok .non
    | .err c p _ => .err c p
    | _ => .bad) = _
  rw [w]
  rfl
theorem gcd_eq (a b : Int) (h : b.natAbs < big) : G__law_gcd [.int a, .int b] = .ok (.int (Nat.gcd a.natAbs b.natAbs)) := by
  rw [← gcd_run a b h, ← abs_e a, ← abs_e b]
  rfl
theorem common_eq (a b : Int) (h : b.natAbs < big) : G_common [.int a, .int b] = .ok (.int (Nat.gcd a.natAbs b.natAbs)) := by
  rw [← gcd_run a b h, ← abs_e a, ← abs_e b]
  rfl
theorem lg {a : Int} {d : Nat} (hd : 0 < d) (h : d < big) : ((Nat.gcd a.natAbs d : Nat) : Int).natAbs.log2 < 9000 := by
  have hl := Nat.gcd_le_right a.natAbs hd
  exact log2_lt (by
    have : big < 2 ^ 9000 := by decide +kernel
    omega) (by decide)
theorem num_e (a : Int) {d : Nat} (hd : 0 < d) : a.fdiv (Nat.gcd a.natAbs d : Int) = (mkRat a d).num := by
  rw [Rat.num_mkRat, if_neg (by omega), Nat.gcd_comm, Int.fdiv_eq_ediv_of_nonneg _ (by omega)]
theorem den_e (a : Int) {d : Nat} (hd : 0 < d) : (d : Int).fdiv (Nat.gcd a.natAbs d : Int) = ((mkRat a d).den : Int) := by
  rw [Rat.den_mkRat, if_neg (by omega), Nat.gcd_comm, Int.fdiv_eq_ediv_of_nonneg _ (by omega), Int.natCast_ediv]
abbrev fr (q : Rat) : D := .tup [.int q.num, .int (q.den : Nat)]
abbrev rt (q : Rat) : D := .obj 0 [.int q.num, .int (q.den : Nat)]
theorem low_eq (a : Int) (d : Nat) (hd : 0 < d) (h : d < big) : G__law_low [.tup [.int a, .int (d : Nat)]] = .ok (fr (mkRat a d)) := by
  have hs := gcd_eq a d (by simpa using h)
  have hp : Nat.gcd a.natAbs d ≠ 0 := by
    have := Nat.gcd_pos_of_pos_right a.natAbs hd
    omega
  rw [Int.natAbs_natCast] at hs
  have hn : ¬ ((d : Nat) : Int) < 0 := by omega
  have d1 := fdiv_ok (i := a) (j := (Nat.gcd a.natAbs d : Int)) (by omega) (lg hd h)
  have d2 := fdiv_ok (i := (d : Int)) (j := (Nat.gcd a.natAbs d : Int)) (by omega) (lg hd h)
  rw [num_e a hd] at d1
  rw [den_e a hd] at d2
  unfold G__law_low g__law_low
  simp [fK, fOp, fU, fM, fIsN, fNotN, tB', tNot', tAnd', tOr', vAnd, vOr, vNot, fIf, lNil, lCons, fLst, fTup, fCall, fMk, fB, fSlc, oNo, oSo, fSplit, fLc, iSq, iR1, tYes', zF, zS, fF1, fF3, sSeq, sRet, sIf, sSet, sSetO, sFor, sApp, sPar, sAsg, sRaise, sFld, sFrz, sBad, sTryAs, fN, fRz, tIfx, sPar3, sRaiseB, iZip, iEnu, fMet, fMkd, fMkk, fDict, fSlcL, fSort, fRc, iZipA, iEnuA, iKs, sDrop, sDput, sLput, fDget, fChain, chainK, hLst, look, peek, bo, opt, mkL, mkT, small, fnG, mkG, int2, negC, seqD, hName, hCons, hNil, hTup, par2, appD, isOw, frz, setF, ptI, isiD, notScr, env0, env0I, selfF, runB, runI, cAbs, cLen, isNone, strD, payD, tryD, noErr, cLenS, itemS, dSub, dLt, dLe, dGt, dGe, notB, isO, zipD, zipL, par3, rzD, rcD, zipA, seqB, enuA, keysD, dgetR, dlookD, isOwD, cMax, cTup, Res.bind_ok, Res.bind_err, Res.bind_bad, seq_nx, seq_rt, seq_err, bnd_ok, bnd_err, loop_nx, loop_rt, for_nil, for_cons, int_i, hs, hn, d1, d2]
theorem init_eq (a : Int) (d : Nat) (hd : 0 < d) (h : d < big) : G_Ratio___init__ [.int a, .int (d : Nat)] = .ok [.int (mkRat a d).num, .int ((mkRat a d).den : Nat)] := by
  have hs := common_eq a d (by simpa using h)
  have hp : Nat.gcd a.natAbs d ≠ 0 := by
    have := Nat.gcd_pos_of_pos_right a.natAbs hd
    omega
  rw [Int.natAbs_natCast] at hs
  have h0 : eqD (.int (d : Nat)) (.int 0) = some (.bl false) := by
    rw [eq_ii, decide_eq_false (by omega)]
  have hn : ¬ ((d : Nat) : Int) < 0 := by omega
  have d1 := fdiv_ok (i := a) (j := (Nat.gcd a.natAbs d : Int)) (by omega) (lg hd h)
  have d2 := fdiv_ok (i := (d : Int)) (j := (Nat.gcd a.natAbs d : Int)) (by omega) (lg hd h)
  rw [num_e a hd] at d1
  rw [den_e a hd] at d2
  unfold G_Ratio___init__ g_Ratio___init__
  simp [fK, fOp, fU, fM, fIsN, fNotN, tB', tNot', tAnd', tOr', vAnd, vOr, vNot, fIf, lNil, lCons, fLst, fTup, fCall, fMk, fB, fSlc, oNo, oSo, fSplit, fLc, iSq, iR1, tYes', zF, zS, fF1, fF3, sSeq, sRet, sIf, sSet, sSetO, sFor, sApp, sPar, sAsg, sRaise, sFld, sFrz, sBad, sTryAs, fN, fRz, tIfx, sPar3, sRaiseB, iZip, iEnu, fMet, fMkd, fMkk, fDict, fSlcL, fSort, fRc, iZipA, iEnuA, iKs, sDrop, sDput, sLput, fDget, fChain, chainK, hLst, look, peek, bo, opt, mkL, mkT, small, fnG, mkG, int2, negC, seqD, hName, hCons, hNil, hTup, par2, appD, isOw, frz, setF, ptI, isiD, notScr, env0, env0I, selfF, runB, runI, cAbs, cLen, isNone, strD, payD, tryD, noErr, cLenS, itemS, dSub, dLt, dLe, dGt, dGe, notB, isO, zipD, zipL, par3, rzD, rcD, zipA, seqB, enuA, keysD, dgetR, dlookD, isOwD, cMax, cTup, Res.bind_ok, Res.bind_err, Res.bind_bad, seq_nx, seq_rt, seq_err, bnd_ok, bnd_err, loop_nx, loop_rt, for_nil, for_cons, int_i, hs, hn, d1, d2, h0, nmv]
/-! ### sizes -/
structure Sz (m k : Nat) (q : Rat) : Prop where
  n : q.num.natAbs < 2 ^ m
  d : q.den ∣ 60 ^ k
theorem mk_le (a : Int) {d : Nat} (hd : d ≠ 0) : (mkRat a d).num.natAbs ≤ a.natAbs ∧ (mkRat a d).den ∣ d := by
  constructor
  · rw [Rat.num_mkRat, if_neg hd]
    exact Int.natAbs_ediv_le_natAbs _ _
  · rw [Rat.den_mkRat, if_neg hd]
    exact Nat.div_dvd_of_dvd (Nat.gcd_dvd_left _ _)
theorem Sz.mono {m k m' k' : Nat} {q : Rat} (h : Sz m k q) (hm : m ≤ m') (hk : k ≤ k') : Sz m' k' q :=
  ⟨Nat.lt_of_lt_of_le h.n (Nat.pow_le_pow_right (by decide) hm), Nat.dvd_trans h.d (Nat.pow_dvd_pow 60 hk)⟩
theorem Sz.mul {m k m' k' : Nat} {p q : Rat} (h : Sz m k p) (h' : Sz m' k' q) : Sz (m + m') (k + k') (p * q) := by
  rw [Rat.mul_def']
  have hz : p.den * q.den ≠ 0 := Nat.mul_ne_zero p.den_nz q.den_nz
  obtain ⟨h1, h2⟩ := mk_le (p.num * q.num) hz
  refine ⟨?_, ?_⟩
  · rw [Int.natAbs_mul] at h1
    rw [Nat.pow_add]
    exact Nat.lt_of_le_of_lt h1 (Nat.mul_lt_mul'' h.n h'.n)
  · rw [Nat.pow_add]
    exact Nat.dvd_trans h2 (Nat.mul_dvd_mul h.d h'.d)
theorem p58 (k : Nat) : 60 ^ k ≤ 2 ^ (6 * k) := by
  rw [Nat.pow_mul]
  exact Nat.pow_le_pow_left (by decide) k
theorem Sz.den_le {m k : Nat} {q : Rat} (h : Sz m k q) : q.den ≤ 60 ^ k := Nat.le_of_dvd (Nat.pow_pos (by decide)) h.d
theorem add_den {k : Nat} {p q : Rat} (hp : p.den ∣ 60 ^ k) (hq : q.den ∣ 60 ^ k) : (p + q).den ∣ 60 ^ k := by
  obtain ⟨u, hu⟩ := hp
  obtain ⟨v, hv⟩ := hq
  have hN : 60 ^ k ≠ 0 := Nat.ne_of_gt (Nat.pow_pos (by decide))
  generalize 60 ^ k = N at *
  have hu0 : u ≠ 0 := fun z => hN (by rw [hu, z, Nat.mul_zero])
  have hv0 : v ≠ 0 := fun z => hN (by rw [hv, z, Nat.mul_zero])
  have e1 : p = mkRat (p.num * u) N := by
    rw [hu, Rat.mkRat_mul_right hu0, Rat.mkRat_self]
  have e2 : q = mkRat (q.num * v) N := by
    rw [hv, Rat.mkRat_mul_right hv0, Rat.mkRat_self]
  have e3 : p + q = mkRat (p.num * u + q.num * v) N := by
    rw [e1, e2, Rat.mkRat_add_mkRat _ _ hN hN, ← Int.add_mul, Rat.mkRat_mul_right hN, ← e1, ← e2]
  rw [e3]
  exact (mk_le _ hN).2
theorem Sz.add {m k m' k' : Nat} {p q : Rat} (h : Sz m k p) (h' : Sz m' k' q) : Sz (m + m' + 6 * (k + k') + 1) (k + k') (p + q) := by
  refine ⟨?_, add_den (Nat.dvd_trans h.d (Nat.pow_dvd_pow 60 (by omega))) (Nat.dvd_trans h'.d (Nat.pow_dvd_pow 60 (by omega)))⟩
  rw [Rat.add_def']
  have hz : p.den * q.den ≠ 0 := Nat.mul_ne_zero p.den_nz q.den_nz
  obtain ⟨h1, h2⟩ := mk_le (p.num * q.den + q.num * p.den) hz
  have e1 : (p.num * (q.den : Int) + q.num * (p.den : Int)).natAbs ≤ p.num.natAbs * q.den + q.num.natAbs * p.den := by
    have := Int.natAbs_add_le (p.num * (q.den : Int)) (q.num * (p.den : Int))
    rw [Int.natAbs_mul, Int.natAbs_mul, Int.natAbs_natCast, Int.natAbs_natCast] at this
    exact this
  have b1 : p.num.natAbs * q.den < 2 ^ (m + m' + 6 * (k + k')) := by
    have : p.num.natAbs * q.den < 2 ^ m * 2 ^ (6 * k') := Nat.mul_lt_mul_of_lt_of_le h.n (Nat.le_trans h'.den_le (p58 k')) (Nat.pow_pos (by decide))
    rw [← Nat.pow_add] at this
    exact Nat.lt_of_lt_of_le this (Nat.pow_le_pow_right (by decide) (by omega))
  have b2 : q.num.natAbs * p.den < 2 ^ (m + m' + 6 * (k + k')) := by
    have : q.num.natAbs * p.den < 2 ^ m' * 2 ^ (6 * k) := Nat.mul_lt_mul_of_lt_of_le h'.n (Nat.le_trans h.den_le (p58 k)) (Nat.pow_pos (by decide))
    rw [← Nat.pow_add] at this
    exact Nat.lt_of_lt_of_le this (Nat.pow_le_pow_right (by decide) (by omega))
  rw [Nat.pow_succ]
  omega
theorem Sz.addM {m k m' : Nat} {p q : Rat} (h : Sz m k p) (h' : Sz m' k q) : Sz (m + m' + 6 * (k + k) + 1) k (p + q) := ⟨(h.add h').n, add_den h.d h'.d⟩
/-- a pair of the law, not in lowest terms -/
structure SzP (m k : Nat) (a : Int) (d : Nat) : Prop where
  n : a.natAbs < 2 ^ m
  d : d ∣ 60 ^ k
theorem SzP.pos {m k : Nat} {a : Int} {d : Nat} (h : SzP m k a d) : 0 < d := Nat.pos_of_dvd_of_pos h.d (Nat.pow_pos (by decide))
theorem SzP.le {m k : Nat} {a : Int} {d : Nat} (h : SzP m k a d) : d ≤ 60 ^ k := Nat.le_of_dvd (Nat.pow_pos (by decide)) h.d
theorem SzP.sz {m k : Nat} {a : Int} {d : Nat} (h : SzP m k a d) : Sz m k (mkRat a d) := by
  obtain ⟨h1, h2⟩ := mk_le a (Nat.ne_of_gt h.pos)
  exact ⟨Nat.lt_of_le_of_lt h1 h.n, Nat.dvd_trans h2 h.d⟩
theorem Sz.pair {m k : Nat} {q : Rat} (h : Sz m k q) : SzP m k q.num q.den := ⟨h.n, h.d⟩
end DL.K44
namespace DL.K44
open PySem L2
theorem it0 (a b : D) : itemD (.tup [a, b]) (.int 0) = some a := rfl
theorem it1 (a b : D) : itemD (.tup [a, b]) (.int 1) = some b := rfl
theorem mulB_ok {i j : Int} {m m' : Nat} (hi : i.natAbs < 2 ^ m) (hj : j.natAbs < 2 ^ m') (h : m + m' < 900000) : mulB i j = some (.int (i * j)) := by
  have h1 := log2_lt (n := i.natAbs) (k := m + 1) (Nat.lt_of_lt_of_le hi (Nat.pow_le_pow_right (by decide) (by omega))) (by omega)
  have h2 := log2_lt (n := j.natAbs) (k := m' + 1) (Nat.lt_of_lt_of_le hj (Nat.pow_le_pow_right (by decide) (by omega))) (by omega)
  exact if_pos (.inl (by omega))
theorem denP_lt {m k : Nat} {a : Int} {d : Nat} (h : SzP m k a d) : ((d : Nat) : Int).natAbs < 2 ^ (6 * k + 1) := by
  rw [Int.natAbs_natCast, Nat.pow_succ]
  have h1 := Nat.le_trans h.le (p58 k)
  have h2 : 0 < 2 ^ (6 * k) := Nat.pow_pos (by decide)
  omega
theorem den_lt {m k : Nat} {q : Rat} (h : Sz m k q) : ((q.den : Nat) : Int).natAbs < 2 ^ (6 * k + 1) := denP_lt h.pair
set_option exponentiation.threshold 600 in
theorem p500 : 60 ^ 220 < big := by decide +kernel
theorem denP_big {m k m' k' : Nat} {p : Rat} {a : Int} {d : Nat} (h : Sz m k p) (h' : SzP m' k' a d) (hk : k + k' ≤ 220) : p.den * d < big := by
  have h1 : p.den * d ≤ 60 ^ (k + k') := by
    rw [Nat.pow_add]
    exact Nat.mul_le_mul h.den_le h'.le
  have h2 : 60 ^ (k + k') ≤ 60 ^ 220 := Nat.pow_le_pow_right (by decide) hk
  have h3 : 60 ^ 220 < big := p500
  omega
theorem den_big {m k m' k' : Nat} {p q : Rat} (h : Sz m k p) (h' : Sz m' k' q) (hk : k + k' ≤ 220) : p.den * q.den < big := denP_big h h'.pair hk
/-- both are within the lines -/
def lm : Nat := 400000
def lk : Nat := 220
structure Ok2 (m k m' k' : Nat) : Prop where
  m : m + m' ≤ lm
  k : k + k' ≤ lk
abbrev pr (a : Int) (d : Nat) : D := .tup [.int a, .int (d : Nat)]
theorem timesP_eq {m k m' k' : Nat} {p : Rat} {a : Int} {d : Nat} (h : Sz m k p) (h' : SzP m' k' a d) (o : Ok2 m k m' k') : G__law_times [fr p, pr a d] = .ok (fr (p * mkRat a d)) := by
  have om : _ ≤ 400000 := o.m
  have ok : _ ≤ 220 := o.k
  have m1 := mulB_ok h.n h'.n (by omega)
  have m2 := mulB_ok (den_lt h) (denP_lt h') (by omega)
  have hl := low_eq (p.num * a) (p.den * d) (Nat.mul_pos p.den_pos h'.pos) (denP_big h h' o.k)
  have e : mkRat (p.num * a) (p.den * d) = p * mkRat a d := by
    have := Rat.mkRat_mul_mkRat p.num a p.den d
    rw [Rat.mkRat_self] at this
    exact this.symm
  rw [e, Int.natCast_mul] at hl
  unfold G__law_times g__law_times
  simp [fK, fOp, fU, fM, fIsN, fNotN, tB', tNot', tAnd', tOr', vAnd, vOr, vNot, fIf, lNil, lCons, fLst, fTup, fCall, fMk, fB, fSlc, oNo, oSo, fSplit, fLc, iSq, iR1, tYes', zF, zS, fF1, fF3, sSeq, sRet, sIf, sSet, sSetO, sFor, sApp, sPar, sAsg, sRaise, sFld, sFrz, sBad, sTryAs, fN, fRz, tIfx, sPar3, sRaiseB, iZip, iEnu, fMet, fMkd, fMkk, fDict, fSlcL, fSort, fRc, iZipA, iEnuA, iKs, sDrop, sDput, sLput, fDget, fChain, chainK, hLst, look, peek, bo, opt, mkL, mkT, small, fnG, mkG, int2, negC, seqD, hName, hCons, hNil, hTup, par2, appD, isOw, frz, setF, ptI, isiD, notScr, env0, env0I, selfF, runB, runI, cAbs, cLen, isNone, strD, payD, tryD, noErr, cLenS, itemS, dSub, dLt, dLe, dGt, dGe, notB, isO, zipD, zipL, par3, rzD, rcD, zipA, seqB, enuA, keysD, dgetR, dlookD, isOwD, cMax, cTup, Res.bind_ok, Res.bind_err, Res.bind_bad, seq_nx, seq_rt, seq_err, bnd_ok, bnd_err, loop_nx, loop_rt, for_nil, for_cons, int_i, it0, it1, m1, m2, hl]
theorem times_eq {m k m' k' : Nat} {p q : Rat} (h : Sz m k p) (h' : Sz m' k' q) (o : Ok2 m k m' k') : G__law_times [fr p, fr q] = .ok (fr (p * q)) := by
  have := timesP_eq h h'.pair o
  rw [Rat.mkRat_self] at this
  exact this
theorem add_eq {m k m' k' : Nat} {p q : Rat} (h : Sz m k p) (h' : Sz m' k' q) (o : Ok2 m k m' k') : G__law_add [fr p, fr q] = .ok (fr (p + q)) := by
  have om : _ ≤ 400000 := o.m
  have ok : _ ≤ 220 := o.k
  have m1 := mulB_ok h.n (den_lt h') (by omega)
  have m2 := mulB_ok h'.n (den_lt h) (by omega)
  have m3 := mulB_ok (den_lt h) (den_lt h') (by omega)
  have hl := low_eq (p.num * q.den + q.num * p.den) (p.den * q.den) (Nat.mul_pos p.den_pos q.den_pos) (den_big h h' o.k)
  rw [← Rat.add_def', Int.natCast_mul] at hl
  unfold G__law_add g__law_add
  simp [fK, fOp, fU, fM, fIsN, fNotN, tB', tNot', tAnd', tOr', vAnd, vOr, vNot, fIf, lNil, lCons, fLst, fTup, fCall, fMk, fB, fSlc, oNo, oSo, fSplit, fLc, iSq, iR1, tYes', zF, zS, fF1, fF3, sSeq, sRet, sIf, sSet, sSetO, sFor, sApp, sPar, sAsg, sRaise, sFld, sFrz, sBad, sTryAs, fN, fRz, tIfx, sPar3, sRaiseB, iZip, iEnu, fMet, fMkd, fMkk, fDict, fSlcL, fSort, fRc, iZipA, iEnuA, iKs, sDrop, sDput, sLput, fDget, fChain, chainK, hLst, look, peek, bo, opt, mkL, mkT, small, fnG, mkG, int2, negC, seqD, hName, hCons, hNil, hTup, par2, appD, isOw, frz, setF, ptI, isiD, notScr, env0, env0I, selfF, runB, runI, cAbs, cLen, isNone, strD, payD, tryD, noErr, cLenS, itemS, dSub, dLt, dLe, dGt, dGe, notB, isO, zipD, zipL, par3, rzD, rcD, zipA, seqB, enuA, keysD, dgetR, dlookD, isOwD, cMax, cTup, Res.bind_ok, Res.bind_err, Res.bind_bad, seq_nx, seq_rt, seq_err, bnd_ok, bnd_err, loop_nx, loop_rt, for_nil, for_cons, int_i, it0, it1, m1, m2, m3, addA, hl]
/-! ### numbers of the package -/
def Nu (d : D) (q : Rat) : Prop := d = rt q ∨ ∃ i : Int, d = .int i ∧ q = (i : Rat)
theorem fldT (a b : D) : fldD nmv "top" (.obj 0 [a, b]) = some a := rfl
theorem fldB (a b : D) : fldD nmv "bottom" (.obj 0 [a, b]) = some b := rfl
theorem halves_n {d : D} {q : Rat} (h : Nu d q) : G_halves_of [d] = .ok (fr q) := by
  rcases h with rfl | ⟨i, rfl, rfl⟩
  · rfl
  · rfl
theorem num_n {d : D} {q : Rat} (h : Nu d q) : G_is_number [d] = .ok (.bl true) := by
  rcases h with rfl | ⟨i, rfl, rfl⟩
  · rfl
  · rfl
theorem radd_eq {m k m' k' : Nat} {p q : Rat} {d : D} (h : Sz m k p) (hd : Nu d q) (h' : Sz m' k' q) (o : Ok2 m k m' k') : G_Ratio___add__ [rt p, d] = .ok (rt (p + q)) := by
  have om : _ ≤ 400000 := o.m
  have ok : _ ≤ 220 := o.k
  have n1 := num_n hd
  have n2 := halves_n hd
  have m1 := mulB_ok h.n (den_lt h') (by omega)
  have m2 := mulB_ok h'.n (den_lt h) (by omega)
  have m3 := mulB_ok (den_lt h) (den_lt h') (by omega)
  have hl := init_eq (p.num * q.den + q.num * p.den) (p.den * q.den) (Nat.mul_pos p.den_pos q.den_pos) (den_big h h' o.k)
  rw [← Rat.add_def', Int.natCast_mul] at hl
  unfold G_Ratio___add__ g_Ratio___add__
  simp [fK, fOp, fU, fM, fIsN, fNotN, tB', tNot', tAnd', tOr', vAnd, vOr, vNot, fIf, lNil, lCons, fLst, fTup, fCall, fMk, fB, fSlc, oNo, oSo, fSplit, fLc, iSq, iR1, tYes', zF, zS, fF1, fF3, sSeq, sRet, sIf, sSet, sSetO, sFor, sApp, sPar, sAsg, sRaise, sFld, sFrz, sBad, sTryAs, fN, fRz, tIfx, sPar3, sRaiseB, iZip, iEnu, fMet, fMkd, fMkk, fDict, fSlcL, fSort, fRc, iZipA, iEnuA, iKs, sDrop, sDput, sLput, fDget, fChain, chainK, hLst, look, peek, bo, opt, mkL, mkT, small, fnG, mkG, int2, negC, seqD, hName, hCons, hNil, hTup, par2, appD, isOw, frz, setF, ptI, isiD, notScr, env0, env0I, selfF, runB, runI, cAbs, cLen, isNone, strD, payD, tryD, noErr, cLenS, itemS, dSub, dLt, dLe, dGt, dGe, notB, isO, zipD, zipL, par3, rzD, rcD, zipA, seqB, enuA, keysD, dgetR, dlookD, isOwD, cMax, cTup, Res.bind_ok, Res.bind_err, Res.bind_bad, seq_nx, seq_rt, seq_err, bnd_ok, bnd_err, loop_nx, loop_rt, for_nil, for_cons, int_i, fldT, fldB, n1, n2, m1, m2, m3, addA, hl]
theorem rmul_eq {m k m' k' : Nat} {p q : Rat} {d : D} (h : Sz m k p) (hd : Nu d q) (h' : Sz m' k' q) (o : Ok2 m k m' k') : G_Ratio___mul__ [rt p, d] = .ok (rt (p * q)) := by
  have om : _ ≤ 400000 := o.m
  have ok : _ ≤ 220 := o.k
  have n1 := num_n hd
  have n2 := halves_n hd
  have m1 := mulB_ok h.n h'.n (by omega)
  have m3 := mulB_ok (den_lt h) (den_lt h') (by omega)
  have hl := init_eq (p.num * q.num) (p.den * q.den) (Nat.mul_pos p.den_pos q.den_pos) (den_big h h' o.k)
  rw [← Rat.mul_def', Int.natCast_mul] at hl
  unfold G_Ratio___mul__ g_Ratio___mul__
  simp [fK, fOp, fU, fM, fIsN, fNotN, tB', tNot', tAnd', tOr', vAnd, vOr, vNot, fIf, lNil, lCons, fLst, fTup, fCall, fMk, fB, fSlc, oNo, oSo, fSplit, fLc, iSq, iR1, tYes', zF, zS, fF1, fF3, sSeq, sRet, sIf, sSet, sSetO, sFor, sApp, sPar, sAsg, sRaise, sFld, sFrz, sBad, sTryAs, fN, fRz, tIfx, sPar3, sRaiseB, iZip, iEnu, fMet, fMkd, fMkk, fDict, fSlcL, fSort, fRc, iZipA, iEnuA, iKs, sDrop, sDput, sLput, fDget, fChain, chainK, hLst, look, peek, bo, opt, mkL, mkT, small, fnG, mkG, int2, negC, seqD, hName, hCons, hNil, hTup, par2, appD, isOw, frz, setF, ptI, isiD, notScr, env0, env0I, selfF, runB, runI, cAbs, cLen, isNone, strD, payD, tryD, noErr, cLenS, itemS, dSub, dLt, dLe, dGt, dGe, notB, isO, zipD, zipL, par3, rzD, rcD, zipA, seqB, enuA, keysD, dgetR, dlookD, isOwD, cMax, cTup, Res.bind_ok, Res.bind_err, Res.bind_bad, seq_nx, seq_rt, seq_err, bnd_ok, bnd_err, loop_nx, loop_rt, for_nil, for_cons, int_i, fldT, fldB, n1, n2, m1, m3, hl]
abbrev nAdd : D → D → Res D := opN (fun i j => some (.int (i + j))) G_Ratio___add__ G_Ratio___radd__
abbrev nMul : D → D → Res D := opN mulB G_Ratio___mul__ G_Ratio___rmul__
theorem Ok2.symm {m k m' k' : Nat} (o : Ok2 m k m' k') : Ok2 m' k' m k := ⟨by have := o.m; omega, by have := o.k; omega⟩
theorem nAdd_eq {m k m' k' : Nat} {p q : Rat} {x y : D} (hx : Nu x p) (h : Sz m k p) (hy : Nu y q) (h' : Sz m' k' q) (o : Ok2 m k m' k') : ∃ d, nAdd x y = .ok d ∧ Nu d (p + q) := by
  rcases hx with rfl | ⟨i, rfl, rfl⟩
  · have e := radd_eq h hy h' o
    refine ⟨_, ?_, .inl rfl⟩
    rw [← e]
    rcases hy with rfl | ⟨j, rfl, rfl⟩
    · rfl
    · rfl
  · rcases hy with rfl | ⟨j, rfl, rfl⟩
    · have e := radd_eq h' (.inr ⟨i, rfl, rfl⟩) h o.symm
      refine ⟨_, ?_, .inl rfl⟩
      rw [Rat.add_comm, ← e]
      have : nAdd (.int i) (rt q) = G_Ratio___radd__ [rt q, .int i] := rfl
      rw [this]
      unfold G_Ratio___radd__ g_Ratio___radd__
      simp [fK, fOp, fU, fM, fIsN, fNotN, tB', tNot', tAnd', tOr', vAnd, vOr, vNot, fIf, lNil, lCons, fLst, fTup, fCall, fMk, fB, fSlc, oNo, oSo, fSplit, fLc, iSq, iR1, tYes', zF, zS, fF1, fF3, sSeq, sRet, sIf, sSet, sSetO, sFor, sApp, sPar, sAsg, sRaise, sFld, sFrz, sBad, sTryAs, fN, fRz, tIfx, sPar3, sRaiseB, iZip, iEnu, fMet, fMkd, fMkk, fDict, fSlcL, fSort, fRc, iZipA, iEnuA, iKs, sDrop, sDput, sLput, fDget, fChain, chainK, hLst, look, peek, bo, opt, mkL, mkT, small, fnG, mkG, int2, negC, seqD, hName, hCons, hNil, hTup, par2, appD, isOw, frz, setF, ptI, isiD, notScr, env0, env0I, selfF, runB, runI, cAbs, cLen, isNone, strD, payD, tryD, noErr, cLenS, itemS, dSub, dLt, dLe, dGt, dGe, notB, isO, zipD, zipL, par3, rzD, rcD, zipA, seqB, enuA, keysD, dgetR, dlookD, isOwD, cMax, cTup, Res.bind_ok, Res.bind_err, Res.bind_bad, seq_nx, seq_rt, seq_err, bnd_ok, bnd_err, loop_nx, loop_rt, for_nil, for_cons, int_i, opL, e]
    · exact ⟨.int (i + j), rfl, .inr ⟨_, rfl, (Rat.intCast_add i j).symm⟩⟩
theorem nMul_eq {m k m' k' : Nat} {p q : Rat} {x y : D} (hx : Nu x p) (h : Sz m k p) (hy : Nu y q) (h' : Sz m' k' q) (o : Ok2 m k m' k') : ∃ d, nMul x y = .ok d ∧ Nu d (p * q) := by
  rcases hx with rfl | ⟨i, rfl, rfl⟩
  · have e := rmul_eq h hy h' o
    refine ⟨_, ?_, .inl rfl⟩
    rw [← e]
    rcases hy with rfl | ⟨j, rfl, rfl⟩
    · rfl
    · rfl
  · rcases hy with rfl | ⟨j, rfl, rfl⟩
    · have e := rmul_eq h' (.inr ⟨i, rfl, rfl⟩) h o.symm
      refine ⟨_, ?_, .inl rfl⟩
      rw [Rat.mul_comm, ← e]
      have : nMul (.int i) (rt q) = G_Ratio___rmul__ [rt q, .int i] := rfl
      rw [this]
      unfold G_Ratio___rmul__ g_Ratio___rmul__
      simp [fK, fOp, fU, fM, fIsN, fNotN, tB', tNot', tAnd', tOr', vAnd, vOr, vNot, fIf, lNil, lCons, fLst, fTup, fCall, fMk, fB, fSlc, oNo, oSo, fSplit, fLc, iSq, iR1, tYes', zF, zS, fF1, fF3, sSeq, sRet, sIf, sSet, sSetO, sFor, sApp, sPar, sAsg, sRaise, sFld, sFrz, sBad, sTryAs, fN, fRz, tIfx, sPar3, sRaiseB, iZip, iEnu, fMet, fMkd, fMkk, fDict, fSlcL, fSort, fRc, iZipA, iEnuA, iKs, sDrop, sDput, sLput, fDget, fChain, chainK, hLst, look, peek, bo, opt, mkL, mkT, small, fnG, mkG, int2, negC, seqD, hName, hCons, hNil, hTup, par2, appD, isOw, frz, setF, ptI, isiD, notScr, env0, env0I, selfF, runB, runI, cAbs, cLen, isNone, strD, payD, tryD, noErr, cLenS, itemS, dSub, dLt, dLe, dGt, dGe, notB, isO, zipD, zipL, par3, rzD, rcD, zipA, seqB, enuA, keysD, dgetR, dlookD, isOwD, cMax, cTup, Res.bind_ok, Res.bind_err, Res.bind_bad, seq_nx, seq_rt, seq_err, bnd_ok, bnd_err, loop_nx, loop_rt, for_nil, for_cons, int_i, opL, e]
    · have om : _ ≤ 400000 := o.m
      have m1 : mulB i j = some (.int (i * j)) := mulB_ok h.n h'.n (by omega)
      have : nMul (.int i) (.int j) = opt (mulB i j) := rfl
      rw [this, m1]
      exact ⟨.int (i * j), rfl, .inr ⟨_, rfl, (Rat.intCast_mul i j).symm⟩⟩
/-- the plain number -/
def pl (q : Rat) : D := if q.den = 1 then .int q.num else rt q
theorem pl_nu (q : Rat) : Nu (pl q) q := by
  unfold pl
  split
  · rename_i h
    exact .inr ⟨q.num, rfl, Rat.ext (by simp) (by simp [h])⟩
  · exact .inl rfl
theorem plain_eq {d : D} {q : Rat} (h : Nu d q) : G_plain [d] = .ok (pl q) := by
  have n2 := halves_n h
  unfold G_plain g_plain
  by_cases hd : q.den = 1
  · have e : eqD (.int (q.den : Nat)) (.int 1) = some (.bl true) := by rw [eq_ii, decide_eq_true (by omega)]
    have e2 : pl q = .int q.num := if_pos hd
    simp [fK, fOp, fU, fM, fIsN, fNotN, tB', tNot', tAnd', tOr', vAnd, vOr, vNot, fIf, lNil, lCons, fLst, fTup, fCall, fMk, fB, fSlc, oNo, oSo, fSplit, fLc, iSq, iR1, tYes', zF, zS, fF1, fF3, sSeq, sRet, sIf, sSet, sSetO, sFor, sApp, sPar, sAsg, sRaise, sFld, sFrz, sBad, sTryAs, fN, fRz, tIfx, sPar3, sRaiseB, iZip, iEnu, fMet, fMkd, fMkk, fDict, fSlcL, fSort, fRc, iZipA, iEnuA, iKs, sDrop, sDput, sLput, fDget, fChain, chainK, hLst, look, peek, bo, opt, mkL, mkT, small, fnG, mkG, int2, negC, seqD, hName, hCons, hNil, hTup, par2, appD, isOw, frz, setF, ptI, isiD, notScr, env0, env0I, selfF, runB, runI, cAbs, cLen, isNone, strD, payD, tryD, noErr, cLenS, itemS, dSub, dLt, dLe, dGt, dGe, notB, isO, zipD, zipL, par3, rzD, rcD, zipA, seqB, enuA, keysD, dgetR, dlookD, isOwD, cMax, cTup, Res.bind_ok, Res.bind_err, Res.bind_bad, seq_nx, seq_rt, seq_err, bnd_ok, bnd_err, loop_nx, loop_rt, for_nil, for_cons, int_i, n2, e, e2]
  · have e : eqD (.int (q.den : Nat)) (.int 1) = some (.bl false) := by rw [eq_ii, decide_eq_false (by omega)]
    have e2 : pl q = d := by
      rcases h with rfl | ⟨i, rfl, rfl⟩
      · exact if_neg hd
      · exact absurd rfl hd
    simp [fK, fOp, fU, fM, fIsN, fNotN, tB', tNot', tAnd', tOr', vAnd, vOr, vNot, fIf, lNil, lCons, fLst, fTup, fCall, fMk, fB, fSlc, oNo, oSo, fSplit, fLc, iSq, iR1, tYes', zF, zS, fF1, fF3, sSeq, sRet, sIf, sSet, sSetO, sFor, sApp, sPar, sAsg, sRaise, sFld, sFrz, sBad, sTryAs, fN, fRz, tIfx, sPar3, sRaiseB, iZip, iEnu, fMet, fMkd, fMkk, fDict, fSlcL, fSort, fRc, iZipA, iEnuA, iKs, sDrop, sDput, sLput, fDget, fChain, chainK, hLst, look, peek, bo, opt, mkL, mkT, small, fnG, mkG, int2, negC, seqD, hName, hCons, hNil, hTup, par2, appD, isOw, frz, setF, ptI, isiD, notScr, env0, env0I, selfF, runB, runI, cAbs, cLen, isNone, strD, payD, tryD, noErr, cLenS, itemS, dSub, dLt, dLe, dGt, dGe, notB, isO, zipD, zipL, par3, rzD, rcD, zipA, seqB, enuA, keysD, dgetR, dlookD, isOwD, cMax, cTup, Res.bind_ok, Res.bind_err, Res.bind_bad, seq_nx, seq_rt, seq_err, bnd_ok, bnd_err, loop_nx, loop_rt, for_nil, for_cons, int_i, n2, e, e2]
end DL.K44
namespace DL.K44
open PySem L2
theorem for_inv {h : D → Env → Option Env} {g : Env → RS} (P : Nat → Env → Prop) : ∀ (items : List D) (i0 : Nat) (ρ : Env), P i0 ρ → (∀ i d ρ, items[i]? = some d → P (i0 + i) ρ → ∃ ρ1 ρ2, h d ρ = some ρ1 ∧ g ρ1 = .nx ρ2 ∧ P (i0 + i + 1) ρ2) →
    ∃ ρ', forD h g items ρ = .nx ρ' ∧ P (i0 + items.length) ρ'
  | [], i0, ρ, p, _ => ⟨ρ, rfl, p⟩
  | d :: r, i0, ρ, p, st => by
    obtain ⟨ρ1, ρ2, e1, e2, p2⟩ := st 0 d ρ rfl p
    obtain ⟨ρ', e3, p3⟩ := for_inv P r (i0 + 1) ρ2 p2 fun i d' ρ hi hp => by
      have := st (i + 1) d' ρ (by simpa using hi) (by rw [show i0 + (i + 1) = i0 + 1 + i by omega]; exact hp)
      rw [show i0 + (i + 1) + 1 = i0 + 1 + i + 1 by omega] at this
      exact this
    refine ⟨ρ', ?_, by rw [List.length_cons, show i0 + (r.length + 1) = i0 + 1 + r.length by omega]; exact p3⟩
    rw [for_cons, e1]
    show loopK (g ρ1) (forD h g r) = _
    rw [e2]
    exact e3
theorem rng1_eq (n : Nat) (h : n ≤ 1000) : rng1 [.int (n : Nat)] = .ok ((List.range n).map fun k => D.int (k : Nat)) := by
  unfold rng1 rngD
  simp
  omega
theorem sz1 : Sz 1 0 (1 : Rat) := ⟨by decide, by decide⟩
end DL.K44
namespace DL.K44
open PySem L2
abbrev pI (p : Nat) : D := .int (p : Nat)
end DL.K44
namespace DL.K44
open PySem L2
/-! ### dicts by terms: (powers, what stands there) -/
abbrev kN (p : List Nat) : List Key := p.map fun (n : Nat) => (Sum.inl ((n : Nat) : Int) : Key)
abbrev kT (p : List Nat) : D := .tup (p.map pI)
theorem kt_eq (p : List Nat) : ktD (kN p) = kT p := by
  unfold ktD
  rw [List.map_map]
  rfl
theorem keys_eq : ∀ p : List Nat, keysA (p.map pI) = some (kN p)
  | [] => rfl
  | n :: p => by
    show (keyA (pI n)).bind (fun k => (keysA (p.map pI)).map (k :: ·)) = _
    rw [keys_eq p]
    rfl
theorem keyT_eq (p : List Nat) : keyT (kT p) = some (kN p) := keys_eq p
theorem kN_inj {p q : List Nat} (h : kN p = kN q) : p = q := by
  induction p generalizing q with
  | nil =>
    cases q with
    | nil => rfl
    | cons _ _ => simp at h
  | cons a p ih =>
    cases q with
    | nil => simp at h
    | cons b q =>
      simp only [kN, List.map_cons, List.cons.injEq, Sum.inl.injEq] at h
      rw [ih h.2]
      have := h.1
      congr 1
      omega
/-- a dict of terms -/
abbrev dk {α : Type} (f : α → D) (ts : List (List Nat × α)) : D := .dT (ts.map fun t => kN t.1) (ts.map fun t => f t.2)
theorem val_at {α : Type} (f : α → D) : ∀ {ts : List (List Nat × α)} {p : List Nat} {c : α}, (ts.map (·.1)).Nodup → (p, c) ∈ ts → valD (ts.map fun t => kN t.1) (ts.map fun t => f t.2) (kN p) = some (f c)
  | [], p, c, _, h => by simp at h
  | t :: ts, p, c, hn, h => by
    rw [List.map_cons, List.nodup_cons] at hn
    unfold valD
    rw [List.map_cons, List.map_cons, List.zip_cons_cons, List.find?_cons]
    by_cases hp : t.1 = p
    · have : decide (kN t.1 = kN p) = true := by rw [hp]; simp
      rw [this]
      rcases List.mem_cons.mp h with rfl | h
      · rfl
      · exact absurd (List.mem_map.mpr ⟨_, h, rfl⟩) (by rw [← hp] at *; exact hn.1)
    · have : decide (kN t.1 = kN p) = false := decide_eq_false fun e => hp (kN_inj e)
      rw [this]
      rcases List.mem_cons.mp h with rfl | h
      · exact absurd rfl hp
      · exact val_at f hn.2 h
theorem dget_at {α : Type} (f : α → D) {ts : List (List Nat × α)} {p : List Nat} {c : α} (hn : (ts.map (·.1)).Nodup) (h : (p, c) ∈ ts) : dgetR (dk f ts) (kT p) = .ok (f c) := by
  have e : dlookD (dk f ts) (kT p) = (keyT (kT p)).map (valD (ts.map fun t => kN t.1) (ts.map fun t => f t.2)) := rfl
  unfold dgetR
  rw [e, keyT_eq, Option.map_some, val_at f hn h]
end DL.K44
namespace DL.K44
open PySem L2
end DL.K44
namespace DL.K44
open PySem L2
/-! ### Poly.at -/
abbrev poly (fs td : D) : D := .obj 1 [fs, td]
theorem fldF (a b : D) : fldD nmv "fields" (poly a b) = some a := rfl
theorem fldP (a b : D) : fldD nmv "parts" (poly a b) = some b := rfl
end DL.K44
namespace DL.K44
open PySem L2
end DL.K44
namespace DL.K44
open PySem L2
end DL.K44
namespace DL.K44
open PySem L2
/-- c more at p -/
def addT (ts : List (List Nat × Rat)) (p : List Nat) (c : Rat) : List (List Nat × Rat) := match ts with
  | [] => [(p, c)]
  | t :: r => if t.1 = p then (p, t.2 + c) :: r else t :: addT r p c
end DL.K44
namespace DL.K44
open PySem L2
/-! ### d[k] = v by terms -/
def putT {α : Type} (l : List (List Nat × α)) (p : List Nat) (d : α) : List (List Nat × α) := match l with
  | [] => [(p, d)]
  | t :: r => if t.1 = p then (p, d) :: r else t :: putT r p d
theorem mem_kN {α : Type} {l : List (List Nat × α)} {p : List Nat} : kN p ∈ l.map (fun t => kN t.1) ↔ p ∈ l.map (·.1) := by
  constructor
  · intro h
    obtain ⟨t, h1, h2⟩ := List.mem_map.mp h
    exact List.mem_map.mpr ⟨t, h1, kN_inj h2⟩
  · intro h
    obtain ⟨t, h1, h2⟩ := List.mem_map.mp h
    exact List.mem_map.mpr ⟨t, h1, by rw [← h2]⟩
theorem rep_no {α : Type} (f : α → D) {p : List Nat} {d : D} : ∀ {l : List (List Nat × α)}, p ∉ l.map (·.1) → repX (l.map fun t => kN t.1) (l.map fun t => f t.2) (kN p) d = l.map fun t => f t.2
  | [], _ => rfl
  | t :: r, h => by
    have h1 : ¬ kN t.1 = kN p := fun e => h (by rw [← kN_inj e]; exact List.mem_cons_self)
    rw [List.map_cons, List.map_cons, repX_cons, if_neg h1, rep_no f fun m => h (List.mem_cons_of_mem _ m)]
theorem put_eq {α : Type} (f : α → D) {p : List Nat} {d : α} : ∀ {l : List (List Nat × α)}, (l.map (·.1)).Nodup → putKs (l.map fun t => kN t.1) (kN p) = (putT l p d).map (fun t => kN t.1) ∧ putXs (l.map fun t => kN t.1) (l.map fun t => f t.2) (kN p) (f d) = (putT l p d).map fun t => f t.2
  | [], _ => ⟨by simp [putKs, putT], by simp [putXs, putT]⟩
  | t :: r, hn => by
    rw [List.map_cons, List.nodup_cons] at hn
    obtain ⟨i1, i2⟩ := put_eq f (p := p) (d := d) hn.2
    unfold putT
    by_cases h : t.1 = p
    · subst h
      rw [if_pos rfl]
      have hm : kN t.1 ∈ (t :: r).map (fun t => kN t.1) := List.mem_map.mpr ⟨t, List.mem_cons_self, rfl⟩
      unfold putKs putXs
      rw [if_pos hm, if_pos hm]
      refine ⟨rfl, ?_⟩
      rw [List.map_cons, List.map_cons, repX_cons, if_pos rfl, rep_no f hn.1]
      rfl
    · rw [if_neg h]
      have hk : ¬ kN t.1 = kN p := fun e => h (kN_inj e)
      unfold putKs putXs at *
      by_cases hm : kN p ∈ r.map (fun t => kN t.1)
      · have hm' : kN p ∈ (t :: r).map (fun t => kN t.1) := by rw [List.map_cons]; exact List.mem_cons_of_mem _ hm
        rw [if_pos hm] at i1 i2
        rw [if_pos hm', if_pos hm']
        refine ⟨by rw [List.map_cons, List.map_cons, i1], ?_⟩
        rw [List.map_cons, List.map_cons, List.map_cons, repX_cons, if_neg hk, i2]
      · have hm' : ¬ kN p ∈ (t :: r).map (fun t => kN t.1) := by
          rw [List.map_cons]
          intro hx
          rcases List.mem_cons.mp hx with e | hx
          · exact hk e.symm
          · exact hm hx
        rw [if_neg hm] at i1 i2
        rw [if_neg hm', if_neg hm']
        refine ⟨by rw [List.map_cons, List.map_cons, List.cons_append, i1], ?_⟩
        rw [List.map_cons, List.map_cons, List.cons_append, i2]
end DL.K44
namespace DL.K44
open PySem L2
/-! ### one_form -/
theorem eq_tt (a b c d : Int) : eqD (.tup [.int a, .int b]) (.tup [.int c, .int d]) = some (.bl (decide (a = c ∧ b = d))) := by
  simp [eqD, eqP, toPD, toPDs, SeqAt.shaped, PyData.canLay0, PyData.canLayAll0, PyData.depth, PyData.depthAll, PyData.eqv, PyData.eqvAll, beq_i]
theorem req_eq (q : Rat) : G_Ratio___eq__ [rt q, .int 0] = .ok (.bl (decide (q = 0))) := by
  have n1 : G_is_number [.int 0] = .ok (.bl true) := rfl
  have n2 : G_halves_of [.int 0] = .ok (.tup [.int 0, .int 1]) := rfl
  have e := eq_tt 0 1 q.num (q.den : Nat)
  have hd : decide ((0 : Int) = q.num ∧ (1 : Int) = (q.den : Nat)) = decide (q = 0) := by
    congr 1
    apply propext
    constructor
    · rintro ⟨h1, h2⟩
      exact Rat.ext (by rw [← h1]; rfl) (by have : q.den = 1 := by omega
                                            rw [this]; rfl)
    · rintro rfl
      exact ⟨rfl, rfl⟩
  rw [hd] at e
  unfold G_Ratio___eq__ g_Ratio___eq__
  simp [fK, fOp, fU, fM, fIsN, fNotN, tB', tNot', tAnd', tOr', vAnd, vOr, vNot, fIf, lNil, lCons, fLst, fTup, fCall, fMk, fB, fSlc, oNo, oSo, fSplit, fLc, iSq, iR1, tYes', zF, zS, fF1, fF3, sSeq, sRet, sIf, sSet, sSetO, sFor, sApp, sPar, sAsg, sRaise, sFld, sFrz, sBad, sTryAs, fN, fRz, tIfx, sPar3, sRaiseB, iZip, iEnu, fMet, fMkd, fMkk, fDict, fSlcL, fSort, fRc, iZipA, iEnuA, iKs, sDrop, sDput, sLput, fDget, fChain, chainK, hLst, look, peek, bo, opt, mkL, mkT, small, fnG, mkG, int2, negC, seqD, hName, hCons, hNil, hTup, par2, appD, isOw, frz, setF, ptI, isiD, notScr, env0, env0I, selfF, runB, runI, cAbs, cLen, isNone, strD, payD, tryD, noErr, cLenS, itemS, dSub, dLt, dLe, dGt, dGe, notB, isO, zipD, zipL, par3, rzD, rcD, zipA, seqB, enuA, keysD, dgetR, dlookD, isOwD, cMax, cTup, Res.bind_ok, Res.bind_err, Res.bind_bad, seq_nx, seq_rt, seq_err, bnd_ok, bnd_err, loop_nx, loop_rt, for_nil, for_cons, int_i, n1, n2, fldT, fldB, e]
theorem neN_eq {d : D} {q : Rat} (h : Nu d q) : neN G_Ratio___eq__ d (.int 0) = .ok (.bl (decide (q ≠ 0))) := by
  rcases h with rfl | ⟨i, rfl, rfl⟩
  · have e : neN G_Ratio___eq__ (rt q) (.int 0) = (G_Ratio___eq__ [rt q, .int 0]) >>= notB := rfl
    rw [e, req_eq]
    show Res.ok (D.bl (!decide (q = 0))) = _
    simp
  · have e : neN G_Ratio___eq__ (.int i) (.int 0) = opt (neD (.int i) (.int 0)) := rfl
    rw [e, ne_ii]
    show Res.ok (D.bl (!decide (i = 0))) = _
    simp
def gO (nE : D → D → Res D) (Gp : List D → Res D) : Env → RS := sIf (tB' (fN nE (fN dgetR (peek 0) (look 2)) (fK (.int 0)))) (sDput 1 (look 2) (fCall 1 Gp (lCons (fN dgetR (peek 0) (look 2)) lNil))) .nx
theorem stepO_no (nE : D → D → Res D) (Gp : List D → Res D) (td k c : D) (fo : Option B) (h0 : dgetR td k = .ok c) (h1 : nE c (.int 0) = .ok (.bl false)) : gO nE Gp [some (.sh td), fo, some (.sh k)] = .nx [some (.sh td), fo, some (.sh k)] := by
  unfold gO
  simp only [sIf, tB', fN, fK, peek, look, List.getElem?_cons_zero, List.getElem?_cons_succ, Res.bind_ok, h0, h1, bo, bnd_ok, Bool.false_eq_true, if_false]
theorem stepO_yes (nE : D → D → Res D) (Gp : List D → Res D) (td k c y : D) (ks : List (List Key)) (xs : List D) (kk : List Key) (h0 : dgetR td k = .ok c) (h1 : nE c (.int 0) = .ok (.bl true)) (h2 : Gp [c] = .ok y) (hk : keyT k = some kk) (hs : small (ks.length + 1) = true) :
    gO nE Gp [some (.sh td), some (.ow (.dT ks xs)), some (.sh k)] = .nx [some (.sh td), some (.ow (.dT (putKs ks kk) (putXs ks xs kk y))), some (.sh k)] := by
  have e : putE 1 [some (.sh td), some (.ow (.dT ks xs)), some (.sh k)] k y = .nx [some (.sh td), some (.ow (.dT (putKs ks kk) (putXs ks xs kk y))), some (.sh k)] := by
    show (match keyT k with
      | some k => if small (ks.length + 1) = true then RS.nx _ else .bad
      | none => .bad) = _
    rw [hk]
    show (if small (ks.length + 1) = true then RS.nx _ else RS.bad) = _
    rw [if_pos hs]
    rfl
  have e2 : isOwD 1 [some (.sh td), some (.ow (.dT ks xs)), some (.sh k)] = .ok () := rfl
  unfold gO
  simp only [sIf, tB', fN, fK, peek, look, List.getElem?_cons_zero, List.getElem?_cons_succ, Res.bind_ok, h0, h1, bo, bnd_ok, if_true, sDput, fCall, lCons, lNil, fnG, List.length_cons, List.length_nil, h2, e2, e]
/-! ### the loop of one_form -/
theorem putT_new {α : Type} {p : List Nat} {d : α} : ∀ {l : List (List Nat × α)}, p ∉ l.map (·.1) → putT l p d = l ++ [(p, d)]
  | [], _ => rfl
  | t :: r, h => by
    have h1 : ¬ t.1 = p := fun e => h (by rw [← e]; exact List.mem_cons_self)
    unfold putT
    rw [if_neg h1, putT_new fun m => h (List.mem_cons_of_mem _ m)]
    rfl
/-- terms with what stands for the numbers -/
abbrev TN := List (List Nat × (D × Rat))
abbrev toT (ts : TN) : List (List Nat × Rat) := ts.map fun t => (t.1, t.2.2)
abbrev nzT (ts : List (List Nat × Rat)) : List (List Nat × Rat) := ts.filter fun t => decide (t.2 ≠ 0)
abbrev dn (ts : TN) : D := dk Prod.fst ts
theorem loopO {ts : TN} (hn : (ts.map (·.1)).Nodup) (hv : ∀ t ∈ ts, Nu t.2.1 t.2.2) : ∀ (us : TN) (acc : List (List Nat × Rat)) (v2 : Option B), (∀ u ∈ us, u ∈ ts) → (us.map (·.1)).Nodup → (∀ u ∈ us, u.1 ∉ acc.map (·.1)) → (acc.map (·.1)).Nodup → acc.length + us.length ≤ 1000 →
    ∃ w2, forD (hName 2) (gO (neN G_Ratio___eq__) G_plain) (us.map fun t => kT t.1) [some (.sh (dn ts)), some (.ow (dk pl acc)), v2] = .nx [some (.sh (dn ts)), some (.ow (dk pl (acc ++ nzT (toT us)))), w2]
  | [], acc, v2, _, _, _, _, _ => ⟨v2, by
    show RS.nx _ = RS.nx _
    simp⟩
  | u :: us, acc, v2, hu, hnu, hd, ha, hl => by
    have hin := hu u List.mem_cons_self
    have h0 : dgetR (dn ts) (kT u.1) = .ok u.2.1 := dget_at Prod.fst hn hin
    have hq := hv u hin
    have h1 := neN_eq hq
    rw [List.map_cons, List.nodup_cons] at hnu
    rw [List.length_cons] at hl
    rw [List.map_cons, for_cons]
    show ∃ w2, loopK (gO (neN G_Ratio___eq__) G_plain [some (.sh (dn ts)), some (.ow (dk pl acc)), some (.sh (kT u.1))]) _ = _
    by_cases hz : u.2.2 = 0
    · have e0 : decide (u.2.2 ≠ 0) = false := by simp [hz]
      rw [e0] at h1
      rw [stepO_no _ _ _ _ _ _ h0 h1, loop_nx]
      obtain ⟨w2, e⟩ := loopO hn hv us acc (some (.sh (kT u.1))) (fun x hx => hu x (List.mem_cons_of_mem _ hx)) hnu.2 (fun x hx => hd x (List.mem_cons_of_mem _ hx)) ha (by omega)
      refine ⟨w2, ?_⟩
      have e2 : nzT (toT (u :: us)) = nzT (toT us) := by
        show ((u.1, u.2.2) :: toT us).filter _ = _
        rw [List.filter_cons, if_neg (by simp [hz])]
      rw [e, e2]
    · have e0 : decide (u.2.2 ≠ 0) = true := by simp [hz]
      rw [e0] at h1
      have hnew : u.1 ∉ acc.map (·.1) := hd u List.mem_cons_self
      obtain ⟨p1, p2⟩ := put_eq pl (p := u.1) (d := u.2.2) ha
      rw [stepO_yes _ _ _ _ _ (pl u.2.2) (acc.map fun t => kN t.1) (acc.map fun t => pl t.2) (kN u.1) h0 h1 (plain_eq hq) (keyT_eq u.1) (by
        rw [List.length_map]
        exact decide_eq_true (by omega)), loop_nx, p1, p2, putT_new hnew]
      obtain ⟨w2, e⟩ := loopO hn hv us (acc ++ [(u.1, u.2.2)]) (some (.sh (kT u.1))) (fun x hx => hu x (List.mem_cons_of_mem _ hx)) hnu.2 (fun x hx => by
          rw [List.map_append]
          intro hm
          rcases List.mem_append.mp hm with hm | hm
          · exact hd x (List.mem_cons_of_mem _ hx) hm
          · have hxe : x.1 = u.1 := by simpa using hm
            exact hnu.1 (List.mem_map.mpr ⟨x, hx, hxe⟩)) (by
          rw [List.map_append]
          refine List.nodup_append.mpr ⟨ha, by simp, ?_⟩
          intro a ha1 b hb1 he
          have hb2 : b = u.1 := by simpa using hb1
          rw [he, hb2] at ha1
          exact hnew ha1) (by simp; omega)
      refine ⟨w2, ?_⟩
      have e2 : nzT (toT (u :: us)) = (u.1, u.2.2) :: nzT (toT us) := by
        show ((u.1, u.2.2) :: toT us).filter _ = _
        rw [List.filter_cons, if_pos (by simp [hz])]
      have e3 : acc ++ (u.1, u.2.2) :: nzT (toT us) = acc ++ [(u.1, u.2.2)] ++ nzT (toT us) := by simp
      rw [e2, e3]
      exact e
theorem runOf (f0 : Env → RS) (td : D) (ks : List (List Key)) (xs : List D) (w2 : Option B) (h : f0 [some (.sh td), some (.ow (.dT [] [])), none] = .nx [some (.sh td), some (.ow (.dT ks xs)), w2]) :
    runB (sSeq (sSetO 1 (fK (.dT [] []))) (sSeq f0 (sFrz 1 (sRet (look 1))))) 3 [td] = .ok (.dT ks xs) := by
  simp [fK, fOp, fU, fM, fIsN, fNotN, tB', tNot', tAnd', tOr', vAnd, vOr, vNot, fIf, lNil, lCons, fLst, fTup, fCall, fMk, fB, fSlc, oNo, oSo, fSplit, fLc, iSq, iR1, tYes', zF, zS, fF1, fF3, sSeq, sRet, sIf, sSet, sSetO, sFor, sApp, sPar, sAsg, sRaise, sFld, sFrz, sBad, sTryAs, fN, fRz, tIfx, sPar3, sRaiseB, iZip, iEnu, fMet, fMkd, fMkk, fDict, fSlcL, fSort, fRc, iZipA, iEnuA, iKs, sDrop, sDput, sLput, fDget, fChain, chainK, hLst, look, peek, bo, opt, mkL, mkT, small, fnG, mkG, int2, negC, seqD, hName, hCons, hNil, hTup, par2, appD, isOw, frz, setF, ptI, isiD, notScr, env0, env0I, selfF, runB, runI, cAbs, cLen, isNone, strD, payD, tryD, noErr, cLenS, itemS, dSub, dLt, dLe, dGt, dGe, notB, isO, zipD, zipL, par3, rzD, rcD, zipA, seqB, enuA, keysD, dgetR, dlookD, isOwD, cMax, cTup, Res.bind_ok, Res.bind_err, Res.bind_bad, seq_nx, seq_rt, seq_err, bnd_ok, bnd_err, loop_nx, loop_rt, for_nil, for_cons, int_i, h]
/-- the order of one_form -/
def leT (a b : List Nat × (D × Rat)) : Bool := PySem.W.dataLe true encT (kN a.1) (kN b.1)
def srT (ts : TN) : TN := ts.mergeSort leT
theorem srT_perm (ts : TN) : (srT ts).Perm ts := List.mergeSort_perm _ _
def oneF (ts : TN) : List (List Nat × Rat) := nzT (toT (srT ts))
theorem oneF_perm (ts : TN) : (oneF ts).Perm (nzT (toT ts)) := List.Perm.filter _ ((srT_perm ts).map _)
theorem ok_sort (ts : TN) (hne : ts.length < 2 ∨ ∀ t ∈ ts, t.1 ≠ []) : okSort (ts.map fun t => kN t.1) = true := by
  unfold okSort
  rw [Bool.and_eq_true]
  constructor
  · rw [List.all_eq_true]
    intro k hk
    obtain ⟨t, _, rfl⟩ := List.mem_map.mp hk
    rw [List.all_eq_true]
    intro x hx
    obtain ⟨n, _, rfl⟩ := List.mem_map.mp hx
    rfl
  · rw [Bool.or_eq_true]
    rcases hne with h | h
    · left
      rw [List.length_map]
      exact decide_eq_true h
    · right
      rw [List.all_eq_true]
      intro k hk
      obtain ⟨t, ht, rfl⟩ := List.mem_map.mp hk
      have := h t ht
      cases hc : t.1 with
      | nil => exact absurd hc this
      | cons a r => rfl
theorem sort_eq (ts : TN) (hne : ts.length < 2 ∨ ∀ t ∈ ts, t.1 ≠ []) : cSortT (dn ts) (.bl true) = some (.lst ((srT ts).map fun t => kT t.1)) := by
  show (if okSort (ts.map fun t => kN t.1) = true then some (D.lst (((ts.map fun t => kN t.1).mergeSort (PySem.W.dataLe true encT)).map ktD)) else none) = _
  rw [if_pos (ok_sort ts hne)]
  have e : (srT ts).map (fun t => kN t.1) = (ts.map fun t => kN t.1).mergeSort (PySem.W.dataLe true encT) := List.map_mergeSort fun a _ b _ => rfl
  rw [← e, List.map_map]
  congr 2
  apply List.map_congr_left
  intro t _
  exact kt_eq t.1
theorem fo0_eq (ts : TN) (hne : ts.length < 2 ∨ ∀ t ∈ ts, t.1 ≠ []) (v1 v2 : Option B) : fr_one_form_0 [some (.sh (dn ts)), v1, v2] = forD (hName 2) (gO (neN G_Ratio___eq__) G_plain) ((srT ts).map fun t => kT t.1) [some (.sh (dn ts)), v1, v2] := by
  have e := sort_eq ts hne
  unfold fr_one_form_0 gO
  simp only [sFor, iSq, fSort, peek, fK, List.getElem?_cons_zero, List.getElem?_cons_succ, Res.bind_ok, e, opt, seqD, bnd_ok]
theorem one_form_eq {ts : TN} (hn : (ts.map (·.1)).Nodup) (hv : ∀ t ∈ ts, Nu t.2.1 t.2.2) (hl : ts.length ≤ 1000) (hne : ts.length < 2 ∨ ∀ t ∈ ts, t.1 ≠ []) : G_one_form [dn ts] = .ok (dk pl (oneF ts)) := by
  have hp := srT_perm ts
  obtain ⟨w2, e⟩ := loopO hn hv (srT ts) [] none (fun u hu => hp.mem_iff.mp hu) ((hp.map _).nodup_iff.mpr hn) (fun _ _ h => by simp at h) List.nodup_nil (by rw [hp.length_eq]; simpa using hl)
  exact runOf fr_one_form_0 (dn ts) _ _ w2 ((fo0_eq ts hne _ _).trans e)
end DL.K44
namespace DL.K44
open PySem L2
/-! ### comprehensions -/
theorem lc_fm {α : Type} {h : D → Env → Option Env} {gt : Env → Res Bool} {fe : Env → Res D} {ρ : Env} (f : α → D) (k : α → Env) (b : α → Bool) (y : α → D) : ∀ (us : List α), (∀ u ∈ us, h (f u) ρ = some (k u) ∧ gt (k u) = .ok (b u) ∧ (b u = true → fe (k u) = .ok (y u))) →
    lcD h gt fe ρ (us.map f) = .ok ((us.filter b).map y)
  | [], _ => rfl
  | u :: us, hu => by
    obtain ⟨h1, h2, h3⟩ := hu u List.mem_cons_self
    have ih := lc_fm f k b y us fun x hx => hu x (List.mem_cons_of_mem _ hx)
    rw [List.map_cons]
    unfold lcD
    rw [h1]
    show (noErr (gt (k u)) >>= _) = _
    rw [h2]
    show (if b u = true then _ else _) = _
    by_cases hb : b u = true
    · rw [if_pos hb, h3 hb, List.filter_cons, if_pos hb]
      show (lcD h gt fe ρ (us.map f) >>= _) = _
      rw [ih]
      rfl
    · rw [if_neg hb, List.filter_cons, if_neg hb]
      exact ih
theorem lc_m {α : Type} {h : D → Env → Option Env} {fe : Env → Res D} {ρ : Env} (f : α → D) (k : α → Env) (y : α → D) (us : List α) (hu : ∀ u ∈ us, h (f u) ρ = some (k u) ∧ fe (k u) = .ok (y u)) : lcD h tYes' fe ρ (us.map f) = .ok (us.map y) := by
  have := lc_fm (h := h) (gt := tYes') (fe := fe) (ρ := ρ) f k (fun _ => true) y us fun u m => ⟨(hu u m).1, rfl, fun _ => (hu u m).2⟩
  rw [List.filter_eq_self.mpr (fun _ _ => rfl)] at this
  exact this
theorem mkL_ok {xs : List D} (h : xs.length ≤ 100000) : mkL xs = .ok (.lst xs) := if_pos (decide_eq_true (by omega))
/-! ### is_powers -/
def gIp (f0 : Env → Res D) : Env → RS := sSeq (sIf (tOr' (tNot' (tB' (fM (isiD ib_tuple) (peek 0)))) (tB' (fOp neD (fB cLen (lCons (peek 0) lNil)) (peek 1)))) (sRet (fK (.bl false))) .nx) (sRet (fB cAll (lCons f0 lNil)))
theorem runIp (f0 : Env → Res D) (ps : List D) (xs : List D) (h : f0 [some (.sh (.tup ps)), some (.sh (.int (ps.length : Nat))), none] = .ok (.lst xs)) (ha : cAll [.lst xs] = some (.bl true)) : runB (gIp f0) 3 [.tup ps, .int (ps.length : Nat)] = .ok (.bl true) := by
  have e : neD (.int (ps.length : Nat)) (.int (ps.length : Nat)) = some (.bl false) := by
    rw [ne_ii]
    simp
  have e1 : isiD ib_tuple (.tup ps) = .ok (.bl true) := rfl
  have e2 : cLen [.tup ps] = some (.int (ps.length : Nat)) := rfl
  have e0 : env0 3 [.tup ps, .int (ps.length : Nat)] = [some (.sh (.tup ps)), some (.sh (.int (ps.length : Nat))), none] := rfl
  unfold runB gIp
  rw [e0]
  simp only [sSeq, sIf, tOr', tNot', tB', fM, peek, fOp, fB, lCons, lNil, List.getElem?_cons_zero, List.getElem?_cons_succ, Res.bind_ok, e1, e2, e, opt, bo, bnd_ok, Bool.not_true, Bool.false_eq_true, if_false, seq_nx, sRet, h, ha]
theorem lc_ip (p : List Nat) (l : D) (hp : p.length ≤ 1000) : lc_is_powers_0 [some (.sh (kT p)), some (.sh l), none] = .ok (.lst (p.map fun _ => .bl true)) := by
  have e := lc_m (h := hName 2) (fe := vAnd (fCall 1 G_is_integer (lCons (look 2) lNil)) (fOp dGe (peek 2) (fK (.int 0)))) (ρ := [some (.sh (kT p)), some (.sh l), none]) pI (fun n => [some (.sh (kT p)), some (.sh l), some (.sh (pI n))]) (fun _ => .bl true) p fun n _ => by
    refine ⟨rfl, ?_⟩
    have e1 : G_is_integer [pI n] = .ok (.bl true) := rfl
    have e2 : dGe (pI n) (.int 0) = some (.bl true) := by
      show some (D.bl (decide ((0 : Int) ≤ ((n : Nat) : Int)))) = _
      rw [decide_eq_true (by omega)]
    simp only [vAnd, fCall, lCons, lNil, look, peek, fOp, fK, List.getElem?_cons_zero, List.getElem?_cons_succ, Res.bind_ok, fnG, List.length_cons, List.length_nil, if_true, e1, bo, e2, opt]
  unfold lc_is_powers_0
  simp only [fLc, iSq, look, List.getElem?_cons_zero, Res.bind_ok, seqD, wipeE, List.set_cons_succ, List.set_cons_zero]
  rw [e, Res.bind_ok]
  exact mkL_ok (by rw [List.length_map]; omega)
theorem bls_true {α : Type} : ∀ l : List α, bls (l.map fun _ => D.bl true) = some (l.map fun _ => true)
  | [] => rfl
  | a :: l => by
    have ih := bls_true l
    rw [List.map_cons]
    unfold bls
    rw [ih]
    rfl
theorem all_true {α : Type} (l : List α) : cAll [.lst (l.map fun _ => D.bl true)] = some (.bl true) := by
  show (bls (l.map fun _ => D.bl true)).map (fun bs => D.bl (bs.all id)) = _
  rw [bls_true]
  simp
theorem is_powers_eq (p : List Nat) (hp : p.length ≤ 1000) : G_is_powers [kT p, .int (p.length : Nat)] = .ok (.bl true) := by
  have e := runIp lc_is_powers_0 (p.map pI) (p.map fun _ => .bl true) (by rw [List.length_map]; exact lc_ip p _ hp) (all_true p)
  rw [List.length_map] at e
  exact e
/-! ### Poly -/
def gPi (Gc G1 : List D → Res D) (f0 : Env → RS) : Env → RS := sSeq (sFld nmv "fields" 0 (fB cTup (lCons (peek 1) lNil))) (sSeq (sDrop (fCall 1 Gc (lCons (fU (fldD nmv "fields") (peek 0)) lNil))) (sSeq f0 (sFld nmv "parts" 0 (fCall 1 G1 (lCons (look 2) lNil)))))
theorem runPi (Gc G1 : List D → Res D) (f0 : Env → RS) (fd fs td od : D) (w : Option B) (h0 : cTup [fd] = some fs) (h1 : Gc [fs] = .ok .non) (h2 : f0 [some (.ow (.obj 1 [fs])), some (.sh fd), some (.sh td), none] = .nx [some (.ow (.obj 1 [fs])), some (.sh fd), some (.sh td), w]) (h3 : G1 [td] = .ok od) :
    runI 1 (gPi Gc G1 f0) 4 [fd, td] = .ok [fs, od] := by
  have s1 : ∀ (a b c : Option B), setF nmv "fields" [some (.ow (.obj 1 [])), a, b, c] 0 fs = .nx [some (.ow (.obj 1 [fs])), a, b, c] := fun a b c => rfl
  have s2 : ∀ (a b c : Option B), setF nmv "parts" [some (.ow (.obj 1 [fs])), a, b, c] 0 od = .nx [some (.ow (.obj 1 [fs, od])), a, b, c] := fun a b c => rfl
  have s3 : fldD nmv "fields" (.obj 1 [fs]) = some fs := rfl
  have e0 : env0I 1 4 [fd, td] = [some (.ow (.obj 1 [])), some (.sh fd), some (.sh td), none] := rfl
  unfold runI gPi
  rw [e0]
  simp only [sSeq, sFld, fB, lCons, lNil, peek, look, List.getElem?_cons_zero, List.getElem?_cons_succ, Res.bind_ok, h0, opt, bnd_ok, s1, seq_nx, sDrop, fCall, fU, s3, fnG, List.length_cons, List.length_nil, if_true, h1, h2, h3, s2, selfF]
def gPk (Gp : List D → Res D) : Env → RS := sIf (tNot' (tB' (fCall 2 Gp (lCons (look 3) (lCons (fB cLen (lCons (fU (fldD nmv "fields") (peek 0)) lNil)) lNil))))) sBad .nx
theorem stepPk (Gp : List D → Res D) (fs k l : D) (a b : Option B) (h0 : cLen [fs] = some l) (h1 : Gp [k, l] = .ok (.bl true)) : gPk Gp [some (.ow (.obj 1 [fs])), a, b, some (.sh k)] = .nx [some (.ow (.obj 1 [fs])), a, b, some (.sh k)] := by
  have s3 : fldD nmv "fields" (.obj 1 [fs]) = some fs := rfl
  unfold gPk
  simp only [sIf, tNot', tB', fCall, lCons, lNil, look, peek, fB, fU, List.getElem?_cons_zero, List.getElem?_cons_succ, Res.bind_ok, s3, opt, h0, fnG, List.length_cons, List.length_nil, if_true, h1, bo, bnd_ok, Bool.not_true, Bool.false_eq_true, if_false]
theorem loopPk (fsl : List D) (a b : Option B) : ∀ (us : List (List Nat)) (w : Option B), (∀ p ∈ us, p.length = fsl.length) → fsl.length ≤ 1000 →
    ∃ w', forD (hName 3) (gPk G_is_powers) (us.map kT) [some (.ow (.obj 1 [.tup fsl])), a, b, w] = .nx [some (.ow (.obj 1 [.tup fsl])), a, b, w']
  | [], w, _, _ => ⟨w, rfl⟩
  | p :: us, w, h, hl => by
    obtain ⟨w', e⟩ := loopPk fsl a b us (some (.sh (kT p))) (fun x hx => h x (List.mem_cons_of_mem _ hx)) hl
    refine ⟨w', ?_⟩
    have hp := h p List.mem_cons_self
    have e1 := is_powers_eq p (by omega)
    rw [hp] at e1
    rw [List.map_cons, for_cons]
    show loopK (gPk G_is_powers [some (.ow (.obj 1 [.tup fsl])), a, b, some (.sh (kT p))]) _ = _
    rw [stepPk G_is_powers (.tup fsl) (kT p) (.int (fsl.length : Nat)) a b rfl e1, loop_nx]
    exact e
theorem keysD_eq {α : Type} (f : α → D) (ts : List (List Nat × α)) : keysD (dk f ts) = .ok ((ts.map (·.1)).map kT) := by
  show Res.ok ((ts.map fun t => kN t.1).map ktD) = _
  rw [List.map_map, List.map_map]
  congr 1
  apply List.map_congr_left
  intro t _
  exact kt_eq t.1
theorem fpk_eq {α : Type} (o td : Option B) (f : α → D) (ts : List (List Nat × α)) : fr_Poly___init___0 [o, td, some (.sh (dk f ts)), none] = forD (hName 3) (gPk G_is_powers) ((ts.map (·.1)).map kT) [o, td, some (.sh (dk f ts)), none] := by
  have e := keysD_eq f ts
  unfold fr_Poly___init___0 gPk
  simp only [sFor, iKs, look, List.getElem?_cons_zero, List.getElem?_cons_succ, Res.bind_ok, e, bnd_ok]
theorem ne_of_len {n : Nat} {ts : TN} (hn : (ts.map (·.1)).Nodup) (hl : ∀ t ∈ ts, t.1.length = n) : ts.length < 2 ∨ ∀ t ∈ ts, t.1 ≠ [] := by
  by_cases h0 : n = 0
  · left
    match ts with
    | [] => exact Nat.zero_lt_two
    | [_] => exact Nat.lt_succ_self 1
    | a :: b :: r =>
      have ha := hl a (by simp)
      have hb := hl b (by simp)
      rw [h0] at ha hb
      have ha := List.eq_nil_of_length_eq_zero ha
      have hb := List.eq_nil_of_length_eq_zero hb
      simp [ha, hb] at hn
  · right
    intro t ht e
    have := hl t ht
    rw [e] at this
    exact h0 this.symm
theorem poly_eq {fd : D} {fsl : List D} {ts : TN} (h0 : cTup [fd] = some (.tup fsl)) (h1 : G_check_fields [.tup fsl] = .ok .non) (hf : fsl.length ≤ 1000) (hn : (ts.map (·.1)).Nodup) (hv : ∀ t ∈ ts, Nu t.2.1 t.2.2) (hl : ts.length ≤ 1000) (hk : ∀ t ∈ ts, t.1.length = fsl.length) :
    G_Poly___init__ [fd, dn ts] = .ok [.tup fsl, dk pl (oneF ts)] := by
  obtain ⟨w', e⟩ := loopPk fsl (some (.sh fd)) (some (.sh (dn ts))) (ts.map (·.1)) none (fun p hp => by
    obtain ⟨t, ht, rfl⟩ := List.mem_map.mp hp
    exact hk t ht) hf
  exact runPi G_check_fields G_one_form fr_Poly___init___0 fd (.tup fsl) (dn ts) (dk pl (oneF ts)) w' h0 h1 ((fpk_eq _ _ _ _).trans e) (one_form_eq hn hv hl (ne_of_len hn hk))
end DL.K44
namespace DL.K44
open PySem L2
/-! ### numbers handed to the package -/
def mkN (b : Bool) (q : Rat) : D := if b = true then pl q else rt q
theorem mkN_nu (b : Bool) (q : Rat) : Nu (mkN b q) q := by
  unfold mkN
  split
  · exact pl_nu q
  · exact .inl rfl
def gMd (Gl : List D → Res D) (Gi : List D → Res (List D)) : Env → RS := sSeq (sAsg (fCall 1 Gl (lCons (look 0) lNil)) (hTup fun ds ρ => if ds.length = 2 then (hCons (hName 2) (hCons (hName 3) hNil)) ds ρ else none)) (sRet (fIf (tAnd' (tB' (fOp eqD (peek 3) (fK (.int 1)))) (tB' (look 1))) (look 2) (fMk 0 2 Gi (lCons (look 2) (lCons (look 3) lNil)))))
theorem runMd (Gl : List D → Res D) (Gi : List D → Res (List D)) (d t b : D) (k c : Bool) (xs : List D) (h0 : Gl [d] = .ok (.tup [t, b])) (h1 : eqD b (.int 1) = some (.bl k)) (h2 : Gi [t, b] = .ok xs) : runB (gMd Gl Gi) 4 [d, .bl c] = .ok (if (k && c) = true then t else .obj 0 xs) := by
  unfold gMd
  cases k <;> cases c <;> simp [fK, fOp, fU, fM, fIsN, fNotN, tB', tNot', tAnd', tOr', vAnd, vOr, vNot, fIf, lNil, lCons, fLst, fTup, fCall, fMk, fB, fSlc, oNo, oSo, fSplit, fLc, iSq, iR1, tYes', zF, zS, fF1, fF3, sSeq, sRet, sIf, sSet, sSetO, sFor, sApp, sPar, sAsg, sRaise, sFld, sFrz, sBad, sTryAs, fN, fRz, tIfx, sPar3, sRaiseB, iZip, iEnu, fMet, fMkd, fMkk, fDict, fSlcL, fSort, fRc, iZipA, iEnuA, iKs, sDrop, sDput, sLput, fDget, fChain, chainK, hLst, look, peek, bo, opt, mkL, mkT, small, fnG, mkG, int2, negC, seqD, hName, hCons, hNil, hTup, par2, appD, isOw, frz, setF, ptI, isiD, notScr, env0, env0I, selfF, runB, runI, cAbs, cLen, isNone, strD, payD, tryD, noErr, cLenS, itemS, dSub, dLt, dLe, dGt, dGe, notB, isO, zipD, zipL, par3, rzD, rcD, zipA, seqB, enuA, keysD, dgetR, dlookD, isOwD, cMax, cTup, Res.bind_ok, Res.bind_err, Res.bind_bad, seq_nx, seq_rt, seq_err, bnd_ok, bnd_err, loop_nx, loop_rt, for_nil, for_cons, int_i, h0, h1, h2]
theorem made_eq {a : Int} {d : Nat} (b : Bool) (hd : 0 < d) (hb : d < big) : G__law_made [pr a d, .bl b] = .ok (mkN b (mkRat a d)) := by
  have hl := low_eq a d hd hb
  generalize hq : mkRat a d = q at *
  have hle : q.den ≤ d := by
    rw [← hq]
    exact Nat.le_of_dvd hd (mk_le a (by omega)).2
  have hi := init_eq q.num q.den q.den_pos (by omega)
  rw [Rat.mkRat_self] at hi
  have e := runMd G__law_low G_Ratio___init__ (pr a d) (.int q.num) (.int (q.den : Nat)) (decide ((q.den : Int) = 1)) b [.int q.num, .int (q.den : Nat)] hl (eq_ii _ _) hi
  refine Eq.trans e ?_
  congr 1
  unfold mkN pl
  cases b with
  | false => simp
  | true =>
    by_cases h : q.den = 1
    · rw [if_pos (by simp [h]), if_pos rfl, if_pos h]
    · rw [if_neg (by simp; omega), if_pos rfl, if_neg h]
/-! ### dict(pairs) -/
theorem pairs_eq {α : Type} (f : α → D) : ∀ ts : List (List Nat × α), pairsT (ts.map fun t => .tup [kT t.1, f t.2]) = some (ts.map fun t => (kN t.1, f t.2))
  | [] => rfl
  | t :: ts => by
    rw [List.map_cons]
    unfold pairsT
    rw [keyT_eq, pairs_eq f ts]
    rfl
theorem merge_eq {α : Type} (f : α → D) : ∀ (ts acc : List (List Nat × α)), ((acc ++ ts).map (·.1)).Nodup → mergeD (acc.map (fun t => kN t.1), acc.map fun t => f t.2) (ts.map fun t => (kN t.1, f t.2)) = ((acc ++ ts).map (fun t => kN t.1), (acc ++ ts).map fun t => f t.2)
  | [], acc, _ => by
    rw [List.append_nil]
    rfl
  | t :: ts, acc, h => by
    have h' : ((acc ++ [t] ++ ts).map (·.1)).Nodup := by simpa using h
    have hacc : (acc.map (·.1)).Nodup := by
      rw [List.map_append] at h
      exact (List.nodup_append.mp h).1
    have hnew : t.1 ∉ acc.map (·.1) := by
      rw [List.map_append] at h
      intro hm
      exact (List.nodup_append.mp h).2.2 _ hm t.1 (by simp) rfl
    obtain ⟨p1, p2⟩ := put_eq f (p := t.1) (d := t.2) hacc
    have ih := merge_eq f ts (acc ++ [t]) h'
    rw [List.append_assoc, List.singleton_append] at ih
    rw [← ih]
    unfold mergeD
    rw [List.map_cons, List.foldl_cons]
    show List.foldl _ (putKs (acc.map fun t => kN t.1) (kN t.1), putXs (acc.map fun t => kN t.1) (acc.map fun t => f t.2) (kN t.1) (f t.2)) _ = _
    rw [p1, p2, putT_new hnew]
theorem dict_eq {α : Type} (f : α → D) (ts : List (List Nat × α)) (hn : (ts.map (·.1)).Nodup) (hl : ts.length ≤ 1000) : cDictT [.lst (ts.map fun t => .tup [kT t.1, f t.2])] = some (dk f ts) := by
  have e := merge_eq f ts [] (by simpa using hn)
  show (if small (ts.map fun t => D.tup [kT t.1, f t.2]).length = true then (pairsT (ts.map fun t => D.tup [kT t.1, f t.2])).map (fun l => D.dT (mergeD ([], []) l).1 (mergeD ([], []) l).2) else none) = _
  rw [if_pos (show small (ts.map fun t => D.tup [kT t.1, f t.2]).length = true from decide_eq_true (by rw [List.length_map]; omega)), pairs_eq]
  show some (D.dT (mergeD ([], []) _).1 (mergeD ([], []) _).2) = _
  have e' : mergeD ([], []) (ts.map fun t => (kN t.1, f t.2)) = (ts.map (fun t => kN t.1), ts.map fun t => f t.2) := e
  rw [e']
/-! ### handed -/
theorem keysT {α : Type} (f : α → D) (ts : List (List Nat × α)) : keysD (dk f ts) = .ok (ts.map fun t => kT t.1) := by
  rw [keysD_eq, List.map_map]
  rfl
theorem lc_ha (b : Bool) (ts : List (List Nat × Rat)) (hn : (ts.map (·.1)).Nodup) (hd : ∀ t ∈ ts, t.2.den < big) (hl : ts.length ≤ 1000) : lc__law_handed_0 [some (.sh (dk fr ts)), some (.sh (.bl b)), none] = .ok (.lst (ts.map fun t => .tup [kT t.1, mkN b t.2])) := by
  have e := lc_m (h := hName 2) (fe := fTup (lCons (look 2) (lCons (fCall 2 G__law_made (lCons (fN dgetR (peek 0) (look 2)) (lCons (look 1) lNil))) lNil))) (ρ := [some (.sh (dk fr ts)), some (.sh (.bl b)), none]) (fun t : List Nat × Rat => kT t.1) (fun t => [some (.sh (dk fr ts)), some (.sh (.bl b)), some (.sh (kT t.1))]) (fun t => .tup [kT t.1, mkN b t.2]) ts fun t ht => by
    refine ⟨rfl, ?_⟩
    have e1 := dget_at fr hn ht
    have e2 := made_eq (a := t.2.num) (d := t.2.den) b t.2.den_pos (hd t ht)
    rw [Rat.mkRat_self] at e2
    simp only [fTup, lCons, lNil, look, peek, fN, fCall, List.getElem?_cons_zero, List.getElem?_cons_succ, Res.bind_ok, e1, fnG, List.length_cons, List.length_nil, if_true, e2]
    rfl
  unfold lc__law_handed_0
  simp only [fLc, iKs, look, List.getElem?_cons_zero, Res.bind_ok, keysT, wipeE, List.set_cons_succ, List.set_cons_zero]
  rw [e, Res.bind_ok]
  exact mkL_ok (by rw [List.length_map]; omega)
theorem runH (f0 : Env → Res D) (td b x od : D) (h0 : f0 [some (.sh td), some (.sh b), none] = .ok x) (h1 : cDictT [x] = some od) : runB (sRet (fDict f0)) 3 [td, b] = .ok od := by
  simp [fK, fOp, fU, fM, fIsN, fNotN, tB', tNot', tAnd', tOr', vAnd, vOr, vNot, fIf, lNil, lCons, fLst, fTup, fCall, fMk, fB, fSlc, oNo, oSo, fSplit, fLc, iSq, iR1, tYes', zF, zS, fF1, fF3, sSeq, sRet, sIf, sSet, sSetO, sFor, sApp, sPar, sAsg, sRaise, sFld, sFrz, sBad, sTryAs, fN, fRz, tIfx, sPar3, sRaiseB, iZip, iEnu, fMet, fMkd, fMkk, fDict, fSlcL, fSort, fRc, iZipA, iEnuA, iKs, sDrop, sDput, sLput, fDget, fChain, chainK, hLst, look, peek, bo, opt, mkL, mkT, small, fnG, mkG, int2, negC, seqD, hName, hCons, hNil, hTup, par2, appD, isOw, frz, setF, ptI, isiD, notScr, env0, env0I, selfF, runB, runI, cAbs, cLen, isNone, strD, payD, tryD, noErr, cLenS, itemS, dSub, dLt, dLe, dGt, dGe, notB, isO, zipD, zipL, par3, rzD, rcD, zipA, seqB, enuA, keysD, dgetR, dlookD, isOwD, cMax, cTup, Res.bind_ok, Res.bind_err, Res.bind_bad, seq_nx, seq_rt, seq_err, bnd_ok, bnd_err, loop_nx, loop_rt, for_nil, for_cons, int_i, h0, h1]
abbrev hand (b : Bool) (ts : List (List Nat × Rat)) : TN := ts.map fun t => (t.1, (mkN b t.2, t.2))
theorem hand_keys (b : Bool) (ts : List (List Nat × Rat)) : (hand b ts).map (·.1) = ts.map (·.1) := by
  rw [List.map_map]
  rfl
theorem hand_toT (b : Bool) (ts : List (List Nat × Rat)) : toT (hand b ts) = ts := by
  show (ts.map fun t => (t.1, (mkN b t.2, t.2))).map (fun t => (t.1, t.2.2)) = ts
  rw [List.map_map]
  exact List.map_id'' (fun _ => rfl) ts
theorem handed_eq (b : Bool) {ts : List (List Nat × Rat)} (hn : (ts.map (·.1)).Nodup) (hd : ∀ t ∈ ts, t.2.den < big) (hl : ts.length ≤ 1000) : G__law_handed [dk fr ts, .bl b] = .ok (dn (hand b ts)) := by
  have e := dict_eq (mkN b) ts hn hl
  have e2 : dk (mkN b) ts = dn (hand b ts) := by
    unfold hand
    show D.dT _ _ = D.dT _ _
    rw [List.map_map, List.map_map]
    rfl
  rw [e2] at e
  exact runH lc__law_handed_0 _ _ _ _ (lc_ha b ts hn hd hl) e
/-! ### kept -/
theorem num0 (q : Rat) : q.num = 0 ↔ q = 0 := ⟨fun h => by rw [← Rat.mkRat_self q, h]; simp, fun h => by rw [h]; rfl⟩
theorem lc_ke (ts : List (List Nat × Rat)) (hn : (ts.map (·.1)).Nodup) (hl : ts.length ≤ 1000) : lc__law_kept_0 [some (.sh (dk fr ts)), none] = .ok (.lst ((nzT ts).map fun t => .tup [kT t.1, fr t.2])) := by
  have e := lc_fm (h := hName 1) (gt := tB' (fOp neD (fOp itemD (fN dgetR (peek 0) (look 1)) (fK (.int 0))) (fK (.int 0)))) (fe := fTup (lCons (look 1) (lCons (fN dgetR (peek 0) (look 1)) lNil))) (ρ := [some (.sh (dk fr ts)), none]) (fun t : List Nat × Rat => kT t.1) (fun t => [some (.sh (dk fr ts)), some (.sh (kT t.1))]) (fun t => decide (t.2 ≠ 0)) (fun t => .tup [kT t.1, fr t.2]) ts fun t ht => by
    have e1 := dget_at fr hn ht
    refine ⟨rfl, ?_, fun _ => ?_⟩
    · have e2 := ne_ii t.2.num 0
      have e3 : (!decide (t.2.num = 0)) = decide (t.2 ≠ 0) := by simp [num0]
      rw [e3] at e2
      simp only [tB', fOp, fN, fK, look, peek, List.getElem?_cons_zero, List.getElem?_cons_succ, Res.bind_ok, e1, it0, opt, e2, bo]
    · simp only [fTup, lCons, lNil, look, peek, fN, List.getElem?_cons_zero, List.getElem?_cons_succ, Res.bind_ok, e1]
      rfl
  unfold lc__law_kept_0
  simp only [fLc, iKs, look, List.getElem?_cons_zero, Res.bind_ok, keysT, wipeE, List.set_cons_succ, List.set_cons_zero]
  rw [e, Res.bind_ok]
  exact mkL_ok (by
    rw [List.length_map]
    have := List.length_filter_le (fun t : List Nat × Rat => decide (t.2 ≠ 0)) ts
    omega)
theorem runKe (f0 : Env → Res D) (td x od : D) (h0 : f0 [some (.sh td), none] = .ok x) (h1 : cDictT [x] = some od) : runB (sRet (fDict f0)) 2 [td] = .ok od := by
  simp [fK, fOp, fU, fM, fIsN, fNotN, tB', tNot', tAnd', tOr', vAnd, vOr, vNot, fIf, lNil, lCons, fLst, fTup, fCall, fMk, fB, fSlc, oNo, oSo, fSplit, fLc, iSq, iR1, tYes', zF, zS, fF1, fF3, sSeq, sRet, sIf, sSet, sSetO, sFor, sApp, sPar, sAsg, sRaise, sFld, sFrz, sBad, sTryAs, fN, fRz, tIfx, sPar3, sRaiseB, iZip, iEnu, fMet, fMkd, fMkk, fDict, fSlcL, fSort, fRc, iZipA, iEnuA, iKs, sDrop, sDput, sLput, fDget, fChain, chainK, hLst, look, peek, bo, opt, mkL, mkT, small, fnG, mkG, int2, negC, seqD, hName, hCons, hNil, hTup, par2, appD, isOw, frz, setF, ptI, isiD, notScr, env0, env0I, selfF, runB, runI, cAbs, cLen, isNone, strD, payD, tryD, noErr, cLenS, itemS, dSub, dLt, dLe, dGt, dGe, notB, isO, zipD, zipL, par3, rzD, rcD, zipA, seqB, enuA, keysD, dgetR, dlookD, isOwD, cMax, cTup, Res.bind_ok, Res.bind_err, Res.bind_bad, seq_nx, seq_rt, seq_err, bnd_ok, bnd_err, loop_nx, loop_rt, for_nil, for_cons, int_i, h0, h1]
theorem nz_nodup {ts : List (List Nat × Rat)} (hn : (ts.map (·.1)).Nodup) : ((nzT ts).map (·.1)).Nodup := List.Nodup.sublist ((List.filter_sublist).map _) hn
theorem kept_eq {ts : List (List Nat × Rat)} (hn : (ts.map (·.1)).Nodup) (hl : ts.length ≤ 1000) : G__law_kept [dk fr ts] = .ok (dk fr (nzT ts)) := by
  have : (nzT ts).length ≤ ts.length := List.length_filter_le (fun t : List Nat × Rat => decide (t.2 ≠ 0)) ts
  exact runKe lc__law_kept_0 _ _ _ (lc_ke ts hn hl) (dict_eq fr (nzT ts) (nz_nodup hn) (by omega))
end DL.K44
namespace DL.K44
open PySem L2
/-! ### multiplied -/
theorem find_key (acc : TN) (p : List Nat) : (p ∉ acc.map (·.1)) ∨ ∃ v, (p, v) ∈ acc := by
  by_cases h : p ∈ acc.map (·.1)
  · right
    obtain ⟨t, ht, rfl⟩ := List.mem_map.mp h
    exact ⟨t.2, ht⟩
  · exact .inl h
theorem val_no {α : Type} (f : α → D) : ∀ {ts : List (List Nat × α)} {p : List Nat}, p ∉ ts.map (·.1) → valD (ts.map fun t => kN t.1) (ts.map fun t => f t.2) (kN p) = none
  | [], p, _ => rfl
  | t :: ts, p, h => by
    have h1 : decide (kN t.1 = kN p) = false := decide_eq_false fun e => h (by rw [← kN_inj e]; exact List.mem_cons_self)
    have ih := val_no f (ts := ts) (p := p) fun m => h (List.mem_cons_of_mem _ m)
    unfold valD at ih ⊢
    rw [List.map_cons, List.map_cons, List.zip_cons_cons, List.find?_cons, h1]
    exact ih
theorem dgetO_no {α : Type} (f : α → D) {ts : List (List Nat × α)} {p : List Nat} (z : D) (h : p ∉ ts.map (·.1)) : dgetO (dk f ts) (kT p) z = .ok z := by
  have e : dlookD (dk f ts) (kT p) = (keyT (kT p)).map (valD (ts.map fun t => kN t.1) (ts.map fun t => f t.2)) := rfl
  unfold dgetO
  rw [e, keyT_eq, Option.map_some, val_no f h]
theorem dgetO_at {α : Type} (f : α → D) {ts : List (List Nat × α)} {p : List Nat} {c : α} (z : D) (hn : (ts.map (·.1)).Nodup) (h : (p, c) ∈ ts) : dgetO (dk f ts) (kT p) z = .ok (f c) := by
  have e : dlookD (dk f ts) (kT p) = (keyT (kT p)).map (valD (ts.map fun t => kN t.1) (ts.map fun t => f t.2)) := rfl
  unfold dgetO
  rw [e, keyT_eq, Option.map_some, val_at f hn h]
theorem put_mem {α : Type} {p : List Nat} {d : α} : ∀ {l : List (List Nat × α)} {t : List Nat × α}, t ∈ putT l p d → t = (p, d) ∨ t ∈ l
  | [], t, h => by
    left
    simpa [putT] using h
  | a :: r, t, h => by
    unfold putT at h
    split at h
    · rcases List.mem_cons.mp h with h | h
      · exact .inl h
      · exact .inr (List.mem_cons_of_mem _ h)
    · rcases List.mem_cons.mp h with h | h
      · exact .inr (by rw [h]; exact List.mem_cons_self)
      · rcases put_mem h with h | h
        · exact .inl h
        · exact .inr (List.mem_cons_of_mem _ h)
theorem put_len {α : Type} {p : List Nat} {d : α} : ∀ (l : List (List Nat × α)), (putT l p d).length ≤ l.length + 1
  | [] => by simp [putT]
  | a :: r => by
    have := put_len (p := p) (d := d) r
    unfold putT
    split
    · simp
    · simp
      omega
theorem put_keys {α : Type} {p : List Nat} {d : α} : ∀ (l : List (List Nat × α)), ∀ k ∈ (putT l p d).map (·.1), k = p ∨ k ∈ l.map (·.1) := fun l k hk => by
  obtain ⟨t, ht, rfl⟩ := List.mem_map.mp hk
  rcases put_mem ht with h | h
  · left
    rw [h]
  · exact .inr (List.mem_map.mpr ⟨t, h, rfl⟩)
theorem put_nodup {α : Type} {p : List Nat} {d : α} : ∀ {l : List (List Nat × α)}, (l.map (·.1)).Nodup → ((putT l p d).map (·.1)).Nodup
  | [], _ => by simp [putT]
  | a :: r, h => by
    rw [List.map_cons, List.nodup_cons] at h
    unfold putT
    split
    · rename_i e
      rw [List.map_cons, List.nodup_cons]
      rw [e] at h
      exact h
    · rename_i e
      rw [List.map_cons, List.nodup_cons]
      refine ⟨fun m => ?_, put_nodup h.2⟩
      rcases put_keys r _ m with q | q
      · exact e q
      · exact h.1 q
theorem put_addT {y : D} {c0 c : Rat} {p : List Nat} : ∀ {acc : TN} {x : D}, (acc.map (·.1)).Nodup → (p, (x, c0)) ∈ acc → toT (putT acc p (y, c0 + c)) = addT (toT acc) p c
  | [], x, _, h => by simp at h
  | a :: r, x, hn, h => by
    rw [List.map_cons, List.nodup_cons] at hn
    unfold putT
    show _ = addT ((a.1, a.2.2) :: toT r) p c
    unfold addT
    split
    · rename_i e
      rcases List.mem_cons.mp h with h | h
      · rw [← h]
        rfl
      · exact absurd (List.mem_map.mpr ⟨_, h, rfl⟩) (by rw [← e] at *; exact hn.1)
    · rename_i e
      rcases List.mem_cons.mp h with h | h
      · exact absurd (by rw [← h]) e
      · rw [← put_addT hn.2 h]
        rfl
theorem put_addN {y : D} {c : Rat} {p : List Nat} : ∀ {acc : TN}, p ∉ acc.map (·.1) → toT (putT acc p (y, c)) = addT (toT acc) p c
  | [], _ => rfl
  | a :: r, h => by
    have h1 : ¬ a.1 = p := fun e => h (by rw [← e]; exact List.mem_cons_self)
    unfold putT
    show _ = addT ((a.1, a.2.2) :: toT r) p c
    unfold addT
    rw [if_neg h1, if_neg h1, ← put_addN (acc := r) (y := y) fun m => h (List.mem_cons_of_mem _ m)]
    rfl
/-- what holds of terms that are summed up -/
structure Acc (n P M k : Nat) (acc : TN) : Prop where
  nd : (acc.map (·.1)).Nodup
  at_ : ∀ t ∈ acc, t.1.length = n ∧ (∀ e ∈ t.1, e ≤ P) ∧ Nu t.2.1 t.2.2 ∧ Sz M k t.2.2
/-- a summand at p -/
theorem Acc.put {n P M k m : Nat} {acc : TN} {p : List Nat} {z : D} {c : Rat} (h : Acc n P M k acc) (hp : p.length = n) (hP : ∀ e ∈ p, e ≤ P) (hz : Nu z c) (hc : Sz m k c) (o : M + m + 1 ≤ lm) (ok : k + k ≤ lk) (hm : m ≤ M + m + 6 * (k + k) + 1) :
    ∃ g y v, dgetO (dn acc) (kT p) (.int 0) = .ok g ∧ nAdd g z = .ok y ∧ y = v.1 ∧ Acc n P (M + m + 6 * (k + k) + 1) k (putT acc p v) ∧ toT (putT acc p v) = addT (toT acc) p c := by
  have om : _ ≤ 400000 := o
  have ok' : _ ≤ 220 := ok
  rcases find_key acc p with h0 | ⟨⟨x, c0⟩, h0⟩
  · obtain ⟨y, e1, e2⟩ := nAdd_eq (x := .int 0) (p := 0) (m := 1) (k := 0) (.inr ⟨0, rfl, rfl⟩) ⟨by decide, Nat.one_dvd _⟩ hz hc ⟨by show 1 + m ≤ 400000; omega, by show 0 + k ≤ 220; omega⟩
    rw [Rat.zero_add] at e2
    refine ⟨.int 0, y, (y, c), dgetO_no Prod.fst _ h0, e1, rfl, ⟨put_nodup h.nd, fun t ht => ?_⟩, put_addN h0⟩
    rcases put_mem ht with rfl | ht
    · exact ⟨hp, hP, e2, hc.mono hm (Nat.le_refl _)⟩
    · obtain ⟨a1, a2, a3, a4⟩ := h.at_ t ht
      exact ⟨a1, a2, a3, a4.mono (by omega) (Nat.le_refl _)⟩
  · obtain ⟨a1, a2, a3, a4⟩ := h.at_ _ h0
    obtain ⟨y, e1, e2⟩ := nAdd_eq a3 a4 hz hc ⟨by show M + m ≤ 400000; omega, ok⟩
    refine ⟨x, y, (y, c0 + c), dgetO_at Prod.fst _ h.nd h0, e1, rfl, ⟨put_nodup h.nd, fun t ht => ?_⟩, put_addT h.nd h0⟩
    rcases put_mem ht with rfl | ht
    · exact ⟨hp, hP, e2, a4.addM hc⟩
    · obtain ⟨a1, a2, a3, a4⟩ := h.at_ t ht
      exact ⟨a1, a2, a3, a4.mono (by omega) (Nat.le_refl _)⟩
end DL.K44
namespace DL.K44
open PySem L2
/-- terms of a polynomial: n powers each, up to P, numbers of some size -/
structure Tms (n P m k : Nat) (ts : List (List Nat × Rat)) : Prop where
  nd : (ts.map (·.1)).Nodup
  at_ : ∀ t ∈ ts, t.1.length = n ∧ (∀ e ∈ t.1, e ≤ P) ∧ Sz m k t.2
/-! ### the polynomial of some terms -/
theorem oneF_tms {n P M k : Nat} {acc : TN} (h : Acc n P M k acc) : Tms n P M k (oneF acc) := by
  have hp := oneF_perm acc
  refine ⟨(hp.map _).nodup_iff.mpr ?_, fun t ht => ?_⟩
  · have : ((toT acc).map (·.1)).Nodup := by
      rw [List.map_map]
      exact h.nd
    exact nz_nodup this
  · have h1 := hp.mem_iff.mp ht
    have h2 := (List.mem_filter.mp h1).1
    obtain ⟨u, hu, rfl⟩ := List.mem_map.mp h2
    obtain ⟨a1, a2, a3, a4⟩ := h.at_ u hu
    exact ⟨a1, a2, a4⟩
theorem oneF_len (acc : TN) : (oneF acc).length ≤ acc.length := by
  rw [(oneF_perm acc).length_eq]
  have := List.length_filter_le (fun t : List Nat × Rat => decide (t.2 ≠ 0)) (toT acc)
  rw [List.length_map] at this
  exact this
theorem beside_eq (fs a b : D) (h : neD fs fs = some (.bl false)) : G_parts_beside [poly fs a, poly fs b] = .ok b := by
  have e0 : env0 2 [poly fs a, poly fs b] = [some (.sh (poly fs a)), some (.sh (poly fs b))] := rfl
  have e1 : isiD ib_c1 (poly fs b) = .ok (.bl true) := rfl
  unfold G_parts_beside runB g_parts_beside
  rw [e0]
  simp only [sSeq, sIf, tNot', tB', fM, fOp, fU, peek, List.getElem?_cons_zero, List.getElem?_cons_succ, Res.bind_ok, e1, bo, bnd_ok, Bool.not_true, Bool.false_eq_true, if_false, seq_nx, fldF, fldP, opt, h, sRet]
end DL.K44
namespace DL.K44
open PySem L2
def gp_g__law_cell : Env → RS := (sSeq (sIf (tB' (fOp dLt (peek 1) (fB cLenS (lCons (peek 0) lNil)))) (sRet (fOp itemS (peek 0) (peek 1))) .nx) (sRet (fK (.int 0))))
theorem gp_g__law_cell_eq : g__law_cell = gp_g__law_cell := rfl
def gb_fr__law_row_0 : Env → RS := (sSeq (sApp 2 (fOp (int2 modC) (fB cInt2 (lCons (peek 0) lNil)) (peek 3))) (sSet 0 (fOp (int2 fdivC) (peek 0) (peek 3))))
theorem gb_fr__law_row_0_eq : fr__law_row_0 = sFor (iSq (look 1)) (hName 3) (gb_fr__law_row_0) := rfl
def gb_fr__law_row_1 : Env → RS := (sSeq (sSet 6 (fOp addA (fOp (int2 modC) (fB cInt2 (lCons (fOp (int2 powC) (fOp addA (fOp addA (peek 4) (fOp (int2 mulB) (fK (.int 7919)) (peek 5))) (fK (.int 104729))) (fK (.int 5))) lNil)) (fK (.int 2147483647))) (peek 5))) (sApp 2 (fOp (int2 modC) (fB cInt2 (lCons (fOp (int2 modC) (fB cInt2 (lCons (fOp (int2 mulB) (peek 6) (fK (.int 40692))) lNil)) (fK (.int 2147483629))) lNil)) (fOp itemD (peek 1) (peek 5)))))
theorem gb_fr__law_row_1_eq : fr__law_row_1 = sFor (iR1 (lCons (fB cLen (lCons (peek 1) lNil)) lNil)) (hName 5) (gb_fr__law_row_1) := rfl
def gp_g__law_row (p_fr__law_row_0 : Env → RS) (p_fr__law_row_1 : Env → RS) : Env → RS := (sSeq (sSetO 2 (fLst lNil)) (sSeq (sIf (tB' (fOp dGe (peek 0) (fOp (int2 powC) (fK (.int 10)) (fK (.int 18))))) (sSeq p_fr__law_row_0 (sFrz 2 (sRet (look 2)))) .nx) (sSeq (sSet 4 (fOp (int2 modC) (fB cInt2 (lCons (peek 0) lNil)) (fK (.int 2147483647)))) (sSeq p_fr__law_row_1 (sFrz 2 (sRet (look 2)))))))
theorem gp_g__law_row_eq : g__law_row = gp_g__law_row fr__law_row_0 fr__law_row_1 := rfl
def gp_g__law_fields : Env → RS := (sRet (fOp itemD (fLst (lCons (fLst (lCons (fK (.str "x")) (lCons (fK (.str "y")) lNil))) (lCons (fLst (lCons (fK (.str "x")) lNil)) (lCons (fLst lNil) (lCons (fLst (lCons (fK (.str "price")) (lCons (fK (.str "many")) lNil))) (lCons (fLst (lCons (fK (.str "b")) (lCons (fK (.str "a")) lNil))) (lCons (fLst (lCons (fK (.str "zz")) lNil)) lNil))))))) (fOp (int2 modC) (peek 0) (fK (.int 6)))))
theorem gp_g__law_fields_eq : g__law_fields = gp_g__law_fields := rfl
def gb_wh__law_gcd_0 : Env → RS := (sPar 0 1 (lCons (look 1) (lCons (fOp (int2 modC) (peek 0) (peek 1)) lNil)))
theorem gb_wh__law_gcd_0_eq : wh__law_gcd_0 = whileD (tB' (fOp dGt (peek 1) (fK (.int 0)))) (gb_wh__law_gcd_0) big := rfl
def gp_g__law_gcd (p_wh__law_gcd_0 : Env → RS) : Env → RS := (sSeq (sPar 0 1 (lCons (fB cAbs (lCons (peek 0) lNil)) (lCons (fB cAbs (lCons (peek 1) lNil)) lNil))) (sSeq p_wh__law_gcd_0 (sRet (look 0))))
theorem gp_g__law_gcd_eq : g__law_gcd = gp_g__law_gcd wh__law_gcd_0 := rfl
def gp_g__law_low (p_G__law_gcd : List D → Res D) : Env → RS := (sSeq (sAsg (look 0) (hTup fun ds ρ => if ds.length = 2 then (hCons (hName 1) (hCons (hName 2) hNil)) ds ρ else none)) (sSeq (sSet 3 (fCall 2 p_G__law_gcd (lCons (look 1) (lCons (look 2) lNil)))) (sSeq (sIf (tB' (fOp dLt (peek 2) (fK (.int 0)))) (sSet 3 (fOp dSub (fK (.int 0)) (peek 3))) .nx) (sRet (fTup (lCons (fOp (int2 fdivC) (peek 1) (peek 3)) (lCons (fOp (int2 fdivC) (peek 2) (peek 3)) lNil)))))))
theorem gp_g__law_low_eq : g__law_low = gp_g__law_low G__law_gcd := rfl
def gb_fr__law_terms_0 (p_G__law_low : List D → Res D) : Env → RS := (sSeq (sAsg (fSlc (peek 0) (oSo (fOp (int2 mulB) (fK (.int 4)) (peek 3))) (oSo (fOp addA (fOp (int2 mulB) (fK (.int 4)) (peek 3)) (fK (.int 4))))) (hLst fun ds ρ => if ds.length = 4 then (hCons (hName 4) (hCons (hName 5) (hCons (hName 6) (hCons (hName 7) hNil)))) ds ρ else none)) (sDput 2 (fSlc (fTup (lCons (look 4) (lCons (look 5) lNil))) oNo (oSo (fB cLen (lCons (peek 1) lNil)))) (fCall 1 p_G__law_low (lCons (fTup (lCons (fOp dSub (peek 6) (fK (.int 9))) (lCons (fOp addA (fK (.int 1)) (peek 7)) lNil))) lNil))))
theorem gb_fr__law_terms_0_eq : fr__law_terms_0 = sFor (iR1 (lCons (fOp (int2 fdivC) (fB cLen (lCons (peek 0) lNil)) (fK (.int 4))) lNil)) (hName 3) (gb_fr__law_terms_0 G__law_low) := rfl
def gp_g__law_terms (p_fr__law_terms_0 : Env → RS) : Env → RS := (sSeq (sSetO 2 (fK (.dT [] []))) (sSeq p_fr__law_terms_0 (retO 2)))
theorem gp_g__law_terms_eq : g__law_terms = gp_g__law_terms fr__law_terms_0 := rfl
def gb_wh_common_0 : Env → RS := (sPar 0 1 (lCons (look 1) (lCons (fOp (int2 modC) (peek 0) (peek 1)) lNil)))
theorem gb_wh_common_0_eq : wh_common_0 = whileD (tB' (fOp dGt (peek 1) (fK (.int 0)))) (gb_wh_common_0) big := rfl
def gp_g_common (p_wh_common_0 : Env → RS) : Env → RS := (sSeq (sPar 0 1 (lCons (fB cAbs (lCons (peek 0) lNil)) (lCons (fB cAbs (lCons (peek 1) lNil)) lNil))) (sSeq p_wh_common_0 (sRet (look 0))))
theorem gp_g_common_eq : g_common = gp_g_common wh_common_0 := rfl
def gp_g_Ratio___init__ (p_G_common : List D → Res D) : Env → RS := (sSeq (sIf (tB' (fOp eqD (peek 2) (fK (.int 0)))) sBad .nx) (sSeq (sSet 3 (fCall 2 p_G_common (lCons (look 1) (lCons (look 2) lNil)))) (sSeq (sIf (tB' (fOp dLt (peek 2) (fK (.int 0)))) (sSet 3 (fU negC (peek 3))) .nx) (sSeq (sFld nmv "top" 0 (fOp (int2 fdivC) (peek 1) (peek 3))) (sFld nmv "bottom" 0 (fOp (int2 fdivC) (peek 2) (peek 3)))))))
theorem gp_g_Ratio___init___eq : g_Ratio___init__ = gp_g_Ratio___init__ G_common := rfl
def gp_g__law_made (p_G__law_low : List D → Res D) (p_G_Ratio___init__ : List D → Res (List D)) : Env → RS := (sSeq (sAsg (fCall 1 p_G__law_low (lCons (look 0) lNil)) (hTup fun ds ρ => if ds.length = 2 then (hCons (hName 2) (hCons (hName 3) hNil)) ds ρ else none)) (sRet (fIf (tAnd' (tB' (fOp eqD (peek 3) (fK (.int 1)))) (tB' (look 1))) (look 2) (fMk 0 2 p_G_Ratio___init__ (lCons (look 2) (lCons (look 3) lNil))))))
theorem gp_g__law_made_eq : g__law_made = gp_g__law_made G__law_low G_Ratio___init__ := rfl
def gp_lc__law_handed_0 (p_G__law_made : List D → Res D) : Env → Res D := (fLc (iKs (look 0)) (hName 2) tYes' (fTup (lCons (look 2) (lCons (fCall 2 p_G__law_made (lCons (fN dgetR (peek 0) (look 2)) (lCons (look 1) lNil))) lNil))) [2])
theorem gp_lc__law_handed_0_eq : lc__law_handed_0 = gp_lc__law_handed_0 G__law_made := rfl
def gp_g__law_handed (p_lc__law_handed_0 : Env → Res D) : Env → RS := (sRet (fDict p_lc__law_handed_0))
theorem gp_g__law_handed_eq : g__law_handed = gp_g__law_handed lc__law_handed_0 := rfl
def gp_lc_is_name_0 : Env → Res D := (fLc (iSq (look 0)) (hName 1) tYes' (fOp inS (peek 1) (fK (.str "abcdefghijklmnopqrstuvwxyz"))) [1])
theorem gp_lc_is_name_0_eq : lc_is_name_0 = gp_lc_is_name_0 := rfl
def gp_g_is_name (p_lc_is_name_0 : Env → Res D) : Env → RS := (sSeq (sIf (tOr' (tNot' (tB' (fM (isiD ib_str) (peek 0)))) (tNot' (tB' (fChain dLe dLe (fK (.int 1)) (fB cLen (lCons (peek 0) lNil)) (fK (.int 8)))))) (sRet (fK (.bl false))) .nx) (sRet (fB cAll (lCons p_lc_is_name_0 lNil))))
theorem gp_g_is_name_eq : g_is_name = gp_g_is_name lc_is_name_0 := rfl
def gb_fr_check_fields_0 (p_G_is_name : List D → Res D) : Env → RS := (sIf (tOr' (tNot' (tB' (fCall 1 p_G_is_name (lCons (look 2) lNil)))) (tB' (fOp inT (peek 2) (fSlc (peek 0) oNo (oSo (look 1)))))) sBad .nx)
theorem gb_fr_check_fields_0_eq : fr_check_fields_0 = sFor (iEnuA (lCons (look 0) lNil)) (hTup fun ds ρ => if ds.length = 2 then (hCons (hName 1) (hCons (hName 2) hNil)) ds ρ else none) (gb_fr_check_fields_0 G_is_name) := rfl
def gp_g_check_fields (p_fr_check_fields_0 : Env → RS) : Env → RS := p_fr_check_fields_0
theorem gp_g_check_fields_eq : g_check_fields = gp_g_check_fields fr_check_fields_0 := rfl
def gp_g_is_integer : Env → RS := (sRet (vAnd (fM (isiD ib_int) (peek 0)) (vNot (fM (isiD ib_bool) (peek 0)))))
theorem gp_g_is_integer_eq : g_is_integer = gp_g_is_integer := rfl
def gp_lc_is_powers_0 (p_G_is_integer : List D → Res D) : Env → Res D := (fLc (iSq (look 0)) (hName 2) tYes' (vAnd (fCall 1 p_G_is_integer (lCons (look 2) lNil)) (fOp dGe (peek 2) (fK (.int 0)))) [2])
theorem gp_lc_is_powers_0_eq : lc_is_powers_0 = gp_lc_is_powers_0 G_is_integer := rfl
def gp_g_is_powers (p_lc_is_powers_0 : Env → Res D) : Env → RS := (sSeq (sIf (tOr' (tNot' (tB' (fM (isiD ib_tuple) (peek 0)))) (tB' (fOp neD (fB cLen (lCons (peek 0) lNil)) (peek 1)))) (sRet (fK (.bl false))) .nx) (sRet (fB cAll (lCons p_lc_is_powers_0 lNil))))
theorem gp_g_is_powers_eq : g_is_powers = gp_g_is_powers lc_is_powers_0 := rfl
def gp_g_halves_of : Env → RS := (sRet (fIf (tB' (fM (isiD ib_c0) (peek 0))) (fTup (lCons (fU (fldD nmv "top") (peek 0)) (lCons (fU (fldD nmv "bottom") (peek 0)) lNil))) (fTup (lCons (look 0) (lCons (fK (.int 1)) lNil)))))
theorem gp_g_halves_of_eq : g_halves_of = gp_g_halves_of := rfl
def gp_g_is_number (p_G_is_integer : List D → Res D) : Env → RS := (sRet (vOr (fCall 1 p_G_is_integer (lCons (look 0) lNil)) (fM (isiD ib_c0) (peek 0))))
theorem gp_g_is_number_eq : g_is_number = gp_g_is_number G_is_integer := rfl
def gp_g_Ratio___eq__ (p_G_is_number : List D → Res D) (p_G_halves_of : List D → Res D) : Env → RS := (sRet (vAnd (fCall 1 p_G_is_number (lCons (look 1) lNil)) (fOp eqD (fCall 1 p_G_halves_of (lCons (look 1) lNil)) (fTup (lCons (fU (fldD nmv "top") (peek 0)) (lCons (fU (fldD nmv "bottom") (peek 0)) lNil))))))
theorem gp_g_Ratio___eq___eq : g_Ratio___eq__ = gp_g_Ratio___eq__ G_is_number G_halves_of := rfl
def gp_g_plain (p_G_halves_of : List D → Res D) : Env → RS := (sSeq (sAsg (fCall 1 p_G_halves_of (lCons (look 0) lNil)) (hTup fun ds ρ => if ds.length = 2 then (hCons (hName 1) (hCons (hName 2) hNil)) ds ρ else none)) (sRet (fIf (tB' (fOp eqD (peek 2) (fK (.int 1)))) (look 1) (look 0))))
theorem gp_g_plain_eq : g_plain = gp_g_plain G_halves_of := rfl
def gb_fr_one_form_0 (p_G_Ratio___eq__ : List D → Res D) (p_G_plain : List D → Res D) : Env → RS := (sIf (tB' (fN (neN p_G_Ratio___eq__) (fN dgetR (peek 0) (look 2)) (fK (.int 0)))) (sDput 1 (look 2) (fCall 1 p_G_plain (lCons (fN dgetR (peek 0) (look 2)) lNil))) .nx)
theorem gb_fr_one_form_0_eq : fr_one_form_0 = sFor (iSq (fSort (peek 0) (fK (.bl true)))) (hName 2) (gb_fr_one_form_0 G_Ratio___eq__ G_plain) := rfl
def gp_g_one_form (p_fr_one_form_0 : Env → RS) : Env → RS := (sSeq (sSetO 1 (fK (.dT [] []))) (sSeq p_fr_one_form_0 (sFrz 1 (sRet (look 1)))))
theorem gp_g_one_form_eq : g_one_form = gp_g_one_form fr_one_form_0 := rfl
def gb_fr_Poly___init___0 (p_G_is_powers : List D → Res D) : Env → RS := (sIf (tNot' (tB' (fCall 2 p_G_is_powers (lCons (look 3) (lCons (fB cLen (lCons (fU (fldD nmv "fields") (peek 0)) lNil)) lNil))))) sBad .nx)
theorem gb_fr_Poly___init___0_eq : fr_Poly___init___0 = sFor (iKs (look 2)) (hName 3) (gb_fr_Poly___init___0 G_is_powers) := rfl
def gp_g_Poly___init__ (p_G_check_fields : List D → Res D) (p_fr_Poly___init___0 : Env → RS) (p_G_one_form : List D → Res D) : Env → RS := (sSeq (sFld nmv "fields" 0 (fB cTup (lCons (peek 1) lNil))) (sSeq (sDrop (fCall 1 p_G_check_fields (lCons (fU (fldD nmv "fields") (peek 0)) lNil))) (sSeq p_fr_Poly___init___0 (sFld nmv "parts" 0 (fCall 1 p_G_one_form (lCons (look 2) lNil))))))
theorem gp_g_Poly___init___eq : g_Poly___init__ = gp_g_Poly___init__ G_check_fields fr_Poly___init___0 G_one_form := rfl
def gp_lc__law_kept_0 : Env → Res D := (fLc (iKs (look 0)) (hName 1) (tB' (fOp neD (fOp itemD (fN dgetR (peek 0) (look 1)) (fK (.int 0))) (fK (.int 0)))) (fTup (lCons (look 1) (lCons (fN dgetR (peek 0) (look 1)) lNil))) [1])
theorem gp_lc__law_kept_0_eq : lc__law_kept_0 = gp_lc__law_kept_0 := rfl
def gp_g__law_kept (p_lc__law_kept_0 : Env → Res D) : Env → RS := (sRet (fDict p_lc__law_kept_0))
theorem gp_g__law_kept_eq : g__law_kept = gp_g__law_kept lc__law_kept_0 := rfl
def gp_g_Ratio___str__ : Env → RS := (sSeq (sIf (tB' (fOp eqD (fU (fldD nmv "bottom") (peek 0)) (fK (.int 1)))) (sRet (fF1 (zF (fU (fldD nmv "top") (peek 0))))) .nx) (sRet (fF3 (zF (fU (fldD nmv "top") (peek 0))) (zS "/") (zF (fU (fldD nmv "bottom") (peek 0))))))
theorem gp_g_Ratio___str___eq : g_Ratio___str__ = gp_g_Ratio___str__ := rfl
def gp_lc__law_text_of_0 (p_G_Ratio___str__ : List D → Res D) : Env → Res D := (fLc (iZipA (lCons (look 1) (lCons (look 2) lNil))) (hTup fun ds ρ => if ds.length = 2 then (hCons (hName 6) (hCons (hName 7) hNil)) ds ρ else none) (tB' (fOp dGt (peek 7) (fK (.int 0)))) (fOp itemD (fLst (lCons (look 6) (lCons (fOp addA (fOp addA (peek 6) (fK (.str "^"))) (fM (strN p_G_Ratio___str__) (look 7))) lNil))) (fB cInt2 (lCons (fOp dGt (peek 7) (fK (.int 1))) lNil))) [6, 7])
theorem gp_lc__law_text_of_0_eq : lc__law_text_of_0 = gp_lc__law_text_of_0 G_Ratio___str__ := rfl
def gp_g__law_text_of (p_lc__law_text_of_0 : Env → Res D) (p_G_Ratio___str__ : List D → Res D) : Env → RS := (sSeq (sPar 3 4 (lCons (fB cAbs (lCons (fOp itemD (peek 0) (fK (.int 0))) lNil)) (lCons (fOp itemD (peek 0) (fK (.int 1))) lNil))) (sSeq (sSetO 5 p_lc__law_text_of_0) (sSeq (sSet 8 (fIf (tB' (fOp eqD (peek 4) (fK (.int 1)))) (fM (strN p_G_Ratio___str__) (look 3)) (fOp addA (fOp addA (fM (strN p_G_Ratio___str__) (look 3)) (fK (.str "/"))) (fM (strN p_G_Ratio___str__) (look 4))))) (sFrz 5 (sRet (fIf (tAnd' (tB' (fOp neD (peek 5) (fLst lNil))) (tB' (fOp eqD (peek 8) (fK (.str "1"))))) (fJoin (fK (.str "*")) (peek 5)) (fJoin (fK (.str "*")) (fOp addA (fLst (lCons (look 8) lNil)) (peek 5)))))))))
theorem gp_g__law_text_of_eq : g__law_text_of = gp_g__law_text_of lc__law_text_of_0 G_Ratio___str__ := rfl
def gb_fr__law_due_0 (p_G__law_text_of : List D → Res D) : Env → RS := (sSeq (sSet 4 (fIf (tB' (fOp dLt (fOp itemD (fN dgetR (peek 0) (look 3)) (fK (.int 0))) (fK (.int 0)))) (fK (.str "-")) (fK (.str "+")))) (sIf (tB' (fOp eqD (peek 2) (fK (.str "")))) (sSet 2 (fOp addA (fOp itemD (fLst (lCons (fK (.str "")) (lCons (fK (.str "-")) lNil))) (fB cInt2 (lCons (fOp eqD (peek 4) (fK (.str "-"))) lNil))) (fCall 3 p_G__law_text_of (lCons (fN dgetR (peek 0) (look 3)) (lCons (look 1) (lCons (look 3) lNil)))))) (sSet 2 (fOp addA (fOp addA (fOp addA (fOp addA (peek 2) (fK (.str " "))) (peek 4)) (fK (.str " "))) (fCall 3 p_G__law_text_of (lCons (fN dgetR (peek 0) (look 3)) (lCons (look 1) (lCons (look 3) lNil))))))))
theorem gb_fr__law_due_0_eq : fr__law_due_0 = sFor (iSq (fSort (fCall 1 G__law_kept (lCons (look 0) lNil)) (fK (.bl true)))) (hName 3) (gb_fr__law_due_0 G__law_text_of) := rfl
def gp_g__law_due (p_fr__law_due_0 : Env → RS) : Env → RS := (sSeq (sSet 2 (fK (.str ""))) (sSeq p_fr__law_due_0 (sRet (fIf (tB' (fOp neD (peek 2) (fK (.str "")))) (look 2) (fK (.str "0"))))))
theorem gp_g__law_due_eq : g__law_due = gp_g__law_due fr__law_due_0 := rfl
def gp_g_Poly___eq__ (p_G_Ratio___eq__ : List D → Res D) : Env → RS := (sRet (vAnd (fM (isiD ib_c1) (peek 1)) (vAnd (fOp eqD (fU (fldD nmv "fields") (peek 0)) (fU (fldD nmv "fields") (peek 1))) (fN (eqXR (geOf 0 p_G_Ratio___eq__) 1) (fU (fldD nmv "parts") (peek 0)) (fU (fldD nmv "parts") (peek 1))))))
theorem gp_g_Poly___eq___eq : g_Poly___eq__ = gp_g_Poly___eq__ G_Ratio___eq__ := rfl
def gb_fr_factors_text_0 : Env → RS := (sIf (tB' (fOp dGt (peek 4) (fK (.int 0)))) (sApp 2 (fIf (tB' (fOp eqD (peek 4) (fK (.int 1)))) (look 3) (fF3 (zF (look 3)) (zS "^") (zF (look 4))))) .nx)
theorem gb_fr_factors_text_0_eq : fr_factors_text_0 = sFor (iZipA (lCons (look 0) (lCons (look 1) lNil))) (hTup fun ds ρ => if ds.length = 2 then (hCons (hName 3) (hCons (hName 4) hNil)) ds ρ else none) (gb_fr_factors_text_0) := rfl
def gp_g_factors_text (p_fr_factors_text_0 : Env → RS) : Env → RS := (sSeq (sSetO 2 (fLst lNil)) (sSeq p_fr_factors_text_0 (sFrz 2 (sRet (look 2)))))
theorem gp_g_factors_text_eq : g_factors_text = gp_g_factors_text fr_factors_text_0 := rfl
def gp_g_top_of (p_G_halves_of : List D → Res D) : Env → RS := (sRet (fOp itemD (fCall 1 p_G_halves_of (lCons (look 0) lNil)) (fK (.int 0))))
theorem gp_g_top_of_eq : g_top_of = gp_g_top_of G_halves_of := rfl
def gp_g_Ratio___neg__ (p_G_Ratio___init__ : List D → Res (List D)) : Env → RS := (sRet (fMk 0 2 p_G_Ratio___init__ (lCons (fU negC (fU (fldD nmv "top") (peek 0))) (lCons (fU (fldD nmv "bottom") (peek 0)) lNil))))
theorem gp_g_Ratio___neg___eq : g_Ratio___neg__ = gp_g_Ratio___neg__ G_Ratio___init__ := rfl
def gp_g_term_text (p_G_top_of : List D → Res D) (p_G_Ratio___neg__ : List D → Res D) (p_G_Ratio___eq__ : List D → Res D) (p_G_Ratio___str__ : List D → Res D) : Env → RS := (sSeq (sSet 2 (fIf (tB' (fOp dLt (fCall 1 p_G_top_of (lCons (look 0) lNil)) (fK (.int 0)))) (fM (negN p_G_Ratio___neg__) (look 0)) (look 0))) (sSeq (sIf (tOr' (tB' (fOp eqD (peek 1) (fLst lNil))) (tB' (fN (neN p_G_Ratio___eq__) (look 2) (fK (.int 1))))) (sRet (fJoin (fK (.str "*")) (fOp addA (fLst (lCons (fM (strN p_G_Ratio___str__) (look 2)) lNil)) (peek 1)))) .nx) (sRet (fJoin (fK (.str "*")) (peek 1)))))
theorem gp_g_term_text_eq : g_term_text = gp_g_term_text G_top_of G_Ratio___neg__ G_Ratio___eq__ G_Ratio___str__ := rfl
def gb_fr_joined_terms_0 (p_G_top_of : List D → Res D) (p_G_term_text : List D → Res D) : Env → RS := (sSeq (sIf (tB' (fOp eqD (peek 1) (fK (.str "")))) (sSet 1 (fIf (tB' (fOp dLt (fCall 1 p_G_top_of (lCons (look 2) lNil)) (fK (.int 0)))) (fK (.str "-")) (fK (.str "")))) (sSet 1 (fOp addA (peek 1) (fIf (tB' (fOp dLt (fCall 1 p_G_top_of (lCons (look 2) lNil)) (fK (.int 0)))) (fK (.str " - ")) (fK (.str " + ")))))) (sSet 1 (fOp addA (peek 1) (fCall 2 p_G_term_text (lCons (look 2) (lCons (look 3) lNil))))))
theorem gb_fr_joined_terms_0_eq : fr_joined_terms_0 = sFor (iSq (look 0)) (hTup fun ds ρ => if ds.length = 2 then (hCons (hName 2) (hCons (hName 3) hNil)) ds ρ else none) (gb_fr_joined_terms_0 G_top_of G_term_text) := rfl
def gp_g_joined_terms (p_fr_joined_terms_0 : Env → RS) : Env → RS := (sSeq (sSet 1 (fK (.str ""))) (sSeq p_fr_joined_terms_0 (sRet (fIf (tB' (fOp neD (peek 1) (fK (.str "")))) (look 1) (fK (.str "0"))))))
theorem gp_g_joined_terms_eq : g_joined_terms = gp_g_joined_terms fr_joined_terms_0 := rfl
def gp_lc_Poly___str___0 (p_G_factors_text : List D → Res D) : Env → Res D := (fLc (iKs (fU (fldD nmv "parts") (peek 0))) (hName 2) tYes' (fTup (lCons (fN dgetR (fU (fldD nmv "parts") (peek 0)) (look 2)) (lCons (fCall 2 p_G_factors_text (lCons (fU (fldD nmv "fields") (peek 0)) (lCons (look 2) lNil))) lNil))) [2])
theorem gp_lc_Poly___str___0_eq : lc_Poly___str___0 = gp_lc_Poly___str___0 G_factors_text := rfl
def gp_g_Poly___str__ (p_lc_Poly___str___0 : Env → Res D) (p_G_joined_terms : List D → Res D) : Env → RS := (sSeq (sSetO 1 p_lc_Poly___str___0) (sFrz 1 (sRet (fF1 (zF (fCall 1 p_G_joined_terms (lCons (look 1) lNil)))))))
theorem gp_g_Poly___str___eq : g_Poly___str__ = gp_g_Poly___str__ lc_Poly___str___0 G_joined_terms := rfl
def gp_g_parts_beside : Env → RS := (sSeq (sIf (tNot' (tB' (fM (isiD ib_c1) (peek 1)))) sBad .nx) (sSeq (sIf (tB' (fOp neD (fU (fldD nmv "fields") (peek 1)) (fU (fldD nmv "fields") (peek 0)))) sBad .nx) (sRet (fU (fldD nmv "parts") (peek 1)))))
theorem gp_g_parts_beside_eq : g_parts_beside = gp_g_parts_beside := rfl
def gp_g_Ratio___mul__ (p_G_is_number : List D → Res D) (p_G_halves_of : List D → Res D) (p_G_Ratio___init__ : List D → Res (List D)) : Env → RS := (sSeq (sIf (tNot' (tB' (fCall 1 p_G_is_number (lCons (look 1) lNil)))) sBad .nx) (sSeq (sAsg (fCall 1 p_G_halves_of (lCons (look 1) lNil)) (hTup fun ds ρ => if ds.length = 2 then (hCons (hName 2) (hCons (hName 3) hNil)) ds ρ else none)) (sRet (fMk 0 2 p_G_Ratio___init__ (lCons (fOp (int2 mulB) (fU (fldD nmv "top") (peek 0)) (peek 2)) (lCons (fOp (int2 mulB) (fU (fldD nmv "bottom") (peek 0)) (peek 3)) lNil))))))
theorem gp_g_Ratio___mul___eq : g_Ratio___mul__ = gp_g_Ratio___mul__ G_is_number G_halves_of G_Ratio___init__ := rfl
def gp_g_Ratio___rmul__ (p_G_Ratio___mul__ : List D → Res D) : Env → RS := (sRet (fN (opL p_G_Ratio___mul__) (look 0) (look 1)))
theorem gp_g_Ratio___rmul___eq : g_Ratio___rmul__ = gp_g_Ratio___rmul__ G_Ratio___mul__ := rfl
def gp_g_Ratio___add__ (p_G_is_number : List D → Res D) (p_G_halves_of : List D → Res D) (p_G_Ratio___init__ : List D → Res (List D)) : Env → RS := (sSeq (sIf (tNot' (tB' (fCall 1 p_G_is_number (lCons (look 1) lNil)))) sBad .nx) (sSeq (sAsg (fCall 1 p_G_halves_of (lCons (look 1) lNil)) (hTup fun ds ρ => if ds.length = 2 then (hCons (hName 2) (hCons (hName 3) hNil)) ds ρ else none)) (sRet (fMk 0 2 p_G_Ratio___init__ (lCons (fOp addA (fOp (int2 mulB) (fU (fldD nmv "top") (peek 0)) (peek 3)) (fOp (int2 mulB) (peek 2) (fU (fldD nmv "bottom") (peek 0)))) (lCons (fOp (int2 mulB) (fU (fldD nmv "bottom") (peek 0)) (peek 3)) lNil))))))
theorem gp_g_Ratio___add___eq : g_Ratio___add__ = gp_g_Ratio___add__ G_is_number G_halves_of G_Ratio___init__ := rfl
def gp_g_Ratio___radd__ (p_G_Ratio___add__ : List D → Res D) : Env → RS := (sRet (fN (opL p_G_Ratio___add__) (look 0) (look 1)))
theorem gp_g_Ratio___radd___eq : g_Ratio___radd__ = gp_g_Ratio___radd__ G_Ratio___add__ := rfl
def gb_fr_added_0 (p_G_Ratio___add__ : List D → Res D) (p_G_Ratio___radd__ : List D → Res D) (p_G_Ratio___mul__ : List D → Res D) (p_G_Ratio___rmul__ : List D → Res D) : Env → RS := (sDput 3 (look 4) (fN (opN (fun i j => some (.int (i + j))) p_G_Ratio___add__ p_G_Ratio___radd__) (fDget (peek 3) (look 4) (fK (.int 0))) (fN (opN mulB p_G_Ratio___mul__ p_G_Ratio___rmul__) (fN dgetR (peek 1) (look 4)) (look 2))))
theorem gb_fr_added_0_eq : fr_added_0 = sFor (iKs (look 1)) (hName 4) (gb_fr_added_0 G_Ratio___add__ G_Ratio___radd__ G_Ratio___mul__ G_Ratio___rmul__) := rfl
def gp_g_added (p_fr_added_0 : Env → RS) : Env → RS := (sSeq (sSetO 3 (fDictA (peek 0))) (sSeq p_fr_added_0 (sFrz 3 (sRet (look 3)))))
theorem gp_g_added_eq : g_added = gp_g_added fr_added_0 := rfl
def gp_g_Poly___add__ (p_G_Poly___init__ : List D → Res (List D)) (p_G_added : List D → Res D) (p_G_parts_beside : List D → Res D) : Env → RS := (sRet (fMk 1 2 p_G_Poly___init__ (lCons (fU (fldD nmv "fields") (peek 0)) (lCons (fCall 3 p_G_added (lCons (fU (fldD nmv "parts") (peek 0)) (lCons (fCall 2 p_G_parts_beside (lCons (look 0) (lCons (look 1) lNil))) (lCons (fK (.int 1)) lNil)))) lNil))))
theorem gp_g_Poly___add___eq : g_Poly___add__ = gp_g_Poly___add__ G_Poly___init__ G_added G_parts_beside := rfl
def gp_g__law_times (p_G__law_low : List D → Res D) : Env → RS := (sRet (fCall 1 p_G__law_low (lCons (fTup (lCons (fOp (int2 mulB) (fOp itemD (peek 0) (fK (.int 0))) (fOp itemD (peek 1) (fK (.int 0)))) (lCons (fOp (int2 mulB) (fOp itemD (peek 0) (fK (.int 1))) (fOp itemD (peek 1) (fK (.int 1)))) lNil))) lNil)))
theorem gp_g__law_times_eq : g__law_times = gp_g__law_times G__law_low := rfl
def gp_g__law_add (p_G__law_low : List D → Res D) : Env → RS := (sRet (fCall 1 p_G__law_low (lCons (fTup (lCons (fOp addA (fOp (int2 mulB) (fOp itemD (peek 0) (fK (.int 0))) (fOp itemD (peek 1) (fK (.int 1)))) (fOp (int2 mulB) (fOp itemD (peek 1) (fK (.int 0))) (fOp itemD (peek 0) (fK (.int 1))))) (lCons (fOp (int2 mulB) (fOp itemD (peek 0) (fK (.int 1))) (fOp itemD (peek 1) (fK (.int 1)))) lNil))) lNil)))
theorem gp_g__law_add_eq : g__law_add = gp_g__law_add G__law_low := rfl
def gb_fr__law_sum_of_0 (p_G__law_add : List D → Res D) (p_G__law_times : List D → Res D) : Env → RS := (sDput 3 (look 4) (fCall 2 p_G__law_add (lCons (fDget (peek 3) (look 4) (fTup (lCons (fK (.int 0)) (lCons (fK (.int 1)) lNil)))) (lCons (fCall 2 p_G__law_times (lCons (fN dgetR (peek 1) (look 4)) (lCons (fTup (lCons (look 2) (lCons (fK (.int 1)) lNil))) lNil))) lNil))))
theorem gb_fr__law_sum_of_0_eq : fr__law_sum_of_0 = sFor (iKs (look 1)) (hName 4) (gb_fr__law_sum_of_0 G__law_add G__law_times) := rfl
def gp_g__law_sum_of (p_fr__law_sum_of_0 : Env → RS) (p_G__law_kept : List D → Res D) : Env → RS := (sSeq (sSetO 3 (fDictA (peek 0))) (sSeq p_fr__law_sum_of_0 (sFrz 3 (sRet (fCall 1 p_G__law_kept (lCons (look 3) lNil))))))
theorem gp_g__law_sum_of_eq : g__law_sum_of = gp_g__law_sum_of fr__law_sum_of_0 G__law_kept := rfl
def gb_fr_law_0 (p_G__law_low : List D → Res D) (p_G__law_cell : List D → Res D) : Env → RS := (sSeq (sIf (tB' (fOp eqD (fOp (int2 modC) (fOp addA (fOp itemD (peek 1) (fK (.int 2))) (peek 4)) (fK (.int 4))) (fK (.int 0)))) (sDput 3 (look 5) (fOp itemD (fLst (lCons (fTup (lCons (fK (.int 1)) (lCons (fK (.int 1)) lNil))) (lCons (fTup (lCons (fU negC (fK (.int 1))) (lCons (fK (.int 1)) lNil))) lNil))) (fOp (int2 modC) (peek 4) (fK (.int 2))))) .nx) (sIf (tB' (fOp eqD (fOp (int2 modC) (fOp addA (fOp itemD (peek 1) (fK (.int 2))) (peek 4)) (fK (.int 4))) (fK (.int 1)))) (sDput 3 (look 5) (fCall 1 p_G__law_low (lCons (fTup (lCons (fOp dSub (fOp (int2 modC) (fB cInt2 (lCons (fCall 2 p_G__law_cell (lCons (look 0) (lCons (fK (.int 1)) lNil))) lNil)) (fOp (int2 powC) (fK (.int 10)) (fK (.int 30)))) (fOp (int2 powC) (fK (.int 10)) (fK (.int 29)))) (lCons (fOp addA (fK (.int 1)) (peek 4)) lNil))) lNil))) .nx))
theorem gb_fr_law_0_eq : fr_law_0 = sFor (iEnuA (lCons (fSort0 (peek 3)) lNil)) (hTup fun ds ρ => if ds.length = 2 then (hCons (hName 4) (hCons (hName 5) hNil)) ds ρ else none) (gb_fr_law_0 G__law_low G__law_cell) := rfl
def gp_g_law (p_G__law_row : List D → Res D) (p_G__law_cell : List D → Res D) (p_G__law_fields : List D → Res D) (p_G__law_terms : List D → Res D) (p_fr_law_0 : Env → RS) (p_G_Poly___init__ : List D → Res (List D)) (p_G__law_handed : List D → Res D) (p_G__law_due : List D → Res D) (p_G_Poly___str__ : List D → Res D) (p_G_Poly___eq__ : List D → Res D) (p_G_Poly___add__ : List D → Res D) (p_G__law_sum_of : List D → Res D) : Env → RS := (sSeq (sSet 1 (fCall 2 p_G__law_row (lCons (fCall 2 p_G__law_cell (lCons (look 0) (lCons (fK (.int 0)) lNil))) (lCons (fOp addA (fLst (lCons (fK (.int 6)) (lCons (fK (.int 6)) (lCons (fK (.int 4)) lNil)))) (fOp repD (fLst (lCons (fK (.int 13)) (lCons (fK (.int 13)) (lCons (fK (.int 19)) (lCons (fK (.int 5)) lNil))))) (fK (.int 5)))) lNil)))) (sSeq (sSet 2 (fCall 1 p_G__law_fields (lCons (fOp itemD (peek 1) (fK (.int 0))) lNil))) (sSeq (sSetO 3 (fCall 2 p_G__law_terms (lCons (fSlc (peek 1) (oSo (fK (.int 3))) (oSo (fOp addA (fK (.int 3)) (fOp (int2 mulB) (fK (.int 4)) (fOp itemD (peek 1) (fK (.int 1))))))) (lCons (look 2) lNil)))) (sSeq p_fr_law_0 (sSeq (sFrz 3 (sPar 6 7 (lCons (fMk 1 2 p_G_Poly___init__ (lCons (look 2) (lCons (fCall 2 p_G__law_handed (lCons (look 3) (lCons (fK (.bl true)) lNil))) lNil))) (lCons (fMk 1 2 p_G_Poly___init__ (lCons (fB cList (lCons (peek 2) lNil)) (lCons (fCall 2 p_G__law_handed (lCons (look 3) (lCons (fK (.bl false)) lNil))) lNil))) lNil)))) (sSeq (sFrz 3 (sSet 8 (fCall 2 p_G__law_due (lCons (look 3) (lCons (look 2) lNil))))) (sSeq (sIf (tOr' (tB' (fOp neD (fM (strC 1 p_G_Poly___str__) (look 6)) (peek 8))) (tOr' (tB' (fOp neD (fM (strC 1 p_G_Poly___str__) (look 7)) (peek 8))) (tB' (fN (neXR (geOf 1 p_G_Poly___eq__) 0) (look 6) (look 7))))) (sRet (fK (.bl false))) .nx) (sSeq (sSet 9 (fMk 1 2 p_G_Poly___init__ (lCons (look 2) (lCons (fDisp1 (fOp repT (fTup (lCons (fK (.int 1)) lNil)) (fB cLen (lCons (peek 2) lNil))) (fK (.int 1))) lNil)))) (sFrz 3 (sRet (fOp eqD (fM (strC 1 p_G_Poly___str__) (fN (opO 1 p_G_Poly___add__) (look 6) (look 9))) (fCall 2 p_G__law_due (lCons (fCall 3 p_G__law_sum_of (lCons (look 3) (lCons (fDisp1 (fOp repT (fTup (lCons (fK (.int 1)) lNil)) (fB cLen (lCons (peek 2) lNil))) (fTup (lCons (fK (.int 1)) (lCons (fK (.int 1)) lNil)))) (lCons (fK (.int 1)) lNil)))) (lCons (look 2) lNil))))))))))))))
theorem gp_g_law_eq : g_law = gp_g_law G__law_row G__law_cell G__law_fields G__law_terms fr_law_0 G_Poly___init__ G__law_handed G__law_due G_Poly___str__ G_Poly___eq__ G_Poly___add__ G__law_sum_of := rfl
end DL.K44
namespace DL.K44
open PySem L2
/-! ### _law_terms -/
theorem cut_nat (ds : List D) (i j : Nat) (hj : j ≤ ds.length) (hij : i ≤ j) : cutD ds (some (i : Int)) (some (j : Int)) = (ds.drop i).take (j - i) := by
  unfold cutD
  rw [HT.sIx_nat, HT.sIx_nat, Nat.min_eq_left hj, Nat.min_eq_left (by omega)]
theorem cut_to (ds : List D) (j : Nat) : cutD ds none (some (j : Int)) = ds.take j := by
  unfold cutD
  rw [HT.sIx_nat, HT.sIx_none, List.drop_zero, Nat.sub_zero, ← List.take_eq_take_min]
theorem take4 {α : Type} (l : List α) (i : Nat) (h : i + 4 ≤ l.length) : (l.drop i).take 4 = [l[i]'(by omega), l[i + 1]'(by omega), l[i + 2]'(by omega), l[i + 3]'(by omega)] := by
  rw [List.drop_eq_getElem_cons (by omega : i < l.length), List.drop_eq_getElem_cons (by omega : i + 1 < l.length), List.drop_eq_getElem_cons (by omega : i + 1 + 1 < l.length), List.drop_eq_getElem_cons (by omega : i + 1 + 1 + 1 < l.length)]
  rfl
/-- groups of four draws -/
def Quad (g : Nat) (ds : List D) : Prop := ds.length = 4 * g ∧ ∀ k, k < g → ∃ a b c d : Nat, (ds.drop (4 * k)).take 4 = [pI a, pI b, pI c, pI d] ∧ a < 13 ∧ b < 13 ∧ c < 19 ∧ d < 5
theorem stepT (Gl : List D → Res D) (ds : List D) (fsd : D) (ks : List (List Key)) (xs : List D) (kk : List Key) (k : Nat) (a b c d n : Int) (key y : D) (v4 v5 v6 v7 : Option B) (h0 : mulB 4 (k : Nat) = some (.int (4 * (k : Nat)))) (h1 : slcD (.lst ds) (some (4 * (k : Nat))) (some (4 * (k : Nat) + 4)) = some (.lst [.int a, .int b, .int c, .int d])) (h2 : cLen [fsd] = some (.int n)) (h3 : slcD (.tup [.int a, .int b]) none (some n) = some key) (h4 : Gl [.tup [.int (c - 9), .int (1 + d)]] = .ok y) (hk : keyT key = some kk) (hs : small (ks.length + 1) = true) :
    gb_fr__law_terms_0 Gl [some (.sh (.lst ds)), some (.sh fsd), some (.ow (.dT ks xs)), some (.sh (.int (k : Nat))), v4, v5, v6, v7] = .nx [some (.sh (.lst ds)), some (.sh fsd), some (.ow (.dT (putKs ks kk) (putXs ks xs kk y))), some (.sh (.int (k : Nat))), some (.sh (.int a)), some (.sh (.int b)), some (.sh (.int c)), some (.sh (.int d))] := by
  have e : putE 2 [some (.sh (.lst ds)), some (.sh fsd), some (.ow (.dT ks xs)), some (.sh (.int (k : Nat))), some (.sh (.int a)), some (.sh (.int b)), some (.sh (.int c)), some (.sh (.int d))] key y = .nx [some (.sh (.lst ds)), some (.sh fsd), some (.ow (.dT (putKs ks kk) (putXs ks xs kk y))), some (.sh (.int (k : Nat))), some (.sh (.int a)), some (.sh (.int b)), some (.sh (.int c)), some (.sh (.int d))] := by
    show (match keyT key with
      | some k => if small (ks.length + 1) = true then RS.nx _ else .bad
      | none => .bad) = _
    rw [hk]
    show (if small (ks.length + 1) = true then RS.nx _ else RS.bad) = _
    rw [if_pos hs]
    rfl
  have e2 : isOwD 2 [some (.sh (.lst ds)), some (.sh fsd), some (.ow (.dT ks xs)), some (.sh (.int (k : Nat))), some (.sh (.int a)), some (.sh (.int b)), some (.sh (.int c)), some (.sh (.int d))] = .ok () := rfl
  have e3 : ∀ x y : D, mkT [x, y] = .ok (.tup [x, y]) := fun _ _ => rfl
  unfold gb_fr__law_terms_0
  simp only [sSeq, sAsg, fSlc, oSo, oNo, fOp, int2, fK, peek, look, List.getElem?_cons_zero, List.getElem?_cons_succ, Res.bind_ok, h0, opt, addA, ptI, h1, bnd_ok, hLst, List.length_cons, List.length_nil, if_true, hCons, hName, hNil, Option.bind_some, List.set_cons_succ, List.set_cons_zero, seq_nx, sDput, fTup, lCons, lNil, e3, fB, h2, h3, dSub, fCall, fnG, h4, e2, e]
theorem key_n (a b n : Nat) (hn : n ≤ 2) : slcD (.tup [pI a, pI b]) none (some ((n : Nat) : Int)) = some (kT ([a, b].take n)) := by
  show some (D.tup (cutD [pI a, pI b] none (some (n : Int)))) = _
  rw [cut_to]
  show _ = some (D.tup (([a, b].take n).map pI))
  rw [List.map_take]
  rfl
theorem c60 {d : Nat} (h : d < 5) : 1 + d ∣ 60 ^ 1 := by
  match d, h with
  | 0, _ => decide
  | 1, _ => decide
  | 2, _ => decide
  | 3, _ => decide
  | 4, _ => decide
theorem coefP {c d : Nat} (hc : c < 19) (hd : d < 5) : SzP 4 1 ((c : Int) - 9) (1 + d) := ⟨by
  show _ < 16
  omega, c60 hd⟩
theorem big_60 : 60 ^ 1 < big := by decide +kernel
theorem Tms.put {n P m k : Nat} {ts : List (List Nat × Rat)} {p : List Nat} {c : Rat} (h : Tms n P m k ts) (hp : p.length = n) (hP : ∀ e ∈ p, e ≤ P) (hc : Sz m k c) : Tms n P m k (putT ts p c) := ⟨put_nodup h.nd, fun t ht => by
  rcases put_mem ht with rfl | ht
  · exact ⟨hp, hP, hc⟩
  · exact h.at_ t ht⟩
theorem termsLoop {n g : Nat} {ds fsl : List D} (hq : Quad g ds) (hf : fsl.length = n) (hn : n ≤ 2) (hg : g ≤ 100) : ∀ (m i : Nat) (ts : List (List Nat × Rat)) (v3 v4 v5 v6 v7 : Option B), i + m = g → Tms n 12 100 1 ts → ts.length ≤ i →
    ∃ ts' w3 w4 w5 w6 w7, forD (hName 3) (gb_fr__law_terms_0 G__law_low) ((List.range' i m).map fun k => D.int (k : Nat)) [some (.sh (.lst ds)), some (.sh (.lst fsl)), some (.ow (dk fr ts)), v3, v4, v5, v6, v7] = .nx [some (.sh (.lst ds)), some (.sh (.lst fsl)), some (.ow (dk fr ts')), w3, w4, w5, w6, w7] ∧ Tms n 12 100 1 ts' ∧ ts'.length ≤ g
  | 0, i, ts, v3, v4, v5, v6, v7, hi, ht, hl => ⟨ts, v3, v4, v5, v6, v7, rfl, ht, by omega⟩
  | m + 1, i, ts, v3, v4, v5, v6, v7, hi, ht, hl => by
    obtain ⟨a, b, c, d, q1, ha, hb, hc, hd⟩ := hq.2 i (by omega)
    have h1 : slcD (.lst ds) (some (4 * (i : Nat))) (some (4 * (i : Nat) + 4)) = some (.lst [pI a, pI b, pI c, pI d]) := by
      show some (D.lst (cutD ds _ _)) = _
      have e := cut_nat ds (4 * i) (4 * i + 4) (by rw [hq.1]; omega) (by omega)
      rw [Nat.add_sub_cancel_left, q1] at e
      have e' : cutD ds (some (4 * (i : Int))) (some (4 * (i : Int) + 4)) = [pI a, pI b, pI c, pI d] := by
        rw [← e]
        simp
      rw [e']
    have hP := coefP hc hd
    have h4 := low_eq ((c : Int) - 9) (1 + d) hP.pos (Nat.lt_of_le_of_lt hP.le big_60)
    rw [show (((1 + d : Nat) : Nat) : Int) = 1 + (d : Int) by simp] at h4
    have hkl : ([a, b].take n).length = n := by
      rw [List.length_take]
      simp
      omega
    have hkP : ∀ e ∈ [a, b].take n, e ≤ 12 := fun e he => by
      have := List.mem_of_mem_take he
      simp at this
      omega
    obtain ⟨q2, q3⟩ := put_eq fr (p := [a, b].take n) (d := mkRat ((c : Int) - 9) (1 + d)) ht.nd
    have es := stepT G__law_low ds (.lst fsl) (ts.map fun t => kN t.1) (ts.map fun t => fr t.2) (kN ([a, b].take n)) i a b c d n (kT ([a, b].take n)) (fr (mkRat ((c : Int) - 9) (1 + d))) v4 v5 v6 v7 (mulB_ok (m := 3) (m' := 20) (by decide) (by
      show i < 2 ^ 20
      have : 2 ^ 20 = 1048576 := rfl
      omega) (by decide)) h1 (by rw [← hf]; rfl) (key_n a b n hn) h4 (keyT_eq _) (by
      rw [List.length_map]
      exact decide_eq_true (by omega))
    rw [q2, q3] at es
    have hl2 := put_len (p := [a, b].take n) (d := mkRat ((c : Int) - 9) (1 + d)) ts
    obtain ⟨ts', w3, w4, w5, w6, w7, e, b1, b2⟩ := termsLoop hq hf hn hg m (i + 1) (putT ts ([a, b].take n) (mkRat ((c : Int) - 9) (1 + d))) (some (.sh (.int (i : Nat)))) (some (.sh (pI a))) (some (.sh (pI b))) (some (.sh (pI c))) (some (.sh (pI d))) (by omega) (ht.put hkl hkP (hP.sz.mono (by decide) (Nat.le_refl _))) (by omega)
    refine ⟨ts', w3, w4, w5, w6, w7, ?_, b1, b2⟩
    rw [List.range'_succ, List.map_cons, for_cons]
    show loopK (gb_fr__law_terms_0 G__law_low [some (.sh (.lst ds)), some (.sh (.lst fsl)), some (.ow (dk fr ts)), some (.sh (.int (i : Nat))), v4, v5, v6, v7]) _ = _
    rw [es, loop_nx]
    exact e
theorem runT (f0 : Env → RS) (d0 d1 : D) (ks : List (List Key)) (xs : List D) (w3 w4 w5 w6 w7 : Option B) (h : f0 [some (.sh d0), some (.sh d1), some (.ow (.dT [] [])), none, none, none, none, none] = .nx [some (.sh d0), some (.sh d1), some (.ow (.dT ks xs)), w3, w4, w5, w6, w7]) : runO (gp_g__law_terms f0) 8 [d0, d1] = .ok (.dT ks xs) := by
  unfold gp_g__law_terms
  simp [fK, fOp, fU, fM, fIsN, fNotN, tB', tNot', tAnd', tOr', vAnd, vOr, vNot, fIf, lNil, lCons, fLst, fTup, fCall, fMk, fB, fSlc, oNo, oSo, fSplit, fLc, iSq, iR1, tYes', zF, zS, fF1, fF3, sSeq, sRet, sIf, sSet, sSetO, sFor, sApp, sPar, sAsg, sRaise, sFld, sFrz, sBad, sTryAs, fN, fRz, tIfx, sPar3, sRaiseB, iZip, iEnu, fMet, fMkd, fMkk, fDict, fSlcL, fSort, fRc, iZipA, iEnuA, iKs, sDrop, sDput, sLput, fDget, fChain, chainK, hLst, look, peek, bo, opt, mkL, mkT, small, fnG, mkG, int2, negC, seqD, hName, hCons, hNil, hTup, par2, appD, isOw, frz, setF, ptI, isiD, notScr, env0, env0I, selfF, runB, runI, cAbs, cLen, isNone, strD, payD, tryD, noErr, cLenS, itemS, dSub, dLt, dLe, dGt, dGe, notB, isO, zipD, zipL, par3, rzD, rcD, zipA, seqB, enuA, keysD, dgetR, dlookD, isOwD, cMax, cTup, Res.bind_ok, Res.bind_err, Res.bind_bad, seq_nx, seq_rt, seq_err, bnd_ok, bnd_err, loop_nx, loop_rt, for_nil, for_cons, int_i, runO, retO, h]
theorem terms_eq {n g : Nat} {ds fsl : List D} (hq : Quad g ds) (hf : fsl.length = n) (hn : n ≤ 2) (hg : g ≤ 100) : ∃ ts, G__law_terms [.lst ds, .lst fsl] = .ok (dk fr ts) ∧ Tms n 12 100 1 ts ∧ ts.length ≤ g := by
  obtain ⟨ts, w3, w4, w5, w6, w7, e, b1, b2⟩ := termsLoop hq hf hn hg g 0 [] none none none none none (by omega) ⟨List.nodup_nil, fun t ht => by simp at ht⟩ (by simp)
  refine ⟨ts, ?_, b1, b2⟩
  refine runT fr__law_terms_0 _ _ _ _ w3 w4 w5 w6 w7 ?_
  have e1 : fdivC ((ds.length : Nat) : Int) 4 = some (.int (g : Nat)) := by
    rw [fdiv_ok (by decide) (by decide), hq.1]
    congr 2
    rw [Int.fdiv_eq_ediv_of_nonneg _ (by decide)]
    omega
  have e2 : cLen [.lst ds] = some (.int (ds.length : Nat)) := rfl
  rw [← List.range_eq_range'] at e
  rw [gb_fr__law_terms_0_eq]
  simp only [sFor, iR1, lCons, lNil, fOp, int2, fB, fK, peek, List.getElem?_cons_zero, List.getElem?_cons_succ, Res.bind_ok, e2, opt, e1, rng1_eq g (by omega), bnd_ok]
  exact e
end DL.K44
namespace DL.K44
open PySem L2
/-! ### texts of numbers -/
abbrev Zt (i : Int) : Str := Str.ofString (toString i)
abbrev cl (x : Str) : List Nat := x.cps.toList
open PySem.NumText in
theorem zt_dig (n : Nat) : AllDigits (cl (Zt n)) := by
  intro c hc
  rw [show cl (Zt n) = _ from PySem.W.KIN.signs_num n] at hc
  obtain ⟨x, hx, rfl⟩ := List.mem_map.mp hc
  exact PyProof.Rows.digit_range (Nat.isDigit_of_mem_toDigits (by decide) (by decide) hx)
open PySem.NumText in
theorem zt_val (n : Nat) : digitsVal (cl (Zt n)) = n := by
  rw [show cl (Zt n) = _ from PySem.W.KIN.signs_num n]
  exact PySem.W.KIN.val_back n
theorem zt_inj {m n : Nat} (h : Zt m = Zt n) : m = n := by
  rw [← zt_val m, ← zt_val n, h]
theorem cl_app (a b : Str) : cl (a ++ b) = cl a ++ cl b := by
  show (a.cps ++ b.cps).toList = _
  rw [Array.toList_append]
theorem cl_inj {a b : Str} (h : cl a = cl b) : a = b := by
  cases a with
  | mk x =>
    cases b with
    | mk y =>
      have : x = y := Array.toList_inj.mp h
      rw [this]
theorem app_assoc (a b c : Str) : a ++ b ++ c = a ++ (b ++ c) := cl_inj (by rw [cl_app, cl_app, cl_app, cl_app, List.append_assoc])
theorem empty_app (a : Str) : Str.empty ++ a = a := cl_inj (by rw [cl_app]; rfl)
theorem emp_app (a : Str) : ("" : Str) ++ a = a := empty_app a
def b1 : Nat := 1000
theorem pw1 : 2 ^ b1 ≤ 2 ^ 1900 := Nat.pow_le_pow_right (by decide) (by decide)
theorem lgN {n : Nat} (h : n < 2 ^ b1) : n.log2 < 1920 := by
  by_cases hn : n = 0
  · subst hn
    decide
  · have := (Nat.log2_lt hn).mpr (Nat.lt_of_lt_of_le h pw1)
    omega
theorem zt_len {n : Nat} (h : n < 2 ^ b1) : (Zt n).length ≤ 1000 := by
  refine PyProof.Rows.toString_length_le (v := (n : Int)) (k := 1000) (by omega) (by decide) ?_
  have : n < 10 ^ b1 := Nat.lt_of_lt_of_le h (Nat.pow_le_pow_left (by decide) _)
  have e : ((10 ^ b1 : Nat) : Int) = 10 ^ 1000 := by
    rw [Int.natCast_pow]
    rfl
  rw [← e]
  exact_mod_cast this
def nt (n d : Nat) : Str := if d = 1 then Zt n else Zt n ++ ("/" : Str) ++ Zt d
theorem z1 : Zt (1 : Nat) = ("1" : Str) := by decide +kernel
theorem nt_one (n d : Nat) : nt n d = ("1" : Str) ↔ n = 1 ∧ d = 1 := by
  unfold nt
  by_cases hd : d = 1
  · rw [if_pos hd, ← z1]
    exact ⟨fun h => ⟨zt_inj h, hd⟩, fun h => by rw [h.1]⟩
  · rw [if_neg hd]
    constructor
    · intro h
      have h2 : (47 : Nat) ∈ cl (Zt n ++ ("/" : Str) ++ Zt d) := by
        rw [cl_app, cl_app]
        have : (47 : Nat) ∈ cl ("/" : Str) := by decide +kernel
        simp only [List.mem_append]
        exact .inl (.inr this)
      rw [h] at h2
      exact absurd h2 (by decide +kernel)
    · exact fun h => absurd h.2 hd
theorem nt_len {n d : Nat} (hn : n < 2 ^ b1) (hd : d < 2 ^ b1) : (nt n d).length ≤ 2001 := by
  unfold nt
  have h1 := zt_len hn
  have h2 := zt_len hd
  have h3 : ("/" : Str).length = 1 := by decide +kernel
  split
  · omega
  · rw [Str.length_append, Str.length_append]
    omega
/-! ### texts that one may compare -/
abbrev sok (x : Str) : Prop := PyData.strOk x = true
theorem ok_of {x : Str} (h : ∀ c ∈ cl x, c < 0x110000) : sok x := by
  show x.cps.all (· < 0x110000) = true
  rw [← Array.all_toList, List.all_eq_true]
  exact fun c hc => decide_eq_true (h c hc)
theorem ok_ch {x : Str} (h : sok x) : ∀ c ∈ cl x, c < 0x110000 := fun c hc => by
  have h : x.cps.all (· < 0x110000) = true := h
  rw [← Array.all_toList, List.all_eq_true] at h
  exact of_decide_eq_true (h c hc)
theorem app_ok {x y : Str} (hx : sok x) (hy : sok y) : sok (x ++ y) := ok_of fun c hc => by
  rw [cl_app] at hc
  rcases List.mem_append.mp hc with z | z
  · exact ok_ch hx c z
  · exact ok_ch hy c z
theorem zt_ok (n : Nat) : sok (Zt n) := ok_of fun c hc => by
  have := zt_dig n c hc
  omega
theorem nt_ok (n d : Nat) : sok (nt n d) := by
  unfold nt
  split
  · exact zt_ok n
  · exact app_ok (app_ok (zt_ok n) (by decide +kernel)) (zt_ok d)
theorem jo_ok {s : Str} (hs : sok s) : ∀ {zs : List Str}, (∀ z ∈ zs, sok z) → sok (Str.join s zs)
  | [], _ => by
    show sok Str.empty
    decide +kernel
  | [x], h => h x (by simp)
  | x :: y :: r, h => app_ok (app_ok (h x (by simp)) hs) (jo_ok hs fun z hz => h z (List.mem_cons_of_mem _ hz))
abbrev sL (ws : List Str) : D := .lst (ws.map .str)
theorem eq_l0 {ws : List Str} (h : ∀ z ∈ ws, sok z) : eqD (sL ws) (.lst []) = some (.bl (decide (ws = []))) := by
  have e := eqP_strs (ys := []) h (fun _ h => by simp at h)
  unfold eqD
  rw [show (D.lst []) = .lst (([] : List Str).map .str) from rfl, e]
  rfl
theorem ne_l0 {ws : List Str} (h : ∀ z ∈ ws, sok z) : neD (sL ws) (.lst []) = some (.bl (!decide (ws = []))) := by
  have e := eqP_strs (ys := []) h (fun _ h => by simp at h)
  unfold neD
  rw [show (D.lst []) = .lst (([] : List Str).map .str) from rfl, e]
  rfl
theorem add_s {x y : Str} (h : x.length + y.length ≤ 1000000) : addA (.str x) (.str y) = some (.str (x ++ y)) := by
  show (if small2 x.length y.length = true then some (D.str (x ++ y)) else none) = _
  rw [if_pos (by simp [small2]; exact h)]
/-! ### joining -/
theorem strs_eq : ∀ zs : List Str, strsD (zs.map .str) = some zs
  | [] => rfl
  | z :: zs => by
    show (strsD (zs.map .str)).map (fun r => z :: r) = _
    rw [strs_eq zs]
    rfl
abbrev jn (zs : List Str) : Str := Txt.join ("*" : Str) zs
theorem jn_ok {zs : List Str} (h : ∀ z ∈ zs, sok z) : sok (jn zs) := by
  show sok (Builtin.Str.glued ("*" : Str) zs)
  rw [StrLaws.glued_eq_join]
  exact jo_ok (by decide +kernel) h
theorem sum_le {B : Nat} : ∀ {zs : List Str}, (∀ z ∈ zs, z.length ≤ B) → (zs.map (·.length)).sum ≤ zs.length * B
  | [], _ => Nat.zero_le _
  | z :: zs, h => by
    have h1 := h z (by simp)
    have h2 := sum_le (zs := zs) fun y hy => h y (by simp [hy])
    simp only [List.map_cons, List.sum_cons, List.length_cons, Nat.succ_mul]
    omega
theorem star1 : ("*" : Str).length = 1 := by decide +kernel
theorem jn_len {zs : List Str} (hl : zs.length ≤ 3) (h : ∀ z ∈ zs, z.length ≤ 3000) : (jn zs).length ≤ 9003 ∧ (zs.map (·.length)).sum + zs.length * ("*" : Str).length ≤ 9003 := by
  have e : (jn zs).length ≤ (zs.map (·.length)).sum + zs.length * ("*" : Str).length := by
    show (Builtin.Str.glued ("*" : Str) zs).length ≤ _
    rw [StrLaws.glued_eq_join]
    exact StrLaws.join_length_le _ zs
  have h2 := sum_le h
  rw [star1] at e ⊢
  have : zs.length * 3000 ≤ 3 * 3000 := Nat.mul_le_mul_right _ hl
  omega
theorem join_ok {zs : List Str} (hl : zs.length ≤ 3) (h : ∀ z ∈ zs, z.length ≤ 3000) : joinD (.str ("*" : Str)) (sL zs) = some (.str (jn zs)) := by
  unfold joinD
  simp only [strs_eq, Option.bind_some]
  rw [if_pos]
  have := (jn_len hl h).2
  omega
def tt (n d : Nat) (ws : List Str) : Str := if ws ≠ [] ∧ n = 1 ∧ d = 1 then jn ws else jn (nt n d :: ws)
theorem tt_len {n d : Nat} {ws : List Str} (hn : n < 2 ^ b1) (hd : d < 2 ^ b1) (hl : ws.length ≤ 2) (h : ∀ z ∈ ws, z.length ≤ 3000) : (tt n d ws).length ≤ 9003 := by
  unfold tt
  split
  · exact (jn_len (by omega) h).1
  · refine (jn_len (by simp; omega) fun z hz => ?_).1
    rcases List.mem_cons.mp hz with rfl | hz
    · exact Nat.le_trans (nt_len hn hd) (by decide)
    · exact h z hz
theorem tt_ok (n d : Nat) {ws : List Str} (h : ∀ z ∈ ws, sok z) : sok (tt n d ws) := by
  unfold tt
  split
  · exact jn_ok h
  · refine jn_ok fun z hz => ?_
    rcases List.mem_cons.mp hz with rfl | hz
    · exact nt_ok n d
    · exact h z hz
/-! ### words -/
def wd (f : Str) (p : Nat) : Str := if p = 1 then f else f ++ ("^" : Str) ++ Zt p
abbrev wz (x : Str × Nat) : Str := wd x.1 x.2
abbrev wp (x : Str × Nat) : Bool := decide (0 < x.2)
def ws (fs : List Str) (p : List Nat) : List Str := ((fs.zip p).filter wp).map wz
structure FsOk (fs : List Str) : Prop where
  len : fs.length ≤ 2
  sz : ∀ f ∈ fs, f.length ≤ 8
  ok : ∀ f ∈ fs, sok f
theorem wd_len {f : Str} {p : Nat} (hf : f.length ≤ 8) (hp : p ≤ 13) : (wd f p).length ≤ 3000 := by
  unfold wd
  have h1 := zt_len (n := p) (Nat.lt_of_le_of_lt hp (Nat.lt_of_lt_of_le (show 13 < 2 ^ 4 by decide) (Nat.pow_le_pow_right (by decide) (by decide))))
  have h2 : ("^" : Str).length = 1 := by decide +kernel
  split
  · omega
  · rw [Str.length_append, Str.length_append]
    omega
theorem ws_ok {fs : List Str} (F : FsOk fs) {p : List Nat} (hp : ∀ e ∈ p, e ≤ 13) : (ws fs p).length ≤ 2 ∧ (∀ z ∈ ws fs p, z.length ≤ 3000) ∧ ∀ z ∈ ws fs p, sok z := by
  refine ⟨?_, ?_, ?_⟩
  · unfold ws
    rw [List.length_map]
    refine Nat.le_trans (List.length_filter_le _ _) ?_
    rw [List.length_zip]
    have := F.len
    omega
  · intro z hz
    obtain ⟨x, hx, rfl⟩ := List.mem_map.mp hz
    have hm := (List.mem_filter.mp hx).1
    exact wd_len (F.sz _ (List.of_mem_zip hm).1) (hp _ (List.of_mem_zip hm).2)
  · intro z hz
    obtain ⟨x, hx, rfl⟩ := List.mem_map.mp hz
    have hm := (List.mem_filter.mp hx).1
    have ho := F.ok _ (List.of_mem_zip hm).1
    show sok (wd x.1 x.2)
    unfold wd
    split
    · exact ho
    · exact app_ok (app_ok ho (by decide +kernel)) (zt_ok _)
end DL.K44
namespace DL.K44
open PySem L2
/-! ### == of numbers -/
theorem req_gen {d : D} {p q : Rat} (h : Nu d p) : G_Ratio___eq__ [rt q, d] = .ok (.bl (decide (p = q))) := by
  have n1 := num_n h
  have n2 := halves_n h
  have e := eq_tt p.num (p.den : Nat) q.num (q.den : Nat)
  have hd : decide (p.num = q.num ∧ ((p.den : Nat) : Int) = (q.den : Nat)) = decide (p = q) := by
    congr 1
    apply propext
    constructor
    · rintro ⟨h1, h2⟩
      exact Rat.ext h1 (by omega)
    · rintro rfl
      exact ⟨rfl, rfl⟩
  rw [hd] at e
  unfold G_Ratio___eq__ g_Ratio___eq__
  simp [fK, fOp, fU, fM, fIsN, fNotN, tB', tNot', tAnd', tOr', vAnd, vOr, vNot, fIf, lNil, lCons, fLst, fTup, fCall, fMk, fB, fSlc, oNo, oSo, fSplit, fLc, iSq, iR1, tYes', zF, zS, fF1, fF3, sSeq, sRet, sIf, sSet, sSetO, sFor, sApp, sPar, sAsg, sRaise, sFld, sFrz, sBad, sTryAs, fN, fRz, tIfx, sPar3, sRaiseB, iZip, iEnu, fMet, fMkd, fMkk, fDict, fSlcL, fSort, fRc, iZipA, iEnuA, iKs, sDrop, sDput, sLput, fDget, fChain, chainK, hLst, look, peek, bo, opt, mkL, mkT, small, fnG, mkG, int2, negC, seqD, hName, hCons, hNil, hTup, par2, appD, isOw, frz, setF, ptI, isiD, notScr, env0, env0I, selfF, runB, runI, cAbs, cLen, isNone, strD, payD, tryD, noErr, cLenS, itemS, dSub, dLt, dLe, dGt, dGe, notB, isO, zipD, zipL, par3, rzD, rcD, zipA, seqB, enuA, keysD, dgetR, dlookD, isOwD, cMax, cTup, Res.bind_ok, Res.bind_err, Res.bind_bad, seq_nx, seq_rt, seq_err, bnd_ok, bnd_err, loop_nx, loop_rt, for_nil, for_cons, int_i, n1, n2, fldT, fldB, e]
theorem q1 (q : Rat) (n : Nat) (hn : q.num = n) : (1 : Rat) = q ↔ n = 1 ∧ q.den = 1 := by
  constructor
  · rintro rfl
    exact ⟨by have : (1 : Int) = n := hn
              omega, rfl⟩
  · rintro ⟨h1, h2⟩
    exact Rat.ext (by rw [hn, h1]; rfl) (by rw [h2]; rfl)
theorem neN1 {d : D} {q : Rat} (h : Nu d q) (n : Nat) (hn : q.num = n) : neN G_Ratio___eq__ d (.int 1) = .ok (.bl (!decide (n = 1 ∧ q.den = 1))) := by
  rcases h with rfl | ⟨i, rfl, rfl⟩
  · have e : neN G_Ratio___eq__ (rt q) (.int 1) = (G_Ratio___eq__ [rt q, .int 1]) >>= notB := rfl
    rw [e, req_gen (.inr ⟨1, rfl, rfl⟩)]
    show Res.ok (D.bl (!decide (((1 : Int) : Rat) = q))) = _
    congr 3
    exact decide_eq_decide.mpr (q1 q n hn)
  · have e : neN G_Ratio___eq__ (.int i) (.int 1) = opt (neD (.int i) (.int 1)) := rfl
    rw [e, ne_ii]
    show Res.ok (D.bl (!decide (i = 1))) = _
    congr 3
    have hi : i = n := hn
    have hd : (i : Rat).den = 1 := rfl
    apply decide_eq_decide.mpr
    rw [hd]
    constructor
    · intro h
      exact ⟨by omega, rfl⟩
    · rintro ⟨h, _⟩
      omega
/-! ### str of a number -/
structure Sm (q : Rat) : Prop where
  n : q.num.natAbs < 2 ^ b1
  d : q.den < 2 ^ b1
theorem fmt_i {n : Nat} (h : n < 2 ^ b1) : fmtD (.int (n : Nat)) = .ok (Zt n) := by
  show (if (n : Nat).log2 < 1920 then Res.ok (Zt n) else .bad) = _
  rw [if_pos (lgN h)]
theorem str_i (G : List D → Res D) {n : Nat} (h : n < 2 ^ b1) : strN G (.int (n : Nat)) = .ok (.str (Zt n)) := by
  show (if (n : Nat).log2 < 1920 then Res.ok (D.str (Zt n)) else .bad) = _
  rw [if_pos (lgN h)]
theorem ckS_ok {x : Str} (h : x.length ≤ 1000000) : ckS x = .ok x := if_pos h
theorem one_slash : ("/" : Str).length = 1 := by decide +kernel
theorem one_hat : ("^" : Str).length = 1 := by decide +kernel
theorem rstr_eq (q : Rat) (h : Sm q) (n : Nat) (hn : q.num = n) : G_Ratio___str__ [rt q] = .ok (.str (nt n q.den)) := by
  have hn' : n < 2 ^ b1 := by
    have := h.n
    rw [hn] at this
    exact this
  have h1 := zt_len hn'
  have h2 := zt_len h.d
  have h3 := one_slash
  unfold G_Ratio___str__ g_Ratio___str__
  have e : rt q = .obj 0 [.int (n : Nat), .int (q.den : Nat)] := by rw [← hn]
  rw [e]
  by_cases hd : q.den = 1
  · have e1 := eq_ii (q.den : Nat) 1
    rw [decide_eq_true (by omega)] at e1
    simp only [runB, env0, sSeq, sIf, sRet, tB', fOp, fU, fK, fF1, zF, peek, List.map_cons, List.map_nil, List.cons_append, List.nil_append, List.length_cons, List.length_nil, List.getElem?_cons_zero, List.getElem?_cons_succ, Res.bind_ok, opt, fldT, fldB, e1, bo, bnd_ok, if_true, seq_rt, fmt_i hn', nt, if_pos hd]
  · have e1 := eq_ii (q.den : Nat) 1
    rw [decide_eq_false (by omega)] at e1
    simp only [runB, env0, sSeq, sIf, sRet, tB', fOp, fU, fK, fF1, fF3, zF, zS, peek, List.map_cons, List.map_nil, List.cons_append, List.nil_append, List.length_cons, List.length_nil, List.getElem?_cons_zero, List.getElem?_cons_succ, Res.bind_ok, opt, fldT, fldB, e1, bo, bnd_ok, Bool.false_eq_true, if_false, seq_nx, seq_rt, fmt_i hn', fmt_i h.d, nt, if_neg hd, empty_app]
    rw [ckS_ok (by omega), Res.bind_ok, ckS_ok (by rw [Str.length_append]; omega), Res.bind_ok, ckS_ok (by rw [Str.length_append, Str.length_append]; omega)]
    rfl
theorem str_n {d : D} {q : Rat} (hd : Nu d q) (h : Sm q) (n : Nat) (hn : q.num = n) : strN G_Ratio___str__ d = .ok (.str (nt n q.den)) := by
  rcases hd with rfl | ⟨i, rfl, rfl⟩
  · show (fnG 1 G_Ratio___str__ [rt q] >>= fun y => strD y >>= fun z => Res.ok (D.str z)) = _
    have e : fnG 1 G_Ratio___str__ [rt q] = G_Ratio___str__ [rt q] := rfl
    rw [e, rstr_eq q h n hn]
    rfl
  · have hi : i = n := hn
    have hn' : n < 2 ^ b1 := by
      have := h.n
      rw [hn] at this
      exact this
    rw [hi, str_i _ hn']
    unfold nt
    rw [if_pos (show (((n : Nat) : Int) : Rat).den = 1 from rfl)]
/-! ### |q| -/
theorem neg_mk (q : Rat) : mkRat (-q.num) q.den = -q := by
  rw [← Rat.neg_mkRat, Rat.mkRat_self]
theorem rneg_eq (q : Rat) (hb : q.den < big) : G_Ratio___neg__ [rt q] = .ok (rt (-q)) := by
  have e := init_eq (-q.num) q.den q.den_pos hb
  rw [neg_mk] at e
  unfold G_Ratio___neg__ g_Ratio___neg__
  simp [fK, fOp, fU, fM, fIsN, fNotN, tB', tNot', tAnd', tOr', vAnd, vOr, vNot, fIf, lNil, lCons, fLst, fTup, fCall, fMk, fB, fSlc, oNo, oSo, fSplit, fLc, iSq, iR1, tYes', zF, zS, fF1, fF3, sSeq, sRet, sIf, sSet, sSetO, sFor, sApp, sPar, sAsg, sRaise, sFld, sFrz, sBad, sTryAs, fN, fRz, tIfx, sPar3, sRaiseB, iZip, iEnu, fMet, fMkd, fMkk, fDict, fSlcL, fSort, fRc, iZipA, iEnuA, iKs, sDrop, sDput, sLput, fDget, fChain, chainK, hLst, look, peek, bo, opt, mkL, mkT, small, fnG, mkG, int2, negC, seqD, hName, hCons, hNil, hTup, par2, appD, isOw, frz, setF, ptI, isiD, notScr, env0, env0I, selfF, runB, runI, cAbs, cLen, isNone, strD, payD, tryD, noErr, cLenS, itemS, dSub, dLt, dLe, dGt, dGe, notB, isO, zipD, zipL, par3, rzD, rcD, zipA, seqB, enuA, keysD, dgetR, dlookD, isOwD, cMax, cTup, Res.bind_ok, Res.bind_err, Res.bind_bad, seq_nx, seq_rt, seq_err, bnd_ok, bnd_err, loop_nx, loop_rt, for_nil, for_cons, int_i, fldT, fldB, e]
theorem neg_n {d : D} {q : Rat} (hd : Nu d q) (hb : q.den < big) : ∃ e, negN G_Ratio___neg__ d = .ok e ∧ Nu e (-q) := by
  rcases hd with rfl | ⟨i, rfl, rfl⟩
  · refine ⟨rt (-q), ?_, .inl rfl⟩
    have e : negN G_Ratio___neg__ (rt q) = G_Ratio___neg__ [rt q] := rfl
    rw [e, rneg_eq q hb]
  · exact ⟨.int (-i), rfl, .inr ⟨-i, rfl, by rw [Rat.intCast_neg]⟩⟩
theorem top_n {d : D} {q : Rat} (hd : Nu d q) : G_top_of [d] = .ok (.int q.num) := by
  have e := halves_n hd
  unfold G_top_of g_top_of
  simp [fK, fOp, fU, fM, fIsN, fNotN, tB', tNot', tAnd', tOr', vAnd, vOr, vNot, fIf, lNil, lCons, fLst, fTup, fCall, fMk, fB, fSlc, oNo, oSo, fSplit, fLc, iSq, iR1, tYes', zF, zS, fF1, fF3, sSeq, sRet, sIf, sSet, sSetO, sFor, sApp, sPar, sAsg, sRaise, sFld, sFrz, sBad, sTryAs, fN, fRz, tIfx, sPar3, sRaiseB, iZip, iEnu, fMet, fMkd, fMkk, fDict, fSlcL, fSort, fRc, iZipA, iEnuA, iKs, sDrop, sDput, sLput, fDget, fChain, chainK, hLst, look, peek, bo, opt, mkL, mkT, small, fnG, mkG, int2, negC, seqD, hName, hCons, hNil, hTup, par2, appD, isOw, frz, setF, ptI, isiD, notScr, env0, env0I, selfF, runB, runI, cAbs, cLen, isNone, strD, payD, tryD, noErr, cLenS, itemS, dSub, dLt, dLe, dGt, dGe, notB, isO, zipD, zipL, par3, rzD, rcD, zipA, seqB, enuA, keysD, dgetR, dlookD, isOwD, cMax, cTup, Res.bind_ok, Res.bind_err, Res.bind_bad, seq_nx, seq_rt, seq_err, bnd_ok, bnd_err, loop_nx, loop_rt, for_nil, for_cons, int_i, e, it0]
def ab (q : Rat) : Rat := if q.num < 0 then -q else q
theorem ab_num (q : Rat) : (ab q).num = q.num.natAbs ∧ (ab q).den = q.den := by
  unfold ab
  split
  · rw [Rat.neg_num, Rat.neg_den]
    exact ⟨by omega, rfl⟩
  · exact ⟨by omega, rfl⟩
/-! ### term_text -/
theorem mkL0' : mkL [] = .ok (.lst []) := rfl
def eSz (Gt Gn : List D → Res D) : Env → Res D := fIf (tB' (fOp dLt (fCall 1 Gt (lCons (look 0) lNil)) (fK (.int 0)))) (fM (negN Gn) (look 0)) (look 0)
def eT1 (Ge : List D → Res D) : Env → Res Bool := tOr' (tB' (fOp eqD (peek 1) (fLst lNil))) (tB' (fN (neN Ge) (look 2) (fK (.int 1))))
def eJ1 (Gs : List D → Res D) : Env → Res D := fJoin (fK (.str "*")) (fOp addA (fLst (lCons (fM (strN Gs) (look 2)) lNil)) (peek 1))
def eJ2 : Env → Res D := fJoin (fK (.str "*")) (peek 1)
theorem tt_parts (Gt Gn Ge Gs : List D → Res D) : gp_g_term_text Gt Gn Ge Gs = sSeq (sSet 2 (eSz Gt Gn)) (sSeq (sIf (eT1 Ge) (sRet (eJ1 Gs)) .nx) (sRet eJ2)) := rfl
theorem runTT (e1 : Env → Res D) (e2 : Env → Res Bool) (e3 e4 : Env → Res D) (d f s r : D) (b : Bool) (h1 : e1 [some (.sh d), some (.sh f), none] = .ok s) (h2 : e2 [some (.sh d), some (.sh f), some (.sh s)] = .ok b) (h3 : b = true → e3 [some (.sh d), some (.sh f), some (.sh s)] = .ok r) (h4 : b = false → e4 [some (.sh d), some (.sh f), some (.sh s)] = .ok r) :
    runB (sSeq (sSet 2 e1) (sSeq (sIf e2 (sRet e3) .nx) (sRet e4))) 3 [d, f] = .ok r := by
  cases b with
  | true => simp [runB, env0, sSeq, sSet, sIf, sRet, h1, h2, h3 rfl, bnd_ok, seq_nx, seq_rt]
  | false => simp [runB, env0, sSeq, sSet, sIf, sRet, h1, h2, h4 rfl, bnd_ok, seq_nx, seq_rt]
theorem eSz_eq {d f : D} {q : Rat} (hd : Nu d q) (hb : q.den < big) : ∃ s, eSz G_top_of G_Ratio___neg__ [some (.sh d), some (.sh f), none] = .ok s ∧ Nu s (ab q) := by
  have h0 := top_n hd
  by_cases ht : q.num < 0
  · obtain ⟨s, h1, h2⟩ := neg_n hd hb
    refine ⟨s, ?_, by unfold ab; rw [if_pos ht]; exact h2⟩
    have e1 : dLt (.int q.num) (.int 0) = some (.bl true) := by show some (D.bl (decide (q.num < 0))) = _; rw [decide_eq_true ht]
    unfold eSz
    simp only [fIf, tB', fOp, fCall, fnG, lCons, lNil, look, fK, fM, peek, List.getElem?_cons_zero, Res.bind_ok, List.length_cons, List.length_nil, if_true, h0, opt, e1, bo, h1]
  · refine ⟨d, ?_, by unfold ab; rw [if_neg ht]; exact hd⟩
    have e1 : dLt (.int q.num) (.int 0) = some (.bl false) := by show some (D.bl (decide (q.num < 0))) = _; rw [decide_eq_false ht]
    unfold eSz
    simp only [fIf, tB', fOp, fCall, fnG, lCons, lNil, look, fK, fM, peek, List.getElem?_cons_zero, Res.bind_ok, List.length_cons, List.length_nil, if_true, h0, opt, e1, bo, Bool.false_eq_true, if_false]
theorem sm_ab {q : Rat} (h : Sm q) : Sm (ab q) := by
  obtain ⟨h1, h2⟩ := ab_num q
  exact ⟨by rw [h1]; exact h.n, by rw [h2]; exact h.d⟩
theorem mkL_s (x : D) : mkL [x] = .ok (.lst [x]) := rfl
theorem add_l1 (x : Str) (zs : List Str) (h : zs.length ≤ 1000) : addA (.lst [.str x]) (sL zs) = some (sL (x :: zs)) := by
  show (if small2 1 (zs.map D.str).length = true then some (D.lst ([.str x] ++ zs.map .str)) else none) = _
  rw [if_pos]
  · rfl
  · unfold small2
    rw [List.length_map]
    exact decide_eq_true (by omega)
theorem term_text_eq {d : D} {q : Rat} {zs : List Str} (hd : Nu d q) (h : Sm q) (hb : q.den < big) (hl : zs.length ≤ 2) (hz : ∀ z ∈ zs, z.length ≤ 3000) (hk : ∀ z ∈ zs, sok z) : G_term_text [d, sL zs] = .ok (.str (tt q.num.natAbs q.den zs)) := by
  obtain ⟨s, h1, h2⟩ := eSz_eq (f := sL zs) hd hb
  obtain ⟨a1, a2⟩ := ab_num q
  have hs := str_n h2 (sm_ab h) q.num.natAbs a1
  have hne := neN1 h2 q.num.natAbs a1
  rw [a2] at hs hne
  have hn' : q.num.natAbs < 2 ^ b1 := h.n
  refine runTT (eSz G_top_of G_Ratio___neg__) (eT1 G_Ratio___eq__) (eJ1 G_Ratio___str__) eJ2 d (sL zs) s _ (decide (zs = []) || !decide (q.num.natAbs = 1 ∧ q.den = 1)) h1 ?_ ?_ ?_
  · have e0 := eq_l0 hk
    unfold eT1
    cases hc : decide (zs = []) with
    | true =>
      rw [hc] at e0
      simp only [tOr', tB', fOp, fLst, lNil, fN, fK, look, peek, List.getElem?_cons_zero, List.getElem?_cons_succ, Res.bind_ok, mkL0', opt, e0, bo, if_true, Bool.true_or]
    | false =>
      rw [hc] at e0
      simp only [tOr', tB', fOp, fLst, lNil, fN, fK, look, peek, List.getElem?_cons_zero, List.getElem?_cons_succ, Res.bind_ok, mkL0', opt, e0, bo, Bool.false_eq_true, if_false, Bool.false_or, hne]
  · intro hc
    have ht : tt q.num.natAbs q.den zs = jn (nt q.num.natAbs q.den :: zs) := by
      unfold tt
      rw [if_neg]
      rintro ⟨z1, z2⟩
      rw [decide_eq_false z1, decide_eq_true z2] at hc
      cases hc
    have ej : joinD (.str ("*" : Str)) (sL (nt q.num.natAbs q.den :: zs)) = some (.str (jn (nt q.num.natAbs q.den :: zs))) := join_ok (by simp; omega) fun z hz' => by
      rcases List.mem_cons.mp hz' with rfl | hz'
      · exact Nat.le_trans (nt_len hn' h.d) (by decide)
      · exact hz z hz'
    rw [ht]
    unfold eJ1
    simp only [fJoin, fOp, fLst, lCons, lNil, fM, fK, look, peek, List.getElem?_cons_zero, List.getElem?_cons_succ, Res.bind_ok, strD, hs, mkL_s, add_l1 _ _ (show zs.length ≤ 1000 by omega), opt, ej]
  · intro hc
    rw [Bool.or_eq_false_iff] at hc
    have z1 : zs ≠ [] := of_decide_eq_false hc.1
    have z2 : q.num.natAbs = 1 ∧ q.den = 1 := by
      have := hc.2
      simpa using this
    have ht : tt q.num.natAbs q.den zs = jn zs := by
      unfold tt
      rw [if_pos ⟨z1, z2⟩]
    have ej : joinD (.str ("*" : Str)) (sL zs) = some (.str (jn zs)) := join_ok (by omega) hz
    rw [ht]
    unfold eJ2
    simp only [fJoin, fK, peek, List.getElem?_cons_zero, List.getElem?_cons_succ, Res.bind_ok, strD, opt, ej]
end DL.K44
namespace DL.K44
open PySem L2
/-! ### words -/
theorem p13 {p : Nat} (h : p ≤ 13) : p < 2 ^ b1 := Nat.lt_of_le_of_lt h (Nat.lt_of_lt_of_le (show 13 < 2 ^ 4 by decide) (Nat.pow_le_pow_right (by decide) (by decide)))
abbrev zI (x : Str × Nat) : D := .tup [.str x.1, pI x.2]
theorem zip_eq {d : D} {k : Bool} {fs : List Str} (p : List Nat) (hd : seqB d = some (k, fs.map .str)) : zipA [d, kT p] = .ok ((fs.zip p).map zI) := by
  have e2 : seqB (kT p) = some (false, p.map pI) := rfl
  simp only [zipA, hd, e2]
  congr 1
  unfold zipL
  rw [List.zip_map, List.map_map]
  rfl
theorem gt_n (p k : Nat) : dGt (pI p) (.int (k : Nat)) = some (.bl (decide (k < p))) := by
  show some (D.bl (decide (((p : Nat) : Int) > ((k : Nat) : Int)))) = _
  congr 2
  exact decide_eq_decide.mpr (by omega)
/-- factors_text -/
theorem stepF (fd kd : D) (f : Str) (p : Nat) (acc : List D) (hf : f.length ≤ 8) (hp : p ≤ 13) (ha : acc.length ≤ 1000) :
    gb_fr_factors_text_0 [some (.sh fd), some (.sh kd), some (.ow (.lst acc)), some (.sh (.str f)), some (.sh (pI p))] = .nx [some (.sh fd), some (.sh kd), some (.ow (.lst (if 0 < p then acc ++ [.str (wd f p)] else acc))), some (.sh (.str f)), some (.sh (pI p))] := by
  have e0 : dGt (pI p) (.int 0) = some (.bl (decide (0 < p))) := gt_n p 0
  have hs : small (acc.length + 1) = true := decide_eq_true (by omega)
  have ea : ∀ x : D, appD 2 [some (.sh fd), some (.sh kd), some (.ow (.lst acc)), some (.sh (.str f)), some (.sh (pI p))] x = .nx [some (.sh fd), some (.sh kd), some (.ow (.lst (acc ++ [x]))), some (.sh (.str f)), some (.sh (pI p))] := fun x => by
    show (if small (acc.length + 1) = true then RS.nx _ else .bad) = _
    rw [if_pos hs]
    rfl
  have eo : isOw 2 [some (.sh fd), some (.sh kd), some (.ow (.lst acc)), some (.sh (.str f)), some (.sh (pI p))] = .ok () := rfl
  have h1 := zt_len (p13 hp)
  have h3 := one_hat
  unfold gb_fr_factors_text_0
  by_cases h0 : 0 < p
  · rw [decide_eq_true h0] at e0
    by_cases hp1 : p = 1
    · have e1 : eqD (pI p) (.int 1) = some (.bl true) := by rw [eq_ii, decide_eq_true (by omega)]
      rw [if_pos h0]
      unfold wd
      rw [if_pos hp1]
      simp only [sIf, sApp, tB', fOp, fK, fIf, peek, look, List.getElem?_cons_zero, List.getElem?_cons_succ, Res.bind_ok, opt, e0, bo, bnd_ok, if_true, eo, e1, ea, Int.ofNat_zero]
    · have e1 : eqD (pI p) (.int 1) = some (.bl false) := by rw [eq_ii, decide_eq_false (by omega)]
      have ef : fmtD (.str f) = .ok f := if_pos (by omega)
      rw [if_pos h0]
      unfold wd
      rw [if_neg hp1]
      have e5 : (fF3 (zF (look 3)) (zS "^") (zF (look 4))) [some (.sh fd), some (.sh kd), some (.ow (.lst acc)), some (.sh (.str f)), some (.sh (pI p))] = .ok (.str (f ++ ("^" : Str) ++ Zt p)) := by
        simp only [fF3, zF, zS, look, List.getElem?_cons_zero, List.getElem?_cons_succ, Res.bind_ok, ef, fmt_i (p13 hp), empty_app]
        rw [ckS_ok (by omega), Res.bind_ok, ckS_ok (by rw [Str.length_append]; omega), Res.bind_ok, ckS_ok (by rw [Str.length_append, Str.length_append]; omega)]
        rfl
      generalize fF3 (zF (look 3)) (zS "^") (zF (look 4)) = ff at e5 ⊢
      simp only [sIf, sApp, tB', fOp, fK, fIf, peek, look, List.getElem?_cons_zero, List.getElem?_cons_succ, Res.bind_ok, opt, e0, bo, bnd_ok, if_true, eo, e1, ea, Bool.false_eq_true, if_false, e5, Int.ofNat_zero]
  · rw [decide_eq_false h0] at e0
    rw [if_neg h0]
    simp only [sIf, tB', fOp, fK, peek, List.getElem?_cons_zero, List.getElem?_cons_succ, Res.bind_ok, opt, e0, bo, bnd_ok, Bool.false_eq_true, if_false, Int.ofNat_zero]
theorem loopF (fd kd : D) : ∀ (xs : List (Str × Nat)) (acc : List D) (v3 v4 : Option B), (∀ x ∈ xs, x.1.length ≤ 8 ∧ x.2 ≤ 13) → acc.length + xs.length ≤ 1000 →
    ∃ w3 w4, forD (hTup fun ds ρ => if ds.length = 2 then (hCons (hName 3) (hCons (hName 4) hNil)) ds ρ else none) gb_fr_factors_text_0 (xs.map zI) [some (.sh fd), some (.sh kd), some (.ow (.lst acc)), v3, v4] = .nx [some (.sh fd), some (.sh kd), some (.ow (.lst (acc ++ ((xs.filter wp).map wz).map .str))), w3, w4]
  | [], acc, v3, v4, _, _ => ⟨v3, v4, by simp [for_nil]⟩
  | x :: xs, acc, v3, v4, hx, hl => by
    obtain ⟨h1, h2⟩ := hx x (by simp)
    have hl' : acc.length + xs.length + 1 ≤ 1000 := by simpa [Nat.add_assoc] using hl
    have es := stepF fd kd x.1 x.2 acc h1 h2 (by omega)
    obtain ⟨w3, w4, e⟩ := loopF fd kd xs (if 0 < x.2 then acc ++ [.str (wd x.1 x.2)] else acc) (some (.sh (.str x.1))) (some (.sh (pI x.2))) (fun y hy => hx y (by simp [hy])) (by
      split
      · simp; omega
      · omega)
    refine ⟨w3, w4, ?_⟩
    rw [List.map_cons, for_cons]
    show loopK (gb_fr_factors_text_0 [some (.sh fd), some (.sh kd), some (.ow (.lst acc)), some (.sh (.str x.1)), some (.sh (pI x.2))]) _ = _
    rw [es, loop_nx, e]
    congr 6
    by_cases h0 : 0 < x.2
    · rw [if_pos h0, List.filter_cons, if_pos (decide_eq_true h0)]
      simp
    · rw [if_neg h0, List.filter_cons, if_neg (by simpa using h0)]
theorem runF (f0 : Env → RS) (d0 d1 : D) (xs : List D) (w3 w4 : Option B) (h : f0 [some (.sh d0), some (.sh d1), some (.ow (.lst [])), none, none] = .nx [some (.sh d0), some (.sh d1), some (.ow (.lst xs)), w3, w4]) : runB (gp_g_factors_text f0) 5 [d0, d1] = .ok (.lst xs) := by
  unfold gp_g_factors_text
  simp [fK, fOp, fU, fM, fIsN, fNotN, tB', tNot', tAnd', tOr', vAnd, vOr, vNot, fIf, lNil, lCons, fLst, fTup, fCall, fMk, fB, fSlc, oNo, oSo, fSplit, fLc, iSq, iR1, tYes', zF, zS, fF1, fF3, sSeq, sRet, sIf, sSet, sSetO, sFor, sApp, sPar, sAsg, sRaise, sFld, sFrz, sBad, sTryAs, fN, fRz, tIfx, sPar3, sRaiseB, iZip, iEnu, fMet, fMkd, fMkk, fDict, fSlcL, fSort, fRc, iZipA, iEnuA, iKs, sDrop, sDput, sLput, fDget, fChain, chainK, hLst, look, peek, bo, opt, mkL, mkT, small, fnG, mkG, int2, negC, seqD, hName, hCons, hNil, hTup, par2, appD, isOw, frz, setF, ptI, isiD, notScr, env0, env0I, selfF, runB, runI, cAbs, cLen, isNone, strD, payD, tryD, noErr, cLenS, itemS, dSub, dLt, dLe, dGt, dGe, notB, isO, zipD, zipL, par3, rzD, rcD, zipA, seqB, enuA, keysD, dgetR, dlookD, isOwD, cMax, cTup, Res.bind_ok, Res.bind_err, Res.bind_bad, seq_nx, seq_rt, seq_err, bnd_ok, bnd_err, loop_nx, loop_rt, for_nil, for_cons, int_i, h]
theorem factors_eq {fs : List Str} (F : FsOk fs) {p : List Nat} (hp : ∀ e ∈ p, e ≤ 13) : G_factors_text [.tup (fs.map .str), kT p] = .ok (sL (ws fs p)) := by
  obtain ⟨w3, w4, e⟩ := loopF (.tup (fs.map .str)) (kT p) (fs.zip p) [] none none (fun x hx => ⟨F.sz _ (List.of_mem_zip hx).1, hp _ (List.of_mem_zip hx).2⟩) (by
    rw [List.length_zip]
    have := F.len
    simp
    omega)
  refine runF fr_factors_text_0 _ _ _ w3 w4 ?_
  have ez := zip_eq (d := .tup (fs.map .str)) (k := false) (fs := fs) p rfl
  rw [gb_fr_factors_text_0_eq]
  simp only [sFor, iZipA, lCons, lNil, look, List.getElem?_cons_zero, List.getElem?_cons_succ, Res.bind_ok, ez, bnd_ok]
  rw [List.nil_append] at e
  exact e
/-- the law's words -/
theorem item2 (x y : D) (b : Bool) : itemD (.lst [x, y]) (.int (if b then 1 else 0)) = some (if b = true then y else x) := by
  cases b <;> rfl
theorem lc_words (d0 d3 d4 v5 : Option B) (v8 : Option B) {fs : List Str} (F : FsOk fs) {p : List Nat} (hp : ∀ e ∈ p, e ≤ 13) (G : List D → Res D) :
    gp_lc__law_text_of_0 G [d0, some (.sh (sL fs)), some (.sh (kT p)), d3, d4, v5, none, none, v8] = .ok (sL (ws fs p)) := by
  have ez := zip_eq (d := sL fs) (k := true) (fs := fs) p rfl
  have e := lc_fm (h := hTup fun ds ρ => if ds.length = 2 then (hCons (hName 6) (hCons (hName 7) hNil)) ds ρ else none) (gt := tB' (fOp dGt (peek 7) (fK (.int 0)))) (fe := fOp itemD (fLst (lCons (look 6) (lCons (fOp addA (fOp addA (peek 6) (fK (.str "^"))) (fM (strN G) (look 7))) lNil))) (fB cInt2 (lCons (fOp dGt (peek 7) (fK (.int 1))) lNil))) (ρ := [d0, some (.sh (sL fs)), some (.sh (kT p)), d3, d4, v5, none, none, v8])
    zI (fun x => [d0, some (.sh (sL fs)), some (.sh (kT p)), d3, d4, v5, some (.sh (.str x.1)), some (.sh (pI x.2)), v8]) wp (fun x => .str (wz x)) (fs.zip p) fun x hx => by
    have hf := F.sz _ (List.of_mem_zip hx).1
    have hx2 := hp _ (List.of_mem_zip hx).2
    have g0 : dGt (pI x.2) (.int 0) = some (.bl (decide (0 < x.2))) := gt_n x.2 0
    have g1 : dGt (pI x.2) (.int 1) = some (.bl (decide (1 < x.2))) := gt_n x.2 1
    have h1 := zt_len (p13 hx2)
    have h3 := one_hat
    refine ⟨rfl, ?_, fun h0 => ?_⟩
    · simp only [tB', fOp, fK, peek, List.getElem?_cons_zero, List.getElem?_cons_succ, Res.bind_ok, opt, g0, bo]
    · have h0 : 0 < x.2 := of_decide_eq_true h0
      have e2 : ∀ b : Bool, cInt2 [.bl b] = some (.int (if b then 1 else 0)) := fun _ => rfl
      have e3 : ∀ x y : D, mkL [x, y] = .ok (.lst [x, y]) := fun _ _ => rfl
      simp only [fOp, fLst, lCons, lNil, fM, fB, fK, peek, look, List.getElem?_cons_zero, List.getElem?_cons_succ, Res.bind_ok, opt, add_s (show x.1.length + ("^" : Str).length ≤ 1000000 by omega), str_i G (p13 hx2), add_s (show (x.1 ++ ("^" : Str)).length + (Zt x.2).length ≤ 1000000 by rw [Str.length_append]; omega), e3, g1, e2, item2]
      show Res.ok _ = Res.ok (D.str (wd x.1 x.2))
      unfold wd
      by_cases hp1 : x.2 = 1
      · rw [if_pos hp1, decide_eq_false (by omega)]
        rfl
      · rw [if_neg hp1, decide_eq_true (by omega)]
        rfl
  unfold gp_lc__law_text_of_0
  simp only [fLc, iZipA, lCons, lNil, look, List.getElem?_cons_zero, List.getElem?_cons_succ, Res.bind_ok, ez, wipeE, List.set_cons_succ, List.set_cons_zero]
  rw [e, Res.bind_ok]
  have e4 : ((fs.zip p).filter wp).map (fun x => D.str (wz x)) = (ws fs p).map .str := by
    unfold ws
    rw [List.map_map]
    rfl
  rw [e4]
  exact mkL_ok (by
    rw [List.length_map]
    have := (ws_ok F hp).1
    omega)
end DL.K44
namespace DL.K44
open PySem L2
/-! ### _law_text_of -/
def eNu (Gs : List D → Res D) : Env → Res D := fIf (tB' (fOp eqD (peek 4) (fK (.int 1)))) (fM (strN Gs) (look 3)) (fOp addA (fOp addA (fM (strN Gs) (look 3)) (fK (.str "/"))) (fM (strN Gs) (look 4)))
def eC : Env → Res Bool := tAnd' (tB' (fOp neD (peek 5) (fLst lNil))) (tB' (fOp eqD (peek 8) (fK (.str "1"))))
def eX1 : Env → Res D := fJoin (fK (.str "*")) (peek 5)
def eX2 : Env → Res D := fJoin (fK (.str "*")) (fOp addA (fLst (lCons (look 8) lNil)) (peek 5))
theorem tx_parts (lc : Env → Res D) (Gs : List D → Res D) : gp_g__law_text_of lc Gs = (sSeq (sPar 3 4 (lCons (fB cAbs (lCons (fOp itemD (peek 0) (fK (.int 0))) lNil)) (lCons (fOp itemD (peek 0) (fK (.int 1))) lNil))) (sSeq (sSetO 5 lc) (sSeq (sSet 8 (eNu Gs)) (sFrz 5 (sRet (fIf eC eX1 eX2)))))) := rfl
theorem runTx (lc eN : Env → Res D) (c : Env → Res Bool) (x1 x2 : Env → Res D) (a : Int) (n : Int) (b f k w u r : D) (v : Bool) (ha : (if a < 0 then -a else a) = n)
    (h1 : lc [some (.sh (.tup [.int a, b])), some (.sh f), some (.sh k), some (.sh (.int n)), some (.sh b), none, none, none, none] = .ok w)
    (h2 : eN [some (.sh (.tup [.int a, b])), some (.sh f), some (.sh k), some (.sh (.int n)), some (.sh b), some (.ow w), none, none, none] = .ok u)
    (h3 : c [some (.sh (.tup [.int a, b])), some (.sh f), some (.sh k), some (.sh (.int n)), some (.sh b), some (.sh w), none, none, some (.sh u)] = .ok v)
    (h4 : v = true → x1 [some (.sh (.tup [.int a, b])), some (.sh f), some (.sh k), some (.sh (.int n)), some (.sh b), some (.sh w), none, none, some (.sh u)] = .ok r)
    (h5 : v = false → x2 [some (.sh (.tup [.int a, b])), some (.sh f), some (.sh k), some (.sh (.int n)), some (.sh b), some (.sh w), none, none, some (.sh u)] = .ok r) :
    runB (sSeq (sPar 3 4 (lCons (fB cAbs (lCons (fOp itemD (peek 0) (fK (.int 0))) lNil)) (lCons (fOp itemD (peek 0) (fK (.int 1))) lNil))) (sSeq (sSetO 5 lc) (sSeq (sSet 8 eN) (sFrz 5 (sRet (fIf c x1 x2)))))) 9 [.tup [.int a, b], f, k] = .ok r := by
  cases v with
  | true => simp [fK, fOp, fU, fM, fIsN, fNotN, tB', tNot', tAnd', tOr', vAnd, vOr, vNot, fIf, lNil, lCons, fLst, fTup, fCall, fMk, fB, fSlc, oNo, oSo, fSplit, fLc, iSq, iR1, tYes', zF, zS, fF1, fF3, sSeq, sRet, sIf, sSet, sSetO, sFor, sApp, sPar, sAsg, sRaise, sFld, sFrz, sBad, sTryAs, fN, fRz, tIfx, sPar3, sRaiseB, iZip, iEnu, fMet, fMkd, fMkk, fDict, fSlcL, fSort, fRc, iZipA, iEnuA, iKs, sDrop, sDput, sLput, fDget, fChain, chainK, hLst, look, peek, bo, opt, mkL, mkT, small, fnG, mkG, int2, negC, seqD, hName, hCons, hNil, hTup, par2, appD, isOw, frz, setF, ptI, isiD, notScr, env0, env0I, selfF, runB, runI, cAbs, cLen, isNone, strD, payD, tryD, noErr, cLenS, itemS, dSub, dLt, dLe, dGt, dGe, notB, isO, zipD, zipL, par3, rzD, rcD, zipA, seqB, enuA, keysD, dgetR, dlookD, isOwD, cMax, cTup, Res.bind_ok, Res.bind_err, Res.bind_bad, seq_nx, seq_rt, seq_err, bnd_ok, bnd_err, loop_nx, loop_rt, for_nil, for_cons, int_i, it0, it1, ha, h1, h2, h3, h4 rfl]
  | false => simp [fK, fOp, fU, fM, fIsN, fNotN, tB', tNot', tAnd', tOr', vAnd, vOr, vNot, fIf, lNil, lCons, fLst, fTup, fCall, fMk, fB, fSlc, oNo, oSo, fSplit, fLc, iSq, iR1, tYes', zF, zS, fF1, fF3, sSeq, sRet, sIf, sSet, sSetO, sFor, sApp, sPar, sAsg, sRaise, sFld, sFrz, sBad, sTryAs, fN, fRz, tIfx, sPar3, sRaiseB, iZip, iEnu, fMet, fMkd, fMkk, fDict, fSlcL, fSort, fRc, iZipA, iEnuA, iKs, sDrop, sDput, sLput, fDget, fChain, chainK, hLst, look, peek, bo, opt, mkL, mkT, small, fnG, mkG, int2, negC, seqD, hName, hCons, hNil, hTup, par2, appD, isOw, frz, setF, ptI, isiD, notScr, env0, env0I, selfF, runB, runI, cAbs, cLen, isNone, strD, payD, tryD, noErr, cLenS, itemS, dSub, dLt, dLe, dGt, dGe, notB, isO, zipD, zipL, par3, rzD, rcD, zipA, seqB, enuA, keysD, dgetR, dlookD, isOwD, cMax, cTup, Res.bind_ok, Res.bind_err, Res.bind_bad, seq_nx, seq_rt, seq_err, bnd_ok, bnd_err, loop_nx, loop_rt, for_nil, for_cons, int_i, it0, it1, ha, h1, h2, h3, h5 rfl]
theorem abs_n (a : Int) : cAbs [.int a] = some (.int (a.natAbs : Nat)) := by
  show some (D.int _) = _
  rw [← abs_e]
theorem one_ok : sok ("1" : Str) := by decide +kernel
theorem text_of_eq {q : Rat} {fs : List Str} {p : List Nat} (F : FsOk fs) (h : Sm q) (hp : ∀ e ∈ p, e ≤ 13) : G__law_text_of [fr q, sL fs, kT p] = .ok (.str (tt q.num.natAbs q.den (ws fs p))) := by
  obtain ⟨hl, hz, hk⟩ := ws_ok F hp
  have hn' : q.num.natAbs < 2 ^ b1 := h.n
  have z1 := zt_len hn'
  have z2 := zt_len h.d
  have z3 := one_slash
  have hN : ∀ r0 r1 r2 w, eNu G_Ratio___str__ [r0, r1, r2, some (.sh (.int (q.num.natAbs : Nat))), some (.sh (.int (q.den : Nat))), w, none, none, none] = .ok (.str (nt q.num.natAbs q.den)) := fun r0 r1 r2 w => by
    unfold eNu nt
    by_cases hd : q.den = 1
    · have e1 : eqD (.int (q.den : Nat)) (.int 1) = some (.bl true) := by rw [eq_ii, decide_eq_true (by omega)]
      simp only [fIf, tB', fOp, fM, fK, peek, look, List.getElem?_cons_zero, List.getElem?_cons_succ, Res.bind_ok, opt, e1, bo, if_true, str_i _ hn', if_pos hd]
    · have e1 : eqD (.int (q.den : Nat)) (.int 1) = some (.bl false) := by rw [eq_ii, decide_eq_false (by omega)]
      simp only [fIf, tB', fOp, fM, fK, peek, look, List.getElem?_cons_zero, List.getElem?_cons_succ, Res.bind_ok, opt, e1, bo, Bool.false_eq_true, if_false, str_i _ hn', str_i _ h.d, if_neg hd, add_s (show (Zt q.num.natAbs).length + ("/" : Str).length ≤ 1000000 by omega), add_s (show (Zt q.num.natAbs ++ ("/" : Str)).length + (Zt q.den).length ≤ 1000000 by rw [Str.length_append]; omega)]
  refine runTx lc__law_text_of_0 (eNu G_Ratio___str__) eC eX1 eX2 q.num (q.num.natAbs : Nat) _ _ _ (sL (ws fs p)) _ _ (!decide (ws fs p = []) && decide (nt q.num.natAbs q.den = ("1" : Str))) (abs_e _) (lc_words _ _ _ _ _ F hp G_Ratio___str__) (hN _ _ _ _) ?_ ?_ ?_
  · have e0 := ne_l0 hk
    have e1 := eq_ss (nt_ok q.num.natAbs q.den) one_ok
    unfold eC
    cases hc : decide (ws fs p = []) with
    | true =>
      rw [hc] at e0
      simp only [tAnd', tB', fOp, fLst, lNil, fK, look, peek, List.getElem?_cons_zero, List.getElem?_cons_succ, Res.bind_ok, mkL0', opt, e0, bo, Bool.not_true, Bool.false_eq_true, if_false, Bool.false_and]
    | false =>
      rw [hc] at e0
      simp only [tAnd', tB', fOp, fLst, lNil, fK, look, peek, List.getElem?_cons_zero, List.getElem?_cons_succ, Res.bind_ok, mkL0', opt, e0, e1, bo, Bool.not_false, if_true, Bool.true_and]
  · intro hc
    rw [Bool.and_eq_true] at hc
    have y1 : ws fs p ≠ [] := by simpa using hc.1
    have y2 := (nt_one _ _).mp (of_decide_eq_true hc.2)
    have ht : tt q.num.natAbs q.den (ws fs p) = jn (ws fs p) := by
      unfold tt
      rw [if_pos ⟨y1, y2⟩]
    have ej : joinD (.str ("*" : Str)) (sL (ws fs p)) = some (.str (jn (ws fs p))) := join_ok (by omega) hz
    rw [ht]
    unfold eX1
    simp only [fJoin, fK, peek, List.getElem?_cons_zero, List.getElem?_cons_succ, Res.bind_ok, strD, opt, ej]
  · intro hc
    have ht : tt q.num.natAbs q.den (ws fs p) = jn (nt q.num.natAbs q.den :: ws fs p) := by
      unfold tt
      rw [if_neg]
      rintro ⟨y1, y2⟩
      rw [decide_eq_false y1, decide_eq_true ((nt_one _ _).mpr y2)] at hc
      cases hc
    have ej : joinD (.str ("*" : Str)) (sL (nt q.num.natAbs q.den :: ws fs p)) = some (.str (jn (nt q.num.natAbs q.den :: ws fs p))) := join_ok (by simp; omega) fun z hz' => by
      rcases List.mem_cons.mp hz' with rfl | hz'
      · exact Nat.le_trans (nt_len hn' h.d) (by decide)
      · exact hz z hz'
    rw [ht]
    unfold eX2
    simp only [fJoin, fOp, fLst, lCons, lNil, fK, look, peek, List.getElem?_cons_zero, List.getElem?_cons_succ, Res.bind_ok, strD, mkL_s, add_l1 _ _ (show (ws fs p).length ≤ 1000 by omega), opt, ej]
/-! ### the sum's text -/
def sg (c : Bool) (s : Str) : Str := if s = ("" : Str) then (if c = true then ("-" : Str) else ("" : Str)) else s ++ (if c = true then (" - " : Str) else (" + " : Str))
def stp (s : Str) (c : Bool) (t : Str) : Str := sg c s ++ t
def tx (fs : List Str) (s : Str) : List (List Nat × Rat) → Str
  | [] => s
  | t :: ts => tx fs (stp s (decide (t.2.num < 0)) (tt t.2.num.natAbs t.2.den (ws fs t.1))) ts
def txt (fs : List Str) (ts : List (List Nat × Rat)) : Str := if tx fs ("" : Str) ts = ("" : Str) then ("0" : Str) else tx fs ("" : Str) ts
structure Wk (L : Nat) (s : Str) : Prop where
  ok : sok s
  len : s.length ≤ L
theorem sg_wk {L : Nat} {s : Str} (c : Bool) (h : Wk L s) : Wk (L + 3) (sg c s) := by
  have l1 : ("-" : Str).length = 1 := by decide +kernel
  have l0 : ("" : Str).length = 0 := by decide +kernel
  have l2 : (" - " : Str).length = 3 := by decide +kernel
  have l3 : (" + " : Str).length = 3 := by decide +kernel
  have hl := h.len
  unfold sg
  constructor
  · split
    · cases c <;> decide +kernel
    · refine app_ok h.ok ?_
      cases c <;> decide +kernel
  · split
    · cases c <;> simp only [Bool.false_eq_true, if_false, if_true] <;> omega
    · rw [Str.length_append]
      cases c <;> simp only [Bool.false_eq_true, if_false, if_true] <;> omega
theorem stp_wk {L M : Nat} {s t : Str} (c : Bool) (h : Wk L s) (ht : Wk M t) : Wk (L + 3 + M) (stp s c t) := by
  have h1 := sg_wk c h
  refine ⟨app_ok h1.ok ht.ok, ?_⟩
  show (sg c s ++ t).length ≤ _
  rw [Str.length_append]
  have := h1.len
  have := ht.len
  omega
structure TOk (fs : List Str) (ts : List (List Nat × Rat)) : Prop where
  at_ : ∀ t ∈ ts, Sm t.2 ∧ t.2.den < big ∧ ∀ e ∈ t.1, e ≤ 13
theorem tt_wk {fs : List Str} (F : FsOk fs) {t : List Nat × Rat} (h : Sm t.2) (hp : ∀ e ∈ t.1, e ≤ 13) : Wk 9003 (tt t.2.num.natAbs t.2.den (ws fs t.1)) := by
  obtain ⟨hl, hz, hk⟩ := ws_ok F hp
  exact ⟨tt_ok _ _ hk, tt_len h.n h.d hl hz⟩
theorem tx_wk {fs : List Str} (F : FsOk fs) : ∀ (ts : List (List Nat × Rat)) (s : Str) (L : Nat), TOk fs ts → Wk L s → Wk (L + ts.length * 9006) (tx fs s ts)
  | [], s, L, _, h => ⟨h.ok, by have := h.len; simp only [tx]; omega⟩
  | t :: ts, s, L, ht, h => by
    obtain ⟨a1, a2, a3⟩ := ht.at_ t (by simp)
    have := tx_wk F ts _ _ ⟨fun x hx => ht.at_ x (by simp [hx])⟩ (stp_wk (decide (t.2.num < 0)) h (tt_wk F a1 a3))
    refine ⟨this.ok, ?_⟩
    have := this.len
    simp only [tx, List.length_cons]
    omega
theorem em_wk : Wk 0 ("" : Str) := ⟨by decide +kernel, by decide +kernel⟩
theorem txt_wk {fs : List Str} (F : FsOk fs) {ts : List (List Nat × Rat)} (ht : TOk fs ts) : Wk (ts.length * 9006 + 1) (txt fs ts) := by
  have h := tx_wk F ts _ 0 ht em_wk
  unfold txt
  split
  · exact ⟨by decide +kernel, by
      have : ("0" : Str).length = 1 := by decide +kernel
      omega⟩
  · exact ⟨h.ok, by have := h.len; omega⟩
end DL.K44
namespace DL.K44
open PySem L2
theorem em_ok : sok ("" : Str) := by decide +kernel
theorem lt_0 (n : Int) : dLt (.int n) (.int 0) = some (.bl (decide (n < 0))) := rfl
theorem l_m : ("-" : Str).length = 1 := by decide +kernel
theorem l_e : ("" : Str).length = 0 := by decide +kernel
theorem l_p : ("+" : Str).length = 1 := by decide +kernel
theorem l_b : (" " : Str).length = 1 := by decide +kernel
theorem l_sm : (" - " : Str).length = 3 := by decide +kernel
theorem l_sp : (" + " : Str).length = 3 := by decide +kernel
/-! ### joined_terms -/
def eS0 (Gt : List D → Res D) : Env → Res D := fIf (tB' (fOp dLt (fCall 1 Gt (lCons (look 2) lNil)) (fK (.int 0)))) (fK (.str "-")) (fK (.str ""))
def eS1 (Gt : List D → Res D) : Env → Res D := fOp addA (peek 1) (fIf (tB' (fOp dLt (fCall 1 Gt (lCons (look 2) lNil)) (fK (.int 0)))) (fK (.str " - ")) (fK (.str " + ")))
def eS2 (Gx : List D → Res D) : Env → Res D := fOp addA (peek 1) (fCall 2 Gx (lCons (look 2) (lCons (look 3) lNil)))
theorem j_parts (Gt Gx : List D → Res D) : gb_fr_joined_terms_0 Gt Gx = sSeq (sIf (tB' (fOp eqD (peek 1) (fK (.str "")))) (sSet 1 (eS0 Gt)) (sSet 1 (eS1 Gt))) (sSet 1 (eS2 Gx)) := rfl
theorem runJ (e0 e1 e2 : Env → Res D) (pd s d f u r : D) (b : Bool) (h : eqD s (.str ("" : Str)) = some (.bl b)) (h0 : b = true → e0 [some (.sh pd), some (.sh s), some (.sh d), some (.sh f)] = .ok u) (h1 : b = false → e1 [some (.sh pd), some (.sh s), some (.sh d), some (.sh f)] = .ok u) (h2 : e2 [some (.sh pd), some (.sh u), some (.sh d), some (.sh f)] = .ok r) :
    sSeq (sIf (tB' (fOp eqD (peek 1) (fK (.str "")))) (sSet 1 e0) (sSet 1 e1)) (sSet 1 e2) [some (.sh pd), some (.sh s), some (.sh d), some (.sh f)] = .nx [some (.sh pd), some (.sh r), some (.sh d), some (.sh f)] := by
  cases b with
  | true => simp [fK, fOp, fU, fM, fIsN, fNotN, tB', tNot', tAnd', tOr', vAnd, vOr, vNot, fIf, lNil, lCons, fLst, fTup, fCall, fMk, fB, fSlc, oNo, oSo, fSplit, fLc, iSq, iR1, tYes', zF, zS, fF1, fF3, sSeq, sRet, sIf, sSet, sSetO, sFor, sApp, sPar, sAsg, sRaise, sFld, sFrz, sBad, sTryAs, fN, fRz, tIfx, sPar3, sRaiseB, iZip, iEnu, fMet, fMkd, fMkk, fDict, fSlcL, fSort, fRc, iZipA, iEnuA, iKs, sDrop, sDput, sLput, fDget, fChain, chainK, hLst, look, peek, bo, opt, mkL, mkT, small, fnG, mkG, int2, negC, seqD, hName, hCons, hNil, hTup, par2, appD, isOw, frz, setF, ptI, isiD, notScr, env0, env0I, selfF, runB, runI, cAbs, cLen, isNone, strD, payD, tryD, noErr, cLenS, itemS, dSub, dLt, dLe, dGt, dGe, notB, isO, zipD, zipL, par3, rzD, rcD, zipA, seqB, enuA, keysD, dgetR, dlookD, isOwD, cMax, cTup, Res.bind_ok, Res.bind_err, Res.bind_bad, seq_nx, seq_rt, seq_err, bnd_ok, bnd_err, loop_nx, loop_rt, for_nil, for_cons, int_i, h, h0 rfl, h2]
  | false => simp [fK, fOp, fU, fM, fIsN, fNotN, tB', tNot', tAnd', tOr', vAnd, vOr, vNot, fIf, lNil, lCons, fLst, fTup, fCall, fMk, fB, fSlc, oNo, oSo, fSplit, fLc, iSq, iR1, tYes', zF, zS, fF1, fF3, sSeq, sRet, sIf, sSet, sSetO, sFor, sApp, sPar, sAsg, sRaise, sFld, sFrz, sBad, sTryAs, fN, fRz, tIfx, sPar3, sRaiseB, iZip, iEnu, fMet, fMkd, fMkk, fDict, fSlcL, fSort, fRc, iZipA, iEnuA, iKs, sDrop, sDput, sLput, fDget, fChain, chainK, hLst, look, peek, bo, opt, mkL, mkT, small, fnG, mkG, int2, negC, seqD, hName, hCons, hNil, hTup, par2, appD, isOw, frz, setF, ptI, isiD, notScr, env0, env0I, selfF, runB, runI, cAbs, cLen, isNone, strD, payD, tryD, noErr, cLenS, itemS, dSub, dLt, dLe, dGt, dGe, notB, isO, zipD, zipL, par3, rzD, rcD, zipA, seqB, enuA, keysD, dgetR, dlookD, isOwD, cMax, cTup, Res.bind_ok, Res.bind_err, Res.bind_bad, seq_nx, seq_rt, seq_err, bnd_ok, bnd_err, loop_nx, loop_rt, for_nil, for_cons, int_i, h, h1 rfl, h2]
theorem stepJ {Gt Gx : List D → Res D} (pd d f : D) (s t : Str) (n : Int) (L M : Nat) (hs : Wk L s) (ht : Wk M t) (hl : L + 3 + M ≤ 1000000) (h0 : Gt [d] = .ok (.int n)) (h1 : Gx [d, f] = .ok (.str t)) :
    gb_fr_joined_terms_0 Gt Gx [some (.sh pd), some (.sh (.str s)), some (.sh d), some (.sh f)] = .nx [some (.sh pd), some (.sh (.str (stp s (decide (n < 0)) t))), some (.sh d), some (.sh f)] := by
  have hw := sg_wk (decide (n < 0)) hs
  have a1 := hw.len
  have a2 := ht.len
  have a3 := hs.len
  rw [j_parts]
  refine runJ _ _ _ pd (.str s) d f (.str (sg (decide (n < 0)) s)) _ (decide (s = ("" : Str))) (eq_ss hs.ok em_ok) ?_ ?_ ?_
  · intro hc
    have hc := of_decide_eq_true hc
    unfold eS0 sg
    rw [if_pos hc]
    cases hn : decide (n < 0) <;> simp [fK, fOp, fU, fM, fIsN, fNotN, tB', tNot', tAnd', tOr', vAnd, vOr, vNot, fIf, lNil, lCons, fLst, fTup, fCall, fMk, fB, fSlc, oNo, oSo, fSplit, fLc, iSq, iR1, tYes', zF, zS, fF1, fF3, sSeq, sRet, sIf, sSet, sSetO, sFor, sApp, sPar, sAsg, sRaise, sFld, sFrz, sBad, sTryAs, fN, fRz, tIfx, sPar3, sRaiseB, iZip, iEnu, fMet, fMkd, fMkk, fDict, fSlcL, fSort, fRc, iZipA, iEnuA, iKs, sDrop, sDput, sLput, fDget, fChain, chainK, hLst, look, peek, bo, opt, mkL, mkT, small, fnG, mkG, int2, negC, seqD, hName, hCons, hNil, hTup, par2, appD, isOw, frz, setF, ptI, isiD, notScr, env0, env0I, selfF, runB, runI, cAbs, cLen, isNone, strD, payD, tryD, noErr, cLenS, itemS, dSub, dLt, dLe, dGt, dGe, notB, isO, zipD, zipL, par3, rzD, rcD, zipA, seqB, enuA, keysD, dgetR, dlookD, isOwD, cMax, cTup, Res.bind_ok, Res.bind_err, Res.bind_bad, seq_nx, seq_rt, seq_err, bnd_ok, bnd_err, loop_nx, loop_rt, for_nil, for_cons, int_i, h0, lt_0, hn] <;> simp_all
  · intro hc
    have hc := of_decide_eq_false hc
    unfold eS1 sg
    rw [if_neg hc]
    have b1 : addA (.str s) (.str (" - " : Str)) = some (.str (s ++ (" - " : Str))) := add_s (by rw [l_sm]; omega)
    have b2 : addA (.str s) (.str (" + " : Str)) = some (.str (s ++ (" + " : Str))) := add_s (by rw [l_sp]; omega)
    cases hn : decide (n < 0) with
    | true =>
      have hn := of_decide_eq_true hn
      simp [fK, fOp, fU, fM, fIsN, fNotN, tB', tNot', tAnd', tOr', vAnd, vOr, vNot, fIf, lNil, lCons, fLst, fTup, fCall, fMk, fB, fSlc, oNo, oSo, fSplit, fLc, iSq, iR1, tYes', zF, zS, fF1, fF3, sSeq, sRet, sIf, sSet, sSetO, sFor, sApp, sPar, sAsg, sRaise, sFld, sFrz, sBad, sTryAs, fN, fRz, tIfx, sPar3, sRaiseB, iZip, iEnu, fMet, fMkd, fMkk, fDict, fSlcL, fSort, fRc, iZipA, iEnuA, iKs, sDrop, sDput, sLput, fDget, fChain, chainK, hLst, look, peek, bo, opt, mkL, mkT, small, fnG, mkG, int2, negC, seqD, hName, hCons, hNil, hTup, par2, appD, isOw, frz, setF, ptI, isiD, notScr, env0, env0I, selfF, runB, runI, cAbs, cLen, isNone, strD, payD, tryD, noErr, cLenS, itemS, dSub, dLt, dLe, dGt, dGe, notB, isO, zipD, zipL, par3, rzD, rcD, zipA, seqB, enuA, keysD, dgetR, dlookD, isOwD, cMax, cTup, Res.bind_ok, Res.bind_err, Res.bind_bad, seq_nx, seq_rt, seq_err, bnd_ok, bnd_err, loop_nx, loop_rt, for_nil, for_cons, int_i, h0, hn, b1]
    | false =>
      have hn := of_decide_eq_false hn
      simp [fK, fOp, fU, fM, fIsN, fNotN, tB', tNot', tAnd', tOr', vAnd, vOr, vNot, fIf, lNil, lCons, fLst, fTup, fCall, fMk, fB, fSlc, oNo, oSo, fSplit, fLc, iSq, iR1, tYes', zF, zS, fF1, fF3, sSeq, sRet, sIf, sSet, sSetO, sFor, sApp, sPar, sAsg, sRaise, sFld, sFrz, sBad, sTryAs, fN, fRz, tIfx, sPar3, sRaiseB, iZip, iEnu, fMet, fMkd, fMkk, fDict, fSlcL, fSort, fRc, iZipA, iEnuA, iKs, sDrop, sDput, sLput, fDget, fChain, chainK, hLst, look, peek, bo, opt, mkL, mkT, small, fnG, mkG, int2, negC, seqD, hName, hCons, hNil, hTup, par2, appD, isOw, frz, setF, ptI, isiD, notScr, env0, env0I, selfF, runB, runI, cAbs, cLen, isNone, strD, payD, tryD, noErr, cLenS, itemS, dSub, dLt, dLe, dGt, dGe, notB, isO, zipD, zipL, par3, rzD, rcD, zipA, seqB, enuA, keysD, dgetR, dlookD, isOwD, cMax, cTup, Res.bind_ok, Res.bind_err, Res.bind_bad, seq_nx, seq_rt, seq_err, bnd_ok, bnd_err, loop_nx, loop_rt, for_nil, for_cons, int_i, h0, hn, b2]
  · unfold eS2
    have b3 : addA (.str (sg (decide (n < 0)) s)) (.str t) = some (.str (stp s (decide (n < 0)) t)) := add_s (by omega)
    simp only [fOp, fCall, fnG, lCons, lNil, look, peek, List.getElem?_cons_zero, List.getElem?_cons_succ, Res.bind_ok, List.length_cons, List.length_nil, if_true, h1, opt, b3]
abbrev jI (fs : List Str) (t : List Nat × Rat) : D := .tup [pl t.2, sL (ws fs t.1)]
theorem loopJ {fs : List Str} (F : FsOk fs) (pd : D) : ∀ (us : List (List Nat × Rat)) (s : Str) (L : Nat) (v2 v3 : Option B), TOk fs us → Wk L s → L + us.length * 9006 ≤ 1000000 →
    ∃ w2 w3, forD (hTup fun ds ρ => if ds.length = 2 then (hCons (hName 2) (hCons (hName 3) hNil)) ds ρ else none) (gb_fr_joined_terms_0 G_top_of G_term_text) (us.map (jI fs)) [some (.sh pd), some (.sh (.str s)), v2, v3] = .nx [some (.sh pd), some (.sh (.str (tx fs s us))), w2, w3]
  | [], s, L, v2, v3, _, _, _ => ⟨v2, v3, rfl⟩
  | t :: us, s, L, v2, v3, ht, hs, hl => by
    obtain ⟨a1, a2, a3⟩ := ht.at_ t (by simp)
    obtain ⟨b1, b2, b3⟩ := ws_ok F a3
    have hw := tt_wk F a1 a3
    rw [List.length_cons] at hl
    have es := stepJ pd (pl t.2) (sL (ws fs t.1)) s _ t.2.num L 9003 hs hw (by omega) (top_n (pl_nu t.2)) (term_text_eq (pl_nu t.2) a1 a2 b1 b2 b3)
    obtain ⟨w2, w3, e⟩ := loopJ F pd us _ _ (some (.sh (pl t.2))) (some (.sh (sL (ws fs t.1)))) ⟨fun x hx => ht.at_ x (by simp [hx])⟩ (stp_wk (decide (t.2.num < 0)) hs hw) (by omega)
    refine ⟨w2, w3, ?_⟩
    rw [List.map_cons, for_cons]
    show loopK (gb_fr_joined_terms_0 G_top_of G_term_text [some (.sh pd), some (.sh (.str s)), some (.sh (pl t.2)), some (.sh (sL (ws fs t.1)))]) _ = _
    rw [es, loop_nx, e]
    rfl
theorem runJo (f0 : Env → RS) (pd : D) (s : Str) (w2 w3 : Option B) (hs : sok s) (h : f0 [some (.sh pd), some (.sh (.str ("" : Str))), none, none] = .nx [some (.sh pd), some (.sh (.str s)), w2, w3]) : runB (gp_g_joined_terms f0) 4 [pd] = .ok (.str (if s = ("" : Str) then ("0" : Str) else s)) := by
  have e := ne_ss hs em_ok
  unfold gp_g_joined_terms
  by_cases hc : s = ("" : Str)
  · rw [decide_eq_true hc] at e
    rw [if_pos hc]
    simp [fK, fOp, fU, fM, fIsN, fNotN, tB', tNot', tAnd', tOr', vAnd, vOr, vNot, fIf, lNil, lCons, fLst, fTup, fCall, fMk, fB, fSlc, oNo, oSo, fSplit, fLc, iSq, iR1, tYes', zF, zS, fF1, fF3, sSeq, sRet, sIf, sSet, sSetO, sFor, sApp, sPar, sAsg, sRaise, sFld, sFrz, sBad, sTryAs, fN, fRz, tIfx, sPar3, sRaiseB, iZip, iEnu, fMet, fMkd, fMkk, fDict, fSlcL, fSort, fRc, iZipA, iEnuA, iKs, sDrop, sDput, sLput, fDget, fChain, chainK, hLst, look, peek, bo, opt, mkL, mkT, small, fnG, mkG, int2, negC, seqD, hName, hCons, hNil, hTup, par2, appD, isOw, frz, setF, ptI, isiD, notScr, env0, env0I, selfF, runB, runI, cAbs, cLen, isNone, strD, payD, tryD, noErr, cLenS, itemS, dSub, dLt, dLe, dGt, dGe, notB, isO, zipD, zipL, par3, rzD, rcD, zipA, seqB, enuA, keysD, dgetR, dlookD, isOwD, cMax, cTup, Res.bind_ok, Res.bind_err, Res.bind_bad, seq_nx, seq_rt, seq_err, bnd_ok, bnd_err, loop_nx, loop_rt, for_nil, for_cons, int_i, h, e]
  · rw [decide_eq_false hc] at e
    rw [if_neg hc]
    simp [fK, fOp, fU, fM, fIsN, fNotN, tB', tNot', tAnd', tOr', vAnd, vOr, vNot, fIf, lNil, lCons, fLst, fTup, fCall, fMk, fB, fSlc, oNo, oSo, fSplit, fLc, iSq, iR1, tYes', zF, zS, fF1, fF3, sSeq, sRet, sIf, sSet, sSetO, sFor, sApp, sPar, sAsg, sRaise, sFld, sFrz, sBad, sTryAs, fN, fRz, tIfx, sPar3, sRaiseB, iZip, iEnu, fMet, fMkd, fMkk, fDict, fSlcL, fSort, fRc, iZipA, iEnuA, iKs, sDrop, sDput, sLput, fDget, fChain, chainK, hLst, look, peek, bo, opt, mkL, mkT, small, fnG, mkG, int2, negC, seqD, hName, hCons, hNil, hTup, par2, appD, isOw, frz, setF, ptI, isiD, notScr, env0, env0I, selfF, runB, runI, cAbs, cLen, isNone, strD, payD, tryD, noErr, cLenS, itemS, dSub, dLt, dLe, dGt, dGe, notB, isO, zipD, zipL, par3, rzD, rcD, zipA, seqB, enuA, keysD, dgetR, dlookD, isOwD, cMax, cTup, Res.bind_ok, Res.bind_err, Res.bind_bad, seq_nx, seq_rt, seq_err, bnd_ok, bnd_err, loop_nx, loop_rt, for_nil, for_cons, int_i, h, e]
theorem joined_eq {fs : List Str} (F : FsOk fs) {us : List (List Nat × Rat)} (ht : TOk fs us) (hl : us.length ≤ 100) : G_joined_terms [.lst (us.map (jI fs))] = .ok (.str (txt fs us)) := by
  obtain ⟨w2, w3, e⟩ := loopJ F (.lst (us.map (jI fs))) us ("" : Str) 0 none none ht em_wk (by omega)
  refine runJo fr_joined_terms_0 _ _ w2 w3 (tx_wk F us _ 0 ht em_wk).ok ?_
  rw [gb_fr_joined_terms_0_eq]
  simp only [sFor, iSq, look, List.getElem?_cons_zero, Res.bind_ok, seqD, bnd_ok]
  exact e
/-! ### Poly.__str__ -/
theorem lc_ps {fs : List Str} (F : FsOk fs) {us : List (List Nat × Rat)} (hn : (us.map (·.1)).Nodup) (ht : TOk fs us) (hl : us.length ≤ 100) : lc_Poly___str___0 [some (.sh (poly (.tup (fs.map .str)) (dk pl us))), none, none] = .ok (.lst (us.map (jI fs))) := by
  have e := lc_m (h := hName 2) (fe := fTup (lCons (fN dgetR (fU (fldD nmv "parts") (peek 0)) (look 2)) (lCons (fCall 2 G_factors_text (lCons (fU (fldD nmv "fields") (peek 0)) (lCons (look 2) lNil))) lNil))) (ρ := [some (.sh (poly (.tup (fs.map .str)) (dk pl us))), none, none]) (fun t : List Nat × Rat => kT t.1) (fun t => [some (.sh (poly (.tup (fs.map .str)) (dk pl us))), none, some (.sh (kT t.1))]) (jI fs) us fun t hm => by
    obtain ⟨a1, a2, a3⟩ := ht.at_ t hm
    have e1 : dgetR (dk pl us) (kT t.1) = .ok (pl t.2) := dget_at pl hn hm
    have e2 := factors_eq F a3
    have e3 : ∀ x y : D, mkT [x, y] = .ok (.tup [x, y]) := fun _ _ => rfl
    refine ⟨rfl, ?_⟩
    simp only [fTup, lCons, lNil, fN, fU, fCall, fnG, peek, look, List.getElem?_cons_zero, List.getElem?_cons_succ, Res.bind_ok, opt, fldP, fldF, e1, e2, e3, List.length_cons, List.length_nil, if_true]
  have ek := keysT pl us
  unfold lc_Poly___str___0
  simp only [fLc, iKs, fU, peek, List.getElem?_cons_zero, List.getElem?_cons_succ, Res.bind_ok, opt, fldP, ek, wipeE, List.set_cons_succ, List.set_cons_zero]
  rw [e, Res.bind_ok]
  exact mkL_ok (by rw [List.length_map]; omega)
theorem runPs (lc : Env → Res D) (Gj : List D → Res D) (pd : D) (xs : List D) (s : Str) (h0 : lc [some (.sh pd), none, none] = .ok (.lst xs)) (h1 : Gj [.lst xs] = .ok (.str s)) (hl : s.length ≤ 1000000) : runB (gp_g_Poly___str__ lc Gj) 3 [pd] = .ok (.str s) := by
  have e : fmtD (.str s) = .ok s := if_pos hl
  unfold gp_g_Poly___str__
  simp [fK, fOp, fU, fM, fIsN, fNotN, tB', tNot', tAnd', tOr', vAnd, vOr, vNot, fIf, lNil, lCons, fLst, fTup, fCall, fMk, fB, fSlc, oNo, oSo, fSplit, fLc, iSq, iR1, tYes', zF, zS, fF1, fF3, sSeq, sRet, sIf, sSet, sSetO, sFor, sApp, sPar, sAsg, sRaise, sFld, sFrz, sBad, sTryAs, fN, fRz, tIfx, sPar3, sRaiseB, iZip, iEnu, fMet, fMkd, fMkk, fDict, fSlcL, fSort, fRc, iZipA, iEnuA, iKs, sDrop, sDput, sLput, fDget, fChain, chainK, hLst, look, peek, bo, opt, mkL, mkT, small, fnG, mkG, int2, negC, seqD, hName, hCons, hNil, hTup, par2, appD, isOw, frz, setF, ptI, isiD, notScr, env0, env0I, selfF, runB, runI, cAbs, cLen, isNone, strD, payD, tryD, noErr, cLenS, itemS, dSub, dLt, dLe, dGt, dGe, notB, isO, zipD, zipL, par3, rzD, rcD, zipA, seqB, enuA, keysD, dgetR, dlookD, isOwD, cMax, cTup, Res.bind_ok, Res.bind_err, Res.bind_bad, seq_nx, seq_rt, seq_err, bnd_ok, bnd_err, loop_nx, loop_rt, for_nil, for_cons, int_i, h0, h1, e]
theorem pstr_eq {fs : List Str} (F : FsOk fs) {us : List (List Nat × Rat)} (hn : (us.map (·.1)).Nodup) (ht : TOk fs us) (hl : us.length ≤ 100) : G_Poly___str__ [poly (.tup (fs.map .str)) (dk pl us)] = .ok (.str (txt fs us)) :=
  runPs lc_Poly___str___0 G_joined_terms _ _ _ (lc_ps F hn ht hl) (joined_eq F ht hl) (by
    have := (txt_wk F ht).len
    omega)
theorem strC_eq {fs : List Str} (F : FsOk fs) {us : List (List Nat × Rat)} (hn : (us.map (·.1)).Nodup) (ht : TOk fs us) (hl : us.length ≤ 100) : strC 1 G_Poly___str__ (poly (.tup (fs.map .str)) (dk pl us)) = .ok (.str (txt fs us)) := by
  show (fnG 1 G_Poly___str__ [poly (.tup (fs.map .str)) (dk pl us)] >>= fun y => strD y >>= fun z => Res.ok (D.str z)) = _
  have e : fnG 1 G_Poly___str__ [poly (.tup (fs.map .str)) (dk pl us)] = G_Poly___str__ [poly (.tup (fs.map .str)) (dk pl us)] := rfl
  rw [e, pstr_eq F hn ht hl]
  rfl
end DL.K44
namespace DL.K44
open PySem L2
/-! ### _law_due -/
def eG : Env → Res D := fIf (tB' (fOp dLt (fOp itemD (fN dgetR (peek 0) (look 3)) (fK (.int 0))) (fK (.int 0)))) (fK (.str "-")) (fK (.str "+"))
def eD0 (Gx : List D → Res D) : Env → Res D := fOp addA (fOp itemD (fLst (lCons (fK (.str "")) (lCons (fK (.str "-")) lNil))) (fB cInt2 (lCons (fOp eqD (peek 4) (fK (.str "-"))) lNil))) (fCall 3 Gx (lCons (fN dgetR (peek 0) (look 3)) (lCons (look 1) (lCons (look 3) lNil))))
def eD1 (Gx : List D → Res D) : Env → Res D := fOp addA (fOp addA (fOp addA (fOp addA (peek 2) (fK (.str " "))) (peek 4)) (fK (.str " "))) (fCall 3 Gx (lCons (fN dgetR (peek 0) (look 3)) (lCons (look 1) (lCons (look 3) lNil))))
theorem d_parts (Gx : List D → Res D) : gb_fr__law_due_0 Gx = sSeq (sSet 4 eG) (sIf (tB' (fOp eqD (peek 2) (fK (.str "")))) (sSet 2 (eD0 Gx)) (sSet 2 (eD1 Gx))) := rfl
theorem runD (e0 e1 e2 : Env → Res D) (td fd s k g r : D) (v4 : Option B) (b : Bool) (h0 : e0 [some (.sh td), some (.sh fd), some (.sh s), some (.sh k), v4] = .ok g) (h : eqD s (.str ("" : Str)) = some (.bl b)) (h1 : b = true → e1 [some (.sh td), some (.sh fd), some (.sh s), some (.sh k), some (.sh g)] = .ok r) (h2 : b = false → e2 [some (.sh td), some (.sh fd), some (.sh s), some (.sh k), some (.sh g)] = .ok r) :
    sSeq (sSet 4 e0) (sIf (tB' (fOp eqD (peek 2) (fK (.str "")))) (sSet 2 e1) (sSet 2 e2)) [some (.sh td), some (.sh fd), some (.sh s), some (.sh k), v4] = .nx [some (.sh td), some (.sh fd), some (.sh r), some (.sh k), some (.sh g)] := by
  cases b with
  | true => simp [fK, fOp, fU, fM, fIsN, fNotN, tB', tNot', tAnd', tOr', vAnd, vOr, vNot, fIf, lNil, lCons, fLst, fTup, fCall, fMk, fB, fSlc, oNo, oSo, fSplit, fLc, iSq, iR1, tYes', zF, zS, fF1, fF3, sSeq, sRet, sIf, sSet, sSetO, sFor, sApp, sPar, sAsg, sRaise, sFld, sFrz, sBad, sTryAs, fN, fRz, tIfx, sPar3, sRaiseB, iZip, iEnu, fMet, fMkd, fMkk, fDict, fSlcL, fSort, fRc, iZipA, iEnuA, iKs, sDrop, sDput, sLput, fDget, fChain, chainK, hLst, look, peek, bo, opt, mkL, mkT, small, fnG, mkG, int2, negC, seqD, hName, hCons, hNil, hTup, par2, appD, isOw, frz, setF, ptI, isiD, notScr, env0, env0I, selfF, runB, runI, cAbs, cLen, isNone, strD, payD, tryD, noErr, cLenS, itemS, dSub, dLt, dLe, dGt, dGe, notB, isO, zipD, zipL, par3, rzD, rcD, zipA, seqB, enuA, keysD, dgetR, dlookD, isOwD, cMax, cTup, Res.bind_ok, Res.bind_err, Res.bind_bad, seq_nx, seq_rt, seq_err, bnd_ok, bnd_err, loop_nx, loop_rt, for_nil, for_cons, int_i, h, h0, h1 rfl]
  | false => simp [fK, fOp, fU, fM, fIsN, fNotN, tB', tNot', tAnd', tOr', vAnd, vOr, vNot, fIf, lNil, lCons, fLst, fTup, fCall, fMk, fB, fSlc, oNo, oSo, fSplit, fLc, iSq, iR1, tYes', zF, zS, fF1, fF3, sSeq, sRet, sIf, sSet, sSetO, sFor, sApp, sPar, sAsg, sRaise, sFld, sFrz, sBad, sTryAs, fN, fRz, tIfx, sPar3, sRaiseB, iZip, iEnu, fMet, fMkd, fMkk, fDict, fSlcL, fSort, fRc, iZipA, iEnuA, iKs, sDrop, sDput, sLput, fDget, fChain, chainK, hLst, look, peek, bo, opt, mkL, mkT, small, fnG, mkG, int2, negC, seqD, hName, hCons, hNil, hTup, par2, appD, isOw, frz, setF, ptI, isiD, notScr, env0, env0I, selfF, runB, runI, cAbs, cLen, isNone, strD, payD, tryD, noErr, cLenS, itemS, dSub, dLt, dLe, dGt, dGe, notB, isO, zipD, zipL, par3, rzD, rcD, zipA, seqB, enuA, keysD, dgetR, dlookD, isOwD, cMax, cTup, Res.bind_ok, Res.bind_err, Res.bind_bad, seq_nx, seq_rt, seq_err, bnd_ok, bnd_err, loop_nx, loop_rt, for_nil, for_cons, int_i, h, h0, h2 rfl]
def sgn (c : Bool) : Str := if c = true then ("-" : Str) else ("+" : Str)
theorem sgn_ok (c : Bool) : sok (sgn c) := by
  cases c <;> decide +kernel
theorem sgn_len (c : Bool) : (sgn c).length = 1 := by
  cases c <;> decide +kernel
theorem sgn_eq (c : Bool) : decide (sgn c = ("-" : Str)) = c := by
  cases c <;> decide +kernel
theorem sp_sgn (c : Bool) (s : Str) : s ++ (" " : Str) ++ sgn c ++ (" " : Str) = s ++ (if c = true then (" - " : Str) else (" + " : Str)) := by
  rw [app_assoc, app_assoc]
  congr 1
  cases c <;> decide +kernel
theorem stepD {Gx : List D → Res D} (td fd k : D) (q : Rat) (s t : Str) (L M : Nat) (v4 : Option B) (hs : Wk L s) (ht : Wk M t) (hl : L + 3 + M ≤ 1000000) (h0 : dgetR td k = .ok (fr q)) (h1 : Gx [fr q, fd, k] = .ok (.str t)) :
    gb_fr__law_due_0 Gx [some (.sh td), some (.sh fd), some (.sh (.str s)), some (.sh k), v4] = .nx [some (.sh td), some (.sh fd), some (.sh (.str (stp s (decide (q.num < 0)) t))), some (.sh k), some (.sh (.str (sgn (decide (q.num < 0)))))] := by
  have a2 := ht.len
  have a3 := hs.len
  have hg : ∀ v, eG [some (.sh td), some (.sh fd), some (.sh (.str s)), some (.sh k), v] = .ok (.str (sgn (decide (q.num < 0)))) := fun v => by
    unfold eG sgn
    have e := lt_0 q.num
    cases hn : decide (q.num < 0) with
    | true =>
      rw [hn] at e
      simp only [fIf, tB', fOp, fN, fK, peek, look, List.getElem?_cons_zero, List.getElem?_cons_succ, Res.bind_ok, opt, h0, it0, e, bo, if_true]
    | false =>
      rw [hn] at e
      simp only [fIf, tB', fOp, fN, fK, peek, look, List.getElem?_cons_zero, List.getElem?_cons_succ, Res.bind_ok, opt, h0, it0, e, bo, Bool.false_eq_true, if_false]
  rw [d_parts]
  generalize decide (q.num < 0) = c at hg ⊢
  have c1 := sgn_len c
  refine runD _ _ _ td fd (.str s) k (.str (sgn c)) _ v4 (decide (s = ("" : Str))) (hg v4) (eq_ss hs.ok em_ok) ?_ ?_
  · intro hc
    have hc := of_decide_eq_true hc
    have e1 := eq_ss (sgn_ok c) (show sok ("-" : Str) by decide +kernel)
    rw [sgn_eq] at e1
    have e2 : ∀ b : Bool, cInt2 [.bl b] = some (.int (if b then 1 else 0)) := fun _ => rfl
    have e3 : ∀ x y : D, mkL [x, y] = .ok (.lst [x, y]) := fun _ _ => rfl
    have e4 : (if c = true then D.str ("-" : Str) else .str ("" : Str)) = .str (if c = true then ("-" : Str) else ("" : Str)) := by cases c <;> rfl
    have e5 : addA (.str (if c = true then ("-" : Str) else ("" : Str))) (.str t) = some (.str ((if c = true then ("-" : Str) else ("" : Str)) ++ t)) := add_s (by
      cases c <;> simp only [Bool.false_eq_true, if_false, if_true, l_m, l_e] <;> omega)
    unfold eD0 stp sg
    rw [if_pos hc]
    simp only [fOp, fLst, fB, fN, fK, fCall, fnG, lCons, lNil, peek, look, List.getElem?_cons_zero, List.getElem?_cons_succ, Res.bind_ok, opt, h0, h1, e1, e2, e3, item2, e4, e5, List.length_cons, List.length_nil, if_true]
  · intro hc
    have hc := of_decide_eq_false hc
    have l1 := l_b
    have e1 : addA (.str s) (.str (" " : Str)) = some (.str (s ++ (" " : Str))) := add_s (by omega)
    have e2 : addA (.str (s ++ (" " : Str))) (.str (sgn c)) = some (.str (s ++ (" " : Str) ++ sgn c)) := add_s (by rw [Str.length_append]; omega)
    have e3 : addA (.str (s ++ (" " : Str) ++ sgn c)) (.str (" " : Str)) = some (.str (s ++ (" " : Str) ++ sgn c ++ (" " : Str))) := add_s (by rw [Str.length_append, Str.length_append]; omega)
    have e4 : addA (.str (s ++ (" " : Str) ++ sgn c ++ (" " : Str))) (.str t) = some (.str (s ++ (" " : Str) ++ sgn c ++ (" " : Str) ++ t)) := add_s (by rw [Str.length_append, Str.length_append, Str.length_append]; omega)
    unfold eD1 stp sg
    rw [if_neg hc, ← sp_sgn]
    simp only [fOp, fN, fK, fCall, fnG, lCons, lNil, peek, look, List.getElem?_cons_zero, List.getElem?_cons_succ, Res.bind_ok, opt, h0, h1, e1, e2, e3, e4, List.length_cons, List.length_nil, if_true]
theorem loopD {fs : List Str} (F : FsOk fs) {ts : List (List Nat × Rat)} (hn : (ts.map (·.1)).Nodup) : ∀ (us : List (List Nat × Rat)) (s : Str) (L : Nat) (v3 v4 : Option B), (∀ u ∈ us, u ∈ ts) → TOk fs us → Wk L s → L + us.length * 9006 ≤ 1000000 →
    ∃ w3 w4, forD (hName 3) (gb_fr__law_due_0 G__law_text_of) (us.map fun t => kT t.1) [some (.sh (dk fr ts)), some (.sh (sL fs)), some (.sh (.str s)), v3, v4] = .nx [some (.sh (dk fr ts)), some (.sh (sL fs)), some (.sh (.str (tx fs s us))), w3, w4]
  | [], s, L, v3, v4, _, _, _, _ => ⟨v3, v4, rfl⟩
  | t :: us, s, L, v3, v4, hm, ht, hs, hl => by
    obtain ⟨a1, a2, a3⟩ := ht.at_ t (by simp)
    have hw := tt_wk F a1 a3
    rw [List.length_cons] at hl
    have es := stepD (dk fr ts) (sL fs) (kT t.1) t.2 s _ L 9003 v4 hs hw (by omega) (dget_at fr hn (hm t (by simp))) (text_of_eq F a1 a3)
    obtain ⟨w3, w4, e⟩ := loopD F hn us _ _ (some (.sh (kT t.1))) (some (.sh (.str (sgn (decide (t.2.num < 0)))))) (fun x hx => hm x (by simp [hx])) ⟨fun x hx => ht.at_ x (by simp [hx])⟩ (stp_wk (decide (t.2.num < 0)) hs hw) (by omega)
    refine ⟨w3, w4, ?_⟩
    rw [List.map_cons, for_cons]
    show loopK (gb_fr__law_due_0 G__law_text_of [some (.sh (dk fr ts)), some (.sh (sL fs)), some (.sh (.str s)), some (.sh (kT t.1)), v4]) _ = _
    rw [es, loop_nx, e]
    rfl
theorem runDu (f0 : Env → RS) (td fd : D) (s : Str) (w3 w4 : Option B) (hs : sok s) (h : f0 [some (.sh td), some (.sh fd), some (.sh (.str ("" : Str))), none, none] = .nx [some (.sh td), some (.sh fd), some (.sh (.str s)), w3, w4]) : runB (gp_g__law_due f0) 5 [td, fd] = .ok (.str (if s = ("" : Str) then ("0" : Str) else s)) := by
  have e := ne_ss hs em_ok
  unfold gp_g__law_due
  by_cases hc : s = ("" : Str)
  · rw [decide_eq_true hc] at e
    rw [if_pos hc]
    simp [fK, fOp, fU, fM, fIsN, fNotN, tB', tNot', tAnd', tOr', vAnd, vOr, vNot, fIf, lNil, lCons, fLst, fTup, fCall, fMk, fB, fSlc, oNo, oSo, fSplit, fLc, iSq, iR1, tYes', zF, zS, fF1, fF3, sSeq, sRet, sIf, sSet, sSetO, sFor, sApp, sPar, sAsg, sRaise, sFld, sFrz, sBad, sTryAs, fN, fRz, tIfx, sPar3, sRaiseB, iZip, iEnu, fMet, fMkd, fMkk, fDict, fSlcL, fSort, fRc, iZipA, iEnuA, iKs, sDrop, sDput, sLput, fDget, fChain, chainK, hLst, look, peek, bo, opt, mkL, mkT, small, fnG, mkG, int2, negC, seqD, hName, hCons, hNil, hTup, par2, appD, isOw, frz, setF, ptI, isiD, notScr, env0, env0I, selfF, runB, runI, cAbs, cLen, isNone, strD, payD, tryD, noErr, cLenS, itemS, dSub, dLt, dLe, dGt, dGe, notB, isO, zipD, zipL, par3, rzD, rcD, zipA, seqB, enuA, keysD, dgetR, dlookD, isOwD, cMax, cTup, Res.bind_ok, Res.bind_err, Res.bind_bad, seq_nx, seq_rt, seq_err, bnd_ok, bnd_err, loop_nx, loop_rt, for_nil, for_cons, int_i, h, e]
  · rw [decide_eq_false hc] at e
    rw [if_neg hc]
    simp [fK, fOp, fU, fM, fIsN, fNotN, tB', tNot', tAnd', tOr', vAnd, vOr, vNot, fIf, lNil, lCons, fLst, fTup, fCall, fMk, fB, fSlc, oNo, oSo, fSplit, fLc, iSq, iR1, tYes', zF, zS, fF1, fF3, sSeq, sRet, sIf, sSet, sSetO, sFor, sApp, sPar, sAsg, sRaise, sFld, sFrz, sBad, sTryAs, fN, fRz, tIfx, sPar3, sRaiseB, iZip, iEnu, fMet, fMkd, fMkk, fDict, fSlcL, fSort, fRc, iZipA, iEnuA, iKs, sDrop, sDput, sLput, fDget, fChain, chainK, hLst, look, peek, bo, opt, mkL, mkT, small, fnG, mkG, int2, negC, seqD, hName, hCons, hNil, hTup, par2, appD, isOw, frz, setF, ptI, isiD, notScr, env0, env0I, selfF, runB, runI, cAbs, cLen, isNone, strD, payD, tryD, noErr, cLenS, itemS, dSub, dLt, dLe, dGt, dGe, notB, isO, zipD, zipL, par3, rzD, rcD, zipA, seqB, enuA, keysD, dgetR, dlookD, isOwD, cMax, cTup, Res.bind_ok, Res.bind_err, Res.bind_bad, seq_nx, seq_rt, seq_err, bnd_ok, bnd_err, loop_nx, loop_rt, for_nil, for_cons, int_i, h, e]
/-! ### the order -/
abbrev kZ (p : List Nat) : List Int := p.map fun (n : Nat) => ((n : Nat) : Int)
theorem encT_eq (p : List Nat) : encT (kN p) = .tuple ((kZ p).map .int) := by
  unfold encT
  rw [List.map_map, List.map_map, List.map_map]
  rfl
theorem leK_eq (p q : List Nat) : PySem.W.dataLe true encT (kN p) (kN q) = decide (kZ q ≤ kZ p) := by
  rw [PySem.W.dataLe_eq]
  show (!PySem.W.dataLt (encT (kN p)) (encT (kN q))) = _
  rw [encT_eq, encT_eq, PySem.W.dataLt_tuple]
  show (!PySem.W.rowLt ((kZ p).map .int) ((kZ q).map .int)) = _
  rw [PySem.W.dataLt_ints]
  by_cases h : kZ p < kZ q
  · have h' : ¬ kZ q ≤ kZ p := fun r => List.not_lt.mpr r h
    simp [h, h']
  · have h' : kZ q ≤ kZ p := List.not_lt.mp h
    simp [h, h']
theorem kZ_inj {p q : List Nat} (h : kZ p = kZ q) : p = q := by
  have := congrArg (List.map Int.toNat) h
  rw [List.map_map, List.map_map] at this
  have e : (Int.toNat ∘ fun (n : Nat) => ((n : Nat) : Int)) = id := by
    funext n
    simp
  rw [e, List.map_id, List.map_id] at this
  exact this
abbrev ge (a b : List Nat × Rat) : Prop := kZ b.1 ≤ kZ a.1
theorem srt_pw (ts : TN) : (srT ts).Pairwise fun a b => kZ b.1 ≤ kZ a.1 := by
  have h := List.pairwise_mergeSort (le := leT) (fun a b c h1 h2 => by
    unfold leT at *
    rw [leK_eq] at *
    exact decide_eq_true (List.le_trans (of_decide_eq_true h2) (of_decide_eq_true h1))) (fun a b => by
    unfold leT
    rw [leK_eq, leK_eq]
    rcases List.le_total (kZ a.1) (kZ b.1) with h | h
    · rw [decide_eq_true h, Bool.or_true]
    · rw [decide_eq_true h, Bool.true_or]) ts
  exact h.imp fun {a b} h => by
    unfold leT at h
    rw [leK_eq] at h
    exact of_decide_eq_true h
theorem toT_pw (ts : TN) : (toT (srT ts)).Pairwise ge := List.pairwise_map.mpr (srt_pw ts)
theorem oneF_pw (ts : TN) : (oneF ts).Pairwise ge := (toT_pw ts).filter _
theorem nodup_key : ∀ {l : List (List Nat × Rat)} {a b : List Nat × Rat}, (l.map (·.1)).Nodup → a ∈ l → b ∈ l → a.1 = b.1 → a = b
  | [], _, _, _, ha, _, _ => by simp at ha
  | x :: l, a, b, hn, ha, hb, he => by
    rw [List.map_cons, List.nodup_cons] at hn
    rcases List.mem_cons.mp ha with rfl | ha'
    · rcases List.mem_cons.mp hb with rfl | hb'
      · rfl
      · exact absurd (by rw [he]; exact List.mem_map.mpr ⟨b, hb', rfl⟩) hn.1
    · rcases List.mem_cons.mp hb with rfl | hb'
      · exact absurd (by rw [← he]; exact List.mem_map.mpr ⟨a, ha', rfl⟩) hn.1
      · exact nodup_key hn.2 ha' hb' he
/-- sorted, without doubles: one list only -/
theorem one_list {as bs : List (List Nat × Rat)} (hp : as.Perm bs) (ha : as.Pairwise ge) (hb : bs.Pairwise ge) (hn : (as.map (·.1)).Nodup) : as = bs := by
  refine hp.eq_of_pairwise (le := ge) (fun a b h1 h2 h3 h4 => ?_) ha hb
  have hk : a.1 = b.1 := kZ_inj (List.le_antisymm h4 h3)
  have hb' := hp.mem_iff.mpr h2
  exact nodup_key hn h1 hb' hk
end DL.K44
namespace DL.K44
open PySem L2
/-! ### the terms in order -/
abbrev fz (ts : List (List Nat × Rat)) : TN := ts.map fun t => (t.1, (fr t.2, t.2))
theorem fz_toT (ts : List (List Nat × Rat)) : toT (fz ts) = ts := by
  unfold fz toT
  rw [List.map_map]
  exact List.map_id _
theorem fz_dn (ts : List (List Nat × Rat)) : dn (fz ts) = dk fr ts := by
  unfold fz
  show D.dT _ _ = D.dT _ _
  rw [List.map_map, List.map_map]
  rfl
def can (ts : List (List Nat × Rat)) : List (List Nat × Rat) := toT (srT (fz (nzT ts)))
theorem can_perm (ts : List (List Nat × Rat)) : (can ts).Perm (nzT ts) := by
  have := (srT_perm (fz (nzT ts))).map fun t => (t.1, t.2.2)
  exact this.trans (.of_eq (fz_toT _))
theorem can_pw (ts : List (List Nat × Rat)) : (can ts).Pairwise ge := toT_pw _
theorem can_nd {ts : List (List Nat × Rat)} (hn : (ts.map (·.1)).Nodup) : ((can ts).map (·.1)).Nodup := ((can_perm ts).map _).nodup_iff.mpr (nz_nodup hn)
theorem one_can {us : TN} {ts : List (List Nat × Rat)} (hn : ((oneF us).map (·.1)).Nodup) (hp : (nzT (toT us)).Perm (nzT ts)) : oneF us = can ts :=
  one_list ((oneF_perm us).trans (hp.trans (can_perm ts).symm)) (oneF_pw us) (can_pw ts) hn
theorem can_sort {n : Nat} {ts : List (List Nat × Rat)} (hn : (ts.map (·.1)).Nodup) (hl : ∀ t ∈ ts, t.1.length = n) : cSortT (dk fr (nzT ts)) (.bl true) = some (.lst ((can ts).map fun t => kT t.1)) := by
  have hk : (fz (nzT ts)).map (·.1) = (nzT ts).map (·.1) := by
    unfold fz
    rw [List.map_map]
    rfl
  have h1 : ∀ t ∈ fz (nzT ts), t.1.length = n := fun t ht => by
    obtain ⟨u, hu, rfl⟩ := List.mem_map.mp ht
    exact hl u (List.mem_filter.mp hu).1
  have e := sort_eq (fz (nzT ts)) (ne_of_len (by rw [hk]; exact nz_nodup hn) h1)
  rw [fz_dn] at e
  rw [e]
  congr 2
  unfold can toT
  rw [List.map_map]
  rfl
theorem TOk.sub {fs : List Str} {ts us : List (List Nat × Rat)} (h : TOk fs ts) (hs : ∀ u ∈ us, u ∈ ts) : TOk fs us := ⟨fun t ht => h.at_ t (hs t ht)⟩
theorem can_sub (ts : List (List Nat × Rat)) : ∀ u ∈ can ts, u ∈ ts := fun u hu => (List.mem_filter.mp ((can_perm ts).mem_iff.mp hu)).1
theorem can_len (ts : List (List Nat × Rat)) : (can ts).length ≤ ts.length := by
  rw [(can_perm ts).length_eq]
  exact List.length_filter_le _ _
theorem due_eq {fs : List Str} (F : FsOk fs) {n : Nat} {ts : List (List Nat × Rat)} (hn : (ts.map (·.1)).Nodup) (hk : ∀ t ∈ ts, t.1.length = n) (ht : TOk fs ts) (hl : ts.length ≤ 100) : G__law_due [dk fr ts, sL fs] = .ok (.str (txt fs (can ts))) := by
  have hc := can_len ts
  obtain ⟨w3, w4, e⟩ := loopD F hn (can ts) ("" : Str) 0 none none (can_sub ts) (ht.sub (can_sub ts)) em_wk (by omega)
  refine runDu fr__law_due_0 _ _ _ w3 w4 (tx_wk F (can ts) _ 0 (ht.sub (can_sub ts)) em_wk).ok ?_
  have e1 := kept_eq hn (by omega : ts.length ≤ 1000)
  have e2 := can_sort hn hk
  rw [gb_fr__law_due_0_eq]
  simp only [sFor, iSq, fSort, fCall, fnG, lCons, lNil, look, fK, List.getElem?_cons_zero, List.getElem?_cons_succ, Res.bind_ok, List.length_cons, List.length_nil, if_true, e1, e2, opt, seqD, bnd_ok]
  exact e
/-! ### coefficients -/
def co : List (List Nat × Rat) → List Nat → Rat
  | [], _ => 0
  | t :: r, k => if t.1 = k then t.2 else co r k
theorem co_no : ∀ {ts : List (List Nat × Rat)} {k : List Nat}, k ∉ ts.map (·.1) → co ts k = 0
  | [], _, _ => rfl
  | t :: r, k, h => by
    rw [List.map_cons, List.mem_cons, not_or] at h
    show (if t.1 = k then t.2 else co r k) = 0
    rw [if_neg (fun e => h.1 e.symm), co_no h.2]
theorem co_at : ∀ {ts : List (List Nat × Rat)} {k : List Nat} {c : Rat}, (ts.map (·.1)).Nodup → (k, c) ∈ ts → co ts k = c
  | [], _, _, _, h => by simp at h
  | t :: r, k, c, hn, h => by
    rw [List.map_cons, List.nodup_cons] at hn
    show (if t.1 = k then t.2 else co r k) = c
    rcases List.mem_cons.mp h with rfl | h
    · rw [if_pos rfl]
    · rw [if_neg, co_at hn.2 h]
      intro e
      exact hn.1 (by rw [e]; exact List.mem_map.mpr ⟨(k, c), h, rfl⟩)
theorem mem_nz {ts : List (List Nat × Rat)} (hn : (ts.map (·.1)).Nodup) (k : List Nat) (c : Rat) : (k, c) ∈ nzT ts ↔ c ≠ 0 ∧ co ts k = c := by
  constructor
  · intro h
    obtain ⟨h1, h2⟩ := List.mem_filter.mp h
    exact ⟨of_decide_eq_true h2, co_at hn h1⟩
  · rintro ⟨h1, h2⟩
    refine List.mem_filter.mpr ⟨?_, decide_eq_true h1⟩
    by_cases hk : k ∈ ts.map (·.1)
    · obtain ⟨t, ht, rfl⟩ := List.mem_map.mp hk
      have := co_at (k := t.1) (c := t.2) hn ht
      rw [this] at h2
      rw [← h2]
      exact ht
    · rw [co_no hk] at h2
      exact absurd h2.symm h1
theorem nz_perm {ts us : List (List Nat × Rat)} (hn : (ts.map (·.1)).Nodup) (hm : (us.map (·.1)).Nodup) (h : ∀ k, co ts k = co us k) : (nzT ts).Perm (nzT us) := by
  have nd : ∀ {l : List (List Nat × Rat)}, (l.map (·.1)).Nodup → l.Nodup := fun {l} h => by
    exact List.Pairwise.of_map (S := fun a b => a ≠ b) (·.1) (fun a b h e => h (by rw [e])) h
  refine (List.perm_ext_iff_of_nodup (nd (nz_nodup hn)) (nd (nz_nodup hm))).mpr fun ⟨k, c⟩ => ?_
  rw [mem_nz hn, mem_nz hm, h k]
theorem co_addT (p : List Nat) (c : Rat) : ∀ (ts : List (List Nat × Rat)) (k : List Nat), co (addT ts p c) k = co ts k + if p = k then c else 0
  | [], k => by
    show (if p = k then c else 0) = 0 + _
    rw [Rat.zero_add]
  | t :: r, k => by
    unfold addT
    by_cases h : t.1 = p
    · rw [if_pos h]
      show (if p = k then t.2 + c else co r k) = (if t.1 = k then t.2 else co r k) + _
      by_cases hk : p = k
      · rw [if_pos hk, if_pos hk, if_pos (h.trans hk)]
      · rw [if_neg hk, if_neg hk, if_neg (fun e => hk (h.symm.trans e)), Rat.add_zero]
    · rw [if_neg h]
      show (if t.1 = k then t.2 else co (addT r p c) k) = (if t.1 = k then t.2 else co r k) + _
      by_cases hk : t.1 = k
      · rw [if_pos hk, if_pos hk, if_neg (fun e => h (hk.trans e.symm)), Rat.add_zero]
      · rw [if_neg hk, if_neg hk, co_addT p c r k]
theorem co_nz {ts us : List (List Nat × Rat)} (hn : (ts.map (·.1)).Nodup) (hm : (us.map (·.1)).Nodup) (hp : us.Perm (nzT ts)) (k : List Nat) : co us k = co ts k := by
  by_cases h : co ts k = 0
  · by_cases hk : k ∈ us.map (·.1)
    · obtain ⟨t, ht, rfl⟩ := List.mem_map.mp hk
      have e := (mem_nz hn t.1 t.2).mp (hp.mem_iff.mp ht)
      rw [co_at (k := t.1) (c := t.2) hm ht, e.2]
    · rw [co_no hk, h]
  · have := (mem_nz hn k (co ts k)).mpr ⟨h, rfl⟩
    exact co_at hm (hp.mem_iff.mpr this)
theorem nz_nz (ts : List (List Nat × Rat)) : nzT (nzT ts) = nzT ts := by
  unfold nzT
  rw [List.filter_filter]
  simp
theorem can_nz (ts : List (List Nat × Rat)) : can (nzT ts) = can ts := by
  unfold can
  rw [nz_nz]
theorem addT_nd {ts : List (List Nat × Rat)} {p : List Nat} {c : Rat} : ∀ (hn : (ts.map (·.1)).Nodup), ((addT ts p c).map (·.1)).Nodup := by
  have hk : ∀ (ts : List (List Nat × Rat)), (addT ts p c).map (·.1) = if p ∈ ts.map (·.1) then ts.map (·.1) else ts.map (·.1) ++ [p] := by
    intro ts
    induction ts with
    | nil => simp [addT]
    | cons t r ih =>
      unfold addT
      by_cases h : t.1 = p
      · rw [if_pos h, if_pos (by simp [h])]
        simp [h]
      · rw [if_neg h, List.map_cons, ih]
        by_cases hm : p ∈ r.map (·.1)
        · rw [if_pos hm, if_pos (by simp [hm])]
          rfl
        · rw [if_neg hm, if_neg (by
            rw [List.map_cons, List.mem_cons, not_or]
            exact ⟨fun e => h e.symm, hm⟩)]
          rfl
  intro hn
  rw [hk]
  split
  · exact hn
  · rename_i h
    rw [List.nodup_append]
    refine ⟨hn, by simp, fun a ha b hb => ?_⟩
    rw [List.mem_singleton] at hb
    subst hb
    intro e
    subst e
    exact h ha
end DL.K44
namespace DL.K44
open PySem L2
/-! ### Poly == -/
theorem pl_same (q : Rat) : eqX (geOf 0 G_Ratio___eq__) 0 (pl q) (pl q) = some true := by
  show eqB (geOf 0 G_Ratio___eq__) (pl q) (pl q) = some true
  unfold pl
  split
  · have e := eq_ii q.num q.num
    rw [decide_eq_true rfl] at e
    show eqP (.int q.num) (.int q.num) = some true
    unfold eqD at e
    cases h : eqP (.int q.num) (.int q.num) with
    | none => rw [h] at e; cases e
    | some b =>
      rw [h] at e
      simp only [Option.map_some, Option.some.injEq, D.bl.injEq] at e
      rw [e]
  · have e := req_gen (q := q) (show Nu (rt q) q from .inl rfl)
    rw [decide_eq_true rfl] at e
    show (match G_Ratio___eq__ [rt q, rt q] with
      | .ok (.bl true) => some true
      | .ok (.bl false) => if sameD (rt q) (rt q) = true then none else some false
      | _ => none) = some true
    rw [e]
theorem eqOs_same {f : D → D → Option Bool} : ∀ (xs : List D), (∀ x ∈ xs, f x x = some true) → eqOs f xs (xs.map some) = some true
  | [], _ => rfl
  | x :: xs, h => by
    show (f x x).bind (fun b => if b = true then eqOs f xs (xs.map some) else some false) = _
    rw [h x (by simp), Option.bind_some, if_pos rfl, eqOs_same xs fun y hy => h y (by simp [hy])]
theorem kN_nd {us : List (List Nat × Rat)} (hn : (us.map (·.1)).Nodup) : (us.map fun t => kN t.1).Nodup := by
  have e : (us.map fun t => kN t.1) = (us.map (·.1)).map kN := by
    rw [List.map_map]
    rfl
  rw [e]
  exact List.Pairwise.map _ (fun a b h e => h (kN_inj e)) hn
theorem dict_same {us : List (List Nat × Rat)} (hn : (us.map (·.1)).Nodup) : eqX (geOf 0 G_Ratio___eq__) 1 (dk pl us) (dk pl us) = some true := by
  show orE (eqP (dk pl us) (dk pl us)) (eqDi (eqX (geOf 0 G_Ratio___eq__) 0) (us.map fun t => kN t.1) (us.map fun t => pl t.2) (us.map fun t => kN t.1) (us.map fun t => pl t.2)) = _
  have e0 : eqP (dk pl us) (dk pl us) = none := rfl
  rw [e0]
  show eqDi _ _ _ _ _ = _
  unfold eqDi
  rw [if_pos ⟨kN_nd hn, by simp, by simp⟩, if_pos rfl]
  have e1 : (us.map fun t => kN t.1).map (valD (us.map fun t => kN t.1) (us.map fun t => pl t.2)) = (us.map fun t => pl t.2).map some := by
    rw [List.map_map, List.map_map]
    apply List.map_congr_left
    intro t ht
    exact val_at pl hn ht
  rw [e1]
  exact eqOs_same _ fun x hx => by
    obtain ⟨t, _, rfl⟩ := List.mem_map.mp hx
    exact pl_same t.2
theorem eq_of_ne {x : D} (h : neD x x = some (.bl false)) : eqD x x = some (.bl true) := by
  unfold neD at h
  unfold eqD
  cases hx : eqP x x with
  | none => rw [hx] at h; cases h
  | some b =>
    rw [hx] at h
    cases b with
    | true => rfl
    | false => cases h
theorem peq_eq {fs : D} {us : List (List Nat × Rat)} (hf : neD fs fs = some (.bl false)) (hn : (us.map (·.1)).Nodup) : G_Poly___eq__ [poly fs (dk pl us), poly fs (dk pl us)] = .ok (.bl true) := by
  have e1 := eq_of_ne hf
  have e2 : eqXR (geOf 0 G_Ratio___eq__) 1 (dk pl us) (dk pl us) = .ok (.bl true) := by
    unfold eqXR
    rw [dict_same hn]
    rfl
  have e3 : isiD ib_c1 (poly fs (dk pl us)) = .ok (.bl true) := rfl
  have e4 : env0 2 [poly fs (dk pl us), poly fs (dk pl us)] = [some (.sh (poly fs (dk pl us))), some (.sh (poly fs (dk pl us)))] := rfl
  unfold G_Poly___eq__ runB g_Poly___eq__
  rw [e4]
  simp only [sRet, vAnd, fM, fOp, fU, fN, peek, look, List.getElem?_cons_zero, List.getElem?_cons_succ, Res.bind_ok, e3, bo, if_true, opt, fldF, fldP, e1, e2, bnd_ok]
theorem pne_eq {fs : D} {us : List (List Nat × Rat)} (hf : neD fs fs = some (.bl false)) (hn : (us.map (·.1)).Nodup) : neXR (geOf 1 G_Poly___eq__) 0 (poly fs (dk pl us)) (poly fs (dk pl us)) = .ok (.bl false) := by
  have e : eqX (geOf 1 G_Poly___eq__) 0 (poly fs (dk pl us)) (poly fs (dk pl us)) = some true := by
    show (match G_Poly___eq__ [poly fs (dk pl us), poly fs (dk pl us)] with
      | .ok (.bl true) => some true
      | .ok (.bl false) => if sameD (poly fs (dk pl us)) (poly fs (dk pl us)) = true then none else some false
      | _ => none) = some true
    rw [peq_eq hf hn]
  unfold neXR
  rw [e]
  rfl
/-! ### dict(d) -/
theorem nodup_inj {α β : Type} {f : α → β} : ∀ {l : List α} {a b : α}, (l.map f).Nodup → a ∈ l → b ∈ l → f a = f b → a = b
  | [], _, _, _, ha, _, _ => by simp at ha
  | x :: l, a, b, hn, ha, hb, he => by
    rw [List.map_cons, List.nodup_cons] at hn
    rcases List.mem_cons.mp ha with rfl | ha'
    · rcases List.mem_cons.mp hb with rfl | hb'
      · rfl
      · exact absurd (by rw [he]; exact List.mem_map.mpr ⟨b, hb', rfl⟩) hn.1
    · rcases List.mem_cons.mp hb with rfl | hb'
      · exact absurd (by rw [← he]; exact List.mem_map.mpr ⟨a, ha', rfl⟩) hn.1
      · exact nodup_inj hn.2 ha' hb' he
def k0 : List (List Nat) := [[]]
def k1 : List (List Nat) := (List.range 13).map fun a => [a]
def k2 : List (List Nat) := (List.range 13).flatMap fun a => (List.range 13).map fun b => [a, b]
abbrev hN (p : List Nat) : Int := hashT (kN p)
theorem h0_nd : (k0.map hN).Nodup := by decide +kernel
theorem h1_nd : (k1.map hN).Nodup := by decide +kernel
theorem h2_nd : (k2.map hN).Nodup := by decide +kernel
theorem in_k {n : Nat} (h : n ≤ 2) : ∃ l : List (List Nat), (l.map hN).Nodup ∧ ∀ p : List Nat, p.length = n → (∀ e ∈ p, e ≤ 12) → p ∈ l := by
  match n, h with
  | 0, _ => exact ⟨k0, h0_nd, fun p hp _ => by rw [List.eq_nil_of_length_eq_zero hp]; simp [k0]⟩
  | 1, _ =>
    refine ⟨k1, h1_nd, fun p hp he => ?_⟩
    match p, hp with
    | [a], _ =>
      have := he a (by simp)
      exact List.mem_map.mpr ⟨a, List.mem_range.mpr (by omega), rfl⟩
  | 2, _ =>
    refine ⟨k2, h2_nd, fun p hp he => ?_⟩
    match p, hp with
    | [a, b], _ =>
      have := he a (by simp)
      have := he b (by simp)
      exact List.mem_flatMap.mpr ⟨a, List.mem_range.mpr (by omega), List.mem_map.mpr ⟨b, List.mem_range.mpr (by omega), rfl⟩⟩
theorem copy_ok {n : Nat} (h : n ≤ 2) {ks : List (List Nat)} (hn : ks.Nodup) (hk : ∀ p ∈ ks, p.length = n ∧ ∀ e ∈ p, e ≤ 12) : okCopy (ks.map kN) = true := by
  obtain ⟨l, h1, h2⟩ := in_k h
  unfold okCopy
  rw [Bool.and_eq_true]
  constructor
  · rw [List.all_eq_true]
    intro k hk
    obtain ⟨t, _, rfl⟩ := List.mem_map.mp hk
    rw [List.all_eq_true]
    intro x hx
    obtain ⟨n, _, rfl⟩ := List.mem_map.mp hx
    rfl
  · apply decide_eq_true
    rw [List.map_map]
    have : ks.Pairwise fun a b => hN a ≠ hN b := by
      refine List.Pairwise.imp_of_mem (fun {a b} ha hb hne e => hne ?_) hn
      exact nodup_inj h1 (h2 a (hk a ha).1 (hk a ha).2) (h2 b (hk b hb).1 (hk b hb).2) e
    exact List.pairwise_map.mpr this
theorem dictA_eq {α : Type} (f : α → D) {n : Nat} (h : n ≤ 2) {ts : List (List Nat × α)} (hn : (ts.map (·.1)).Nodup) (hk : ∀ t ∈ ts, t.1.length = n ∧ ∀ e ∈ t.1, e ≤ 12) : cDictA (dk f ts) = some (dk f ts) := by
  show (if okCopy (ts.map fun t => kN t.1) = true then some (dk f ts) else none) = _
  rw [if_pos]
  have e : (ts.map fun t => kN t.1) = (ts.map (·.1)).map kN := by
    rw [List.map_map]
    rfl
  rw [e]
  exact copy_ok h hn fun p hp => by
    obtain ⟨t, ht, rfl⟩ := List.mem_map.mp hp
    exact hk t ht
/-! ### added -/
theorem stepAd (Ga Gra Gm Grm : List D → Res D) (od td times k c x g y : D) (ks : List (List Key)) (xs : List D) (kk : List Key) (h0 : dgetO (.dT ks xs) k (.int 0) = .ok g) (h1 : dgetR td k = .ok c) (h2 : opN mulB Gm Grm c times = .ok x) (h3 : opN (fun i j => some (.int (i + j))) Ga Gra g x = .ok y) (hk : keyT k = some kk) (hs : small (ks.length + 1) = true) :
    gb_fr_added_0 Ga Gra Gm Grm [some (.sh od), some (.sh td), some (.sh times), some (.ow (.dT ks xs)), some (.sh k)] = .nx [some (.sh od), some (.sh td), some (.sh times), some (.ow (.dT (putKs ks kk) (putXs ks xs kk y))), some (.sh k)] := by
  have e : putE 3 [some (.sh od), some (.sh td), some (.sh times), some (.ow (.dT ks xs)), some (.sh k)] k y = .nx [some (.sh od), some (.sh td), some (.sh times), some (.ow (.dT (putKs ks kk) (putXs ks xs kk y))), some (.sh k)] := by
    show (match keyT k with
      | some k => if small (ks.length + 1) = true then RS.nx _ else .bad
      | none => .bad) = _
    rw [hk]
    show (if small (ks.length + 1) = true then RS.nx _ else RS.bad) = _
    rw [if_pos hs]
    rfl
  have e3 : isDc (.dT ks xs) = .ok () := rfl
  have e2 : isOwD 3 [some (.sh od), some (.sh td), some (.sh times), some (.ow (.dT ks xs)), some (.sh k)] = .ok () := rfl
  unfold gb_fr_added_0
  simp only [sDput, look, peek, fN, fDget, fK, List.getElem?_cons_zero, List.getElem?_cons_succ, Res.bind_ok, bnd_ok, e2, e3, h0, h1, h2, h3, e]
theorem runAd (f0 : Env → RS) (d0 d1 d2 x y : D) (w4 : Option B) (h0 : cDictA d0 = some x) (h : f0 [some (.sh d0), some (.sh d1), some (.sh d2), some (.ow x), none] = .nx [some (.sh d0), some (.sh d1), some (.sh d2), some (.ow y), w4]) : runB (gp_g_added f0) 5 [d0, d1, d2] = .ok y := by
  unfold gp_g_added
  simp [fK, fOp, fU, fM, fIsN, fNotN, tB', tNot', tAnd', tOr', vAnd, vOr, vNot, fIf, lNil, lCons, fLst, fTup, fCall, fMk, fB, fSlc, oNo, oSo, fSplit, fLc, iSq, iR1, tYes', zF, zS, fF1, fF3, sSeq, sRet, sIf, sSet, sSetO, sFor, sApp, sPar, sAsg, sRaise, sFld, sFrz, sBad, sTryAs, fN, fRz, tIfx, sPar3, sRaiseB, iZip, iEnu, fMet, fMkd, fMkk, fDict, fSlcL, fSort, fRc, iZipA, iEnuA, iKs, sDrop, sDput, sLput, fDget, fChain, chainK, hLst, look, peek, bo, opt, mkL, mkT, small, fnG, mkG, int2, negC, seqD, hName, hCons, hNil, hTup, par2, appD, isOw, frz, setF, ptI, isiD, notScr, env0, env0I, selfF, runB, runI, cAbs, cLen, isNone, strD, payD, tryD, noErr, cLenS, itemS, dSub, dLt, dLe, dGt, dGe, notB, isO, zipD, zipL, par3, rzD, rcD, zipA, seqB, enuA, keysD, dgetR, dlookD, isOwD, cMax, cTup, Res.bind_ok, Res.bind_err, Res.bind_bad, seq_nx, seq_rt, seq_err, bnd_ok, bnd_err, loop_nx, loop_rt, for_nil, for_cons, int_i, fDictA, h0, h]
abbrev pz (ts : List (List Nat × Rat)) : TN := ts.map fun t => (t.1, (pl t.2, t.2))
theorem pz_toT (ts : List (List Nat × Rat)) : toT (pz ts) = ts := by
  unfold pz toT
  rw [List.map_map]
  exact List.map_id _
theorem pz_dn (ts : List (List Nat × Rat)) : dn (pz ts) = dk pl ts := by
  unfold pz
  show D.dT _ _ = D.dT _ _
  rw [List.map_map, List.map_map]
  rfl
theorem pz_acc {n P m k : Nat} {ts : List (List Nat × Rat)} (h : Tms n P m k ts) : Acc n P m k (pz ts) := ⟨by
  unfold pz
  rw [List.map_map]
  exact h.nd, fun t ht => by
    obtain ⟨u, hu, rfl⟩ := List.mem_map.mp ht
    obtain ⟨a1, a2, a3⟩ := h.at_ u hu
    exact ⟨a1, a2, pl_nu _, a3⟩⟩
theorem s11 : Sz 1 0 (1 : Rat) := ⟨by decide, by decide⟩
theorem added_eq {n : Nat} (h2 : n ≤ 2) {us : List (List Nat × Rat)} (hu : Tms n 12 200 1 us) (hl : us.length ≤ 100) {p : List Nat} (hp : p.length = n) (hP : ∀ e ∈ p, e ≤ 12) :
    ∃ acc : TN, G_added [dk pl us, dk pl [(p, (1 : Rat))], .int 1] = .ok (dn acc) ∧ Acc n 12 1000 1 acc ∧ toT acc = addT us p 1 ∧ acc.length ≤ us.length + 1 := by
  obtain ⟨z, z1, z2⟩ := nMul_eq (pl_nu (1 : Rat)) s11 (show Nu (.int 1) (1 : Rat) from .inr ⟨1, rfl, rfl⟩) s11 ⟨by decide, by decide⟩
  have z2 : Nu z (1 : Rat) := by
    have e : (1 : Rat) * 1 = 1 := by decide +kernel
    rw [e] at z2
    exact z2
  obtain ⟨g, y, v, a1, a2, a3, a4, a5⟩ := (pz_acc hu).put hp hP z2 (s11.mono (Nat.le_refl _) (Nat.zero_le 1)) (by decide) (by decide) (by omega)
  refine ⟨putT (pz us) p v, ?_, ⟨a4.nd, fun t ht => ?_⟩, by rw [a5, pz_toT], ?_⟩
  · have e0 : cDictA (dk pl us) = some (dk pl us) := dictA_eq pl h2 hu.nd fun t ht => ⟨(hu.at_ t ht).1, (hu.at_ t ht).2.1⟩
    rw [pz_dn] at a1
    obtain ⟨q2, q3⟩ := put_eq Prod.fst (p := p) (d := v) (pz_acc hu).nd
    have es := stepAd G_Ratio___add__ G_Ratio___radd__ G_Ratio___mul__ G_Ratio___rmul__ (dk pl us) (dk pl [(p, (1 : Rat))]) (.int 1) (kT p) (pl 1) z g y (us.map fun t => kN t.1) (us.map fun t => pl t.2) (kN p) a1 (dget_at pl (ts := [(p, (1 : Rat))]) (by simp) (by simp)) z1 a2 (keyT_eq p) (by
      rw [List.length_map]
      exact decide_eq_true (by omega))
    refine runAd fr_added_0 _ _ _ (dk pl us) _ (some (.sh (kT p))) e0 ?_
    rw [gb_fr_added_0_eq]
    have ek := keysT pl [(p, (1 : Rat))]
    simp only [sFor, iKs, look, List.getElem?_cons_zero, List.getElem?_cons_succ, Res.bind_ok, ek, bnd_ok]
    show forD (hName 4) _ [kT p] _ = _
    rw [for_cons]
    show loopK (gb_fr_added_0 G_Ratio___add__ G_Ratio___radd__ G_Ratio___mul__ G_Ratio___rmul__ [some (.sh (dk pl us)), some (.sh (dk pl [(p, (1 : Rat))])), some (.sh (.int 1)), some (.ow (dk pl us)), some (.sh (kT p))]) _ = _
    rw [es, loop_nx, for_nil]
    have p1 : (us.map fun t => kN t.1) = (pz us).map fun t => kN t.1 := by
      unfold pz
      rw [List.map_map]
      rfl
    have p2 : (us.map fun t => pl t.2) = (pz us).map fun t => Prod.fst t.2 := by
      unfold pz
      rw [List.map_map]
      rfl
    rw [p1, p2, a3, q2, q3]
  · obtain ⟨b1, b2, b3, b4⟩ := a4.at_ t ht
    exact ⟨b1, b2, b3, b4.mono (by decide) (Nat.le_refl _)⟩
  · have := put_len (p := p) (d := v) (pz us)
    unfold pz at this
    rw [List.length_map] at this
    exact this
end DL.K44
namespace DL.K44
open PySem L2
/-! ### _law_sum_of -/
theorem stepSm (Ga Gt : List D → Res D) (od td sign k c x g y : D) (ks : List (List Key)) (xs : List D) (kk : List Key) (h0 : dgetO (.dT ks xs) k (.tup [.int 0, .int 1]) = .ok g) (h1 : dgetR td k = .ok c) (h2 : Gt [c, .tup [sign, .int 1]] = .ok x) (h3 : Ga [g, x] = .ok y) (hk : keyT k = some kk) (hs : small (ks.length + 1) = true) :
    gb_fr__law_sum_of_0 Ga Gt [some (.sh od), some (.sh td), some (.sh sign), some (.ow (.dT ks xs)), some (.sh k)] = .nx [some (.sh od), some (.sh td), some (.sh sign), some (.ow (.dT (putKs ks kk) (putXs ks xs kk y))), some (.sh k)] := by
  have e : putE 3 [some (.sh od), some (.sh td), some (.sh sign), some (.ow (.dT ks xs)), some (.sh k)] k y = .nx [some (.sh od), some (.sh td), some (.sh sign), some (.ow (.dT (putKs ks kk) (putXs ks xs kk y))), some (.sh k)] := by
    show (match keyT k with
      | some k => if small (ks.length + 1) = true then RS.nx _ else .bad
      | none => .bad) = _
    rw [hk]
    show (if small (ks.length + 1) = true then RS.nx _ else RS.bad) = _
    rw [if_pos hs]
    rfl
  have e2 : isOwD 3 [some (.sh od), some (.sh td), some (.sh sign), some (.ow (.dT ks xs)), some (.sh k)] = .ok () := rfl
  have e3 : isDc (.dT ks xs) = .ok () := rfl
  have e4 : ∀ x y : D, mkT [x, y] = .ok (.tup [x, y]) := fun _ _ => rfl
  unfold gb_fr__law_sum_of_0
  simp only [sDput, look, peek, fN, fDget, fK, fCall, fnG, fTup, lCons, lNil, List.getElem?_cons_zero, List.getElem?_cons_succ, List.length_cons, List.length_nil, if_true, Res.bind_ok, bnd_ok, e2, e3, e4, h0, h1, h2, h3, e]
theorem runSm (f0 : Env → RS) (Gk : List D → Res D) (d0 d1 d2 x y r : D) (w4 : Option B) (h0 : cDictA d0 = some x) (h : f0 [some (.sh d0), some (.sh d1), some (.sh d2), some (.ow x), none] = .nx [some (.sh d0), some (.sh d1), some (.sh d2), some (.ow y), w4]) (hk : Gk [y] = .ok r) : runB (gp_g__law_sum_of f0 Gk) 5 [d0, d1, d2] = .ok r := by
  unfold gp_g__law_sum_of
  simp [fK, fOp, fU, fM, fIsN, fNotN, tB', tNot', tAnd', tOr', vAnd, vOr, vNot, fIf, lNil, lCons, fLst, fTup, fCall, fMk, fB, fSlc, oNo, oSo, fSplit, fLc, iSq, iR1, tYes', zF, zS, fF1, fF3, sSeq, sRet, sIf, sSet, sSetO, sFor, sApp, sPar, sAsg, sRaise, sFld, sFrz, sBad, sTryAs, fN, fRz, tIfx, sPar3, sRaiseB, iZip, iEnu, fMet, fMkd, fMkk, fDict, fSlcL, fSort, fRc, iZipA, iEnuA, iKs, sDrop, sDput, sLput, fDget, fChain, chainK, hLst, look, peek, bo, opt, mkL, mkT, small, fnG, mkG, int2, negC, seqD, hName, hCons, hNil, hTup, par2, appD, isOw, frz, setF, ptI, isiD, notScr, env0, env0I, selfF, runB, runI, cAbs, cLen, isNone, strD, payD, tryD, noErr, cLenS, itemS, dSub, dLt, dLe, dGt, dGe, notB, isO, zipD, zipL, par3, rzD, rcD, zipA, seqB, enuA, keysD, dgetR, dlookD, isOwD, cMax, cTup, Res.bind_ok, Res.bind_err, Res.bind_bad, seq_nx, seq_rt, seq_err, bnd_ok, bnd_err, loop_nx, loop_rt, for_nil, for_cons, int_i, fDictA, h0, h, hk]
theorem putR_at {c0 c : Rat} {p : List Nat} : ∀ {ts : List (List Nat × Rat)}, (ts.map (·.1)).Nodup → (p, c0) ∈ ts → putT ts p (c0 + c) = addT ts p c
  | [], _, h => by simp at h
  | a :: r, hn, h => by
    rw [List.map_cons, List.nodup_cons] at hn
    unfold putT addT
    split
    · rename_i e
      rcases List.mem_cons.mp h with h | h
      · rw [← h]
      · exact absurd (List.mem_map.mpr ⟨_, h, rfl⟩) (by rw [← e] at *; exact hn.1)
    · rename_i e
      rcases List.mem_cons.mp h with h | h
      · exact absurd (by rw [← h]) e
      · rw [putR_at hn.2 h]
theorem putR_no {c : Rat} {p : List Nat} : ∀ {ts : List (List Nat × Rat)}, p ∉ ts.map (·.1) → putT ts p c = addT ts p c
  | [], _ => rfl
  | a :: r, h => by
    have h1 : ¬ a.1 = p := fun e => h (by rw [← e]; exact List.mem_cons_self)
    unfold putT addT
    rw [if_neg h1, if_neg h1, putR_no (ts := r) fun m => h (List.mem_cons_of_mem _ m)]
theorem s00 : Sz 1 0 (0 : Rat) := ⟨by decide, by decide⟩
theorem find_keyR (ts : List (List Nat × Rat)) (p : List Nat) : (p ∉ ts.map (·.1)) ∨ ∃ v, (p, v) ∈ ts := by
  by_cases h : p ∈ ts.map (·.1)
  · obtain ⟨t, ht, rfl⟩ := List.mem_map.mp h
    exact .inr ⟨t.2, ht⟩
  · exact .inl h
theorem add1 {n : Nat} {ts : List (List Nat × Rat)} (ht : Tms n 12 100 1 ts) (p : List Nat) :
    ∃ g c, dgetO (dk fr ts) (kT p) (.tup [.int 0, .int 1]) = .ok g ∧ G__law_add [g, fr 1] = .ok (fr c) ∧ putT ts p c = addT ts p 1 ∧ Sz 200 1 c := by
  have s1 : Sz 1 1 (1 : Rat) := s11.mono (Nat.le_refl _) (by decide)
  rcases find_keyR ts p with h0 | ⟨c0, h0⟩
  · have e := add_eq s00 s1 ⟨by decide, by decide⟩
    rw [Rat.zero_add] at e
    exact ⟨fr 0, 1, dgetO_no fr _ h0, e, putR_no h0, s1.mono (by decide) (by decide)⟩
  · obtain ⟨a1, a2, a3⟩ := ht.at_ _ h0
    have e := add_eq a3 s1 ⟨by decide, by decide⟩
    exact ⟨fr c0, c0 + 1, dgetO_at fr _ ht.nd h0, e, putR_at ht.nd h0, (a3.addM s1).mono (by decide) (by decide)⟩
theorem addT_tms {n : Nat} {ts : List (List Nat × Rat)} (ht : Tms n 12 100 1 ts) {p : List Nat} (hp : p.length = n) (hP : ∀ e ∈ p, e ≤ 12) : Tms n 12 200 1 (addT ts p 1) ∧ (addT ts p 1).length ≤ ts.length + 1 := by
  obtain ⟨g, c, _, _, e, hc⟩ := add1 ht p
  have h1 : Tms n 12 200 1 ts := ⟨ht.nd, fun t h => ⟨(ht.at_ t h).1, (ht.at_ t h).2.1, (ht.at_ t h).2.2.mono (by decide) (by decide)⟩⟩
  rw [← e]
  exact ⟨h1.put hp hP hc, put_len ts⟩
theorem sum_of_eq {n : Nat} (h2 : n ≤ 2) {ts : List (List Nat × Rat)} (ht : Tms n 12 100 1 ts) (hl : ts.length ≤ 50) {p : List Nat} (hp : p.length = n) (hP : ∀ e ∈ p, e ≤ 12) : G__law_sum_of [dk fr ts, dk fr [(p, (1 : Rat))], .int 1] = .ok (dk fr (nzT (addT ts p 1))) := by
  obtain ⟨g, c, a1, a2, a3, a4⟩ := add1 ht p
  have e0 : cDictA (dk fr ts) = some (dk fr ts) := dictA_eq fr h2 ht.nd fun t h => ⟨(ht.at_ t h).1, (ht.at_ t h).2.1⟩
  have e1 := times_eq s11 s11 ⟨by decide, by decide⟩
  have em : (1 : Rat) * 1 = 1 := by decide +kernel
  rw [em] at e1
  obtain ⟨t1, t2⟩ := addT_tms ht hp hP
  obtain ⟨q2, q3⟩ := put_eq fr (p := p) (d := c) ht.nd
  have es := stepSm G__law_add G__law_times (dk fr ts) (dk fr [(p, (1 : Rat))]) (.int 1) (kT p) (fr 1) (fr 1) g (fr c) (ts.map fun t => kN t.1) (ts.map fun t => fr t.2) (kN p) a1 (dget_at fr (ts := [(p, (1 : Rat))]) (by simp) (by simp)) e1 a2 (keyT_eq p) (by
      rw [List.length_map]
      exact decide_eq_true (by omega))
  rw [q2, q3, a3] at es
  refine runSm fr__law_sum_of_0 G__law_kept _ _ _ (dk fr ts) (dk fr (addT ts p 1)) _ (some (.sh (kT p))) e0 ?_ (kept_eq t1.nd (by omega))
  rw [gb_fr__law_sum_of_0_eq]
  have ek := keysT fr [(p, (1 : Rat))]
  simp only [sFor, iKs, look, List.getElem?_cons_zero, List.getElem?_cons_succ, Res.bind_ok, ek, bnd_ok]
  show forD (hName 4) _ [kT p] _ = _
  rw [for_cons]
  show loopK (gb_fr__law_sum_of_0 G__law_add G__law_times [some (.sh (dk fr ts)), some (.sh (dk fr [(p, (1 : Rat))])), some (.sh (.int 1)), some (.ow (dk fr ts)), some (.sh (kT p))]) _ = _
  rw [es, loop_nx, for_nil]
/-! ### Poly + Poly -/
theorem runAp (Gi : List D → Res (List D)) (Ga Gb : List D → Res D) (fs a q b m : D) (xs : List D) (h0 : Gb [poly fs a, q] = .ok b) (h1 : Ga [a, b, .int 1] = .ok m) (h2 : Gi [fs, m] = .ok xs) : runB (gp_g_Poly___add__ Gi Ga Gb) 2 [poly fs a, q] = .ok (.obj 1 xs) := by
  have e0 : env0 2 [poly fs a, q] = [some (.sh (poly fs a)), some (.sh q)] := rfl
  unfold gp_g_Poly___add__ runB
  rw [e0]
  simp only [sRet, fMk, mkG, fU, fCall, fnG, fK, lCons, lNil, look, peek, List.getElem?_cons_zero, List.getElem?_cons_succ, Res.bind_ok, List.length_cons, List.length_nil, if_true, opt, fldF, fldP, h0, h1, h2, bnd_ok]
structure Flds (fsl : List D) : Prop where
  len : fsl.length ≤ 2
  chk : G_check_fields [.tup fsl] = .ok .non
  ne : neD (.tup fsl) (.tup fsl) = some (.bl false)
theorem padd_eq {fsl : List D} (F : Flds fsl) {ts : List (List Nat × Rat)} (ht : Tms fsl.length 12 100 1 ts) (hl : ts.length ≤ 50) {p : List Nat} (hp : p.length = fsl.length) (hP : ∀ e ∈ p, e ≤ 12) :
    G_Poly___add__ [poly (.tup fsl) (dk pl (can ts)), poly (.tup fsl) (dk pl [(p, (1 : Rat))])] = .ok (poly (.tup fsl) (dk pl (can (addT ts p 1)))) := by
  have hu : Tms fsl.length 12 200 1 (can ts) := ⟨can_nd ht.nd, fun t h => by
    obtain ⟨a1, a2, a3⟩ := ht.at_ t (can_sub ts t h)
    exact ⟨a1, a2, a3.mono (by decide) (by decide)⟩⟩
  have hl' := can_len ts
  obtain ⟨acc, e, a1, a2, a3⟩ := added_eq F.len hu (by omega) hp hP
  have hlen := F.len
  have e2 := poly_eq (fd := .tup fsl) (fsl := fsl) (ts := acc) rfl F.chk (by omega) a1.nd (fun t h => (a1.at_ t h).2.2.1) (by omega) (fun t h => (a1.at_ t h).1)
  obtain ⟨t1, _⟩ := addT_tms ht hp hP
  have ec : oneF acc = can (addT ts p 1) := one_can (oneF_tms a1).nd (by
    rw [a2]
    refine nz_perm (addT_nd hu.nd) t1.nd fun k => ?_
    rw [co_addT, co_addT, co_nz ht.nd hu.nd (can_perm ts)])
  rw [ec] at e2
  exact runAp G_Poly___init__ G_added G_parts_beside _ _ _ _ _ _ (beside_eq _ _ _ F.ne) e e2
end DL.K44
namespace DL.K44
open PySem L2
theorem cell_ok (ns : List Int) (k : Nat) : ∃ i : Int, G__law_cell [.scr ns, .int k] = .ok (.int i) := by
  unfold G__law_cell g__law_cell
  by_cases h : (k : Int) < (ns.length : Int)
  · have e : atI ns (k : Int) = some (ns[k]'(by omega)) := atI_nat (by simp)
    exact ⟨ns[k]'(by omega), by simp [fK, fOp, fU, fM, fIsN, fNotN, tB', tNot', tAnd', tOr', vAnd, vOr, vNot, fIf, lNil, lCons, fLst, fTup, fCall, fMk, fB, fSlc, oNo, oSo, fSplit, fLc, iSq, iR1, tYes', zF, zS, fF1, fF3, sSeq, sRet, sIf, sSet, sSetO, sFor, sApp, sPar, sAsg, sRaise, sFld, sFrz, sBad, sTryAs, fN, fRz, tIfx, sPar3, sRaiseB, iZip, iEnu, fMet, fMkd, fMkk, look, peek, bo, opt, mkL, mkT, small, fnG, mkG, int2, negC, seqD, hName, hCons, hNil, hTup, par2, appD, isOw, frz, setF, ptI, isiD, notScr, env0, env0I, selfF, runB, runI, cAbs, cLen, isNone, strD, payD, tryD, noErr, cLenS, itemS, dSub, dLt, dLe, dGt, dGe, notB, isO, zipD, zipL, par3, rzD, Res.bind_ok, Res.bind_err, Res.bind_bad, seq_nx, seq_rt, seq_err, bnd_ok, bnd_err, loop_nx, loop_rt, for_nil, for_cons, int_i, h, e]⟩
  · exact ⟨0, by simp [fK, fOp, fU, fM, fIsN, fNotN, tB', tNot', tAnd', tOr', vAnd, vOr, vNot, fIf, lNil, lCons, fLst, fTup, fCall, fMk, fB, fSlc, oNo, oSo, fSplit, fLc, iSq, iR1, tYes', zF, zS, fF1, fF3, sSeq, sRet, sIf, sSet, sSetO, sFor, sApp, sPar, sAsg, sRaise, sFld, sFrz, sBad, sTryAs, fN, fRz, tIfx, sPar3, sRaiseB, iZip, iEnu, fMet, fMkd, fMkk, look, peek, bo, opt, mkL, mkT, small, fnG, mkG, int2, negC, seqD, hName, hCons, hNil, hTup, par2, appD, isOw, frz, setF, ptI, isiD, notScr, env0, env0I, selfF, runB, runI, cAbs, cLen, isNone, strD, payD, tryD, noErr, cLenS, itemS, dSub, dLt, dLe, dGt, dGe, notB, isO, zipD, zipL, par3, rzD, Res.bind_ok, Res.bind_err, Res.bind_bad, seq_nx, seq_rt, seq_err, bnd_ok, bnd_err, loop_nx, loop_rt, for_nil, for_cons, int_i, h]⟩
theorem fm {i j : Int} (h : 0 < j) : 0 ≤ i.fmod j ∧ i.fmod j < j := by
  rw [Int.fmod_eq_emod_of_nonneg _ (by omega)]
  exact ⟨Int.emod_nonneg _ (by omega), Int.emod_lt_of_pos _ h⟩
theorem p18 : powC 10 18 = some (.int 1000000000000000000) := by
  unfold powC
  rw [if_pos (by decide +kernel)]
  rfl
theorem for_st (i : Nat) (g : Env → RS) (d : D) (r : List D) (ρ : Env) : forD (hName i) g (d :: r) ρ = loopK (g (ρ.set i (some (.sh d)))) (forD (hName i) g r) := rfl
/-- numbers below their sizes -/
def Fits : List Int → List Int → Prop
  | [], [] => True
  | y :: ys, s :: ss => (0 ≤ y ∧ y < s) ∧ Fits ys ss
  | _, _ => False
theorem Fits.len : ∀ {ys ss : List Int}, Fits ys ss → ys.length = ss.length
  | [], [], _ => rfl
  | y :: ys, s :: ss, h => by simp [Fits.len h.2]
  | [], _ :: _, h => h.elim
  | _ :: _, [], h => h.elim
def rbody : Env → RS := (sSeq (sSet 6 (fOp addA (fOp (int2 modC) (fB cInt2 (lCons (fOp (int2 powC) (fOp addA (fOp addA (peek 4) (fOp (int2 mulB) (fK (.int 7919)) (peek 5))) (fK (.int 104729))) (fK (.int 5))) lNil)) (fK (.int 2147483647))) (peek 5))) (sApp 2 (fOp (int2 modC) (fB cInt2 (lCons (fOp (int2 modC) (fB cInt2 (lCons (fOp (int2 mulB) (peek 6) (fK (.int 40692))) lNil)) (fK (.int 2147483629))) lNil)) (fOp itemD (peek 1) (peek 5)))))
def sbody : Env → RS := (sSeq (sApp 2 (fOp (int2 modC) (fB cInt2 (lCons (peek 0) lNil)) (peek 3))) (sSet 0 (fOp (int2 fdivC) (peek 0) (peek 3))))
theorem mulS {i j : Int} (h : -(2 ^ 64) < i ∧ i < 2 ^ 64) : mulB i j = some (.int (i * j)) := if_pos (.inr (.inl h))
theorem row_step (S size : Int) (k : Nat) (sz xs : List D) (x0 x3 x5 x6 : Option B) (hS : 0 ≤ S ∧ S < 2147483647) (hk : k ≤ 1000) (hsz : itemD (.lst sz) (.int k) = some (.int size)) (hpos : 0 < size) (hl : xs.length < 2000) :
    ∃ (r : Int) (x6' : Option B), (0 ≤ r ∧ r < size) ∧ rbody [x0, some (.sh (.lst sz)), some (.ow (.lst xs)), x3, some (.sh (.int S)), some (.sh (.int k)), x6] = .nx [x0, some (.sh (.lst sz)), some (.ow (.lst (xs ++ [.int r]))), x3, some (.sh (.int S)), some (.sh (.int k)), x6'] := by
  have h1 : mulB 7919 k = some (.int (7919 * k)) := mulS (by decide)
  have h2 : powC (S + 7919 * k + 104729) 5 = some (.int ((S + 7919 * k + 104729) ^ 5)) := by
    unfold powC
    rw [if_pos ⟨by decide, by decide, by omega⟩]
    rfl
  have h3 := mod_ok (i := (S + 7919 * k + 104729) ^ 5) (j := 2147483647) (by decide)
  have b3 := fm (i := (S + 7919 * k + 104729) ^ 5) (j := 2147483647) (by decide)
  generalize ((S + 7919 * k + 104729) ^ 5).fmod 2147483647 = m at *
  have h4 : mulB (m + k) 40692 = some (.int ((m + k) * 40692)) := mulS (by omega)
  have h5 := mod_ok (i := (m + k) * 40692) (j := 2147483629) (by decide)
  generalize ((m + k) * 40692).fmod 2147483629 = y at *
  have h6 := mod_ok (i := y) (j := size) (by omega)
  have b6 := fm (i := y) (j := size) hpos
  refine ⟨y.fmod size, some (.sh (.int (m + k))), b6, ?_⟩
  have hl' : xs.length + 1 ≤ 1000000 := by omega
  unfold rbody
  simp [fK, fOp, fU, fM, fIsN, fNotN, tB', tNot', tAnd', tOr', vAnd, vOr, vNot, fIf, lNil, lCons, fLst, fTup, fCall, fMk, fB, fSlc, oNo, oSo, fSplit, fLc, iSq, iR1, tYes', zF, zS, fF1, fF3, sSeq, sRet, sIf, sSet, sSetO, sFor, sApp, sPar, sAsg, sRaise, sFld, sFrz, sBad, sTryAs, fN, fRz, tIfx, sPar3, sRaiseB, iZip, iEnu, fMet, fMkd, fMkk, look, peek, bo, opt, mkL, mkT, small, fnG, mkG, int2, negC, seqD, hName, hCons, hNil, hTup, par2, appD, isOw, frz, setF, ptI, isiD, notScr, env0, env0I, selfF, runB, runI, cAbs, cLen, isNone, strD, payD, tryD, noErr, cLenS, itemS, dSub, dLt, dLe, dGt, dGe, notB, isO, zipD, zipL, par3, rzD, Res.bind_ok, Res.bind_err, Res.bind_bad, seq_nx, seq_rt, seq_err, bnd_ok, bnd_err, loop_nx, loop_rt, for_nil, for_cons, int_i, addA, h1, h2, h3, h4, h5, h6, hsz, hl']
theorem loopA : ∀ (ss acc : List Int) (c : Int) (S x3 : Option B), (∀ s ∈ ss, 0 < s ∧ s.natAbs.log2 < 9000) → acc.length + ss.length ≤ 1000 → ∃ (ys : List Int) (c' : Int) (x3' : Option B), Fits ys ss ∧
    forD (hName 3) sbody (ss.map .int) [some (.sh (.int c)), S, some (.ow (.lst (acc.map .int))), x3, none, none, none] = .nx [some (.sh (.int c')), S, some (.ow (.lst ((acc ++ ys).map .int))), x3', none, none, none]
  | [], acc, c, S, x3, _, _ => ⟨[], c, x3, trivial, by simp [for_nil]⟩
  | s :: ss, acc, c, S, x3, hp, hl => by
    obtain ⟨hs, hlog⟩ := hp s List.mem_cons_self
    have h1 := mod_ok (i := c) (j := s) (by omega)
    have h2 := fdiv_ok (i := c) (j := s) (by omega) hlog
    obtain ⟨ys, c', x3', h3, h4⟩ := loopA ss (acc ++ [c.fmod s]) (c.fdiv s) S (some (.sh (.int s))) (fun t ht => hp t (List.mem_cons_of_mem _ ht)) (by simp at hl ⊢; omega)
    refine ⟨c.fmod s :: ys, c', x3', ⟨fm hs, h3⟩, ?_⟩
    have hl' : acc.length + 1 ≤ 1000000 := by simp at hl; omega
    have e : sbody [some (.sh (.int c)), S, some (.ow (.lst (acc.map .int))), some (.sh (.int s)), none, none, none] = .nx [some (.sh (.int (c.fdiv s))), S, some (.ow (.lst ((acc ++ [c.fmod s]).map .int))), some (.sh (.int s)), none, none, none] := by
      unfold sbody
      simp [fK, fOp, fU, fM, fIsN, fNotN, tB', tNot', tAnd', tOr', vAnd, vOr, vNot, fIf, lNil, lCons, fLst, fTup, fCall, fMk, fB, fSlc, oNo, oSo, fSplit, fLc, iSq, iR1, tYes', zF, zS, fF1, fF3, sSeq, sRet, sIf, sSet, sSetO, sFor, sApp, sPar, sAsg, sRaise, sFld, sFrz, sBad, sTryAs, fN, fRz, tIfx, sPar3, sRaiseB, iZip, iEnu, fMet, fMkd, fMkk, look, peek, bo, opt, mkL, mkT, small, fnG, mkG, int2, negC, seqD, hName, hCons, hNil, hTup, par2, appD, isOw, frz, setF, ptI, isiD, notScr, env0, env0I, selfF, runB, runI, cAbs, cLen, isNone, strD, payD, tryD, noErr, cLenS, itemS, dSub, dLt, dLe, dGt, dGe, notB, isO, zipD, zipL, par3, rzD, Res.bind_ok, Res.bind_err, Res.bind_bad, seq_nx, seq_rt, seq_err, bnd_ok, bnd_err, loop_nx, loop_rt, for_nil, for_cons, int_i, h1, h2, hl']
    rw [List.map_cons, for_st]
    simp only [List.set]
    rw [e, loop_nx, h4]
    simp
theorem loopB (ss : List Int) (S : Int) (x0 x3 : Option B) (hS : 0 ≤ S ∧ S < 2147483647) (hp : ∀ s ∈ ss, 0 < s) (hn : ss.length ≤ 1000) : ∀ (m i : Nat) (acc : List Int) (x5 x6 : Option B), i + m = ss.length → acc.length ≤ 1000 + i → ∃ (ys : List Int) (x5' x6' : Option B), Fits ys (ss.drop i) ∧
    forD (hName 5) rbody ((List.range' i m).map fun k => D.int (k : Nat)) [x0, some (.sh (.lst (ss.map .int))), some (.ow (.lst (acc.map .int))), x3, some (.sh (.int S)), x5, x6] = .nx [x0, some (.sh (.lst (ss.map .int))), some (.ow (.lst ((acc ++ ys).map .int))), x3, some (.sh (.int S)), x5', x6']
  | 0, i, acc, x5, x6, h, _ => ⟨[], x5, x6, by rw [List.drop_eq_nil_of_le (by omega)]; trivial, by simp [for_nil]⟩
  | m + 1, i, acc, x5, x6, h, hl => by
    have hi : i < ss.length := by omega
    have hsz : itemD (.lst (ss.map .int)) (.int (i : Nat)) = some (.int ss[i]) := by
      show atI (ss.map D.int) (i : Int) = _
      rw [atI_nat (v := .int ss[i]) (by simp [hi])]
    obtain ⟨r, x6', b, e⟩ := row_step S ss[i] i (ss.map .int) (acc.map .int) x0 x3 x5 x6 hS (by omega) hsz (hp _ (List.getElem_mem hi)) (by simp; omega)
    obtain ⟨ys, x5', x6'', h3, h4⟩ := loopB ss S x0 x3 hS hp hn m (i + 1) (acc ++ [r]) (some (.sh (.int (i : Nat)))) x6' (by omega) (by simp; omega)
    refine ⟨r :: ys, x5', x6'', ?_, ?_⟩
    · rw [List.drop_eq_getElem_cons hi]
      exact ⟨b, h3⟩
    · rw [List.range'_succ, List.map_cons, for_st]
      simp only [List.set]
      rw [e, loop_nx]
      have e2 : (acc.map D.int ++ [D.int r]) = (acc ++ [r]).map .int := by simp
      rw [e2, h4]
      simp
theorem rowA (c : Int) (ss : List Int) (hp : ∀ s ∈ ss, 0 < s ∧ s.natAbs.log2 < 9000) (hn : ss.length ≤ 1000) : ∃ (xs : List Int) (ρ : Env), fr__law_row_0 [some (.sh (.int c)), some (.sh (.lst (ss.map .int))), some (.ow (.lst [])), none, none, none, none] = .nx ρ ∧ ρ[2]? = some (some (.ow (.lst (xs.map .int)))) ∧ Fits xs ss := by
  obtain ⟨ys, c', x3', h1, h2⟩ := loopA ss [] c (some (.sh (.lst (ss.map .int)))) none hp (by simpa using hn)
  rw [List.map_nil, List.nil_append] at h2
  have e1 : fr__law_row_0 = sFor (iSq (look 1)) (hName 3) sbody := rfl
  rw [e1]
  exact ⟨ys, _, h2, rfl, h1⟩
theorem rowB (c S : Int) (ss : List Int) (hS : 0 ≤ S ∧ S < 2147483647) (hp : ∀ s ∈ ss, 0 < s) (hn : ss.length ≤ 1000) : ∃ (xs : List Int) (ρ : Env), fr__law_row_1 [some (.sh (.int c)), some (.sh (.lst (ss.map .int))), some (.ow (.lst [])), none, some (.sh (.int S)), none, none] = .nx ρ ∧ ρ[2]? = some (some (.ow (.lst (xs.map .int)))) ∧ Fits xs ss := by
  obtain ⟨ys, x5', x6', h1, h2⟩ := loopB ss S (some (.sh (.int c))) none hS hp hn ss.length 0 [] none none (by omega) (by simp)
  rw [List.map_nil, List.nil_append] at h2
  have hlen : cLen [.lst (ss.map .int)] = some (.int (ss.length : Nat)) := by
    simp [cLen, List.length_map]
  have hr : rng1 [.int (ss.length : Nat)] = .ok ((List.range' 0 ss.length).map fun k => D.int (k : Nat)) := by
    unfold rng1
    dsimp only
    rw [if_pos (by omega), ← List.range_eq_range']
    simp [rngD]
  have e1 : fr__law_row_1 = sFor (iR1 (lCons (fB cLen (lCons (peek 1) lNil)) lNil)) (hName 5) rbody := rfl
  have e2 : iR1 (lCons (fB cLen (lCons (peek 1) lNil)) lNil) [some (.sh (.int c)), some (.sh (.lst (ss.map .int))), some (.ow (.lst [])), none, some (.sh (.int S)), none, none] = .ok ((List.range' 0 ss.length).map fun k => D.int (k : Nat)) := by
    rw [← hr]
    simp [fK, fOp, fU, fM, fIsN, fNotN, tB', tNot', tAnd', tOr', vAnd, vOr, vNot, fIf, lNil, lCons, fLst, fTup, fCall, fMk, fB, fSlc, oNo, oSo, fSplit, fLc, iSq, iR1, tYes', zF, zS, fF1, fF3, sSeq, sRet, sIf, sSet, sSetO, sFor, sApp, sPar, sAsg, sRaise, sFld, sFrz, sBad, sTryAs, fN, fRz, tIfx, sPar3, sRaiseB, iZip, iEnu, fMet, fMkd, fMkk, look, peek, bo, opt, mkL, mkT, small, fnG, mkG, int2, negC, seqD, hName, hCons, hNil, hTup, par2, appD, isOw, frz, setF, ptI, isiD, notScr, env0, env0I, selfF, runB, runI, cAbs, cLen, isNone, strD, payD, tryD, noErr, cLenS, itemS, dSub, dLt, dLe, dGt, dGe, notB, isO, zipD, zipL, par3, rzD, Res.bind_ok, Res.bind_err, Res.bind_bad, seq_nx, seq_rt, seq_err, bnd_ok, bnd_err, loop_nx, loop_rt, for_nil, for_cons, int_i, hlen]
  rw [e1]
  show ∃ (xs : List Int) (ρ : Env), bindS (iR1 (lCons (fB cLen (lCons (peek 1) lNil)) lNil) [some (.sh (.int c)), some (.sh (.lst (ss.map .int))), some (.ow (.lst [])), none, some (.sh (.int S)), none, none]) _ (fun items => forD (hName 5) rbody items [some (.sh (.int c)), some (.sh (.lst (ss.map .int))), some (.ow (.lst [])), none, some (.sh (.int S)), none, none]) = .nx ρ ∧ _
  rw [e2]
  exact ⟨ys, _, h2, rfl, h1⟩
theorem rowA' (c : Int) (ss : List Int) (h : (1000000000000000000 : Int) ≤ c) (ys : List Int) (ρ : Env) (e : fr__law_row_0 [some (.sh (.int c)), some (.sh (.lst (ss.map .int))), some (.ow (.lst [])), none, none, none, none] = .nx ρ) (h2 : ρ[2]? = some (some (.ow (.lst (ys.map .int))))) : G__law_row [.int c, .lst (ss.map .int)] = .ok (.lst (ys.map .int)) := by
  have h3 : (ρ.set 2 (some (.sh (.lst (ys.map .int)))))[2]? = some (some (.sh (.lst (ys.map .int)))) := get_set_self (lt_of_get h2)
  unfold G__law_row g__law_row
  generalize fr__law_row_0 = f0 at *
  generalize fr__law_row_1 = f1 at *
  simp [fK, fOp, fU, fM, fIsN, fNotN, tB', tNot', tAnd', tOr', vAnd, vOr, vNot, fIf, lNil, lCons, fLst, fTup, fCall, fMk, fB, fSlc, oNo, oSo, fSplit, fLc, iSq, iR1, tYes', zF, zS, fF1, fF3, sSeq, sRet, sIf, sSet, sSetO, sFor, sApp, sPar, sAsg, sRaise, sFld, sFrz, sBad, sTryAs, fN, fRz, tIfx, sPar3, sRaiseB, iZip, iEnu, fMet, fMkd, fMkk, look, peek, bo, opt, mkL, mkT, small, fnG, mkG, int2, negC, seqD, hName, hCons, hNil, hTup, par2, appD, isOw, frz, setF, ptI, isiD, notScr, env0, env0I, selfF, runB, runI, cAbs, cLen, isNone, strD, payD, tryD, noErr, cLenS, itemS, dSub, dLt, dLe, dGt, dGe, notB, isO, zipD, zipL, par3, rzD, Res.bind_ok, Res.bind_err, Res.bind_bad, seq_nx, seq_rt, seq_err, bnd_ok, bnd_err, loop_nx, loop_rt, for_nil, for_cons, int_i, p18, h, e, h2]
  simp only [h3, bnd_ok, seq_rt]
theorem run_row (g1 : Env → Res Bool) (g2 : Env → Res D) (f0 f1 : Env → RS) (a b S : D) (ys : List D) (ρ : Env) (t1 : g1 [some (.sh a), some (.sh b), some (.ow (.lst [])), none, none, none, none] = .ok false) (t2 : g2 [some (.sh a), some (.sh b), some (.ow (.lst [])), none, none, none, none] = .ok S)
    (e : f1 [some (.sh a), some (.sh b), some (.ow (.lst [])), none, some (.sh S), none, none] = .nx ρ) (h2 : ρ[2]? = some (some (.ow (.lst ys)))) :
    runB (sSeq (sSetO 2 (fLst lNil)) (sSeq (sIf g1 (sSeq f0 (sFrz 2 (sRet (look 2)))) .nx) (sSeq (sSet 4 g2) (sSeq f1 (sFrz 2 (sRet (look 2))))))) 7 [a, b] = .ok (.lst ys) := by
  have h3 : (ρ.set 2 (some (.sh (.lst ys))))[2]? = some (some (.sh (.lst ys))) := get_set_self (lt_of_get h2)
  simp [fK, fOp, fU, fM, fIsN, fNotN, tB', tNot', tAnd', tOr', vAnd, vOr, vNot, fIf, lNil, lCons, fLst, fTup, fCall, fMk, fB, fSlc, oNo, oSo, fSplit, fLc, iSq, iR1, tYes', zF, zS, fF1, fF3, sSeq, sRet, sIf, sSet, sSetO, sFor, sApp, sPar, sAsg, sRaise, sFld, sFrz, sBad, sTryAs, fN, fRz, tIfx, sPar3, sRaiseB, iZip, iEnu, fMet, fMkd, fMkk, look, peek, bo, opt, mkL, mkT, small, fnG, mkG, int2, negC, seqD, hName, hCons, hNil, hTup, par2, appD, isOw, frz, setF, ptI, isiD, notScr, env0, env0I, selfF, runB, runI, cAbs, cLen, isNone, strD, payD, tryD, noErr, cLenS, itemS, dSub, dLt, dLe, dGt, dGe, notB, isO, zipD, zipL, par3, rzD, Res.bind_ok, Res.bind_err, Res.bind_bad, seq_nx, seq_rt, seq_err, bnd_ok, bnd_err, loop_nx, loop_rt, for_nil, for_cons, int_i, t1, t2, e, h2]
  simp only [h3, bnd_ok]
theorem dge_no {c N : Int} (h : ¬ N ≤ c) : dGe (.int c) (.int N) = some (.bl false) := by
  show some (D.bl (decide (N ≤ c))) = _
  rw [decide_eq_false h]
theorem ge_no {a b : Int} {c N : Int} {x y : Option B} (p : powC a b = some (.int N)) (h : ¬ N ≤ c) : tB' (fOp dGe (peek 0) (fOp (int2 powC) (fK (.int a)) (fK (.int b)))) [some (.sh (.int c)), x, y, none, none, none, none] = .ok false := by
  simp [fK, fOp, fU, fM, fIsN, fNotN, tB', tNot', tAnd', tOr', vAnd, vOr, vNot, fIf, lNil, lCons, fLst, fTup, fCall, fMk, fB, fSlc, oNo, oSo, fSplit, fLc, iSq, iR1, tYes', zF, zS, fF1, fF3, sSeq, sRet, sIf, sSet, sSetO, sFor, sApp, sPar, sAsg, sRaise, sFld, sFrz, sBad, sTryAs, fN, fRz, tIfx, sPar3, sRaiseB, iZip, iEnu, fMet, fMkd, fMkk, look, peek, bo, opt, mkL, mkT, small, fnG, mkG, int2, negC, seqD, hName, hCons, hNil, hTup, par2, appD, isOw, frz, setF, ptI, isiD, notScr, env0, env0I, selfF, runB, runI, cAbs, cLen, isNone, strD, payD, tryD, noErr, cLenS, itemS, dSub, dLt, dLe, dGt, dGe, notB, isO, zipD, zipL, par3, rzD, Res.bind_ok, Res.bind_err, Res.bind_bad, seq_nx, seq_rt, seq_err, bnd_ok, bnd_err, loop_nx, loop_rt, for_nil, for_cons, int_i, p, h]
theorem md_ok {c S M : Int} {x y : Option B} (m1 : modC c M = some (.int S)) : fOp (int2 modC) (fB cInt2 (lCons (peek 0) lNil)) (fK (.int M)) [some (.sh (.int c)), x, y, none, none, none, none] = .ok (.int S) := by
  simp [fK, fOp, fU, fM, fIsN, fNotN, tB', tNot', tAnd', tOr', vAnd, vOr, vNot, fIf, lNil, lCons, fLst, fTup, fCall, fMk, fB, fSlc, oNo, oSo, fSplit, fLc, iSq, iR1, tYes', zF, zS, fF1, fF3, sSeq, sRet, sIf, sSet, sSetO, sFor, sApp, sPar, sAsg, sRaise, sFld, sFrz, sBad, sTryAs, fN, fRz, tIfx, sPar3, sRaiseB, iZip, iEnu, fMet, fMkd, fMkk, look, peek, bo, opt, mkL, mkT, small, fnG, mkG, int2, negC, seqD, hName, hCons, hNil, hTup, par2, appD, isOw, frz, setF, ptI, isiD, notScr, env0, env0I, selfF, runB, runI, cAbs, cLen, isNone, strD, payD, tryD, noErr, cLenS, itemS, dSub, dLt, dLe, dGt, dGe, notB, isO, zipD, zipL, par3, rzD, Res.bind_ok, Res.bind_err, Res.bind_bad, seq_nx, seq_rt, seq_err, bnd_ok, bnd_err, loop_nx, loop_rt, for_nil, for_cons, int_i, m1]
theorem row_is : G__law_row = runB (sSeq (sSetO 2 (fLst lNil)) (sSeq (sIf (tB' (fOp dGe (peek 0) (fOp (int2 powC) (fK (.int 10)) (fK (.int 18))))) (sSeq fr__law_row_0 (sFrz 2 (sRet (look 2)))) .nx) (sSeq (sSet 4 (fOp (int2 modC) (fB cInt2 (lCons (peek 0) lNil)) (fK (.int 2147483647)))) (sSeq fr__law_row_1 (sFrz 2 (sRet (look 2))))))) 7 := rfl
theorem rowB' (c S : Int) (ss : List Int) (h : ¬ (1000000000000000000 : Int) ≤ c) (m1 : modC c 2147483647 = some (.int S)) (ys : List Int) (ρ : Env) (e : fr__law_row_1 [some (.sh (.int c)), some (.sh (.lst (ss.map .int))), some (.ow (.lst [])), none, some (.sh (.int S)), none, none] = .nx ρ) (h2 : ρ[2]? = some (some (.ow (.lst (ys.map .int))))) : G__law_row [.int c, .lst (ss.map .int)] = .ok (.lst (ys.map .int)) := by
  rw [row_is]
  exact run_row _ _ _ _ _ _ _ _ ρ (ge_no p18 h) (md_ok m1) e h2
/-- the draws: numbers below their sizes -/
theorem row_all (c : Int) (ss : List Int) (hp : ∀ s ∈ ss, 0 < s ∧ s.natAbs.log2 < 9000) (hn : ss.length ≤ 1000) : ∃ xs : List Int, G__law_row [.int c, .lst (ss.map .int)] = .ok (.lst (xs.map .int)) ∧ Fits xs ss := by
  by_cases h : (1000000000000000000 : Int) ≤ c
  · obtain ⟨ys, ρ, e, h2, h1⟩ := rowA c ss hp hn
    exact ⟨ys, rowA' c ss h ys ρ e h2, h1⟩
  · have hS := fm (i := c) (j := 2147483647) (by decide)
    have m1 := mod_ok (i := c) (j := 2147483647) (by decide)
    obtain ⟨ys, ρ, e, h2, h1⟩ := rowB c _ ss hS (fun s hs => (hp s hs).1) hn
    exact ⟨ys, rowB' c _ ss h m1 ys ρ e h2, h1⟩
end DL.K44
namespace DL.K44
open PySem L2
/-! ### sorted(terms) -/
def sr0 (ps : List (List Nat)) : List (List Nat) := ps.mergeSort fun a b => PySem.W.dataLe false encT (kN a) (kN b)
theorem sr0_perm (ps : List (List Nat)) : (sr0 ps).Perm ps := List.mergeSort_perm _ _
theorem sort0_eq {n : Nat} {ts : List (List Nat × Rat)} (hn : (ts.map (·.1)).Nodup) (hl : ∀ t ∈ ts, t.1.length = n) : cSort0 (dk fr ts) = some (.lst ((sr0 (ts.map (·.1))).map kT)) := by
  have hk : (fz ts).map (·.1) = ts.map (·.1) := by
    unfold fz
    rw [List.map_map]
    rfl
  have h1 : ∀ t ∈ fz ts, t.1.length = n := fun t ht => by
    obtain ⟨u, hu, rfl⟩ := List.mem_map.mp ht
    exact hl u hu
  have ho := ok_sort (fz ts) (ne_of_len (by rw [hk]; exact hn) h1)
  have e1 : ((fz ts).map fun t => kN t.1) = ts.map fun t => kN t.1 := by
    unfold fz
    rw [List.map_map]
    rfl
  rw [e1] at ho
  show (if okSort (ts.map fun t => kN t.1) = true then some (D.lst (((ts.map fun t => kN t.1).mergeSort (PySem.W.dataLe false encT)).map ktD)) else none) = _
  rw [if_pos ho]
  have e : (sr0 (ts.map (·.1))).map kN = ((ts.map (·.1)).map kN).mergeSort (PySem.W.dataLe false encT) := List.map_mergeSort fun a _ b _ => rfl
  have e2 : (ts.map fun t => kN t.1) = (ts.map (·.1)).map kN := by
    rw [List.map_map]
    rfl
  rw [e2, ← e, List.map_map]
  congr 2
  apply List.map_congr_left
  intro t _
  exact kt_eq t
/-! ### the law's loop -/
def eM : Env → Res D := fOp (int2 modC) (fOp addA (fOp itemD (peek 1) (fK (.int 2))) (peek 4)) (fK (.int 4))
def eV0 : Env → Res D := fOp itemD (fLst (lCons (fTup (lCons (fK (.int 1)) (lCons (fK (.int 1)) lNil))) (lCons (fTup (lCons (fU negC (fK (.int 1))) (lCons (fK (.int 1)) lNil))) lNil))) (fOp (int2 modC) (peek 4) (fK (.int 2)))
def eV1 (Gl Gc : List D → Res D) : Env → Res D := fCall 1 Gl (lCons (fTup (lCons (fOp dSub (fOp (int2 modC) (fB cInt2 (lCons (fCall 2 Gc (lCons (look 0) (lCons (fK (.int 1)) lNil))) lNil)) (fOp (int2 powC) (fK (.int 10)) (fK (.int 30)))) (fOp (int2 powC) (fK (.int 10)) (fK (.int 29)))) (lCons (fOp addA (fK (.int 1)) (peek 4)) lNil))) lNil)
theorem l_parts (Gl Gc : List D → Res D) : gb_fr_law_0 Gl Gc = sSeq (sIf (tB' (fOp eqD eM (fK (.int 0)))) (sDput 3 (look 5) eV0) .nx) (sIf (tB' (fOp eqD eM (fK (.int 1)))) (sDput 3 (look 5) (eV1 Gl Gc)) .nx) := rfl
abbrev E10 (s0 s1 s2 : Option B) (td : D) (i : Nat) (k : D) (s6 s7 s8 s9 : Option B) : Env := [s0, s1, s2, some (.ow td), some (.sh (.int (i : Nat))), some (.sh k), s6, s7, s8, s9]
theorem condPut {n : Nat} (m v : Env → Res D) (j : Int) (s0 s1 s2 s6 s7 s8 s9 : Option B) (i : Nat) (ts : List (List Nat × Rat)) (p : List Nat) (c : Rat) (r : Int) (ht : Tms n 12 100 1 ts) (hl : ts.length ≤ 100) (hp : p.length = n) (hP : ∀ e ∈ p, e ≤ 12) (hc : Sz 100 1 c) (hm : m (E10 s0 s1 s2 (dk fr ts) i (kT p) s6 s7 s8 s9) = .ok (.int r)) (hv : v (E10 s0 s1 s2 (dk fr ts) i (kT p) s6 s7 s8 s9) = .ok (fr c)) :
    ∃ ts', sIf (tB' (fOp eqD m (fK (.int j)))) (sDput 3 (look 5) v) .nx (E10 s0 s1 s2 (dk fr ts) i (kT p) s6 s7 s8 s9) = .nx (E10 s0 s1 s2 (dk fr ts') i (kT p) s6 s7 s8 s9) ∧ Tms n 12 100 1 ts' ∧ ts'.length ≤ ts.length + 1 := by
  have e0 := eq_ii r j
  by_cases h : r = j
  · rw [decide_eq_true h] at e0
    refine ⟨putT ts p c, ?_, ht.put hp hP hc, put_len ts⟩
    obtain ⟨q2, q3⟩ := put_eq fr (p := p) (d := c) ht.nd
    have e : putE 3 (E10 s0 s1 s2 (dk fr ts) i (kT p) s6 s7 s8 s9) (kT p) (fr c) = .nx (E10 s0 s1 s2 (dk fr (putT ts p c)) i (kT p) s6 s7 s8 s9) := by
      show (match keyT (kT p) with
        | some k => if small ((ts.map fun t : List Nat × Rat => kN t.1).length + 1) = true then RS.nx _ else .bad
        | none => .bad) = _
      rw [keyT_eq]
      show (if small ((ts.map fun t : List Nat × Rat => kN t.1).length + 1) = true then RS.nx _ else RS.bad) = _
      rw [if_pos (by
        rw [List.length_map]
        exact decide_eq_true (by omega))]
      show RS.nx (E10 s0 s1 s2 (.dT (putKs (ts.map fun t : List Nat × Rat => kN t.1) (kN p)) (putXs (ts.map fun t : List Nat × Rat => kN t.1) (ts.map fun t : List Nat × Rat => fr t.2) (kN p) (fr c))) i (kT p) s6 s7 s8 s9) = _
      rw [q2, q3]
    have e2 : isOwD 3 (E10 s0 s1 s2 (dk fr ts) i (kT p) s6 s7 s8 s9) = .ok () := rfl
    have e3 : look 5 (E10 s0 s1 s2 (dk fr ts) i (kT p) s6 s7 s8 s9) = .ok (kT p) := rfl
    simp only [sIf, tB', fOp, fK, hm, Res.bind_ok, opt, e0, bo, bnd_ok, if_true, sDput, e2, e3, hv, e]
  · rw [decide_eq_false h] at e0
    refine ⟨ts, ?_, ht, by omega⟩
    simp only [sIf, tB', fOp, fK, hm, Res.bind_ok, opt, e0, bo, bnd_ok, Bool.false_eq_true, if_false]
theorem p30 : powC 10 30 = some (.int 1000000000000000000000000000000) := by
  unfold powC
  rw [if_pos (by decide)]
  congr 2
theorem p29 : powC 10 29 = some (.int 100000000000000000000000000000) := by
  unfold powC
  rw [if_pos (by decide)]
  congr 2
theorem num30 {i : Nat} (z : Int) (h : i < 5) (h0 : 0 ≤ z) (h1 : z < 1000000000000000000000000000000) : SzP 100 1 (z - 100000000000000000000000000000) (1 + i) := ⟨by
  have : (2 : Nat) ^ 100 = 1267650600228229401496703205376 := by decide
  rw [this]
  omega, c60 h⟩
theorem eM_eq (s0 row s2 td k : D) (i : Nat) (r : Int) (hr : itemD row (.int 2) = some (.int r)) (s6 s7 s8 s9 : Option B) (td : D) : eM (E10 (some (.sh s0)) (some (.sh row)) (some (.sh s2)) td i k s6 s7 s8 s9) = .ok (.int ((r + (i : Nat)).fmod 4)) := by
  have e := mod_ok (i := r + (i : Nat)) (j := 4) (by decide)
  have e1 : addA (.int r) (.int (i : Nat)) = some (.int (r + (i : Nat))) := rfl
  unfold eM
  simp only [fOp, int2, fK, peek, List.getElem?_cons_zero, List.getElem?_cons_succ, Res.bind_ok, opt, hr, e1, e]
theorem eV0_eq (s0 s1 s2 : Option B) (td : D) {i : Nat} (hi : i < 5) (k : D) (s6 s7 s8 s9 : Option B) : ∃ c, eV0 (E10 s0 s1 s2 td i k s6 s7 s8 s9) = .ok (fr c) ∧ Sz 100 1 c := by
  have h1 : Sz 100 1 (1 : Rat) := s11.mono (by decide) (by decide)
  have h2 : Sz 100 1 (-1 : Rat) := ⟨by decide, by decide⟩
  match i, hi with
  | 0, _ => exact ⟨1, rfl, h1⟩
  | 1, _ => exact ⟨-1, rfl, h2⟩
  | 2, _ => exact ⟨1, rfl, h1⟩
  | 3, _ => exact ⟨-1, rfl, h2⟩
  | 4, _ => exact ⟨1, rfl, h1⟩
theorem eV1_run (Gl Gc : List D → Res D) (s : D) (s1 s2 : Option B) (td : D) (i : Nat) (k : D) (s6 s7 s8 s9 : Option B) (c1 N M z : Int) (r : D) (hc : Gc [s, .int 1] = .ok (.int c1)) (h1 : powC 10 30 = some (.int N)) (h2 : powC 10 29 = some (.int M)) (h3 : modC c1 N = some (.int z)) (hl : Gl [.tup [.int (z - M), .int (1 + (i : Nat))]] = .ok r) :
    eV1 Gl Gc (E10 (some (.sh s)) s1 s2 td i k s6 s7 s8 s9) = .ok r := by
  have e1 : cInt2 [.int c1] = some (.int c1) := rfl
  have e2 : ∀ a b : Int, dSub (.int a) (.int b) = some (.int (a - b)) := fun _ _ => rfl
  have e3 : addA (.int 1) (.int (i : Nat)) = some (.int (1 + (i : Nat))) := rfl
  have e4 : ∀ x y : D, mkT [x, y] = .ok (.tup [x, y]) := fun _ _ => rfl
  unfold eV1
  simp only [fCall, fnG, fTup, fOp, int2, fB, fK, lCons, lNil, look, peek, List.getElem?_cons_zero, List.getElem?_cons_succ, List.length_cons, List.length_nil, if_true, Res.bind_ok, opt, hc, e1, h1, h2, h3, e2, e3, e4, hl]
theorem eV1_eq (s : D) (s1 s2 : Option B) (td : D) {i : Nat} (hi : i < 5) (k : D) (s6 s7 s8 s9 : Option B) (c1 : Int) (hc : G__law_cell [s, .int 1] = .ok (.int c1)) : ∃ c, eV1 G__law_low G__law_cell (E10 (some (.sh s)) s1 s2 td i k s6 s7 s8 s9) = .ok (fr c) ∧ Sz 100 1 c := by
  have hm := mod_ok (i := c1) (j := 1000000000000000000000000000000) (by decide)
  have hz := fm (i := c1) (j := 1000000000000000000000000000000) (by decide)
  have hP := num30 _ hi hz.1 hz.2
  have h1 := p30
  have h2 := p29
  generalize (1000000000000000000000000000000 : Int) = N at *
  generalize (100000000000000000000000000000 : Int) = M at *
  generalize c1.fmod N = z at *
  have hl := low_eq (z - M) (1 + i) hP.pos (Nat.lt_of_le_of_lt hP.le big_60)
  rw [show (((1 + i : Nat) : Nat) : Int) = 1 + (i : Int) by simp] at hl
  exact ⟨_, eV1_run G__law_low G__law_cell s s1 s2 td i k s6 s7 s8 s9 c1 N M z _ hc h1 h2 hm hl, hP.sz⟩
abbrev hKP : D → Env → Option Env := hTup fun ds ρ => if ds.length = 2 then (hCons (hName 4) (hCons (hName 5) hNil)) ds ρ else none
theorem stepLw {n : Nat} (s row s2 : D) (r c1 : Int) (hr : itemD row (.int 2) = some (.int r)) (hc : G__law_cell [s, .int 1] = .ok (.int c1)) {i : Nat} (hi : i < 5) (s6 s7 s8 s9 : Option B) (ts : List (List Nat × Rat)) (p : List Nat) (ht : Tms n 12 100 1 ts) (hl : ts.length ≤ 90) (hp : p.length = n) (hP : ∀ e ∈ p, e ≤ 12) :
    ∃ ts', gb_fr_law_0 G__law_low G__law_cell (E10 (some (.sh s)) (some (.sh row)) (some (.sh s2)) (dk fr ts) i (kT p) s6 s7 s8 s9) = .nx (E10 (some (.sh s)) (some (.sh row)) (some (.sh s2)) (dk fr ts') i (kT p) s6 s7 s8 s9) ∧ Tms n 12 100 1 ts' ∧ ts'.length ≤ ts.length + 2 := by
  obtain ⟨c, v0, v1⟩ := eV0_eq (some (.sh s)) (some (.sh row)) (some (.sh s2)) (dk fr ts) hi (kT p) s6 s7 s8 s9
  obtain ⟨ts1, a1, a2, a3⟩ := condPut eM eV0 0 (some (.sh s)) (some (.sh row)) (some (.sh s2)) s6 s7 s8 s9 i ts p c _ ht (by omega) hp hP v1 (eM_eq s row s2 s2 (kT p) i r hr s6 s7 s8 s9 (dk fr ts)) v0
  obtain ⟨c', w0, w1⟩ := eV1_eq s (some (.sh row)) (some (.sh s2)) (dk fr ts1) hi (kT p) s6 s7 s8 s9 c1 hc
  obtain ⟨ts2, b1, b2, b3⟩ := condPut eM (eV1 G__law_low G__law_cell) 1 (some (.sh s)) (some (.sh row)) (some (.sh s2)) s6 s7 s8 s9 i ts1 p c' _ a2 (by omega) hp hP w1 (eM_eq s row s2 s2 (kT p) i r hr s6 s7 s8 s9 (dk fr ts1)) w0
  refine ⟨ts2, ?_, b2, by omega⟩
  rw [l_parts]
  show seqS (sIf (tB' (fOp eqD eM (fK (.int 0)))) (sDput 3 (look 5) eV0) .nx _) _ = _
  rw [a1, seq_nx, b1]
theorem loopLw {n : Nat} (s row s2 : D) (r c1 : Int) (hr : itemD row (.int 2) = some (.int r)) (hc : G__law_cell [s, .int 1] = .ok (.int c1)) (s6 s7 s8 s9 : Option B) : ∀ (ps : List (List Nat)) (i : Nat) (ts : List (List Nat × Rat)) (v4 v5 : Option B), i + ps.length ≤ 5 → Tms n 12 100 1 ts → ts.length + 2 * ps.length ≤ 90 → (∀ p ∈ ps, p.length = n ∧ ∀ e ∈ p, e ≤ 12) →
    ∃ ts' w4 w5, forD hKP (gb_fr_law_0 G__law_low G__law_cell) (((ps.map kT).zipIdx i).map fun q => .tup [.int (q.2 : Nat), q.1]) [some (.sh s), some (.sh row), some (.sh s2), some (.ow (dk fr ts)), v4, v5, s6, s7, s8, s9] = .nx [some (.sh s), some (.sh row), some (.sh s2), some (.ow (dk fr ts')), w4, w5, s6, s7, s8, s9] ∧ Tms n 12 100 1 ts' ∧ ts'.length ≤ ts.length + 2 * ps.length
  | [], i, ts, v4, v5, _, ht, _, _ => ⟨ts, v4, v5, rfl, ht, by simp⟩
  | p :: ps, i, ts, v4, v5, hi, ht, hl, hp => by
    rw [List.length_cons] at hi hl
    obtain ⟨h1, h2⟩ := hp p (by simp)
    obtain ⟨ts1, a1, a2, a3⟩ := stepLw s row s2 r c1 hr hc (i := i) (by omega) s6 s7 s8 s9 ts p ht (by omega) h1 h2
    obtain ⟨ts', w4, w5, e, b1, b2⟩ := loopLw s row s2 r c1 hr hc s6 s7 s8 s9 ps (i + 1) ts1 (some (.sh (.int (i : Nat)))) (some (.sh (kT p))) (by omega) a2 (by omega) fun q hq => hp q (by simp [hq])
    refine ⟨ts', w4, w5, ?_, b1, by rw [List.length_cons]; omega⟩
    rw [List.map_cons, List.zipIdx_cons, List.map_cons, for_cons]
    show loopK (gb_fr_law_0 G__law_low G__law_cell (E10 (some (.sh s)) (some (.sh row)) (some (.sh s2)) (dk fr ts) i (kT p) s6 s7 s8 s9)) _ = _
    rw [a1, loop_nx]
    exact e
theorem frl_eq {n : Nat} (s row s2 : D) (r c1 : Int) (hr : itemD row (.int 2) = some (.int r)) (hc : G__law_cell [s, .int 1] = .ok (.int c1)) {ts : List (List Nat × Rat)} (ht : Tms n 12 100 1 ts) (hl : ts.length ≤ 5) :
    ∃ ts' w4 w5, fr_law_0 [some (.sh s), some (.sh row), some (.sh s2), some (.ow (dk fr ts)), none, none, none, none, none, none] = .nx [some (.sh s), some (.sh row), some (.sh s2), some (.ow (dk fr ts')), w4, w5, none, none, none, none] ∧ Tms n 12 100 1 ts' ∧ ts'.length ≤ 20 := by
  have hp := sr0_perm (ts.map (·.1))
  have hpl : (sr0 (ts.map (·.1))).length = ts.length := by rw [hp.length_eq, List.length_map]
  obtain ⟨ts', w4, w5, e, b1, b2⟩ := loopLw s row s2 r c1 hr hc none none none none (sr0 (ts.map (·.1))) 0 ts none none (by omega) ht (by omega) fun p h => by
    obtain ⟨t, ht', rfl⟩ := List.mem_map.mp (hp.mem_iff.mp h)
    exact ⟨(ht.at_ t ht').1, (ht.at_ t ht').2.1⟩
  refine ⟨ts', w4, w5, ?_, b1, by omega⟩
  have e1 := sort0_eq ht.nd fun t h => (ht.at_ t h).1
  have e2 : enuA [.lst ((sr0 (ts.map (·.1))).map kT)] = .ok (enuL ((sr0 (ts.map (·.1))).map kT)) := rfl
  rw [gb_fr_law_0_eq]
  simp only [sFor, iEnuA, lCons, lNil, fSort0, peek, List.getElem?_cons_zero, List.getElem?_cons_succ, Res.bind_ok, e1, opt, e2, bnd_ok]
  exact e
end DL.K44
namespace DL.K44
open PySem L2
/-! ### the fields -/
def isNon : Res D → Bool
  | .ok .non => true
  | _ => false
theorem isNon_eq {r : Res D} (h : isNon r = true) : r = .ok .non := by
  unfold isNon at h
  split at h
  · rfl
  · cases h
def isFls : Option D → Bool
  | some (.bl false) => true
  | _ => false
theorem isFls_eq {r : Option D} (h : isFls r = true) : r = some (.bl false) := by
  unfold isFls at h
  split at h
  · rfl
  · cases h
theorem flds_ok (r : Int) (h0 : 0 ≤ r) (h6 : r < 6) : ∃ fs : List Str, G__law_fields [.int r] = .ok (sL fs) ∧ Flds (fs.map .str) ∧ FsOk fs := by
  have hr : r = 0 ∨ r = 1 ∨ r = 2 ∨ r = 3 ∨ r = 4 ∨ r = 5 := by omega
  rcases hr with rfl | rfl | rfl | rfl | rfl | rfl
  · exact ⟨["x", "y"], rfl, ⟨by decide, isNon_eq (by decide +kernel), isFls_eq (by decide +kernel)⟩, ⟨by decide, by decide +kernel, by decide +kernel⟩⟩
  · exact ⟨["x"], rfl, ⟨by decide, isNon_eq (by decide +kernel), isFls_eq (by decide +kernel)⟩, ⟨by decide, by decide +kernel, by decide +kernel⟩⟩
  · exact ⟨[], rfl, ⟨by decide, isNon_eq (by decide +kernel), isFls_eq (by decide +kernel)⟩, ⟨by decide, by decide +kernel, by decide +kernel⟩⟩
  · exact ⟨["price", "many"], rfl, ⟨by decide, isNon_eq (by decide +kernel), isFls_eq (by decide +kernel)⟩, ⟨by decide, by decide +kernel, by decide +kernel⟩⟩
  · exact ⟨["b", "a"], rfl, ⟨by decide, isNon_eq (by decide +kernel), isFls_eq (by decide +kernel)⟩, ⟨by decide, by decide +kernel, by decide +kernel⟩⟩
  · exact ⟨["zz"], rfl, ⟨by decide, isNon_eq (by decide +kernel), isFls_eq (by decide +kernel)⟩, ⟨by decide, by decide +kernel, by decide +kernel⟩⟩
/-! ### the row -/
def szs : List Int := [6, 6, 4, 13, 13, 19, 5, 13, 13, 19, 5, 13, 13, 19, 5, 13, 13, 19, 5, 13, 13, 19, 5]
theorem Fits.get : ∀ {ys ss : List Int} (i : Nat) (h : i < ys.length) (s : Int), Fits ys ss → ss[i]? = some s → 0 ≤ ys[i] ∧ ys[i] < s
  | [], _, i, h, _, _, _ => by simp at h
  | y :: ys, [], i, h, s, hf, hs => by simp at hs
  | y :: ys, z :: ss, 0, h, s, hf, hs => by
    simp at hs
    subst hs
    exact hf.1
  | y :: ys, z :: ss, i + 1, h, s, hf, hs => Fits.get i (by simpa using h) s hf.2 (by simpa using hs)
theorem item_n (xs : List Int) (i : Nat) (h : i < xs.length) : itemD (.lst (xs.map .int)) (.int (i : Nat)) = some (.int xs[i]) := by
  show atI (xs.map D.int) (i : Int) = _
  unfold atI ixN
  rw [List.length_map, if_pos (by omega), if_pos (by omega), Option.bind_some, Int.toNat_natCast, List.getElem?_map, List.getElem?_eq_getElem h]
  rfl
theorem quad_of (xs : List Int) (hl : xs.length = 23) (hf : Fits xs szs) (o g : Nat) (hg : g ≤ 5) (ho : o = 3) : Quad g (((xs.map D.int).drop o).take (4 * g)) := by
  constructor
  · rw [List.length_take, List.length_drop, List.length_map]
    omega
  · intro k hk
    have hb : ∀ j, j < 4 → o + (4 * k + j) < xs.length := fun j hj => by omega
    have e : ((((xs.map D.int).drop o).take (4 * g)).drop (4 * k)).take 4 = [.int (xs[o + (4 * k + 0)]'(hb 0 (by decide))), .int (xs[o + (4 * k + 1)]'(hb 1 (by decide))), .int (xs[o + (4 * k + 2)]'(hb 2 (by decide))), .int (xs[o + (4 * k + 3)]'(hb 3 (by decide)))] := by
      rw [take4 _ _ (by rw [List.length_take, List.length_drop, List.length_map]; omega)]
      simp
    have hs : ∀ o' k', o' = 3 → k' < 5 → szs[o' + (4 * k' + 0)]? = some 13 ∧ szs[o' + (4 * k' + 1)]? = some 13 ∧ szs[o' + (4 * k' + 2)]? = some 19 ∧ szs[o' + (4 * k' + 3)]? = some 5 := by
      intro o' k' ho' hk'
      have hk2 : k' = 0 ∨ k' = 1 ∨ k' = 2 ∨ k' = 3 ∨ k' = 4 := by omega
      subst ho'
      rcases hk2 with rfl | rfl | rfl | rfl | rfl <;> decide
    obtain ⟨s0, s1, s2, s3⟩ := hs o k ho (by omega)
    have f0 := Fits.get _ (hb 0 (by decide)) _ hf s0
    have f1 := Fits.get _ (hb 1 (by decide)) _ hf s1
    have f2 := Fits.get _ (hb 2 (by decide)) _ hf s2
    have f3 := Fits.get _ (hb 3 (by decide)) _ hf s3
    refine ⟨(xs[o + (4 * k + 0)]'(hb 0 (by decide))).toNat, (xs[o + (4 * k + 1)]'(hb 1 (by decide))).toNat, (xs[o + (4 * k + 2)]'(hb 2 (by decide))).toNat, (xs[o + (4 * k + 3)]'(hb 3 (by decide))).toNat, ?_, by omega, by omega, by omega, by omega⟩
    rw [e]
    simp only [pI]
    rw [Int.toNat_of_nonneg f0.1, Int.toNat_of_nonneg f1.1, Int.toNat_of_nonneg f2.1, Int.toNat_of_nonneg f3.1]
/-! ### the numbers -/
theorem szs_ok : ∀ s ∈ szs, 0 < s ∧ s.natAbs.log2 < 9000 := by decide
theorem rep5 : repD (.lst [.int 13, .int 13, .int 19, .int 5]) (.int 5) = some (.lst ((szs.drop 3).map .int)) := rfl
theorem add_sz : addA (.lst [.int 6, .int 6, .int 4]) (.lst ((szs.drop 3).map .int)) = some (.lst (szs.map .int)) := rfl
theorem slc_row (xs : List Int) (hl : xs.length = 23) (o g : Nat) (h : o + 4 * g ≤ 23) : slcD (.lst (xs.map .int)) (some (o : Int)) (some ((o : Int) + 4 * (g : Int))) = some (.lst (((xs.map D.int).drop o).take (4 * g))) := by
  show some (D.lst (cutD _ _ _)) = _
  have e := cut_nat (xs.map D.int) o (o + 4 * g) (by rw [List.length_map]; omega) (by omega)
  rw [Nat.add_sub_cancel_left] at e
  rw [← e]
  simp
/-! ### the law -/
theorem add_ii (i j : Int) : addA (.int i) (.int j) = some (.int (i + j)) := rfl
theorem mkT2 (x y : D) : mkT [x, y] = .ok (.tup [x, y]) := rfl
theorem mkT1 (x : D) : mkT [x] = .ok (.tup [x]) := rfl
theorem mkL3 (x y z : D) : mkL [x, y, z] = .ok (.lst [x, y, z]) := rfl
theorem mkL4 (x y z u : D) : mkL [x, y, z, u] = .ok (.lst [x, y, z, u]) := rfl
theorem frz3 (s0 s1 s2 s4 s5 s6 s7 s8 s9 : Option B) (d : D) : frz 3 [s0, s1, s2, some (.ow d), s4, s5, s6, s7, s8, s9] = [s0, s1, s2, some (.sh d), s4, s5, s6, s7, s8, s9] := rfl
theorem frz3s (s0 s1 s2 s4 s5 s6 s7 s8 s9 : Option B) (d : D) : frz 3 [s0, s1, s2, some (.sh d), s4, s5, s6, s7, s8, s9] = [s0, s1, s2, some (.sh d), s4, s5, s6, s7, s8, s9] := rfl
theorem runLaw (Gr Gc Gf Gt : List D → Res D) (f0 : Env → RS) (Gi : List D → Res (List D)) (Gh Gd Gs Ge Ga Gm : List D → Res D) (s c z sz row fs fs' t0 t h1 h2 ds k m1 m2 pa t2 : D) (r0 r1 n : Int) (x1 x2 xm : List D) (due due2 : Str) (w4 w5 : Option B)
    (e_c : Gc [s, .int 0] = .ok c) (e_rep : repD (.lst [.int 13, .int 13, .int 19, .int 5]) (.int 5) = some z) (e_sz : addA (.lst [.int 6, .int 6, .int 4]) z = some sz) (e_row : Gr [c, sz] = .ok row)
    (i0 : itemD row (.int 0) = some (.int r0)) (i1 : itemD row (.int 1) = some (.int r1)) (e_f : Gf [.int r0] = .ok fs) (e_m4 : mulB 4 r1 = some (.int (4 * r1))) (e_sl : slcD row (some 3) (some (3 + 4 * r1)) = some ds) (e_t : Gt [ds, fs] = .ok t0)
    (e_l : f0 [some (.sh s), some (.sh row), some (.sh fs), some (.ow t0), none, none, none, none, none, none] = .nx [some (.sh s), some (.sh row), some (.sh fs), some (.ow t), w4, w5, none, none, none, none])
    (e_h1 : Gh [t, .bl true] = .ok h1) (e_h2 : Gh [t, .bl false] = .ok h2) (e_p : Gi [fs, h1] = .ok x1) (e_ls : cList [fs] = some fs') (e_q : Gi [fs', h2] = .ok x2) (e_d : Gd [t, fs] = .ok (.str due))
    (e_s1 : strC 1 Gs (.obj 1 x1) = .ok (.str due)) (e_s2 : strC 1 Gs (.obj 1 x2) = .ok (.str due)) (e_nn : neD (.str due) (.str due) = some (.bl false)) (e_ne : neXR (geOf 1 Ge) 0 (.obj 1 x1) (.obj 1 x2) = .ok (.bl false))
    (e_n : cLen [fs] = some (.int n)) (e_rt : repT (.tup [.int 1]) (.int n) = some k) (e_d1 : disp1 k (.int 1) = .ok m1) (e_m : Gi [fs, m1] = .ok xm) (e_a : opO 1 Ga (.obj 1 x1) (.obj 1 xm) = .ok pa) (e_s3 : strC 1 Gs pa = .ok (.str due2))
    (e_d2 : disp1 k (.tup [.int 1, .int 1]) = .ok m2) (e_sm : Gm [t, m2, .int 1] = .ok t2) (e_du : Gd [t2, fs] = .ok (.str due2)) (e_e2 : eqD (.str due2) (.str due2) = some (.bl true)) :
    runB (gp_g_law Gr Gc Gf Gt f0 Gi Gh Gd Gs Ge Ga Gm) 10 [s] = .ok (.bl true) := by
  have e0 : env0 10 [s] = [some (.sh s), none, none, none, none, none, none, none, none, none] := rfl
  unfold runB gp_g_law
  rw [e0]
  simp only [sSeq, sSet, sSetO, fCall, lCons, lNil, look, peek, fK, fOp, fLst, fTup, List.getElem?_cons_zero, List.getElem?_cons_succ, Res.bind_ok, fnG, List.length_cons, List.length_nil, if_true, e_c, mkL3, mkL4, mkT2, mkT1, e_rep, opt, e_sz, e_row, bnd_ok, List.set_cons_succ, List.set_cons_zero, seq_nx,
    i0, i1, e_f, fSlc, oSo, oNo, ptI, int2, e_m4, add_ii, e_sl, e_t, e_l, sFrz, frz3, frz3s, sPar, par2, fMk, mkG, e_h1, e_h2, e_p, fB, e_ls, e_q, e_d]
  simp only [sSeq, sIf, tOr', tB', fM, fN, fOp, fCall, fMk, mkG, fnG, fB, fK, fTup, fDisp1, lCons, lNil, look, peek, List.getElem?_cons_zero, List.getElem?_cons_succ, List.set_cons_succ, List.set_cons_zero, List.length_cons, List.length_nil, Res.bind_ok, opt, e_s1, e_s2, e_nn, e_ne, bo, Bool.false_eq_true, if_false, if_true, bnd_ok, seq_nx, sSet, e_n, mkT1, mkT2, e_rt, e_d1, e_m, sFrz, frz3, frz3s, sRet, e_a, e_s3, e_d2, e_sm, e_du, e_e2]
theorem pwb {m : Nat} (h : m ≤ 1000) : 2 ^ m ≤ 2 ^ b1 := Nat.pow_le_pow_right (by decide) h
theorem tok_of {fs : List Str} {n m : Nat} {ts : List (List Nat × Rat)} (hm : m ≤ 1000) (h : Tms n 12 m 1 ts) : TOk fs ts := ⟨fun t ht => by
  obtain ⟨a1, a2, a3⟩ := h.at_ t ht
  have hd : t.2.den ≤ 60 := a3.den_le
  refine ⟨⟨Nat.lt_of_lt_of_le a3.n (pwb hm), Nat.lt_of_le_of_lt hd (Nat.lt_of_lt_of_le (show 60 < 2 ^ 6 by decide) (pwb (by decide)))⟩, Nat.lt_of_le_of_lt a3.den_le big_60, fun e he => ?_⟩
  have := a2 e he
  omega⟩
theorem hand_one (b : Bool) {ts : List (List Nat × Rat)} (hn : (ts.map (·.1)).Nodup) : oneF (hand b ts) = can ts := by
  refine one_can ?_ (by rw [hand_toT])
  have h1 := (oneF_perm (hand b ts)).map (·.1)
  rw [hand_toT] at h1
  exact h1.nodup_iff.mpr (nz_nodup hn)
theorem made_p {fs : List Str} (F : Flds (fs.map .str)) (b : Bool) {ts : List (List Nat × Rat)} (h : Tms (fs.map D.str).length 12 100 1 ts) (hl : ts.length ≤ 20) : G__law_handed [dk fr ts, .bl b] = .ok (dn (hand b ts)) ∧ G_Poly___init__ [sL fs, dn (hand b ts)] = .ok [.tup (fs.map .str), dk pl (can ts)] := by
  have hlen := F.len
  constructor
  · exact handed_eq b h.nd (fun t ht => Nat.lt_of_le_of_lt (h.at_ t ht).2.2.den_le big_60) (by omega)
  · have e := poly_eq (fd := sL fs) (fsl := fs.map .str) (ts := hand b ts) rfl F.chk (by omega) (by rw [hand_keys]; exact h.nd) (fun t ht => by
      obtain ⟨u, hu, rfl⟩ := List.mem_map.mp ht
      exact mkN_nu b _) (by rw [List.length_map]; omega) (fun t ht => by
      obtain ⟨u, hu, rfl⟩ := List.mem_map.mp ht
      exact (h.at_ u hu).1)
    rw [hand_one b h.nd] at e
    exact e
theorem ones_eq {n : Nat} (h : n ≤ 2) : repT (.tup [.int 1]) (.int (n : Nat)) = some (kT (List.replicate n 1)) := by
  match n, h with
  | 0, _ => rfl
  | 1, _ => rfl
  | 2, _ => rfl
theorem disp_eq (p : List Nat) (x : D) : disp1 (kT p) x = .ok (.dT [kN p] [x]) := by
  unfold disp1
  rw [keyT_eq]
theorem more_one (p : List Nat) : oneF [(p, (.int 1, (1 : Rat)))] = [(p, (1 : Rat))] := by
  have h := oneF_perm [(p, (D.int 1, (1 : Rat)))]
  have e : nzT (toT [(p, (D.int 1, (1 : Rat)))]) = [(p, (1 : Rat))] := by
    show List.filter _ [(p, (1 : Rat))] = _
    rw [List.filter_cons, if_pos (by show decide ((1 : Rat) ≠ 0) = true; decide)]
    rfl
  rw [e] at h
  exact List.perm_singleton.mp h
theorem more_p {fs : List Str} (F : Flds (fs.map .str)) {p : List Nat} (hp : p.length = (fs.map D.str).length) : G_Poly___init__ [sL fs, .dT [kN p] [.int 1]] = .ok [.tup (fs.map .str), dk pl [(p, (1 : Rat))]] := by
  have hlen := F.len
  have e := poly_eq (fd := sL fs) (fsl := fs.map .str) (ts := [(p, (.int 1, (1 : Rat)))]) rfl F.chk (by omega) (by simp) (fun t ht => by
      rw [List.mem_singleton] at ht
      subst ht
      exact .inr ⟨1, rfl, rfl⟩) (by simp) (fun t ht => by
      rw [List.mem_singleton] at ht
      subst ht
      exact hp)
  rw [more_one] at e
  exact e
theorem law_true (ns : List Int) : G_law [.scr ns] = .ok (.bl true) := by
  obtain ⟨c, hc⟩ := cell_ok ns 0
  obtain ⟨c1, hc1⟩ := cell_ok ns 1
  obtain ⟨xs, hrow, hfit⟩ := row_all c szs szs_ok (by decide)
  have hl : xs.length = 23 := hfit.len
  have b0 := Fits.get 0 (by omega) 6 hfit (by decide)
  have b1' := Fits.get 1 (by omega) 6 hfit (by decide)
  have i0 := item_n xs 0 (by omega)
  have i1 := item_n xs 1 (by omega)
  have i2 := item_n xs 2 (by omega)
  generalize xs[0] = r0 at *
  generalize xs[2] = r2 at *
  obtain ⟨r1, h1⟩ : ∃ r : Nat, xs[1] = (r : Int) := ⟨xs[1].toNat, (Int.toNat_of_nonneg b1'.1).symm⟩
  rw [h1] at b1' i1
  obtain ⟨fs, hf, F, Fs⟩ := flds_ok r0 b0.1 b0.2
  have hn2 := F.len
  obtain ⟨t0, e_t, T0, l0⟩ := terms_eq (fsl := fs.map .str) (quad_of xs hl hfit 3 r1 (by omega) rfl) rfl hn2 (by omega)
  obtain ⟨ts, w4, w5, e_l, T, lt⟩ := frl_eq (.scr ns) (.lst (xs.map .int)) (sL fs) r2 c1 i2 hc1 T0 (by omega)
  obtain ⟨e_h1, e_p⟩ := made_p F true T lt
  obtain ⟨e_h2, e_q⟩ := made_p F false T lt
  have K := tok_of (fs := fs) (by decide) T
  have lc := can_len ts
  have hcn := can_nd T.nd
  have e_s := strC_eq Fs hcn (K.sub (can_sub ts)) (by omega)
  have e_d := due_eq Fs T.nd (fun t h => (T.at_ t h).1) K (by omega)
  have wk := txt_wk Fs (K.sub (can_sub ts))
  have hp : (List.replicate (fs.map D.str).length 1).length = (fs.map D.str).length := List.length_replicate
  have hP : ∀ e ∈ List.replicate (fs.map D.str).length 1, e ≤ 12 := fun e he => by
    rw [List.eq_of_mem_replicate he]
    decide
  obtain ⟨T2, lt2⟩ := addT_tms T hp hP
  have K2 := tok_of (fs := fs) (by decide) T2
  have e_a := padd_eq F T (by omega) hp hP
  have e_sm := sum_of_eq hn2 T (by omega) hp hP
  have lc2 := can_len (addT ts (List.replicate (fs.map D.str).length 1) 1)
  have e_s3 := strC_eq Fs (can_nd T2.nd) (K2.sub (can_sub _)) (by omega)
  have hz : ∀ u ∈ nzT (addT ts (List.replicate (fs.map D.str).length 1) 1), u ∈ addT ts (List.replicate (fs.map D.str).length 1) 1 := fun u hu => (List.mem_filter.mp hu).1
  have lz : (nzT (addT ts (List.replicate (fs.map D.str).length 1) 1)).length ≤ (addT ts (List.replicate (fs.map D.str).length 1) 1).length := List.length_filter_le _ _
  have e_du := due_eq Fs (nz_nodup T2.nd) (fun t h => (T2.at_ t (hz t h)).1) (K2.sub hz) (by omega)
  rw [can_nz] at e_du
  have wk2 := txt_wk Fs (K2.sub (can_sub (addT ts (List.replicate (fs.map D.str).length 1) 1)))
  have e_nn := ne_ss wk.ok wk.ok
  rw [decide_eq_true rfl] at e_nn
  have e_e2 := eq_ss wk2.ok wk2.ok
  rw [decide_eq_true rfl] at e_e2
  have e_m4 : mulB 4 (r1 : Int) = some (.int (4 * (r1 : Int))) := mulB_ok (m := 3) (m' := 20) (by decide) (by
    show r1 < 2 ^ 20
    have : 2 ^ 20 = 1048576 := rfl
    omega) (by decide)
  have e_a' : opO 1 G_Poly___add__ (poly (.tup (fs.map .str)) (dk pl (can ts))) (poly (.tup (fs.map .str)) (dk pl [(List.replicate (fs.map D.str).length 1, (1 : Rat))])) = .ok (poly (.tup (fs.map .str)) (dk pl (can (addT ts (List.replicate (fs.map D.str).length 1) 1)))) := e_a
  exact runLaw G__law_row G__law_cell G__law_fields G__law_terms fr_law_0 G_Poly___init__ G__law_handed G__law_due G_Poly___str__ G_Poly___eq__ G_Poly___add__ G__law_sum_of (.scr ns) (.int c) _ _ (.lst (xs.map .int)) (sL fs) (sL fs) (dk fr t0) (dk fr ts) _ _ _ _ _ _ _ _ r0 (r1 : Int) ((fs.map D.str).length : Nat) _ _ _ _ _ w4 w5
    hc rep5 add_sz hrow i0 i1 hf e_m4 (slc_row xs hl 3 r1 (by omega)) e_t e_l e_h1 e_h2 e_p rfl e_q e_d e_s e_s e_nn (pne_eq F.ne hcn) rfl (ones_eq hn2) (disp_eq _ _) (more_p F hp) e_a' e_s3 (disp_eq _ _) e_sm e_du e_e2
end DL.K44
namespace DL
open PySem L2
theorem cx_false {P : Program} {w : World} {H : Hp} {s : Shared} {u : Value} {s' : Shared} (h : L2.CX P w [] H s (fun _ _ _ => False) u s') : False := by
  obtain ⟨_, _, _, _, _, _, _, _, _, _, _, _, z⟩ := h
  exact z
end DL
namespace DL.K44
open PySem L2
abbrev lw : PySem.W.OpenLaw := PySem.Challenge.rw_everylist_k44_texts_of_polys
theorem all_mk {w : World} {K : PySem.W.Frag} {h : Heap} {mg : Str → Option Value} {fa C C1 : Addr} (X : K.In h) (G : h.Ns mainGlobals mg) (hfa : mg "law" = some (.ref fa))
    {f0 : Addr} {od0 an0 : Option Addr} {sl0 : Array (Option Value)} {oc0 kV0 dc0 pm0 ct0 : Value} {cd0 : Value}
    {f1 : Addr} {od1 an1 : Option Addr} {sl1 : Array (Option Value)} {oc1 kV1 dc1 pm1 ct1 : Value} {cd1 : Value}
    {f2 : Addr} {od2 an2 : Option Addr} {sl2 : Array (Option Value)} {oc2 kV2 dc2 pm2 ct2 : Value} {cd2 : Value}
    {f3 : Addr} {od3 an3 : Option Addr} {sl3 : Array (Option Value)} {oc3 kV3 dc3 pm3 ct3 : Value} {cd3 : Value}
    {f4 : Addr} {od4 an4 : Option Addr} {sl4 : Array (Option Value)} {oc4 kV4 dc4 pm4 ct4 : Value} {cd4 : Value}
    {f5 : Addr} {od5 an5 : Option Addr} {sl5 : Array (Option Value)} {oc5 kV5 dc5 pm5 ct5 : Value} {cd5 : Value}
    {f6 : Addr} {od6 an6 : Option Addr} {sl6 : Array (Option Value)} {oc6 kV6 dc6 pm6 ct6 : Value} {cd6 : Value}
    {f7 : Addr} {od7 an7 : Option Addr} {sl7 : Array (Option Value)} {oc7 kV7 dc7 pm7 ct7 : Value} {cd7 : Value}
    {f8 : Addr} {od8 an8 : Option Addr} {sl8 : Array (Option Value)} {oc8 kV8 dc8 pm8 ct8 : Value} {cd8 : Value}
    {f9 : Addr} {od9 an9 : Option Addr} {sl9 : Array (Option Value)} {oc9 kV9 dc9 pm9 ct9 : Value} {cd9 : Value}
    {f10 : Addr} {od10 an10 : Option Addr} {sl10 : Array (Option Value)} {oc10 kV10 dc10 pm10 ct10 : Value} {cd10 : Value}
    {f11 : Addr} {od11 an11 : Option Addr} {sl11 : Array (Option Value)} {oc11 kV11 dc11 pm11 ct11 : Value} {cd11 : Value}
    {f12 : Addr} {od12 an12 : Option Addr} {sl12 : Array (Option Value)} {oc12 kV12 dc12 pm12 ct12 : Value} {cd12 : Value}
    {f13 : Addr} {od13 an13 : Option Addr} {sl13 : Array (Option Value)} {oc13 kV13 dc13 pm13 ct13 : Value} {cd13 : Value}
    {f14 : Addr} {od14 an14 : Option Addr} {sl14 : Array (Option Value)} {oc14 kV14 dc14 pm14 ct14 : Value} {cd14 : Value}
    {f15 : Addr} {od15 an15 : Option Addr} {sl15 : Array (Option Value)} {oc15 kV15 dc15 pm15 ct15 : Value} {cd15 : Value}
    {f16 : Addr} {od16 an16 : Option Addr} {sl16 : Array (Option Value)} {oc16 kV16 dc16 pm16 ct16 : Value} {cd16 : Value}
    {f17 : Addr} {od17 an17 : Option Addr} {sl17 : Array (Option Value)} {oc17 kV17 dc17 pm17 ct17 : Value} {cd17 : Value}
    {f18 : Addr} {od18 an18 : Option Addr} {sl18 : Array (Option Value)} {oc18 kV18 dc18 pm18 ct18 : Value} {cd18 : Value}
    {f19 : Addr} {od19 an19 : Option Addr} {sl19 : Array (Option Value)} {oc19 kV19 dc19 pm19 ct19 : Value} {cd19 : Value}
    {f20 : Addr} {od20 an20 : Option Addr} {sl20 : Array (Option Value)} {oc20 kV20 dc20 pm20 ct20 : Value} {cd20 : Value}
    {f21 : Addr} {od21 an21 : Option Addr} {sl21 : Array (Option Value)} {oc21 kV21 dc21 pm21 ct21 : Value} {cd21 : Value}
    {f22 : Addr} {od22 an22 : Option Addr} {sl22 : Array (Option Value)} {oc22 kV22 dc22 pm22 ct22 : Value} {cd22 : Value}
    {f23 : Addr} {od23 an23 : Option Addr} {sl23 : Array (Option Value)} {oc23 kV23 dc23 pm23 ct23 : Value} {cd23 : Value}
    {f24 : Addr} {od24 an24 : Option Addr} {sl24 : Array (Option Value)} {oc24 kV24 dc24 pm24 ct24 : Value} {cd24 : Value}
    {f25 : Addr} {od25 an25 : Option Addr} {sl25 : Array (Option Value)} {oc25 kV25 dc25 pm25 ct25 : Value} {cd25 : Value}
    {f26 : Addr} {od26 an26 : Option Addr} {sl26 : Array (Option Value)} {oc26 kV26 dc26 pm26 ct26 : Value} {cd26 : Value}
    {f27 : Addr} {od27 an27 : Option Addr} {sl27 : Array (Option Value)} {oc27 kV27 dc27 pm27 ct27 : Value} {cd27 : Value}
    {f28 : Addr} {od28 an28 : Option Addr} {sl28 : Array (Option Value)} {oc28 kV28 dc28 pm28 ct28 : Value} {cd28 : Value}
    {f29 : Addr} {od29 an29 : Option Addr} {sl29 : Array (Option Value)} {oc29 kV29 dc29 pm29 ct29 : Value} {cd29 : Value}
    {f30 : Addr} {od30 an30 : Option Addr} {sl30 : Array (Option Value)} {oc30 kV30 dc30 pm30 ct30 : Value} {cd30 : Value}
    {f31 : Addr} {od31 an31 : Option Addr} {sl31 : Array (Option Value)} {oc31 kV31 dc31 pm31 ct31 : Value} {cd31 : Value}
    {f32 : Addr} {od32 an32 : Option Addr} {sl32 : Array (Option Value)} {oc32 kV32 dc32 pm32 ct32 : Value} {cd32 : Value}
    {f33 : Addr} {od33 an33 : Option Addr} {sl33 : Array (Option Value)} {oc33 kV33 dc33 pm33 ct33 : Value} {cd33 : Value}
    {f34 : Addr} {od34 an34 : Option Addr} {sl34 : Array (Option Value)} {oc34 kV34 dc34 pm34 ct34 : Value} {cd34 : Value}
    {f35 : Addr} {od35 an35 : Option Addr} {sl35 : Array (Option Value)} {oc35 kV35 dc35 pm35 ct35 : Value} {cd35 : Value}
    {f36 : Addr} {od36 an36 : Option Addr} {sl36 : Array (Option Value)} {oc36 kV36 dc36 pm36 ct36 : Value} {cd36 : Value}
    {f37 : Addr} {od37 an37 : Option Addr} {sl37 : Array (Option Value)} {oc37 kV37 dc37 pm37 ct37 : Value} {cd37 : Value}
    {f38 : Addr} {od38 an38 : Option Addr} {sl38 : Array (Option Value)} {oc38 kV38 dc38 pm38 ct38 : Value} {cd38 : Value}
    {f39 : Addr} {od39 an39 : Option Addr} {sl39 : Array (Option Value)} {oc39 kV39 dc39 pm39 ct39 : Value} {cd39 : Value}
    {f40 : Addr} {od40 an40 : Option Addr} {sl40 : Array (Option Value)} {oc40 kV40 dc40 pm40 ct40 : Value} {cd40 : Value}
    {f41 : Addr} {od41 an41 : Option Addr} {sl41 : Array (Option Value)} {oc41 kV41 dc41 pm41 ct41 : Value} {cd41 : Value}
    {tT : Addr} {oT : Value} {dT : Option Addr} {uT : Tok} {nT : Nat} {sT : Array (Option Value)}
    {io_add : Option Value}
    {io_radd : Option Value}
    {io_mul : Option Value}
    {io_rmul : Option Value}
    {tLETTERS : Tok}
    {tMOST_LETTERS : Tok}
    (aC : PySem.W.nsIn K mainGlobals "Ratio" = some (some (.ref C)))
    (aC1 : PySem.W.nsIn K mainGlobals "Poly" = some (some (.ref C1)))
    (a0 : PySem.W.nsIn K mainGlobals "_law_cell" = some (some (.ref f0)))
    (l0 : K.lookup f0 = some ⟨oc0, od0, .func (PySem.W.fnOf "_law_cell" "_law_cell" (defArgs s__law_cell) (defBody s__law_cell) (defScope s__law_cell) .none kV0 dc0 pm0 an0 cd0 ct0), sl0⟩)
    (c0 : PySem.W.codeIn K cd0 "_law_cell" = true)
    (k0 : PySem.W.keepIn K (.ref f0) = true)
    (a1 : PySem.W.nsIn K mainGlobals "_law_row" = some (some (.ref f1)))
    (l1 : K.lookup f1 = some ⟨oc1, od1, .func (PySem.W.fnOf "_law_row" "_law_row" (defArgs s__law_row) (defBody s__law_row) (defScope s__law_row) .none kV1 dc1 pm1 an1 cd1 ct1), sl1⟩)
    (c1 : PySem.W.codeIn K cd1 "_law_row" = true)
    (k1 : PySem.W.keepIn K (.ref f1) = true)
    (a2 : PySem.W.nsIn K mainGlobals "_law_fields" = some (some (.ref f2)))
    (l2 : K.lookup f2 = some ⟨oc2, od2, .func (PySem.W.fnOf "_law_fields" "_law_fields" (defArgs s__law_fields) (defBody s__law_fields) (defScope s__law_fields) .none kV2 dc2 pm2 an2 cd2 ct2), sl2⟩)
    (c2 : PySem.W.codeIn K cd2 "_law_fields" = true)
    (k2 : PySem.W.keepIn K (.ref f2) = true)
    (a3 : PySem.W.nsIn K mainGlobals "_law_gcd" = some (some (.ref f3)))
    (l3 : K.lookup f3 = some ⟨oc3, od3, .func (PySem.W.fnOf "_law_gcd" "_law_gcd" (defArgs s__law_gcd) (defBody s__law_gcd) (defScope s__law_gcd) .none kV3 dc3 pm3 an3 cd3 ct3), sl3⟩)
    (c3 : PySem.W.codeIn K cd3 "_law_gcd" = true)
    (k3 : PySem.W.keepIn K (.ref f3) = true)
    (a4 : PySem.W.nsIn K mainGlobals "_law_low" = some (some (.ref f4)))
    (l4 : K.lookup f4 = some ⟨oc4, od4, .func (PySem.W.fnOf "_law_low" "_law_low" (defArgs s__law_low) (defBody s__law_low) (defScope s__law_low) .none kV4 dc4 pm4 an4 cd4 ct4), sl4⟩)
    (c4 : PySem.W.codeIn K cd4 "_law_low" = true)
    (k4 : PySem.W.keepIn K (.ref f4) = true)
    (a5 : PySem.W.nsIn K mainGlobals "_law_terms" = some (some (.ref f5)))
    (l5 : K.lookup f5 = some ⟨oc5, od5, .func (PySem.W.fnOf "_law_terms" "_law_terms" (defArgs s__law_terms) (defBody s__law_terms) (defScope s__law_terms) .none kV5 dc5 pm5 an5 cd5 ct5), sl5⟩)
    (c5 : PySem.W.codeIn K cd5 "_law_terms" = true)
    (k5 : PySem.W.keepIn K (.ref f5) = true)
    (a6 : PySem.W.nsIn K mainGlobals "common" = some (some (.ref f6)))
    (l6 : K.lookup f6 = some ⟨oc6, od6, .func (PySem.W.fnOf "common" "common" (defArgs s_common) (defBody s_common) (defScope s_common) .none kV6 dc6 pm6 an6 cd6 ct6), sl6⟩)
    (c6 : PySem.W.codeIn K cd6 "common" = true)
    (k6 : PySem.W.keepIn K (.ref f6) = true)
    (a7 : PySem.W.findIn K (.ref C) "__init__" = some (some (.ref f7)))
    (i7 : PySem.W.isFn K (.ref f7) = true)
    (l7 : K.lookup f7 = some ⟨oc7, od7, .func (PySem.W.fnOf "__init__" "Ratio.__init__" (defArgs s_Ratio___init__) (defBody s_Ratio___init__) (defScope s_Ratio___init__) (.ref tT) kV7 dc7 pm7 an7 cd7 ct7), sl7⟩)
    (c7 : PySem.W.codeIn K cd7 "Ratio.__init__" = true)
    (k7 : PySem.W.keepIn K (.ref f7) = true)
    (a8 : PySem.W.nsIn K mainGlobals "_law_made" = some (some (.ref f8)))
    (l8 : K.lookup f8 = some ⟨oc8, od8, .func (PySem.W.fnOf "_law_made" "_law_made" (defArgs s__law_made) (defBody s__law_made) (defScope s__law_made) .none kV8 dc8 pm8 an8 cd8 ct8), sl8⟩)
    (c8 : PySem.W.codeIn K cd8 "_law_made" = true)
    (k8 : PySem.W.keepIn K (.ref f8) = true)
    (a9 : PySem.W.nsIn K mainGlobals "_law_handed" = some (some (.ref f9)))
    (l9 : K.lookup f9 = some ⟨oc9, od9, .func (PySem.W.fnOf "_law_handed" "_law_handed" (defArgs s__law_handed) (defBody s__law_handed) (defScope s__law_handed) .none kV9 dc9 pm9 an9 cd9 ct9), sl9⟩)
    (c9 : PySem.W.codeIn K cd9 "_law_handed" = true)
    (k9 : PySem.W.keepIn K (.ref f9) = true)
    (a10 : PySem.W.nsIn K mainGlobals "is_name" = some (some (.ref f10)))
    (l10 : K.lookup f10 = some ⟨oc10, od10, .func (PySem.W.fnOf "is_name" "is_name" (defArgs s_is_name) (defBody s_is_name) (defScope s_is_name) .none kV10 dc10 pm10 an10 cd10 ct10), sl10⟩)
    (c10 : PySem.W.codeIn K cd10 "is_name" = true)
    (k10 : PySem.W.keepIn K (.ref f10) = true)
    (a11 : PySem.W.nsIn K mainGlobals "check_fields" = some (some (.ref f11)))
    (l11 : K.lookup f11 = some ⟨oc11, od11, .func (PySem.W.fnOf "check_fields" "check_fields" (defArgs s_check_fields) (defBody s_check_fields) (defScope s_check_fields) .none kV11 dc11 pm11 an11 cd11 ct11), sl11⟩)
    (c11 : PySem.W.codeIn K cd11 "check_fields" = true)
    (k11 : PySem.W.keepIn K (.ref f11) = true)
    (a12 : PySem.W.nsIn K mainGlobals "is_integer" = some (some (.ref f12)))
    (l12 : K.lookup f12 = some ⟨oc12, od12, .func (PySem.W.fnOf "is_integer" "is_integer" (defArgs s_is_integer) (defBody s_is_integer) (defScope s_is_integer) .none kV12 dc12 pm12 an12 cd12 ct12), sl12⟩)
    (c12 : PySem.W.codeIn K cd12 "is_integer" = true)
    (k12 : PySem.W.keepIn K (.ref f12) = true)
    (a13 : PySem.W.nsIn K mainGlobals "is_powers" = some (some (.ref f13)))
    (l13 : K.lookup f13 = some ⟨oc13, od13, .func (PySem.W.fnOf "is_powers" "is_powers" (defArgs s_is_powers) (defBody s_is_powers) (defScope s_is_powers) .none kV13 dc13 pm13 an13 cd13 ct13), sl13⟩)
    (c13 : PySem.W.codeIn K cd13 "is_powers" = true)
    (k13 : PySem.W.keepIn K (.ref f13) = true)
    (a14 : PySem.W.nsIn K mainGlobals "halves_of" = some (some (.ref f14)))
    (l14 : K.lookup f14 = some ⟨oc14, od14, .func (PySem.W.fnOf "halves_of" "halves_of" (defArgs s_halves_of) (defBody s_halves_of) (defScope s_halves_of) .none kV14 dc14 pm14 an14 cd14 ct14), sl14⟩)
    (c14 : PySem.W.codeIn K cd14 "halves_of" = true)
    (k14 : PySem.W.keepIn K (.ref f14) = true)
    (a15 : PySem.W.nsIn K mainGlobals "is_number" = some (some (.ref f15)))
    (l15 : K.lookup f15 = some ⟨oc15, od15, .func (PySem.W.fnOf "is_number" "is_number" (defArgs s_is_number) (defBody s_is_number) (defScope s_is_number) .none kV15 dc15 pm15 an15 cd15 ct15), sl15⟩)
    (c15 : PySem.W.codeIn K cd15 "is_number" = true)
    (k15 : PySem.W.keepIn K (.ref f15) = true)
    (a16 : PySem.W.findIn K (.ref C) "__eq__" = some (some (.ref f16)))
    (i16 : PySem.W.isFn K (.ref f16) = true)
    (l16 : K.lookup f16 = some ⟨oc16, od16, .func (PySem.W.fnOf "__eq__" "Ratio.__eq__" (defArgs s_Ratio___eq__) (defBody s_Ratio___eq__) (defScope s_Ratio___eq__) .none kV16 dc16 pm16 an16 cd16 ct16), sl16⟩)
    (c16 : PySem.W.codeIn K cd16 "Ratio.__eq__" = true)
    (k16 : PySem.W.keepIn K (.ref f16) = true)
    (a17 : PySem.W.nsIn K mainGlobals "plain" = some (some (.ref f17)))
    (l17 : K.lookup f17 = some ⟨oc17, od17, .func (PySem.W.fnOf "plain" "plain" (defArgs s_plain) (defBody s_plain) (defScope s_plain) .none kV17 dc17 pm17 an17 cd17 ct17), sl17⟩)
    (c17 : PySem.W.codeIn K cd17 "plain" = true)
    (k17 : PySem.W.keepIn K (.ref f17) = true)
    (a18 : PySem.W.nsIn K mainGlobals "one_form" = some (some (.ref f18)))
    (l18 : K.lookup f18 = some ⟨oc18, od18, .func (PySem.W.fnOf "one_form" "one_form" (defArgs s_one_form) (defBody s_one_form) (defScope s_one_form) .none kV18 dc18 pm18 an18 cd18 ct18), sl18⟩)
    (c18 : PySem.W.codeIn K cd18 "one_form" = true)
    (k18 : PySem.W.keepIn K (.ref f18) = true)
    (a19 : PySem.W.findIn K (.ref C1) "__init__" = some (some (.ref f19)))
    (i19 : PySem.W.isFn K (.ref f19) = true)
    (l19 : K.lookup f19 = some ⟨oc19, od19, .func (PySem.W.fnOf "__init__" "Poly.__init__" (defArgs s_Poly___init__) (defBody s_Poly___init__) (defScope s_Poly___init__) .none kV19 dc19 pm19 an19 cd19 ct19), sl19⟩)
    (c19 : PySem.W.codeIn K cd19 "Poly.__init__" = true)
    (k19 : PySem.W.keepIn K (.ref f19) = true)
    (a20 : PySem.W.nsIn K mainGlobals "_law_kept" = some (some (.ref f20)))
    (l20 : K.lookup f20 = some ⟨oc20, od20, .func (PySem.W.fnOf "_law_kept" "_law_kept" (defArgs s__law_kept) (defBody s__law_kept) (defScope s__law_kept) .none kV20 dc20 pm20 an20 cd20 ct20), sl20⟩)
    (c20 : PySem.W.codeIn K cd20 "_law_kept" = true)
    (k20 : PySem.W.keepIn K (.ref f20) = true)
    (a21 : PySem.W.findIn K (.ref C) "__str__" = some (some (.ref f21)))
    (i21 : PySem.W.isFn K (.ref f21) = true)
    (l21 : K.lookup f21 = some ⟨oc21, od21, .func (PySem.W.fnOf "__str__" "Ratio.__str__" (defArgs s_Ratio___str__) (defBody s_Ratio___str__) (defScope s_Ratio___str__) .none kV21 dc21 pm21 an21 cd21 ct21), sl21⟩)
    (c21 : PySem.W.codeIn K cd21 "Ratio.__str__" = true)
    (k21 : PySem.W.keepIn K (.ref f21) = true)
    (a22 : PySem.W.nsIn K mainGlobals "_law_text_of" = some (some (.ref f22)))
    (l22 : K.lookup f22 = some ⟨oc22, od22, .func (PySem.W.fnOf "_law_text_of" "_law_text_of" (defArgs s__law_text_of) (defBody s__law_text_of) (defScope s__law_text_of) .none kV22 dc22 pm22 an22 cd22 ct22), sl22⟩)
    (c22 : PySem.W.codeIn K cd22 "_law_text_of" = true)
    (k22 : PySem.W.keepIn K (.ref f22) = true)
    (a23 : PySem.W.nsIn K mainGlobals "_law_due" = some (some (.ref f23)))
    (l23 : K.lookup f23 = some ⟨oc23, od23, .func (PySem.W.fnOf "_law_due" "_law_due" (defArgs s__law_due) (defBody s__law_due) (defScope s__law_due) .none kV23 dc23 pm23 an23 cd23 ct23), sl23⟩)
    (c23 : PySem.W.codeIn K cd23 "_law_due" = true)
    (k23 : PySem.W.keepIn K (.ref f23) = true)
    (a24 : PySem.W.findIn K (.ref C1) "__eq__" = some (some (.ref f24)))
    (i24 : PySem.W.isFn K (.ref f24) = true)
    (l24 : K.lookup f24 = some ⟨oc24, od24, .func (PySem.W.fnOf "__eq__" "Poly.__eq__" (defArgs s_Poly___eq__) (defBody s_Poly___eq__) (defScope s_Poly___eq__) .none kV24 dc24 pm24 an24 cd24 ct24), sl24⟩)
    (c24 : PySem.W.codeIn K cd24 "Poly.__eq__" = true)
    (k24 : PySem.W.keepIn K (.ref f24) = true)
    (a25 : PySem.W.nsIn K mainGlobals "factors_text" = some (some (.ref f25)))
    (l25 : K.lookup f25 = some ⟨oc25, od25, .func (PySem.W.fnOf "factors_text" "factors_text" (defArgs s_factors_text) (defBody s_factors_text) (defScope s_factors_text) .none kV25 dc25 pm25 an25 cd25 ct25), sl25⟩)
    (c25 : PySem.W.codeIn K cd25 "factors_text" = true)
    (k25 : PySem.W.keepIn K (.ref f25) = true)
    (a26 : PySem.W.nsIn K mainGlobals "top_of" = some (some (.ref f26)))
    (l26 : K.lookup f26 = some ⟨oc26, od26, .func (PySem.W.fnOf "top_of" "top_of" (defArgs s_top_of) (defBody s_top_of) (defScope s_top_of) .none kV26 dc26 pm26 an26 cd26 ct26), sl26⟩)
    (c26 : PySem.W.codeIn K cd26 "top_of" = true)
    (k26 : PySem.W.keepIn K (.ref f26) = true)
    (a27 : PySem.W.findIn K (.ref C) "__neg__" = some (some (.ref f27)))
    (i27 : PySem.W.isFn K (.ref f27) = true)
    (l27 : K.lookup f27 = some ⟨oc27, od27, .func (PySem.W.fnOf "__neg__" "Ratio.__neg__" (defArgs s_Ratio___neg__) (defBody s_Ratio___neg__) (defScope s_Ratio___neg__) .none kV27 dc27 pm27 an27 cd27 ct27), sl27⟩)
    (c27 : PySem.W.codeIn K cd27 "Ratio.__neg__" = true)
    (k27 : PySem.W.keepIn K (.ref f27) = true)
    (a28 : PySem.W.nsIn K mainGlobals "term_text" = some (some (.ref f28)))
    (l28 : K.lookup f28 = some ⟨oc28, od28, .func (PySem.W.fnOf "term_text" "term_text" (defArgs s_term_text) (defBody s_term_text) (defScope s_term_text) .none kV28 dc28 pm28 an28 cd28 ct28), sl28⟩)
    (c28 : PySem.W.codeIn K cd28 "term_text" = true)
    (k28 : PySem.W.keepIn K (.ref f28) = true)
    (a29 : PySem.W.nsIn K mainGlobals "joined_terms" = some (some (.ref f29)))
    (l29 : K.lookup f29 = some ⟨oc29, od29, .func (PySem.W.fnOf "joined_terms" "joined_terms" (defArgs s_joined_terms) (defBody s_joined_terms) (defScope s_joined_terms) .none kV29 dc29 pm29 an29 cd29 ct29), sl29⟩)
    (c29 : PySem.W.codeIn K cd29 "joined_terms" = true)
    (k29 : PySem.W.keepIn K (.ref f29) = true)
    (a30 : PySem.W.findIn K (.ref C1) "__str__" = some (some (.ref f30)))
    (i30 : PySem.W.isFn K (.ref f30) = true)
    (l30 : K.lookup f30 = some ⟨oc30, od30, .func (PySem.W.fnOf "__str__" "Poly.__str__" (defArgs s_Poly___str__) (defBody s_Poly___str__) (defScope s_Poly___str__) .none kV30 dc30 pm30 an30 cd30 ct30), sl30⟩)
    (c30 : PySem.W.codeIn K cd30 "Poly.__str__" = true)
    (k30 : PySem.W.keepIn K (.ref f30) = true)
    (a31 : PySem.W.nsIn K mainGlobals "parts_beside" = some (some (.ref f31)))
    (l31 : K.lookup f31 = some ⟨oc31, od31, .func (PySem.W.fnOf "parts_beside" "parts_beside" (defArgs s_parts_beside) (defBody s_parts_beside) (defScope s_parts_beside) .none kV31 dc31 pm31 an31 cd31 ct31), sl31⟩)
    (c31 : PySem.W.codeIn K cd31 "parts_beside" = true)
    (k31 : PySem.W.keepIn K (.ref f31) = true)
    (a32 : PySem.W.findIn K (.ref C) "__mul__" = some (some (.ref f32)))
    (i32 : PySem.W.isFn K (.ref f32) = true)
    (l32 : K.lookup f32 = some ⟨oc32, od32, .func (PySem.W.fnOf "__mul__" "Ratio.__mul__" (defArgs s_Ratio___mul__) (defBody s_Ratio___mul__) (defScope s_Ratio___mul__) .none kV32 dc32 pm32 an32 cd32 ct32), sl32⟩)
    (c32 : PySem.W.codeIn K cd32 "Ratio.__mul__" = true)
    (k32 : PySem.W.keepIn K (.ref f32) = true)
    (a33 : PySem.W.findIn K (.ref C) "__rmul__" = some (some (.ref f33)))
    (i33 : PySem.W.isFn K (.ref f33) = true)
    (l33 : K.lookup f33 = some ⟨oc33, od33, .func (PySem.W.fnOf "__rmul__" "Ratio.__rmul__" (defArgs s_Ratio___rmul__) (defBody s_Ratio___rmul__) (defScope s_Ratio___rmul__) .none kV33 dc33 pm33 an33 cd33 ct33), sl33⟩)
    (c33 : PySem.W.codeIn K cd33 "Ratio.__rmul__" = true)
    (k33 : PySem.W.keepIn K (.ref f33) = true)
    (a34 : PySem.W.findIn K (.ref C) "__add__" = some (some (.ref f34)))
    (i34 : PySem.W.isFn K (.ref f34) = true)
    (l34 : K.lookup f34 = some ⟨oc34, od34, .func (PySem.W.fnOf "__add__" "Ratio.__add__" (defArgs s_Ratio___add__) (defBody s_Ratio___add__) (defScope s_Ratio___add__) .none kV34 dc34 pm34 an34 cd34 ct34), sl34⟩)
    (c34 : PySem.W.codeIn K cd34 "Ratio.__add__" = true)
    (k34 : PySem.W.keepIn K (.ref f34) = true)
    (a35 : PySem.W.findIn K (.ref C) "__radd__" = some (some (.ref f35)))
    (i35 : PySem.W.isFn K (.ref f35) = true)
    (l35 : K.lookup f35 = some ⟨oc35, od35, .func (PySem.W.fnOf "__radd__" "Ratio.__radd__" (defArgs s_Ratio___radd__) (defBody s_Ratio___radd__) (defScope s_Ratio___radd__) .none kV35 dc35 pm35 an35 cd35 ct35), sl35⟩)
    (c35 : PySem.W.codeIn K cd35 "Ratio.__radd__" = true)
    (k35 : PySem.W.keepIn K (.ref f35) = true)
    (a36 : PySem.W.nsIn K mainGlobals "added" = some (some (.ref f36)))
    (l36 : K.lookup f36 = some ⟨oc36, od36, .func (PySem.W.fnOf "added" "added" (defArgs s_added) (defBody s_added) (defScope s_added) .none kV36 dc36 pm36 an36 cd36 ct36), sl36⟩)
    (c36 : PySem.W.codeIn K cd36 "added" = true)
    (k36 : PySem.W.keepIn K (.ref f36) = true)
    (a37 : PySem.W.findIn K (.ref C1) "__add__" = some (some (.ref f37)))
    (i37 : PySem.W.isFn K (.ref f37) = true)
    (l37 : K.lookup f37 = some ⟨oc37, od37, .func (PySem.W.fnOf "__add__" "Poly.__add__" (defArgs s_Poly___add__) (defBody s_Poly___add__) (defScope s_Poly___add__) .none kV37 dc37 pm37 an37 cd37 ct37), sl37⟩)
    (c37 : PySem.W.codeIn K cd37 "Poly.__add__" = true)
    (k37 : PySem.W.keepIn K (.ref f37) = true)
    (a38 : PySem.W.nsIn K mainGlobals "_law_times" = some (some (.ref f38)))
    (l38 : K.lookup f38 = some ⟨oc38, od38, .func (PySem.W.fnOf "_law_times" "_law_times" (defArgs s__law_times) (defBody s__law_times) (defScope s__law_times) .none kV38 dc38 pm38 an38 cd38 ct38), sl38⟩)
    (c38 : PySem.W.codeIn K cd38 "_law_times" = true)
    (k38 : PySem.W.keepIn K (.ref f38) = true)
    (a39 : PySem.W.nsIn K mainGlobals "_law_add" = some (some (.ref f39)))
    (l39 : K.lookup f39 = some ⟨oc39, od39, .func (PySem.W.fnOf "_law_add" "_law_add" (defArgs s__law_add) (defBody s__law_add) (defScope s__law_add) .none kV39 dc39 pm39 an39 cd39 ct39), sl39⟩)
    (c39 : PySem.W.codeIn K cd39 "_law_add" = true)
    (k39 : PySem.W.keepIn K (.ref f39) = true)
    (a40 : PySem.W.nsIn K mainGlobals "_law_sum_of" = some (some (.ref f40)))
    (l40 : K.lookup f40 = some ⟨oc40, od40, .func (PySem.W.fnOf "_law_sum_of" "_law_sum_of" (defArgs s__law_sum_of) (defBody s__law_sum_of) (defScope s__law_sum_of) .none kV40 dc40 pm40 an40 cd40 ct40), sl40⟩)
    (c40 : PySem.W.codeIn K cd40 "_law_sum_of" = true)
    (k40 : PySem.W.keepIn K (.ref f40) = true)
    (a41 : PySem.W.nsIn K mainGlobals "law" = some (some (.ref f41)))
    (l41 : K.lookup f41 = some ⟨oc41, od41, .func (PySem.W.fnOf "law" "law" (defArgs s_law) (defBody s_law) (defScope s_law) .none kV41 dc41 pm41 an41 cd41 ct41), sl41⟩)
    (c41 : PySem.W.codeIn K cd41 "law" = true)
    (k41 : PySem.W.keepIn K (.ref f41) = true)
    (lT : K.lookup tT = some ⟨oT, dT, .seq #[.int 1 uT] nT, sT⟩)
    (pgC : PySem.W.plainGet K C Str.empty = true)
    (hdC : PySem.W.hasDictIn K C = true)
    (poC : PySem.W.plainOver K C = true)
    (saC : PySem.W.findIn K (.ref C) "__setattr__" = some (some (.builtin "object.__setattr__")))
    (mkC : PySem.W.makesIn K C = true)
    (kcC : PySem.W.keepIn K (.ref C) = true)
    (ntop_C : PySem.W.findIn K (.ref C) "top" = some none)
    (nbottom_C : PySem.W.findIn K (.ref C) "bottom" = some none)
    (haC : PySem.W.findIn K (.ref C) "__class__" = some (some (.builtin "object.__class__")))
    (hmC : PySem.W.mroIn K C (.type "object") = some true)
    (nb0_C : PySem.W.kitOne K (.type "NoneType") (.ref C) = some false)
    (nb1_C : PySem.W.kitOne K (.type "bool") (.ref C) = some false)
    (nb2_C : PySem.W.kitOne K (.type "int") (.ref C) = some false)
    (nb3_C : PySem.W.kitOne K (.type "str") (.ref C) = some false)
    (nb4_C : PySem.W.kitOne K (.type "list") (.ref C) = some false)
    (nb5_C : PySem.W.kitOne K (.type "tuple") (.ref C) = some false)
    (nb6_C : PySem.W.kitOne K (.type "dict") (.ref C) = some false)
    (kint_C : PySem.W.kitOne K (.ref C) (.type "int") = some false)
    (kbool_C : PySem.W.kitOne K (.ref C) (.type "bool") = some false)
    (ktuple_C : PySem.W.kitOne K (.ref C) (.type "tuple") = some false)
    (kstr_C : PySem.W.kitOne K (.ref C) (.type "str") = some false)
    (sfC : PySem.W.selfFirst K C = true)
    (pgC1 : PySem.W.plainGet K C1 Str.empty = true)
    (hdC1 : PySem.W.hasDictIn K C1 = true)
    (poC1 : PySem.W.plainOver K C1 = true)
    (saC1 : PySem.W.findIn K (.ref C1) "__setattr__" = some (some (.builtin "object.__setattr__")))
    (mkC1 : PySem.W.makesIn K C1 = true)
    (kcC1 : PySem.W.keepIn K (.ref C1) = true)
    (nfields_C1 : PySem.W.findIn K (.ref C1) "fields" = some none)
    (nparts_C1 : PySem.W.findIn K (.ref C1) "parts" = some none)
    (haC1 : PySem.W.findIn K (.ref C1) "__class__" = some (some (.builtin "object.__class__")))
    (hmC1 : PySem.W.mroIn K C1 (.type "object") = some true)
    (nb0_C1 : PySem.W.kitOne K (.type "NoneType") (.ref C1) = some false)
    (nb1_C1 : PySem.W.kitOne K (.type "bool") (.ref C1) = some false)
    (nb2_C1 : PySem.W.kitOne K (.type "int") (.ref C1) = some false)
    (nb3_C1 : PySem.W.kitOne K (.type "str") (.ref C1) = some false)
    (nb4_C1 : PySem.W.kitOne K (.type "list") (.ref C1) = some false)
    (nb5_C1 : PySem.W.kitOne K (.type "tuple") (.ref C1) = some false)
    (nb6_C1 : PySem.W.kitOne K (.type "dict") (.ref C1) = some false)
    (kint_C1 : PySem.W.kitOne K (.ref C1) (.type "int") = some false)
    (kbool_C1 : PySem.W.kitOne K (.ref C1) (.type "bool") = some false)
    (ktuple_C1 : PySem.W.kitOne K (.ref C1) (.type "tuple") = some false)
    (kstr_C1 : PySem.W.kitOne K (.ref C1) (.type "str") = some false)
    (sfC1 : PySem.W.selfFirst K C1 = true)
    (hnC : PySem.W.specialIn K (.builtin "object.__class__") "__get__" = some (some (.builtin "getset_descriptor.__get__")))
    (htC : PySem.W.takesIn K (.builtin "object.__class__") = some true)
    (kCx : PySem.W.kitOne K (.ref C) (.ref C1) = some false)
    (kCy : PySem.W.kitOne K (.ref C1) (.ref C) = some false)
    (s1C : PySem.W.subIn K (.type "int") (.ref C) = some false)
    (s2C : PySem.W.subIn K (.ref C) (.type "int") = some false)
    (neC : PySem.W.findIn K (.ref C) "__ne__" = some (some (.builtin "object.__ne__")))
    (in_add : PySem.W.findIn K (.type "int") "__add__" = some io_add)
    (in_radd : PySem.W.findIn K (.type "int") "__radd__" = some io_radd)
    (in_mul : PySem.W.findIn K (.type "int") "__mul__" = some io_mul)
    (in_rmul : PySem.W.findIn K (.type "int") "__rmul__" = some io_rmul)
    (nf_NoneType : PySem.W.notFirst K C (.type "NoneType") = true)
    (nf_bool : PySem.W.notFirst K C (.type "bool") = true)
    (nf_int : PySem.W.notFirst K C (.type "int") = true)
    (nf_str : PySem.W.notFirst K C (.type "str") = true)
    (nf_list : PySem.W.notFirst K C (.type "list") = true)
    (nf_tuple : PySem.W.notFirst K C (.type "tuple") = true)
    (nf_dict : PySem.W.notFirst K C (.type "dict") = true)
    (nf_C : PySem.W.notFirst K C (.ref C) = true)
    (nf_C1 : PySem.W.notFirst K C (.ref C1) = true)
    (nf1_NoneType : PySem.W.notFirst K C1 (.type "NoneType") = true)
    (nf1_bool : PySem.W.notFirst K C1 (.type "bool") = true)
    (nf1_int : PySem.W.notFirst K C1 (.type "int") = true)
    (nf1_str : PySem.W.notFirst K C1 (.type "str") = true)
    (nf1_list : PySem.W.notFirst K C1 (.type "list") = true)
    (nf1_tuple : PySem.W.notFirst K C1 (.type "tuple") = true)
    (nf1_dict : PySem.W.notFirst K C1 (.type "dict") = true)
    (nf1_C : PySem.W.notFirst K C1 (.ref C) = true)
    (nf1_C1 : PySem.W.notFirst K C1 (.ref C1) = true)
    (s2C1 : PySem.W.subIn K (.ref C1) (.type "int") = some false)
    (neC1 : PySem.W.findIn K (.ref C1) "__ne__" = some (some (.builtin "object.__ne__")))
    (b_abs : PySem.W.nsIn K mainGlobals "abs" = some none)
    (b_all : PySem.W.nsIn K mainGlobals "all" = some none)
    (b_bool : PySem.W.nsIn K mainGlobals "bool" = some none)
    (b_dict : PySem.W.nsIn K mainGlobals "dict" = some none)
    (b_enumerate : PySem.W.nsIn K mainGlobals "enumerate" = some none)
    (b_int : PySem.W.nsIn K mainGlobals "int" = some none)
    (b_isinstance : PySem.W.nsIn K mainGlobals "isinstance" = some none)
    (b_len : PySem.W.nsIn K mainGlobals "len" = some none)
    (b_list : PySem.W.nsIn K mainGlobals "list" = some none)
    (b_max : PySem.W.nsIn K mainGlobals "max" = some none)
    (b_range : PySem.W.nsIn K mainGlobals "range" = some none)
    (b_sorted : PySem.W.nsIn K mainGlobals "sorted" = some none)
    (b_str : PySem.W.nsIn K mainGlobals "str" = some none)
    (b_tuple : PySem.W.nsIn K mainGlobals "tuple" = some none)
    (b_zip : PySem.W.nsIn K mainGlobals "zip" = some none)
    (gLETTERS : PySem.W.nsIn K mainGlobals "LETTERS" = some (some (.str "abcdefghijklmnopqrstuvwxyz" tLETTERS)))
    (gMOST_LETTERS : PySem.W.nsIn K mainGlobals "MOST_LETTERS" = some (some (.int 8 tMOST_LETTERS)))
    : LamX.LawAtS lw w K (L2.CX lw.prog w) 10 63 "_law_script" mg fa h := by
  have e0 := hfa.symm.trans (PySem.W.mg_of X G a41)
  cases e0
  obtain ⟨TT, hTT⟩ : ∃ TT : List (Addr × Str), TT = [] := ⟨_, rfl⟩
  have F0 := fun_mk (st := s__law_cell) l0 c0 k0
  have B0 := F0.binds (ps := ["_law_script", "_law_k"]) fun _ _ _ _ _ _ us hl => match us, hl with | [_, _], _ => rfl
  have F1 := fun_mk (st := s__law_row) l1 c1 k1
  have B1 := F1.binds (ps := ["_law_cell_here", "_law_sizes"]) fun _ _ _ _ _ _ us hl => match us, hl with | [_, _], _ => rfl
  have F2 := fun_mk (st := s__law_fields) l2 c2 k2
  have B2 := F2.binds (ps := ["_law_draw"]) fun _ _ _ _ _ _ us hl => match us, hl with | [_], _ => rfl
  have F3 := fun_mk (st := s__law_gcd) l3 c3 k3
  have B3 := F3.binds (ps := ["_law_a", "_law_b"]) fun _ _ _ _ _ _ us hl => match us, hl with | [_, _], _ => rfl
  have F4 := fun_mk (st := s__law_low) l4 c4 k4
  have B4 := F4.binds (ps := ["_law_pair"]) fun _ _ _ _ _ _ us hl => match us, hl with | [_], _ => rfl
  have F5 := fun_mk (st := s__law_terms) l5 c5 k5
  have B5 := F5.binds (ps := ["_law_draws", "_law_fields_here"]) fun _ _ _ _ _ _ us hl => match us, hl with | [_, _], _ => rfl
  have F6 := fun_mk (st := s_common) l6 c6 k6
  have B6 := F6.binds (ps := ["one", "two"]) fun _ _ _ _ _ _ us hl => match us, hl with | [_, _], _ => rfl
  have F7 : FunD K "__init__" "Ratio.__init__" (defArgs s_Ratio___init__) (defBody s_Ratio___init__) (defScope s_Ratio___init__) [.int 1] [] f7 (PySem.W.fnOf "__init__" "Ratio.__init__" (defArgs s_Ratio___init__) (defBody s_Ratio___init__) (defScope s_Ratio___init__) (.ref tT) kV7 dc7 pm7 an7 cd7 ct7) := ⟨⟨_, _, _, _, _, _, _, _, _, _, rfl, l7, c7, .inr ⟨by simp, tT, _, [.int 1 uT], nT, rfl, lT, rfl, .cons ⟨uT, rfl⟩ .nil⟩, .inl rfl⟩, k7⟩
  have B7 : Binds K (PySem.W.fnOf "__init__" "Ratio.__init__" (defArgs s_Ratio___init__) (defBody s_Ratio___init__) (defScope s_Ratio___init__) (.ref tT) kV7 dc7 pm7 an7 cd7 ct7) ["self", "top", "bottom"] [] := by
    obtain ⟨ds, h1, h2⟩ := F7.binds1 (ps := ["self", "top", "bottom"]) 3 1 (by simp) rfl fun _ _ _ _ _ _ _ us its hl hi => match us, its, hl, hi with | [_, _, _], [_], _, _ => ⟨_, rfl, rfl⟩
    cases h1
    exact h2
  have F8 := fun_mk (st := s__law_made) l8 c8 k8
  have B8 := F8.binds (ps := ["_law_pair", "_law_is_bare"]) fun _ _ _ _ _ _ us hl => match us, hl with | [_, _], _ => rfl
  have F9 := fun_mk (st := s__law_handed) l9 c9 k9
  have B9 := F9.binds (ps := ["_law_terms_here", "_law_is_bare"]) fun _ _ _ _ _ _ us hl => match us, hl with | [_, _], _ => rfl
  have F10 := fun_mk (st := s_is_name) l10 c10 k10
  have B10 := F10.binds (ps := ["thing"]) fun _ _ _ _ _ _ us hl => match us, hl with | [_], _ => rfl
  have F11 := fun_mk (st := s_check_fields) l11 c11 k11
  have B11 := F11.binds (ps := ["fields"]) fun _ _ _ _ _ _ us hl => match us, hl with | [_], _ => rfl
  have F12 := fun_mk (st := s_is_integer) l12 c12 k12
  have B12 := F12.binds (ps := ["thing"]) fun _ _ _ _ _ _ us hl => match us, hl with | [_], _ => rfl
  have F13 := fun_mk (st := s_is_powers) l13 c13 k13
  have B13 := F13.binds (ps := ["thing", "many"]) fun _ _ _ _ _ _ us hl => match us, hl with | [_, _], _ => rfl
  have F14 := fun_mk (st := s_halves_of) l14 c14 k14
  have B14 := F14.binds (ps := ["number"]) fun _ _ _ _ _ _ us hl => match us, hl with | [_], _ => rfl
  have F15 := fun_mk (st := s_is_number) l15 c15 k15
  have B15 := F15.binds (ps := ["thing"]) fun _ _ _ _ _ _ us hl => match us, hl with | [_], _ => rfl
  have F16 := fun_mk (st := s_Ratio___eq__) l16 c16 k16
  have B16 := F16.binds (ps := ["self", "other"]) fun _ _ _ _ _ _ us hl => match us, hl with | [_, _], _ => rfl
  have F17 := fun_mk (st := s_plain) l17 c17 k17
  have B17 := F17.binds (ps := ["number"]) fun _ _ _ _ _ _ us hl => match us, hl with | [_], _ => rfl
  have F18 := fun_mk (st := s_one_form) l18 c18 k18
  have B18 := F18.binds (ps := ["terms"]) fun _ _ _ _ _ _ us hl => match us, hl with | [_], _ => rfl
  have F19 := fun_mk (st := s_Poly___init__) l19 c19 k19
  have B19 := F19.binds (ps := ["self", "fields", "terms"]) fun _ _ _ _ _ _ us hl => match us, hl with | [_, _, _], _ => rfl
  have FD19 : FunD K "__init__" "Poly.__init__" (defArgs s_Poly___init__) (defBody s_Poly___init__) (defScope s_Poly___init__) [] [] f19 _ := ⟨⟨_, _, _, _, _, _, _, _, _, _, rfl, l19, c19, .inl ⟨rfl, rfl⟩, .inl rfl⟩, k19⟩
  have F20 := fun_mk (st := s__law_kept) l20 c20 k20
  have B20 := F20.binds (ps := ["_law_terms_here"]) fun _ _ _ _ _ _ us hl => match us, hl with | [_], _ => rfl
  have F21 := fun_mk (st := s_Ratio___str__) l21 c21 k21
  have B21 := F21.binds (ps := ["self"]) fun _ _ _ _ _ _ us hl => match us, hl with | [_], _ => rfl
  have F22 := fun_mk (st := s__law_text_of) l22 c22 k22
  have B22 := F22.binds (ps := ["_law_pair", "_law_fields_here", "_law_powers"]) fun _ _ _ _ _ _ us hl => match us, hl with | [_, _, _], _ => rfl
  have F23 := fun_mk (st := s__law_due) l23 c23 k23
  have B23 := F23.binds (ps := ["_law_terms_here", "_law_fields_here"]) fun _ _ _ _ _ _ us hl => match us, hl with | [_, _], _ => rfl
  have F24 := fun_mk (st := s_Poly___eq__) l24 c24 k24
  have B24 := F24.binds (ps := ["self", "other"]) fun _ _ _ _ _ _ us hl => match us, hl with | [_, _], _ => rfl
  have F25 := fun_mk (st := s_factors_text) l25 c25 k25
  have B25 := F25.binds (ps := ["fields", "powers"]) fun _ _ _ _ _ _ us hl => match us, hl with | [_, _], _ => rfl
  have F26 := fun_mk (st := s_top_of) l26 c26 k26
  have B26 := F26.binds (ps := ["number"]) fun _ _ _ _ _ _ us hl => match us, hl with | [_], _ => rfl
  have F27 := fun_mk (st := s_Ratio___neg__) l27 c27 k27
  have B27 := F27.binds (ps := ["self"]) fun _ _ _ _ _ _ us hl => match us, hl with | [_], _ => rfl
  have F28 := fun_mk (st := s_term_text) l28 c28 k28
  have B28 := F28.binds (ps := ["number", "factors"]) fun _ _ _ _ _ _ us hl => match us, hl with | [_, _], _ => rfl
  have F29 := fun_mk (st := s_joined_terms) l29 c29 k29
  have B29 := F29.binds (ps := ["pairs"]) fun _ _ _ _ _ _ us hl => match us, hl with | [_], _ => rfl
  have F30 := fun_mk (st := s_Poly___str__) l30 c30 k30
  have B30 := F30.binds (ps := ["self"]) fun _ _ _ _ _ _ us hl => match us, hl with | [_], _ => rfl
  have F31 := fun_mk (st := s_parts_beside) l31 c31 k31
  have B31 := F31.binds (ps := ["poly", "thing"]) fun _ _ _ _ _ _ us hl => match us, hl with | [_, _], _ => rfl
  have F32 := fun_mk (st := s_Ratio___mul__) l32 c32 k32
  have B32 := F32.binds (ps := ["self", "other"]) fun _ _ _ _ _ _ us hl => match us, hl with | [_, _], _ => rfl
  have F33 := fun_mk (st := s_Ratio___rmul__) l33 c33 k33
  have B33 := F33.binds (ps := ["self", "other"]) fun _ _ _ _ _ _ us hl => match us, hl with | [_, _], _ => rfl
  have F34 := fun_mk (st := s_Ratio___add__) l34 c34 k34
  have B34 := F34.binds (ps := ["self", "other"]) fun _ _ _ _ _ _ us hl => match us, hl with | [_, _], _ => rfl
  have F35 := fun_mk (st := s_Ratio___radd__) l35 c35 k35
  have B35 := F35.binds (ps := ["self", "other"]) fun _ _ _ _ _ _ us hl => match us, hl with | [_, _], _ => rfl
  have F36 := fun_mk (st := s_added) l36 c36 k36
  have B36 := F36.binds (ps := ["one", "other", "times"]) fun _ _ _ _ _ _ us hl => match us, hl with | [_, _, _], _ => rfl
  have F37 := fun_mk (st := s_Poly___add__) l37 c37 k37
  have B37 := F37.binds (ps := ["self", "other"]) fun _ _ _ _ _ _ us hl => match us, hl with | [_, _], _ => rfl
  have F38 := fun_mk (st := s__law_times) l38 c38 k38
  have B38 := F38.binds (ps := ["_law_one", "_law_two"]) fun _ _ _ _ _ _ us hl => match us, hl with | [_, _], _ => rfl
  have F39 := fun_mk (st := s__law_add) l39 c39 k39
  have B39 := F39.binds (ps := ["_law_one", "_law_two"]) fun _ _ _ _ _ _ us hl => match us, hl with | [_, _], _ => rfl
  have F40 := fun_mk (st := s__law_sum_of) l40 c40 k40
  have B40 := F40.binds (ps := ["_law_one", "_law_two", "_law_sign"]) fun _ _ _ _ _ _ us hl => match us, hl with | [_, _, _], _ => rfl
  have F41 := fun_mk (st := s_law) l41 c41 k41
  have B41 := F41.binds (ps := ["_law_script"]) fun _ _ _ _ _ _ us hl => match us, hl with | [_], _ => rfl
  have CLC : Cls K C := ⟨pgC, hdC, poC, saC⟩
  have ICC : IsiC K C := ⟨CLC, haC, hnC, htC, hmC⟩
  have CLC1 : Cls K C1 := ⟨pgC1, hdC1, poC1, saC1⟩
  have ICC1 : IsiC K C1 := ⟨CLC1, haC1, hnC, htC, hmC1⟩
  have NF : ∀ d, isScr d = false → PySem.W.notFirst K ((pm K C C1 TT).C 0) (tyD (pm K C C1 TT) d) = true := fun d hd => by
    cases d with
    | non => exact nf_NoneType
    | bl b => exact nf_bool
    | int b => exact nf_int
    | str b => exact nf_str
    | lst b => exact nf_list
    | tup b => exact nf_tuple
    | dK b b2 => exact nf_dict
    | dT b b2 => exact nf_dict
    | obj b b2 => exact clv_of (p := fun a => PySem.W.notFirst K C (.ref a) = true) nf_C nf_C1 b
    | scr b => cases hd
  have NG : ∀ d, isScr d = false → PySem.W.notFirst K ((pm K C C1 TT).C 1) (tyD (pm K C C1 TT) d) = true := fun d hd => by
    cases d with
    | non => exact nf1_NoneType
    | bl b => exact nf1_bool
    | int b => exact nf1_int
    | str b => exact nf1_str
    | lst b => exact nf1_list
    | tup b => exact nf1_tuple
    | dK b b2 => exact nf1_dict
    | dT b b2 => exact nf1_dict
    | obj b b2 => exact clv_of (p := fun a => PySem.W.notFirst K C1 (.ref a) = true) nf1_C nf1_C1 b
    | scr b => cases hd
  have II : ∀ c, IsiC K ((pm K C C1 TT).C c) := clv_of (p := fun a => IsiC K a) ICC ICC1
  have EC : EqC K (pm K C C1 TT) := ⟨fun d h => NF d (by cases d <;> first | rfl | cases h), II, neC, s2C⟩
  have E0 : ∀ g, EqCs K (pm K C C1 TT) (geOf 0 g) := eqCs_of NF II s2C neC
  have E1 : ∀ g, EqCs K (pm K C C1 TT) (geOf 1 g) := eqCs_of NG II s2C1 neC1
  have T : ∀ base : Heap, Txt lw.prog K mg base C C1 TT := fun base => ⟨CLC, ntop_C, nbottom_C, CLC1, nfields_C1, nparts_C1, PySem.W.mg_of X G aC, PySem.W.mg_of X G aC1, ICC, ICC1, ⟨nb0_C, nb1_C, nb2_C, nb3_C, nb4_C, nb5_C, nb6_C⟩, ⟨nb0_C1, nb1_C1, nb2_C1, nb3_C1, nb4_C1, nb5_C1, nb6_C1⟩, kint_C, kbool_C, ktuple_C, kstr_C, kint_C1, kbool_C1, ktuple_C1, kstr_C1, kCx, kCy, ⟨sfC, ⟨_, in_add⟩, ⟨_, in_radd⟩, s1C, s2C⟩, ⟨sfC, ⟨_, in_mul⟩, ⟨_, in_rmul⟩, s1C, s2C⟩, ⟨_, a35⟩, ⟨_, a33⟩, EC, sfC1, E0, E1, ⟨_, PySem.W.mg_of X G gLETTERS⟩, ⟨_, PySem.W.mg_of X G gMOST_LETTERS⟩, PySem.W.mg_none_of X G b_abs, PySem.W.mg_none_of X G b_len, PySem.W.mg_none_of X G b_list, PySem.W.mg_none_of X G b_all, PySem.W.mg_none_of X G b_int, PySem.W.mg_none_of X G b_bool, PySem.W.mg_none_of X G b_str, PySem.W.mg_none_of X G b_tuple, PySem.W.mg_none_of X G b_range, PySem.W.mg_none_of X G b_zip, PySem.W.mg_none_of X G b_enumerate, PySem.W.mg_none_of X G b_isinstance, PySem.W.mg_none_of X G b_sorted, PySem.W.mg_none_of X G b_dict, PySem.W.mg_none_of X G b_max⟩
  have tabs : ∀ H : Hp, (∀ p ∈ ([] : List (Addr × Addr)), H p.2 = some (.tbl #[])) → LamX.Tabs (pm K C C1 TT).T H := by
    intro H hcs p hp
    have hp : p ∈ TT := hp
    rw [hTT] at hp
    cases hp
  refine ⟨_, [], spD (pm K C C1 TT) 1 G_law, ?hT, ?nT, ?hC, fun s v => .of_eq (?hb : bindArgs (PySem.W.fnOf "law" "law" (defArgs s_law) (defBody s_law) (defScope s_law) .none kV41 dc41 pm41 an41 cd41 ct41) ⟨[v], []⟩ = _), fun H a ns hl _ hcs hS => law_post rfl (fun ns hl => law_true ns) H a ns hl (tabs H hcs) hS, fun base _ _ TB => ?_⟩
  case hb => rfl
  case hT =>
    intro p hp
    cases hp
  case nT =>
    intro p hp
    cases hp
  case hC =>
    intro p hp
    cases hp
  have C_0 : CalD lw.prog w K mg base (pm K C C1 TT) 1 "_law_cell" 2 G__law_cell := calD F0 sc__law_cell (PySem.W.mg_of X G a0) B0 (b__law_cell (T base) _)
  have C_1 : CalD lw.prog w K mg base (pm K C C1 TT) 1 "_law_row" 2 G__law_row := calD F1 sc__law_row (PySem.W.mg_of X G a1) B1 (b__law_row (T base) _)
  have C_2 : CalD lw.prog w K mg base (pm K C C1 TT) 1 "_law_fields" 1 G__law_fields := calD F2 sc__law_fields (PySem.W.mg_of X G a2) B2 (b__law_fields (T base) _)
  have C_3 : CalD lw.prog w K mg base (pm K C C1 TT) 1 "_law_gcd" 2 G__law_gcd := calD F3 sc__law_gcd (PySem.W.mg_of X G a3) B3 (b__law_gcd (T base) _)
  have C_4 : CalD lw.prog w K mg base (pm K C C1 TT) 2 "_law_low" 1 G__law_low := calD F4 sc__law_low (PySem.W.mg_of X G a4) B4 (b__law_low (T base) C_3 _)
  have C_5 : CalN lw.prog w K mg base (pm K C C1 TT) 3 "_law_terms" 2 G__law_terms := calN F5 sc__law_terms (PySem.W.mg_of X G a5) B5 (b__law_terms (T base) C_4 _)
  have C_6 : CalD lw.prog w K mg base (pm K C C1 TT) 1 "common" 2 G_common := calD F6 sc_common (PySem.W.mg_of X G a6) B6 (b_common (T base) _)
  have C_7 : MkD lw.prog w K mg base (pm K C C1 TT) 2 "Ratio" 0 2 G_Ratio___init__ := mkD (c := 0) rfl (by simp) F7 sc_Ratio___init__ ⟨mkC, a7, i7, kcC⟩ (T base).g_Ratio B7 (b_Ratio___init__ (T base) C_6 _)
  have C_8 : CalD lw.prog w K mg base (pm K C C1 TT) 4 "_law_made" 2 G__law_made := calD F8 sc__law_made (PySem.W.mg_of X G a8) B8 (b__law_made (T base) C_4 C_7 _)
  have C_9 : CalD lw.prog w K mg base (pm K C C1 TT) 5 "_law_handed" 2 G__law_handed := calD F9 sc__law_handed (PySem.W.mg_of X G a9) B9 (b__law_handed (T base) C_8 _)
  have C_10 : CalD lw.prog w K mg base (pm K C C1 TT) 1 "is_name" 1 G_is_name := calD F10 sc_is_name (PySem.W.mg_of X G a10) B10 (b_is_name (T base) _)
  have C_11 : CalD lw.prog w K mg base (pm K C C1 TT) 2 "check_fields" 1 G_check_fields := calD F11 sc_check_fields (PySem.W.mg_of X G a11) B11 (b_check_fields (T base) C_10 _)
  have C_12 : CalD lw.prog w K mg base (pm K C C1 TT) 1 "is_integer" 1 G_is_integer := calD F12 sc_is_integer (PySem.W.mg_of X G a12) B12 (b_is_integer (T base) _)
  have C_13 : CalD lw.prog w K mg base (pm K C C1 TT) 2 "is_powers" 2 G_is_powers := calD F13 sc_is_powers (PySem.W.mg_of X G a13) B13 (b_is_powers (T base) C_12 _)
  have C_14 : CalD lw.prog w K mg base (pm K C C1 TT) 1 "halves_of" 1 G_halves_of := calD F14 sc_halves_of (PySem.W.mg_of X G a14) B14 (b_halves_of (T base) _)
  have C_15 : CalD lw.prog w K mg base (pm K C C1 TT) 2 "is_number" 1 G_is_number := calD F15 sc_is_number (PySem.W.mg_of X G a15) B15 (b_is_number (T base) C_12 _)
  have C_16 : OwnD lw.prog w K mg base (pm K C C1 TT) 3 "__eq__" 0 2 G_Ratio___eq__ := ownD (c := 0) F16 sc_Ratio___eq__ ⟨a16, i16⟩ B16 (b_Ratio___eq__ (T base) C_14 C_15 _)
  have C_17 : CalD lw.prog w K mg base (pm K C C1 TT) 2 "plain" 1 G_plain := calD F17 sc_plain (PySem.W.mg_of X G a17) B17 (b_plain (T base) C_14 _)
  have C_18 : CalD lw.prog w K mg base (pm K C C1 TT) 5 "one_form" 1 G_one_form := calD F18 sc_one_form (PySem.W.mg_of X G a18) B18 (b_one_form (T base) C_16 C_17 _)
  have C_19 : MkD lw.prog w K mg base (pm K C C1 TT) 6 "Poly" 1 2 G_Poly___init__ := mkD (c := 1) rfl (by simp) FD19 sc_Poly___init__ ⟨mkC1, a19, i19, kcC1⟩ (T base).g_Poly B19 (b_Poly___init__ (T base) C_11 C_13 C_18 _)
  have C_20 : CalD lw.prog w K mg base (pm K C C1 TT) 1 "_law_kept" 1 G__law_kept := calD F20 sc__law_kept (PySem.W.mg_of X G a20) B20 (b__law_kept (T base) _)
  have C_21 : OwnD lw.prog w K mg base (pm K C C1 TT) 1 "__str__" 0 1 G_Ratio___str__ := ownD (c := 0) F21 sc_Ratio___str__ ⟨a21, i21⟩ B21 (b_Ratio___str__ (T base) _)
  have C_22 : CalD lw.prog w K mg base (pm K C C1 TT) 4 "_law_text_of" 3 G__law_text_of := calD F22 sc__law_text_of (PySem.W.mg_of X G a22) B22 (b__law_text_of (T base) C_21 _)
  have C_23 : CalD lw.prog w K mg base (pm K C C1 TT) 5 "_law_due" 2 G__law_due := calD F23 sc__law_due (PySem.W.mg_of X G a23) B23 (b__law_due (T base) C_20 C_22 _)
  have C_24 : OwnD lw.prog w K mg base (pm K C C1 TT) 5 "__eq__" 1 2 G_Poly___eq__ := ownD (c := 1) F24 sc_Poly___eq__ ⟨a24, i24⟩ B24 (b_Poly___eq__ (T base) C_16 _)
  have C_25 : CalD lw.prog w K mg base (pm K C C1 TT) 1 "factors_text" 2 G_factors_text := calD F25 sc_factors_text (PySem.W.mg_of X G a25) B25 (b_factors_text (T base) _)
  have C_26 : CalD lw.prog w K mg base (pm K C C1 TT) 2 "top_of" 1 G_top_of := calD F26 sc_top_of (PySem.W.mg_of X G a26) B26 (b_top_of (T base) C_14 _)
  have C_27 : OwnD lw.prog w K mg base (pm K C C1 TT) 4 "__neg__" 0 1 G_Ratio___neg__ := ownD (c := 0) F27 sc_Ratio___neg__ ⟨a27, i27⟩ B27 (b_Ratio___neg__ (T base) C_7 _)
  have C_28 : CalD lw.prog w K mg base (pm K C C1 TT) 5 "term_text" 2 G_term_text := calD F28 sc_term_text (PySem.W.mg_of X G a28) B28 (b_term_text (T base) C_26 C_27 C_16 C_21 _)
  have C_29 : CalD lw.prog w K mg base (pm K C C1 TT) 6 "joined_terms" 1 G_joined_terms := calD F29 sc_joined_terms (PySem.W.mg_of X G a29) B29 (b_joined_terms (T base) C_26 C_28 _)
  have C_30 : OwnD lw.prog w K mg base (pm K C C1 TT) 7 "__str__" 1 1 G_Poly___str__ := ownD (c := 1) F30 sc_Poly___str__ ⟨a30, i30⟩ B30 (b_Poly___str__ (T base) C_25 C_29 _)
  have C_31 : CalD lw.prog w K mg base (pm K C C1 TT) 1 "parts_beside" 2 G_parts_beside := calD F31 sc_parts_beside (PySem.W.mg_of X G a31) B31 (b_parts_beside (T base) _)
  have C_32 : OwnD lw.prog w K mg base (pm K C C1 TT) 4 "__mul__" 0 2 G_Ratio___mul__ := ownD (c := 0) F32 sc_Ratio___mul__ ⟨a32, i32⟩ B32 (b_Ratio___mul__ (T base) C_15 C_14 C_7 _)
  have C_33 : OwnD lw.prog w K mg base (pm K C C1 TT) 5 "__rmul__" 0 2 G_Ratio___rmul__ := ownD (c := 0) F33 sc_Ratio___rmul__ ⟨a33, i33⟩ B33 (b_Ratio___rmul__ (T base) C_32 _)
  have C_34 : OwnD lw.prog w K mg base (pm K C C1 TT) 4 "__add__" 0 2 G_Ratio___add__ := ownD (c := 0) F34 sc_Ratio___add__ ⟨a34, i34⟩ B34 (b_Ratio___add__ (T base) C_15 C_14 C_7 _)
  have C_35 : OwnD lw.prog w K mg base (pm K C C1 TT) 5 "__radd__" 0 2 G_Ratio___radd__ := ownD (c := 0) F35 sc_Ratio___radd__ ⟨a35, i35⟩ B35 (b_Ratio___radd__ (T base) C_34 _)
  have C_36 : CalD lw.prog w K mg base (pm K C C1 TT) 6 "added" 3 G_added := calD F36 sc_added (PySem.W.mg_of X G a36) B36 (b_added (T base) C_32 C_33 C_34 C_35 _)
  have C_37 : OwnD lw.prog w K mg base (pm K C C1 TT) 8 "__add__" 1 2 G_Poly___add__ := ownD (c := 1) F37 sc_Poly___add__ ⟨a37, i37⟩ B37 (b_Poly___add__ (T base) C_31 C_36 C_19 _)
  have C_38 : CalD lw.prog w K mg base (pm K C C1 TT) 3 "_law_times" 2 G__law_times := calD F38 sc__law_times (PySem.W.mg_of X G a38) B38 (b__law_times (T base) C_4 _)
  have C_39 : CalD lw.prog w K mg base (pm K C C1 TT) 3 "_law_add" 2 G__law_add := calD F39 sc__law_add (PySem.W.mg_of X G a39) B39 (b__law_add (T base) C_4 _)
  have C_40 : CalD lw.prog w K mg base (pm K C C1 TT) 4 "_law_sum_of" 3 G__law_sum_of := calD F40 sc__law_sum_of (PySem.W.mg_of X G a40) B40 (b__law_sum_of (T base) C_38 C_39 C_20 _)
  exact fnd F41 sc_law (b_law (T base) C_0 C_1 C_2 C_5 C_4 C_9 C_19 C_23 C_24 C_30 C_37 C_40 _)
end DL.K44
open PySem PySem.W PyProof.Rows
set_option maxRecDepth 100000 in
set_option maxHeartbeats 0 in
theorem PySem.Challenge.cw_everylist_k44_texts_of_polys_holds : PySem.Challenge.rw_everylist_k44_texts_of_polys.Holds := by
  w_on; o_law; k_head; (case hw => w_witness2)
  k_fill
  refine LamX.walk_ofTs (l := PySem.Challenge.rw_everylist_k44_texts_of_polys) (n := 63) (k := 10) (x := "_law_script") (CX := fun w => L2.CX PySem.Challenge.pw_everylist_k44_texts_of_polys w) rfl (by decide) rfl ⟨rfl, by decide, by decide⟩ (fun w h Y => PySem.W.kIn_of Y) ?Fm (fun _ _ _ _ _ z => DL.cx_false z)
  case Fm =>
    intro w mg fa h Y KX G hmg
    refine' DL.K44.all_mk KX G hmg ?aC ?aC1 ?a0 ?l0 ?c0 ?k0 ?a1 ?l1 ?c1 ?k1 ?a2 ?l2 ?c2 ?k2 ?a3 ?l3 ?c3 ?k3 ?a4 ?l4 ?c4 ?k4 ?a5 ?l5 ?c5 ?k5 ?a6 ?l6 ?c6 ?k6 ?a7 ?i7 ?l7 ?c7 ?k7 ?a8 ?l8 ?c8 ?k8 ?a9 ?l9 ?c9 ?k9 ?a10 ?l10 ?c10 ?k10 ?a11 ?l11 ?c11 ?k11 ?a12 ?l12 ?c12 ?k12 ?a13 ?l13 ?c13 ?k13 ?a14 ?l14 ?c14 ?k14 ?a15 ?l15 ?c15 ?k15 ?a16 ?i16 ?l16 ?c16 ?k16 ?a17 ?l17 ?c17 ?k17 ?a18 ?l18 ?c18 ?k18 ?a19 ?i19 ?l19 ?c19 ?k19 ?a20 ?l20 ?c20 ?k20 ?a21 ?i21 ?l21 ?c21 ?k21 ?a22 ?l22 ?c22 ?k22 ?a23 ?l23 ?c23 ?k23 ?a24 ?i24 ?l24 ?c24 ?k24 ?a25 ?l25 ?c25 ?k25 ?a26 ?l26 ?c26 ?k26 ?a27 ?i27 ?l27 ?c27 ?k27 ?a28 ?l28 ?c28 ?k28 ?a29 ?l29 ?c29 ?k29 ?a30 ?i30 ?l30 ?c30 ?k30 ?a31 ?l31 ?c31 ?k31 ?a32 ?i32 ?l32 ?c32 ?k32 ?a33 ?i33 ?l33 ?c33 ?k33 ?a34 ?i34 ?l34 ?c34 ?k34 ?a35 ?i35 ?l35 ?c35 ?k35 ?a36 ?l36 ?c36 ?k36 ?a37 ?i37 ?l37 ?c37 ?k37 ?a38 ?l38 ?c38 ?k38 ?a39 ?l39 ?c39 ?k39 ?a40 ?l40 ?c40 ?k40 ?a41 ?l41 ?c41 ?k41 ?lT ?pgC ?hdC ?poC ?saC ?mkC ?kcC ?ntop_C ?nbottom_C ?haC ?hmC ?nb0_C ?nb1_C ?nb2_C ?nb3_C ?nb4_C ?nb5_C ?nb6_C ?kint_C ?kbool_C ?ktuple_C ?kstr_C ?sfC ?pgC1 ?hdC1 ?poC1 ?saC1 ?mkC1 ?kcC1 ?nfields_C1 ?nparts_C1 ?haC1 ?hmC1 ?nb0_C1 ?nb1_C1 ?nb2_C1 ?nb3_C1 ?nb4_C1 ?nb5_C1 ?nb6_C1 ?kint_C1 ?kbool_C1 ?ktuple_C1 ?kstr_C1 ?sfC1 ?hnC ?htC ?kCx ?kCy ?s1C ?s2C ?neC ?in_add ?in_radd ?in_mul ?in_rmul ?nf_NoneType ?nf_bool ?nf_int ?nf_str ?nf_list ?nf_tuple ?nf_dict ?nf_C ?nf_C1 ?nf1_NoneType ?nf1_bool ?nf1_int ?nf1_str ?nf1_list ?nf1_tuple ?nf1_dict ?nf1_C ?nf1_C1 ?s2C1 ?neC1 ?b_abs ?b_all ?b_bool ?b_dict ?b_enumerate ?b_int ?b_isinstance ?b_len ?b_list ?b_max ?b_range ?b_sorted ?b_str ?b_tuple ?b_zip ?gLETTERS ?gMOST_LETTERS
    (case aC => first | k_is | rfl)
    (case aC1 => first | k_is | rfl)
    (case a0 => first | k_is | rfl)
    (case l0 => first | k_is | rfl)
    (case c0 => first | k_is | rfl)
    (case k0 => first | k_is | rfl)
    (case a1 => first | k_is | rfl)
    (case l1 => first | k_is | rfl)
    (case c1 => first | k_is | rfl)
    (case k1 => first | k_is | rfl)
    (case a2 => first | k_is | rfl)
    (case l2 => first | k_is | rfl)
    (case c2 => first | k_is | rfl)
    (case k2 => first | k_is | rfl)
    (case a3 => first | k_is | rfl)
    (case l3 => first | k_is | rfl)
    (case c3 => first | k_is | rfl)
    (case k3 => first | k_is | rfl)
    (case a4 => first | k_is | rfl)
    (case l4 => first | k_is | rfl)
    (case c4 => first | k_is | rfl)
    (case k4 => first | k_is | rfl)
    (case a5 => first | k_is | rfl)
    (case l5 => first | k_is | rfl)
    (case c5 => first | k_is | rfl)
    (case k5 => first | k_is | rfl)
    (case a6 => first | k_is | rfl)
    (case l6 => first | k_is | rfl)
    (case c6 => first | k_is | rfl)
    (case k6 => first | k_is | rfl)
    (case a7 => first | k_is | rfl)
    (case i7 => first | k_is | rfl)
    (case l7 => first | k_is | rfl)
    (case c7 => first | k_is | rfl)
    (case k7 => first | k_is | rfl)
    (case a8 => first | k_is | rfl)
    (case l8 => first | k_is | rfl)
    (case c8 => first | k_is | rfl)
    (case k8 => first | k_is | rfl)
    (case a9 => first | k_is | rfl)
    (case l9 => first | k_is | rfl)
    (case c9 => first | k_is | rfl)
    (case k9 => first | k_is | rfl)
    (case a10 => first | k_is | rfl)
    (case l10 => first | k_is | rfl)
    (case c10 => first | k_is | rfl)
    (case k10 => first | k_is | rfl)
    (case a11 => first | k_is | rfl)
    (case l11 => first | k_is | rfl)
    (case c11 => first | k_is | rfl)
    (case k11 => first | k_is | rfl)
    (case a12 => first | k_is | rfl)
    (case l12 => first | k_is | rfl)
    (case c12 => first | k_is | rfl)
    (case k12 => first | k_is | rfl)
    (case a13 => first | k_is | rfl)
    (case l13 => first | k_is | rfl)
    (case c13 => first | k_is | rfl)
    (case k13 => first | k_is | rfl)
    (case a14 => first | k_is | rfl)
    (case l14 => first | k_is | rfl)
    (case c14 => first | k_is | rfl)
    (case k14 => first | k_is | rfl)
    (case a15 => first | k_is | rfl)
    (case l15 => first | k_is | rfl)
    (case c15 => first | k_is | rfl)
    (case k15 => first | k_is | rfl)
    (case a16 => first | k_is | rfl)
    (case i16 => first | k_is | rfl)
    (case l16 => first | k_is | rfl)
    (case c16 => first | k_is | rfl)
    (case k16 => first | k_is | rfl)
    (case a17 => first | k_is | rfl)
    (case l17 => first | k_is | rfl)
    (case c17 => first | k_is | rfl)
    (case k17 => first | k_is | rfl)
    (case a18 => first | k_is | rfl)
    (case l18 => first | k_is | rfl)
    (case c18 => first | k_is | rfl)
    (case k18 => first | k_is | rfl)
    (case a19 => first | k_is | rfl)
    (case i19 => first | k_is | rfl)
    (case l19 => first | k_is | rfl)
    (case c19 => first | k_is | rfl)
    (case k19 => first | k_is | rfl)
    (case a20 => first | k_is | rfl)
    (case l20 => first | k_is | rfl)
    (case c20 => first | k_is | rfl)
    (case k20 => first | k_is | rfl)
    (case a21 => first | k_is | rfl)
    (case i21 => first | k_is | rfl)
    (case l21 => first | k_is | rfl)
    (case c21 => first | k_is | rfl)
    (case k21 => first | k_is | rfl)
    (case a22 => first | k_is | rfl)
    (case l22 => first | k_is | rfl)
    (case c22 => first | k_is | rfl)
    (case k22 => first | k_is | rfl)
    (case a23 => first | k_is | rfl)
    (case l23 => first | k_is | rfl)
    (case c23 => first | k_is | rfl)
    (case k23 => first | k_is | rfl)
    (case a24 => first | k_is | rfl)
    (case i24 => first | k_is | rfl)
    (case l24 => first | k_is | rfl)
    (case c24 => first | k_is | rfl)
    (case k24 => first | k_is | rfl)
    (case a25 => first | k_is | rfl)
    (case l25 => first | k_is | rfl)
    (case c25 => first | k_is | rfl)
    (case k25 => first | k_is | rfl)
    (case a26 => first | k_is | rfl)
    (case l26 => first | k_is | rfl)
    (case c26 => first | k_is | rfl)
    (case k26 => first | k_is | rfl)
    (case a27 => first | k_is | rfl)
    (case i27 => first | k_is | rfl)
    (case l27 => first | k_is | rfl)
    (case c27 => first | k_is | rfl)
    (case k27 => first | k_is | rfl)
    (case a28 => first | k_is | rfl)
    (case l28 => first | k_is | rfl)
    (case c28 => first | k_is | rfl)
    (case k28 => first | k_is | rfl)
    (case a29 => first | k_is | rfl)
    (case l29 => first | k_is | rfl)
    (case c29 => first | k_is | rfl)
    (case k29 => first | k_is | rfl)
    (case a30 => first | k_is | rfl)
    (case i30 => first | k_is | rfl)
    (case l30 => first | k_is | rfl)
    (case c30 => first | k_is | rfl)
    (case k30 => first | k_is | rfl)
    (case a31 => first | k_is | rfl)
    (case l31 => first | k_is | rfl)
    (case c31 => first | k_is | rfl)
    (case k31 => first | k_is | rfl)
    (case a32 => first | k_is | rfl)
    (case i32 => first | k_is | rfl)
    (case l32 => first | k_is | rfl)
    (case c32 => first | k_is | rfl)
    (case k32 => first | k_is | rfl)
    (case a33 => first | k_is | rfl)
    (case i33 => first | k_is | rfl)
    (case l33 => first | k_is | rfl)
    (case c33 => first | k_is | rfl)
    (case k33 => first | k_is | rfl)
    (case a34 => first | k_is | rfl)
    (case i34 => first | k_is | rfl)
    (case l34 => first | k_is | rfl)
    (case c34 => first | k_is | rfl)
    (case k34 => first | k_is | rfl)
    (case a35 => first | k_is | rfl)
    (case i35 => first | k_is | rfl)
    (case l35 => first | k_is | rfl)
    (case c35 => first | k_is | rfl)
    (case k35 => first | k_is | rfl)
    (case a36 => first | k_is | rfl)
    (case l36 => first | k_is | rfl)
    (case c36 => first | k_is | rfl)
    (case k36 => first | k_is | rfl)
    (case a37 => first | k_is | rfl)
    (case i37 => first | k_is | rfl)
    (case l37 => first | k_is | rfl)
    (case c37 => first | k_is | rfl)
    (case k37 => first | k_is | rfl)
    (case a38 => first | k_is | rfl)
    (case l38 => first | k_is | rfl)
    (case c38 => first | k_is | rfl)
    (case k38 => first | k_is | rfl)
    (case a39 => first | k_is | rfl)
    (case l39 => first | k_is | rfl)
    (case c39 => first | k_is | rfl)
    (case k39 => first | k_is | rfl)
    (case a40 => first | k_is | rfl)
    (case l40 => first | k_is | rfl)
    (case c40 => first | k_is | rfl)
    (case k40 => first | k_is | rfl)
    (case a41 => first | k_is | rfl)
    (case l41 => first | k_is | rfl)
    (case c41 => first | k_is | rfl)
    (case k41 => first | k_is | rfl)
    (case lT => first | k_is | rfl)
    (case pgC => first | k_is | rfl)
    (case hdC => first | k_is | rfl)
    (case poC => first | k_is | rfl)
    (case saC => first | k_is | rfl)
    (case mkC => first | k_is | rfl)
    (case kcC => first | k_is | rfl)
    (case ntop_C => first | k_is | rfl)
    (case nbottom_C => first | k_is | rfl)
    (case haC => first | k_is | rfl)
    (case hmC => first | k_is | rfl)
    (case nb0_C => first | k_is | rfl)
    (case nb1_C => first | k_is | rfl)
    (case nb2_C => first | k_is | rfl)
    (case nb3_C => first | k_is | rfl)
    (case nb4_C => first | k_is | rfl)
    (case nb5_C => first | k_is | rfl)
    (case nb6_C => first | k_is | rfl)
    (case kint_C => first | k_is | rfl)
    (case kbool_C => first | k_is | rfl)
    (case ktuple_C => first | k_is | rfl)
    (case kstr_C => first | k_is | rfl)
    (case sfC => first | k_is | rfl)
    (case pgC1 => first | k_is | rfl)
    (case hdC1 => first | k_is | rfl)
    (case poC1 => first | k_is | rfl)
    (case saC1 => first | k_is | rfl)
    (case mkC1 => first | k_is | rfl)
    (case kcC1 => first | k_is | rfl)
    (case nfields_C1 => first | k_is | rfl)
    (case nparts_C1 => first | k_is | rfl)
    (case haC1 => first | k_is | rfl)
    (case hmC1 => first | k_is | rfl)
    (case nb0_C1 => first | k_is | rfl)
    (case nb1_C1 => first | k_is | rfl)
    (case nb2_C1 => first | k_is | rfl)
    (case nb3_C1 => first | k_is | rfl)
    (case nb4_C1 => first | k_is | rfl)
    (case nb5_C1 => first | k_is | rfl)
    (case nb6_C1 => first | k_is | rfl)
    (case kint_C1 => first | k_is | rfl)
    (case kbool_C1 => first | k_is | rfl)
    (case ktuple_C1 => first | k_is | rfl)
    (case kstr_C1 => first | k_is | rfl)
    (case sfC1 => first | k_is | rfl)
    (case hnC => first | k_is | rfl)
    (case htC => first | k_is | rfl)
    (case kCx => first | k_is | rfl)
    (case kCy => first | k_is | rfl)
    (case s1C => first | k_is | rfl)
    (case s2C => first | k_is | rfl)
    (case neC => first | k_is | rfl)
    (case in_add => first | k_is | rfl)
    (case in_radd => first | k_is | rfl)
    (case in_mul => first | k_is | rfl)
    (case in_rmul => first | k_is | rfl)
    (case nf_NoneType => first | k_is | rfl | decide +kernel)
    (case nf_bool => first | k_is | rfl | decide +kernel)
    (case nf_int => first | k_is | rfl | decide +kernel)
    (case nf_str => first | k_is | rfl | decide +kernel)
    (case nf_list => first | k_is | rfl | decide +kernel)
    (case nf_tuple => first | k_is | rfl | decide +kernel)
    (case nf_dict => first | k_is | rfl | decide +kernel)
    (case nf_C => first | k_is | rfl | decide +kernel)
    (case nf_C1 => first | k_is | rfl | decide +kernel)
    (case nf1_NoneType => first | k_is | rfl | decide +kernel)
    (case nf1_bool => first | k_is | rfl | decide +kernel)
    (case nf1_int => first | k_is | rfl | decide +kernel)
    (case nf1_str => first | k_is | rfl | decide +kernel)
    (case nf1_list => first | k_is | rfl | decide +kernel)
    (case nf1_tuple => first | k_is | rfl | decide +kernel)
    (case nf1_dict => first | k_is | rfl | decide +kernel)
    (case nf1_C => first | k_is | rfl | decide +kernel)
    (case nf1_C1 => first | k_is | rfl | decide +kernel)
    (case s2C1 => first | k_is | rfl)
    (case neC1 => first | k_is | rfl)
    (case b_abs => first | k_is | rfl)
    (case b_all => first | k_is | rfl)
    (case b_bool => first | k_is | rfl)
    (case b_dict => first | k_is | rfl)
    (case b_enumerate => first | k_is | rfl)
    (case b_int => first | k_is | rfl)
    (case b_isinstance => first | k_is | rfl)
    (case b_len => first | k_is | rfl)
    (case b_list => first | k_is | rfl)
    (case b_max => first | k_is | rfl)
    (case b_range => first | k_is | rfl)
    (case b_sorted => first | k_is | rfl)
    (case b_str => first | k_is | rfl)
    (case b_tuple => first | k_is | rfl)
    (case b_zip => first | k_is | rfl)
    (case gLETTERS => first | k_is | rfl)
    (case gMOST_LETTERS => first | k_is | rfl)
