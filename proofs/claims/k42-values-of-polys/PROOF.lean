import PyProof.Rows.All
import Wide.All
import OpenK.AllK
import Wide.FinOn
import HandS.ForMost
import HandS.Exc
import HandS.TryOnly
import HandS.ExcOwn
import HandS.WordsExc
import HandS.CallSlots
import HandS.IsInst
import HandS.OwnEq
import HandS.Wide
import HandS.Style
import HandS.Lambda
import HandS.EndTab
import HandS.Zip
import HandS.ExcBuiltin
import KE.KExcSuper
import HandS.FStr
import HandS.TupAny
import KE.KOpsOwn
import KE.KCallOwn
import HandS.Defaults
import PyProof.TwoTypes
import HandS.Deep
import HandS.MakeKwOnly
import HandS.Dict
import HandS.Iter
import HandS.Conv
import HandS.TupLen
import KE.KDictKeyed
import KE.SortData
import HandS.SortKw
import HandS.NoneIn
import KE.GoesZip
import KE.GoesMore
import KE.GoesEnum
import KE.KIntText
import HandS.Codes
import KE.KNestM
import PySem.Challenge.RW_everylist_k42_values_of_polys
set_option Elab.async false
set_option linter.all false
set_option maxRecDepth 100000
set_option maxHeartbeats 8000000
namespace DL
open PySem L2

/-- data: what a value is, by itself -/
inductive D where
  | non
  | bl (b : Bool)
  | int (i : Int)
  | str (s : Str)
  | lst (xs : List D)
  | tup (xs : List D)
  | dK (ks : List Key) (xs : List D)
  | dT (ks : List (List Key)) (xs : List D)
  | obj (c : Nat) (xs : List D)
  | scr (ns : List Int)

/-- what the program's own classes and errors are -/
structure Pm where
  C : Nat → Addr
  nm : Nat → List Str
  xc : Nat → Value
  xf : Nat → Str
  K : PySem.W.Frag
  T : List (Addr × Str)

mutual
def Is (P : Pm) (F : Hp) : D → V → Prop
  | .non, v => v = .non
  | .bl b, v => v = .bl b
  | .int i, v => v = .int i
  | .str s, v => v = .str s
  | .lst xs, v => ∃ a vs, v = .ref a ∧ Rd F a (.lst vs) ∧ IsL P F xs vs
  | .tup xs, v => ∃ a vs, v = .ref a ∧ F a = some (.tup vs) ∧ IsL P F xs vs
  | .dK ks xs, v => ∃ a o vs, v = .ref a ∧ F a = some (.frz o (.dK (ks.zip vs))) ∧ ks.length = vs.length ∧ IsL P F xs vs
  | .dT ks xs, v => ∃ a o vs, v = .ref a ∧ F a = some (.frz o (.dT (ks.zip vs))) ∧ ks.length = vs.length ∧ IsL P F xs vs
  | .obj c xs, v => ∃ a dx vs, v = .ref a ∧ F a = some (.ins (P.C c) dx ((P.nm c).zip vs)) ∧ vs.length ≤ (P.nm c).length ∧ IsL P F xs vs
  | .scr ns, v => ∃ a, v = .ref a ∧ SqL P.K F a (ns.map V.int)
def IsL (P : Pm) (F : Hp) : List D → List V → Prop
  | [], vs => vs = []
  | d :: ds, vs => ∃ v r, vs = v :: r ∧ Is P F d v ∧ IsL P F ds r
end

/-- the heap has grown -/
def Ex (H H' : Hp) : Prop := ∀ a o, H a = some o → H' a = some o
theorem Ex.refl (H : Hp) : Ex H H := fun _ _ h => h
theorem Ex.trans {H H1 H2 : Hp} (a : Ex H H1) (b : Ex H1 H2) : Ex H H2 := fun x o h => b x o (a x o h)
theorem Ex.new {H : Hp} {p : Addr} {o : HO} (h : H p = none) : Ex H (upd H p o) := fun a u e => by
  rw [upd_ne (ne_of_none e h)]
  exact e
theorem Ex.back {H H' : Hp} {p : Addr} (e : Ex H H') (h : H' p = none) : H p = none := by
  cases h1 : H p with
  | none => rfl
  | some o =>
    rw [e p o h1] at h
    cases h
theorem Ex.rd {H H' : Hp} {a : Addr} {u : HO} (e : Ex H H') (h : Rd H a u) : Rd H' a u := by
  rcases h with h | ⟨o, h⟩
  · exact Or.inl (e a _ h)
  · exact Or.inr ⟨o, e a _ h⟩
theorem Ex.sq {H H' : Hp} {K : PySem.W.Frag} {a : Addr} {xs : List V} (e : Ex H H') (h : SqL K H a xs) : SqL K H' a xs := by
  rcases h with h | h
  · exact Or.inl (e.rd h)
  · exact Or.inr h
/-- an object of data: no table of code, no outer fact -/
def isD : HO → Bool
  | .tbl _ => false
  | .ext _ => false
  | _ => true
def isT : HO → Bool
  | .tbl _ => true
  | _ => false
theorem isD_T {o : HO} (h : isD o = true) : isT o = false := by
  cases o <;> first | rfl | cases h
/-- all stays but what the tables hold -/
structure ExT (H H' : Hp) : Prop where
  at_ : ∀ a o, H a = some o → isT o = false → H' a = some o
theorem ExT.refl (H : Hp) : ExT H H := ⟨fun _ _ h _ => h⟩
theorem ExT.trans {H H1 H2 : Hp} (a : ExT H H1) (b : ExT H1 H2) : ExT H H2 := ⟨fun x o h n => b.at_ x o (a.at_ x o h n) n⟩
theorem Ex.t {H H' : Hp} (e : Ex H H') : ExT H H' := ⟨fun a o h _ => e a o h⟩
theorem ExT.new {H : Hp} {p : Addr} {o : HO} (h : H p = none) : ExT H (upd H p o) := (Ex.new h).t
/-- nothing of data stands at p -/
def NoD (H : Hp) (p : Addr) : Prop := ∀ o, H p = some o → isT o = true
theorem NoD.of {H : Hp} {p : Addr} (h : H p = none) : NoD H p := fun o e => by
  rw [h] at e
  cases e
theorem NoD.no {H : Hp} {p : Addr} {o : HO} (n : NoD H p) (e : H p = some o) (h : isT o = false) : False := by
  rw [n o e] at h
  cases h
theorem NoD.ne {H : Hp} {a p : Addr} {o : HO} (n : NoD H p) (e : H a = some o) (h : isT o = false) : a ≠ p := fun z => by
  subst z
  exact n.no e h
theorem ExT.backN {H H' : Hp} {p : Addr} (e : ExT H H') (h : NoD H' p) : NoD H p := fun o e1 => by
  cases q : isT o with
  | true => rfl
  | false => exact (h.no (e.at_ p o e1 q) q).elim
theorem ExT.back {H H' : Hp} {p : Addr} (e : ExT H H') (h : H' p = none) : NoD H p := e.backN (.of h)
theorem ExT.dat {H H' : Hp} {a : Addr} {u : HO} (e : ExT H H') (h : H a = some u) (hn : isT u = false := by rfl) : H' a = some u := e.at_ a u h hn
theorem ExT.rd {H H' : Hp} {a : Addr} {u : HO} (e : ExT H H') (h : Rd H a u) (hn : isT u = false := by rfl) : Rd H' a u := by
  rcases h with h | ⟨o, h⟩
  · exact Or.inl (e.at_ a _ h hn)
  · exact Or.inr ⟨o, e.at_ a _ h rfl⟩
theorem ExT.sq {H H' : Hp} {K : PySem.W.Frag} {a : Addr} {xs : List V} (e : ExT H H') (h : SqL K H a xs) : SqL K H' a xs := by
  rcases h with h | h
  · exact Or.inl (e.rd h)
  · exact Or.inr h
/-- F is a part of H, of data alone; H's tables are in order -/
structure Sb (P : Pm) (F H : Hp) : Prop where
  ex : Ex F H
  nt : ∀ a o, F a = some o → isT o = false
  tabs : LamX.Tabs P.T H
theorem Sb.back {P : Pm} {F H : Hp} {p : Addr} (s : Sb P F H) (h : H p = none) : F p = none := s.ex.back h
theorem Sb.rd {P : Pm} {F H : Hp} {a : Addr} {u : HO} (s : Sb P F H) (h : Rd F a u) : Rd H a u := s.ex.rd h
theorem Sb.sq {P : Pm} {F H : Hp} {K : PySem.W.Frag} {a : Addr} {xs : List V} (s : Sb P F H) (h : SqL K F a xs) : SqL K H a xs := s.ex.sq h
/-- the heap grew, wholly -/
theorem Sb.ext {P : Pm} {F H H' : Hp} (s : Sb P F H) (e : Ex H H') : Sb P F H' := ⟨s.ex.trans e, s.nt, s.tabs.ext e⟩
/-- the tables grew -/
theorem Sb.ext' {P : Pm} {F H H' : Hp} (s : Sb P F H) (e : ExT H H') (t : LamX.Tabs P.T H') : Sb P F H' := ⟨fun a o h => e.at_ a o (s.ex a o h) (s.nt a o h), s.nt, t⟩
/-- less is frozen -/
theorem Sb.sub {P : Pm} {F F1 H : Hp} (s : Sb P F1 H) (e : Ex F F1) : Sb P F H := ⟨e.trans s.ex, fun a o h => s.nt a o (e a o h), s.tabs⟩
theorem Tabs.upd {T : List (Addr × Str)} {H : Hp} {a : Addr} {u o : HO} (t : LamX.Tabs T H) (h : H a = some u) (hd : isD u = true) : LamX.Tabs T (upd H a o) := fun p hp => by
  obtain ⟨ps, h1, h2, h3⟩ := t p hp
  have n1 : p.1 ≠ a := fun z => by
    rw [z, h] at h1
    cases h1
    cases hd
  refine ⟨ps, by rw [upd_ne n1]; exact h1, h2, fun pos cv hc => ?_⟩
  obtain ⟨c, e1, e2⟩ := h3 pos cv hc
  refine ⟨c, e1, ?_⟩
  rw [upd_ne]
  · exact e2
  · intro z
    rw [z, h] at e2
    have e2 : u = LamX.CodeO a p.2 := Option.some.inj e2
    rw [e2] at hd
    cases hd

section
variable {P : Pm} {F F' : Hp}
mutual
theorem Is.mono (e : Ex F F') : ∀ (d : D) {v : V}, Is P F d v → Is P F' d v
  | .non, _, h => by simpa [Is] using h
  | .bl b, _, h => by simpa [Is] using h
  | .int i, _, h => by simpa [Is] using h
  | .str s, _, h => by simpa [Is] using h
  | .lst xs, _, h => by
    rw [Is] at h ⊢
    obtain ⟨a, vs, h1, h2, h3⟩ := h
    exact ⟨a, vs, h1, e.rd h2, IsL.mono e xs h3⟩
  | .tup xs, _, h => by
    rw [Is] at h ⊢
    obtain ⟨a, vs, h1, h2, h3⟩ := h
    exact ⟨a, vs, h1, e _ _ h2, IsL.mono e xs h3⟩
  | .dK ks xs, _, h => by
    rw [Is] at h ⊢
    obtain ⟨a, o, vs, h1, h2, h3, h4⟩ := h
    exact ⟨a, o, vs, h1, e _ _ h2, h3, IsL.mono e xs h4⟩
  | .dT ks xs, _, h => by
    rw [Is] at h ⊢
    obtain ⟨a, o, vs, h1, h2, h3, h4⟩ := h
    exact ⟨a, o, vs, h1, e _ _ h2, h3, IsL.mono e xs h4⟩
  | .obj c xs, _, h => by
    rw [Is] at h ⊢
    obtain ⟨a, dx, vs, h1, h2, h3, h4⟩ := h
    exact ⟨a, dx, vs, h1, e _ _ h2, h3, IsL.mono e xs h4⟩
  | .scr ns, _, h => by
    rw [Is] at h ⊢
    obtain ⟨a, h1, h2⟩ := h
    exact ⟨a, h1, e.sq h2⟩
theorem IsL.mono (e : Ex F F') : ∀ (ds : List D) {vs : List V}, IsL P F ds vs → IsL P F' ds vs
  | [], _, h => by simpa [IsL] using h
  | d :: ds, _, h => by
    rw [IsL] at h ⊢
    obtain ⟨v, r, h1, h2, h3⟩ := h
    exact ⟨v, r, h1, Is.mono e d h2, IsL.mono e ds h3⟩
end
theorem IsL.nil : IsL P F [] [] := by rw [IsL]
theorem IsL.cons {d : D} {ds : List D} {v : V} {vs : List V} (h : Is P F d v) (t : IsL P F ds vs) : IsL P F (d :: ds) (v :: vs) := by
  rw [IsL]
  exact ⟨v, vs, rfl, h, t⟩
theorem IsL.length : ∀ {ds : List D} {vs : List V}, IsL P F ds vs → ds.length = vs.length
  | [], _, h => by
    rw [IsL] at h
    subst h
    rfl
  | d :: ds, _, h => by
    rw [IsL] at h
    obtain ⟨v, r, rfl, _, h3⟩ := h
    simp [IsL.length h3]
theorem IsL.get : ∀ {ds : List D} {vs : List V} {i : Nat} {d : D}, IsL P F ds vs → ds[i]? = some d → ∃ v, vs[i]? = some v ∧ Is P F d v
  | [], _, _, _, _, e => by simp at e
  | d :: ds, _, i, x, h, e => by
    rw [IsL] at h
    obtain ⟨v, r, rfl, h2, h3⟩ := h
    cases i with
    | zero =>
      simp at e
      subst e
      exact ⟨v, by simp, h2⟩
    | succ i =>
      simp at e
      obtain ⟨v', h4, h5⟩ := IsL.get h3 e
      exact ⟨v', by simpa using h4, h5⟩
theorem IsL.get' : ∀ {ds : List D} {vs : List V} {i : Nat} {v : V}, IsL P F ds vs → vs[i]? = some v → ∃ d, ds[i]? = some d ∧ Is P F d v := by
  intro ds vs i v h e
  have hl := h.length
  have hi : i < vs.length := by
    rcases Nat.lt_or_ge i vs.length with q | q
    · exact q
    · rw [List.getElem?_eq_none q] at e
      cases e
  obtain ⟨d, hd⟩ : ∃ d, ds[i]? = some d := ⟨ds[i]'(by omega), List.getElem?_eq_getElem (by omega)⟩
  obtain ⟨v', h1, h2⟩ := h.get hd
  rw [e] at h1
  cases h1
  exact ⟨d, hd, h2⟩
theorem IsL.append : ∀ {ds es : List D} {vs ws : List V}, IsL P F ds vs → IsL P F es ws → IsL P F (ds ++ es) (vs ++ ws)
  | [], _, _, _, h, t => by
    rw [IsL] at h
    subst h
    exact t
  | d :: ds, _, _, _, h, t => by
    rw [IsL] at h
    obtain ⟨v, r, rfl, h2, h3⟩ := h
    exact .cons h2 (IsL.append h3 t)
theorem IsL.drop : ∀ (n : Nat) {ds : List D} {vs : List V}, IsL P F ds vs → IsL P F (ds.drop n) (vs.drop n)
  | 0, _, _, h => h
  | n + 1, [], _, h => by
    rw [IsL] at h
    subst h
    exact .nil
  | n + 1, d :: ds, _, h => by
    rw [IsL] at h
    obtain ⟨v, r, rfl, h2, h3⟩ := h
    exact IsL.drop n h3
theorem IsL.take : ∀ (n : Nat) {ds : List D} {vs : List V}, IsL P F ds vs → IsL P F (ds.take n) (vs.take n)
  | 0, _, _, h => .nil
  | n + 1, [], _, h => by
    rw [IsL] at h
    subst h
    exact .nil
  | n + 1, d :: ds, _, h => by
    rw [IsL] at h
    obtain ⟨v, r, rfl, h2, h3⟩ := h
    exact .cons h2 (IsL.take n h3)
theorem IsL.set : ∀ (i : Nat) {ds : List D} {vs : List V} {d : D} {v : V}, IsL P F ds vs → Is P F d v → IsL P F (ds.set i d) (vs.set i v)
  | i, [], _, _, _, h, _ => by
    rw [IsL] at h
    subst h
    exact .nil
  | 0, d :: ds, _, _, _, h, q => by
    rw [IsL] at h
    obtain ⟨v, r, rfl, h2, h3⟩ := h
    exact .cons q h3
  | i + 1, d :: ds, _, _, _, h, q => by
    rw [IsL] at h
    obtain ⟨v, r, rfl, h2, h3⟩ := h
    exact .cons h2 (IsL.set i h3 q)
end

/-- F is the part that stands still, H all; from (F, H) to (F', H') objects only came, F' took none of those that H had beside F -/
structure Grow (P : Pm) (F H F' H' : Hp) : Prop where
  f : Ex F F'
  h : ExT H H'
  s : Sb P F' H'
  n : ∀ a o, F' a = some o → F a = some o ∨ NoD H a ∨ ∃ xs, o = .tup xs
section
variable {P : Pm}
theorem Grow.refl {F H : Hp} (s : Sb P F H) : Grow P F H F H := ⟨.refl F, .refl H, s, fun _ _ e => .inl e⟩
theorem Grow.trans {F H F1 H1 F2 H2 : Hp} (a : Grow P F H F1 H1) (b : Grow P F1 H1 F2 H2) : Grow P F H F2 H2 :=
  ⟨a.f.trans b.f, a.h.trans b.h, b.s, fun x o e => by
    rcases b.n x o e with q | q | q
    · exact a.n x o q
    · exact .inr (.inl (a.h.backN q))
    · exact .inr (.inr q)⟩
/-- a new object, kept still -/
theorem Grow.new {F H : Hp} {p : Addr} {o : HO} (s : Sb P F H) (h : H p = none) (ho : isT o = false := by rfl) : Grow P F H (upd F p o) (upd H p o) :=
  ⟨.new (s.back h), .new h, ⟨fun a u e => by
    by_cases q : a = p
    · subst q
      rw [upd_same] at e
      rw [upd_same]
      exact e
    · rw [upd_ne q] at e
      rw [upd_ne q]
      exact s.ex a u e, fun a u e => by
    by_cases q : a = p
    · subst q
      rw [upd_same] at e
      cases e
      exact ho
    · rw [upd_ne q] at e
      exact s.nt a u e, s.tabs.ext (Ex.new h)⟩, fun a u e => by
    by_cases q : a = p
    · subst q
      exact .inr (.inl (.of h))
    · rw [upd_ne q] at e
      exact .inl e⟩
/-- a new object that nobody keeps -/
theorem Grow.junk {F H H' : Hp} (s : Sb P F H) (e : Ex H H') : Grow P F H F H' := ⟨.refl F, e.t, s.ext e, fun _ _ e => .inl e⟩
end

/-! ### results -/
inductive Res (α : Type) where
  | ok (a : α)
  | err (c : Nat) (p : Option D)
  | bad
instance : Monad Res where
  pure := Res.ok
  bind r k := match r with
    | .ok a => k a
    | .err c p => .err c p
    | .bad => .bad
theorem Res.bind_ok {α β : Type} (a : α) (k : α → Res β) : ((Res.ok a : Res α) >>= k) = k a := rfl
theorem Res.bind_err {α β : Type} (c : Nat) (p : Option D) (k : α → Res β) : ((Res.err c p : Res α) >>= k) = Res.err c p := rfl
theorem Res.bind_bad {α β : Type} (k : α → Res β) : ((Res.bad : Res α) >>= k) = Res.bad := rfl
theorem Res.pure_eq {α : Type} (a : α) : (pure a : Res α) = .ok a := rfl

/-- an error of the program lies in the heap -/
def ErrAt (P : Pm) (F H : Hp) (c : Nat) : Option D → Option Addr → Prop
  | none, x => x = none
  | some d, x => ∃ a v, x = some a ∧ H a = some (.xd [(P.xf c, v)]) ∧ Is P F d v

/-! ### names -/
inductive B where
  | sh (d : D)
  | ow (d : D)
  | bw (d : D)
abbrev Env := List (Option B)
/-- an object of one's own: its content -/
def Own (P : Pm) (F H : Hp) (a : Addr) : D → Prop
  | .lst xs => ∃ vs, H a = some (.lst vs) ∧ IsL P F xs vs
  | .dK ks xs => ∃ vs, H a = some (.dK (ks.zip vs)) ∧ ks.length = vs.length ∧ IsL P F xs vs
  | .dT ks xs => ∃ vs, H a = some (.dT (ks.zip vs)) ∧ ks.length = vs.length ∧ IsL P F xs vs
  | .obj c xs => ∃ dx vs, H a = some (.ins (P.C c) dx ((P.nm c).zip vs)) ∧ vs.length ≤ (P.nm c).length ∧ IsL P F xs vs
  | _ => False
theorem Own.mono {P : Pm} {F F' H H' : Hp} {a : Addr} (e : Ex F F') (g : ExT H H') : ∀ {d : D}, Own P F H a d → Own P F' H' a d
  | .lst xs, ⟨vs, h1, h2⟩ => ⟨vs, g.dat h1, h2.mono e xs⟩
  | .dK ks xs, ⟨vs, h1, h2, h3⟩ => ⟨vs, g.dat h1, h2, h3.mono e xs⟩
  | .dT ks xs, ⟨vs, h1, h2, h3⟩ => ⟨vs, g.dat h1, h2, h3.mono e xs⟩
  | .obj c xs, ⟨dx, vs, h1, h2, h3⟩ => ⟨dx, vs, g.dat h1, h2, h3.mono e xs⟩
  | .non, h => h.elim
  | .bl _, h => h.elim
  | .int _, h => h.elim
  | .str _, h => h.elim
  | .tup _, h => h.elim
  | .scr _, h => h.elim

/-- a def's entry: what stood still, and self of an __init__ -/
structure Fz where
  F : Hp
  S : Option Addr
/-- the names' values by data. F0, H0: the def's entry -/
structure ER (P : Pm) (F0 : Fz) (H0 F : Hp) (ρ : Env) (σ : St) (H : Hp) : Prop where
  g : Grow P F0.F H0 F H
  self : ∀ x, F0.S = some x → σ[0]? = some (some (.ref x))
  len : ρ.length = σ.length
  sh : ∀ (i : Nat) d, ρ[i]? = some (some (.sh d)) → ∃ v, σ[i]? = some (some v) ∧ Is P F d v
  bw : ∀ (i : Nat) d, ρ[i]? = some (some (.bw d)) → ∃ v, σ[i]? = some (some v) ∧ Is P H0 d v
  ow : ∀ (i : Nat) d, ρ[i]? = some (some (.ow d)) → ∃ a, σ[i]? = some (some (.ref a)) ∧ NoD H0 a ∧ F a = none ∧ Own P F H a d
  nd : ∀ (i j : Nat) d e a, ρ[i]? = some (some (.ow d)) → ρ[j]? = some (some (.ow e)) → σ[i]? = some (some (.ref a)) → σ[j]? = some (some (.ref a)) → i = j
section
variable {P : Pm} {F0 : Fz} {H0 F F' H H' : Hp} {ρ : Env} {σ : St}
theorem Own.there {a : Addr} : ∀ {d : D}, Own P F H a d → ∃ o, H a = some o ∧ isD o = true
  | .lst xs, ⟨vs, h1, h2⟩ => ⟨_, h1, rfl⟩
  | .dK ks xs, ⟨vs, h1, h2, h3⟩ => ⟨_, h1, rfl⟩
  | .dT ks xs, ⟨vs, h1, h2, h3⟩ => ⟨_, h1, rfl⟩
  | .obj c xs, ⟨dx, vs, h1, h2, h3⟩ => ⟨_, h1, rfl⟩
  | .non, h => h.elim
  | .bl _, h => h.elim
  | .int _, h => h.elim
  | .str _, h => h.elim
  | .tup _, h => h.elim
  | .scr _, h => h.elim
theorem Own.notup {a : Addr} {H' : Hp} {o : HO} {xs : List V} (g : ExT H H') (e : H' a = some o) (z : o = .tup xs) : ∀ {d : D}, Own P F H a d → False
  | .lst _, ⟨vs, h1, h2⟩ => by
    have := g.dat h1
    rw [e, z] at this
    cases this
  | .dK _ _, ⟨vs, h1, h2, h3⟩ => by
    have := g.dat h1
    rw [e, z] at this
    cases this
  | .dT _ _, ⟨vs, h1, h2, h3⟩ => by
    have := g.dat h1
    rw [e, z] at this
    cases this
  | .obj _ _, ⟨dx, vs, h1, h2, h3⟩ => by
    have := g.dat h1
    rw [e, z] at this
    cases this
  | .non, h => h.elim
  | .bl _, h => h.elim
  | .int _, h => h.elim
  | .str _, h => h.elim
  | .tup _, h => h.elim
  | .scr _, h => h.elim
theorem ER.grow (r : ER P F0 H0 F ρ σ H) (g : Grow P F H F' H') : ER P F0 H0 F' ρ σ H' where
  g := r.g.trans g
  self := r.self
  len := r.len
  sh := fun i d e => by
    obtain ⟨v, h1, h2⟩ := r.sh i d e
    exact ⟨v, h1, h2.mono g.f d⟩
  bw := r.bw
  ow := fun i d e => by
    obtain ⟨a, h1, h2, h3, h4⟩ := r.ow i d e
    refine ⟨a, h1, h2, ?_, h4.mono g.f g.h⟩
    cases q : F' a with
    | none => rfl
    | some o =>
      rcases g.n a o q with z | z | ⟨xs, z⟩
      · rw [h3] at z
        cases z
      · obtain ⟨o', ho, hd⟩ := h4.there
        exact (z.no ho (isD_T hd)).elim
      · exact (h4.notup (g.h) (g.s.ex _ _ q) z).elim
  nd := r.nd
theorem get_set_self {α : Type} {l : List α} {i : Nat} {x : α} (h : i < l.length) : (l.set i x)[i]? = some x := by simp [h]
/-- a name gets a value -/
theorem ER.put (r : ER P F0 H0 F ρ σ H) (i : Nat) {d : D} {v : V} (h : Is P F d v) (hi0 : F0.S = none ∨ i ≠ 0) : ER P F0 H0 F (ρ.set i (some (.sh d))) (σ.set i (some v)) H where
  g := r.g
  self := fun x hx => by
    rcases hi0 with q | q
    · rw [q] at hx
      cases hx
    · rw [List.getElem?_set_ne q]
      exact r.self x hx
  len := by simp [r.len]
  sh := fun j e q => by
    by_cases hj : i = j
    · subst hj
      have hl : i < ρ.length := by
        rcases Nat.lt_or_ge i ρ.length with z | z
        · exact z
        · rw [List.getElem?_eq_none (by simpa using z)] at q
          cases q
      rw [get_set_self hl] at q
      cases q
      exact ⟨v, get_set_self (r.len ▸ hl), h⟩
    · rw [List.getElem?_set_ne hj] at q
      rw [List.getElem?_set_ne hj]
      exact r.sh j e q
  bw := fun j e q => by
    by_cases hj : i = j
    · subst hj
      have hl : i < ρ.length := by
        rcases Nat.lt_or_ge i ρ.length with z | z
        · exact z
        · rw [List.getElem?_eq_none (by simpa using z)] at q
          cases q
      rw [get_set_self hl] at q
      cases q
    · rw [List.getElem?_set_ne hj] at q
      rw [List.getElem?_set_ne hj]
      exact r.bw j e q
  ow := fun j e q => by
    by_cases hj : i = j
    · subst hj
      have hl : i < ρ.length := by
        rcases Nat.lt_or_ge i ρ.length with z | z
        · exact z
        · rw [List.getElem?_eq_none (by simpa using z)] at q
          cases q
      rw [get_set_self hl] at q
      cases q
    · rw [List.getElem?_set_ne hj] at q
      rw [List.getElem?_set_ne hj]
      exact r.ow j e q
  nd := fun j k d' e' a q1 q2 q3 q4 => by
    by_cases hj : i = j
    · subst hj
      have hl : i < ρ.length := by
        rcases Nat.lt_or_ge i ρ.length with z | z
        · exact z
        · rw [List.getElem?_eq_none (by simpa using z)] at q1
          cases q1
      rw [get_set_self hl] at q1
      cases q1
    · by_cases hk : i = k
      · subst hk
        have hl : i < ρ.length := by
          rcases Nat.lt_or_ge i ρ.length with z | z
          · exact z
          · rw [List.getElem?_eq_none (by simpa using z)] at q2
            cases q2
        rw [get_set_self hl] at q2
        cases q2
      · rw [List.getElem?_set_ne hj] at q1 q3
        rw [List.getElem?_set_ne hk] at q2 q4
        exact r.nd j k d' e' a q1 q2 q3 q4
/-- a name gets a borrowed value -/
theorem ER.putB (r : ER P F0 H0 F ρ σ H) (i : Nat) {d : D} {v : V} (h : Is P H0 d v) (hi0 : F0.S = none ∨ i ≠ 0) : ER P F0 H0 F (ρ.set i (some (.bw d))) (σ.set i (some v)) H where
  g := r.g
  self := fun x hx => by
    rcases hi0 with q | q
    · rw [q] at hx
      cases hx
    · rw [List.getElem?_set_ne q]
      exact r.self x hx
  len := by simp [r.len]
  sh := fun j e q => by
    by_cases hj : i = j
    · subst hj
      have hl : i < ρ.length := by
        rcases Nat.lt_or_ge i ρ.length with z | z
        · exact z
        · rw [List.getElem?_eq_none (by simpa using z)] at q
          cases q
      rw [get_set_self hl] at q
      cases q
    · rw [List.getElem?_set_ne hj] at q
      rw [List.getElem?_set_ne hj]
      exact r.sh j e q
  bw := fun j e q => by
    by_cases hj : i = j
    · subst hj
      have hl : i < ρ.length := by
        rcases Nat.lt_or_ge i ρ.length with z | z
        · exact z
        · rw [List.getElem?_eq_none (by simpa using z)] at q
          cases q
      rw [get_set_self hl] at q
      cases q
      exact ⟨v, get_set_self (r.len ▸ hl), h⟩
    · rw [List.getElem?_set_ne hj] at q
      rw [List.getElem?_set_ne hj]
      exact r.bw j e q
  ow := fun j e q => by
    by_cases hj : i = j
    · subst hj
      have hl : i < ρ.length := by
        rcases Nat.lt_or_ge i ρ.length with z | z
        · exact z
        · rw [List.getElem?_eq_none (by simpa using z)] at q
          cases q
      rw [get_set_self hl] at q
      cases q
    · rw [List.getElem?_set_ne hj] at q
      rw [List.getElem?_set_ne hj]
      exact r.ow j e q
  nd := fun j k d' e' a q1 q2 q3 q4 => by
    by_cases hj : i = j
    · subst hj
      have hl : i < ρ.length := by
        rcases Nat.lt_or_ge i ρ.length with z | z
        · exact z
        · rw [List.getElem?_eq_none (by simpa using z)] at q1
          cases q1
      rw [get_set_self hl] at q1
      cases q1
    · by_cases hk : i = k
      · subst hk
        have hl : i < ρ.length := by
          rcases Nat.lt_or_ge i ρ.length with z | z
          · exact z
          · rw [List.getElem?_eq_none (by simpa using z)] at q2
            cases q2
        rw [get_set_self hl] at q2
        cases q2
      · rw [List.getElem?_set_ne hj] at q1 q3
        rw [List.getElem?_set_ne hk] at q2 q4
        exact r.nd j k d' e' a q1 q2 q3 q4
end
end DL
namespace DL
open PySem L2

/-- a container as it stands in H, its items in F -/
def Vw (P : Pm) (F H : Hp) : D → V → Prop
  | .lst xs, v => ∃ a vs, v = .ref a ∧ Rd H a (.lst vs) ∧ IsL P F xs vs
  | .tup xs, v => ∃ a vs, v = .ref a ∧ F a = some (.tup vs) ∧ Rd H a (.tup vs) ∧ IsL P F xs vs
  | .dK ks xs, v => ∃ a vs, v = .ref a ∧ Rd H a (.dK (ks.zip vs)) ∧ ks.length = vs.length ∧ IsL P F xs vs
  | .dT ks xs, v => ∃ a vs, v = .ref a ∧ Rd H a (.dT (ks.zip vs)) ∧ ks.length = vs.length ∧ IsL P F xs vs
  | .obj c xs, v => ∃ a dx vs, v = .ref a ∧ H a = some (.ins (P.C c) dx ((P.nm c).zip vs)) ∧ vs.length ≤ (P.nm c).length ∧ IsL P F xs vs
  | .scr ns, v => ∃ a, v = .ref a ∧ SqL P.K H a (ns.map V.int)
  | .non, v => v = .non
  | .bl b, v => v = .bl b
  | .int i, v => v = .int i
  | .str s, v => v = .str s
section
variable {P : Pm} {F F' H H' : Hp}
theorem Is.vw (e : Sb P F H) : ∀ (d : D) {v : V}, Is P F d v → Vw P F H d v
  | .non, _, h => by rw [Is] at h; exact h
  | .bl b, _, h => by rw [Is] at h; exact h
  | .int i, _, h => by rw [Is] at h; exact h
  | .str s, _, h => by rw [Is] at h; exact h
  | .lst xs, _, h => by
    rw [Is] at h
    obtain ⟨a, vs, h1, h2, h3⟩ := h
    exact ⟨a, vs, h1, e.rd h2, h3⟩
  | .tup xs, _, h => by
    rw [Is] at h
    obtain ⟨a, vs, h1, h2, h3⟩ := h
    exact ⟨a, vs, h1, h2, .inl (e.ex _ _ h2), h3⟩
  | .dK ks xs, _, h => by
    rw [Is] at h
    obtain ⟨a, o, vs, h1, h2, h3, h4⟩ := h
    exact ⟨a, vs, h1, .inr ⟨o, e.ex _ _ h2⟩, h3, h4⟩
  | .dT ks xs, _, h => by
    rw [Is] at h
    obtain ⟨a, o, vs, h1, h2, h3, h4⟩ := h
    exact ⟨a, vs, h1, .inr ⟨o, e.ex _ _ h2⟩, h3, h4⟩
  | .obj c xs, _, h => by
    rw [Is] at h
    obtain ⟨a, dx, vs, h1, h2, h3, h4⟩ := h
    exact ⟨a, dx, vs, h1, e.ex _ _ h2, h3, h4⟩
  | .scr ns, _, h => by
    rw [Is] at h
    obtain ⟨a, h1, h2⟩ := h
    exact ⟨a, h1, e.sq h2⟩
theorem Own.vw {a : Addr} : ∀ {d : D}, Own P F H a d → Vw P F H d (.ref a)
  | .lst xs, ⟨vs, h1, h2⟩ => ⟨a, vs, rfl, .inl h1, h2⟩
  | .dK ks xs, ⟨vs, h1, h2, h3⟩ => ⟨a, vs, rfl, .inl h1, h2, h3⟩
  | .dT ks xs, ⟨vs, h1, h2, h3⟩ => ⟨a, vs, rfl, .inl h1, h2, h3⟩
  | .obj c xs, ⟨dx, vs, h1, h2, h3⟩ => ⟨a, dx, vs, rfl, h1, h2, h3⟩
  | .non, h => h.elim
  | .bl _, h => h.elim
  | .int _, h => h.elim
  | .str _, h => h.elim
  | .tup _, h => h.elim
  | .scr _, h => h.elim
theorem Vw.mono (e : Ex F F') (g : ExT H H') : ∀ (d : D) {v : V}, Vw P F H d v → Vw P F' H' d v
  | .non, _, h => h
  | .bl b, _, h => h
  | .int i, _, h => h
  | .str s, _, h => h
  | .lst xs, _, ⟨a, vs, h1, h2, h3⟩ => ⟨a, vs, h1, g.rd h2, h3.mono e xs⟩
  | .tup xs, _, ⟨a, vs, h1, h0, h2, h3⟩ => ⟨a, vs, h1, e _ _ h0, g.rd h2, h3.mono e xs⟩
  | .dK ks xs, _, ⟨a, vs, h1, h2, h3, h4⟩ => ⟨a, vs, h1, g.rd h2, h3, h4.mono e xs⟩
  | .dT ks xs, _, ⟨a, vs, h1, h2, h3, h4⟩ => ⟨a, vs, h1, g.rd h2, h3, h4.mono e xs⟩
  | .obj c xs, _, ⟨a, dx, vs, h1, h2, h3, h4⟩ => ⟨a, dx, vs, h1, g.dat h2, h3, h4.mono e xs⟩
  | .scr ns, _, ⟨a, h1, h2⟩ => ⟨a, h1, g.sq h2⟩
end

/-! ### what is wanted behind a result -/
abbrev Rel (α β : Type) := Hp → Hp → α → β → Prop
def PostG {α β : Type} (P : Pm) (W : WX) (rel : Rel α β) (r : Res α) (F : Hp) (σ : St) (H : Hp) (Q : β → Hp → Prop) : Prop :=
  match r with
  | .ok a => ∀ v F' H', Grow P F H F' H' → rel F' H' a v → Q v H'
  | .err c p => ∀ F' H' x, Grow P F H F' H' → ErrAt P F' H' c p x → W (P.xc c) x σ H'
  | .bad => False
section
variable {α β γ δ : Type} {P : Pm} {W : WX} {rel : Rel α β} {rel' : Rel γ δ} {F0 : Fz} {F F1 H H1 H0 : Hp} {σ : St}
theorem PostG.shift {r : Res α} {Q : β → Hp → Prop} (h : PostG P W rel r F σ H Q) (g : Grow P F H F1 H1) : PostG P W rel r F1 σ H1 Q := by
  cases r with
  | ok a => exact fun v F' H' g' q => h v F' H' (g.trans g') q
  | err c p => exact fun F' H' x g' q => h F' H' x (g.trans g') q
  | bad => exact h
theorem PostG.bind {r : Res α} {k : α → Res γ} {Q : δ → Hp → Prop} (h : PostG P W rel' (r >>= k) F σ H Q) :
    PostG P W rel r F σ H (fun v H1 => ∃ F1 a, Grow P F H F1 H1 ∧ rel F1 H1 a v ∧ PostG P W rel' (k a) F1 σ H1 Q) := by
  cases r with
  | ok a => exact fun v F' H' g' q => ⟨F', a, g', q, PostG.shift (r := k a) h g'⟩
  | err c p => exact h
  | bad => exact h
theorem PostG.imp {r : Res α} {Q Q' : β → Hp → Prop} (h : PostG P W rel r F σ H Q) (q : ∀ v H', Q v H' → Q' v H') : PostG P W rel r F σ H Q' := by
  cases r with
  | ok a => exact fun v F' H' g' z => q _ _ (h v F' H' g' z)
  | err c p => exact h
  | bad => exact h
theorem PostG.here {a : α} {Q : β → Hp → Prop} {v : β} (h : PostG P W rel (.ok a) F σ H Q) (s : Sb P F H) (q : rel F H a v) : Q v H := h v F H (.refl s) q
end
/-- readings by data -/
def tG {α β : Type} (P : Pm) (F0 : Fz) (H0 : Hp) (W : WX) (rel : Rel α β) (f : Env → Res α) : St → Hp → (β → Hp → Prop) → Prop :=
  fun σ H Q => ∃ F ρ, ER P F0 H0 F ρ σ H ∧ PostG P W rel (f ρ) F σ H Q
abbrev rIs (P : Pm) : Rel D V := fun F _ d v => Is P F d v
abbrev rVw (P : Pm) : Rel D V := fun F H d v => Vw P F H d v
abbrev rLs (P : Pm) : Rel (List D) (List V) := fun F _ d v => IsL P F d v
abbrev rBo : Rel Bool Bool := fun _ _ d v => v = d
abbrev tE (P : Pm) (F0 : Fz) (H0 : Hp) (W : WX) (f : Env → Res D) : TE := tG P F0 H0 W (rIs P) f
abbrev tV (P : Pm) (F0 : Fz) (H0 : Hp) (W : WX) (f : Env → Res D) : TE := tG P F0 H0 W (rVw P) f
abbrev tL (P : Pm) (F0 : Fz) (H0 : Hp) (W : WX) (f : Env → Res (List D)) : TA := tG P F0 H0 W (rLs P) f
abbrev tT (P : Pm) (F0 : Fz) (H0 : Hp) (W : WX) (f : Env → Res Bool) : TT := tG P F0 H0 W rBo f
theorem tG.bind {α β γ δ : Type} {P : Pm} {F0 : Fz} {H0 : Hp} {W : WX} {rel : Rel α β} {rel' : Rel γ δ} {f : Env → Res α} {k : Env → α → Res γ} {σ : St} {H : Hp} {Q : δ → Hp → Prop}
    (h : tG P F0 H0 W rel' (fun ρ => f ρ >>= k ρ) σ H Q) :
    tG P F0 H0 W rel f σ H (fun v H1 => ∃ F1 ρ a, ER P F0 H0 F1 ρ σ H1 ∧ rel F1 H1 a v ∧ PostG P W rel' (k ρ a) F1 σ H1 Q) := by
  obtain ⟨F, ρ, er, h⟩ := h
  exact ⟨F, ρ, er, (PostG.bind (rel := rel) h).imp fun v H1 ⟨F1, a, g, q, z⟩ => ⟨F1, ρ, a, er.grow g, q, z⟩⟩
theorem ER.s {P : Pm} {F0 : Fz} {H0 F H : Hp} {ρ : Env} {σ : St} (r : ER P F0 H0 F ρ σ H) : Sb P F H := r.g.s

/-! ### rules -/
theorem _root_.L2.PE.imp {X : Cx} {e : Expr} {t t' : TE} (h : PE X e t) (q : ∀ σ H Q, t' σ H Q → t σ H Q) : PE X e t' := ⟨fun pins s σ H Q I z => h.run pins s σ H Q I (q σ H Q z)⟩
theorem _root_.L2.PT.imp {X : Cx} {e : Expr} {t t' : TT} (h : PT X e t) (q : ∀ σ H Q, t' σ H Q → t σ H Q) : PT X e t' := ⟨fun pins s σ H Q I z => h.run pins s σ H Q I (q σ H Q z)⟩
theorem _root_.L2.PW.imp {X : Cx} {e : Expr} {t t' : TT} (h : PW X e t) (q : ∀ σ H Q, t' σ H Q → t σ H Q) : PW X e t' := ⟨fun w pins s σ H Q I z => h.run w pins s σ H Q I (q σ H Q z)⟩
theorem _root_.L2.PA.imp {X : Cx} {e : List Expr} {t t' : TA} (h : PA X e t) (q : ∀ σ H Q, t' σ H Q → t σ H Q) : PA X e t' := ⟨fun p pins s σ H Q I z => h.run p pins s σ H Q I (q σ H Q z)⟩
theorem _root_.L2.PS.imp {X : Cx} {e : Stmt} {t t' : TS} (h : PS X e t) (q : ∀ D σ H, t' D σ H → t D σ H) : PS X e t' := ⟨fun pins s σ H Q I z => h.run pins s σ H Q I (q Q σ H z)⟩
theorem _root_.L2.PSs.imp {X : Cx} {e : List Stmt} {t t' : TS} (h : PSs X e t) (q : ∀ D σ H, t' D σ H → t D σ H) : PSs X e t' := ⟨fun pins s σ H Q I z => h.run pins s σ H Q I (q Q σ H z)⟩

section
variable {X : Cx} {P : Pm} {F0 : Fz} {H0 : Hp} {W : WX} {a b c e : Expr} {es : List Expr} {fa fb fc : Env → Res D} {pos : Pos}
/-- a value may be looked at -/
theorem toV (h : PE X a (tE P F0 H0 W fa)) : PE X a (tV P F0 H0 W fa) := h.imp fun σ H Q ⟨F, ρ, er, z⟩ => ⟨F, ρ, er, by
  cases q : fa ρ with
  | ok d =>
    rw [q] at z
    exact fun v F' H' g i => z v F' H' g (i.vw g.s d)
  | err c p =>
    rw [q] at z
    exact z
  | bad =>
    rw [q] at z
    exact z⟩
def look (i : Nat) : Env → Res D := fun ρ => match ρ[i]? with
  | some (some (.sh d)) => .ok d
  | _ => .bad
def peek (i : Nat) : Env → Res D := fun ρ => match ρ[i]? with
  | some (some (.sh d)) => .ok d
  | some (some (.ow d)) => .ok d
  | _ => .bad
theorem pd_name (i : Nat) {x : Str} (hN : X.N[i]? = some x := by rfl) (hv : Vis X.env.scope x := by first | exact Or.inl rfl | exact Or.inr (Or.inl rfl) | exact Or.inr (Or.inr rfl)) (hd : (x == ("__debug__" : Str)) = false := by decide)
    (hcd : (x == ("__classdict__" : Str)) = false := by decide) : PE X (.Name x pos) (tE P F0 H0 W (look i)) := (pe_var hN hv hd hcd).imp fun σ H Q ⟨F, ρ, er, z⟩ => by
  unfold look at z
  split at z
  · rename_i d q
    obtain ⟨v, h1, h2⟩ := er.sh i d q
    exact ⟨v, h1, z.here er.s h2⟩
  · exact z.elim
theorem pd_peek (i : Nat) {x : Str} (hN : X.N[i]? = some x := by rfl) (hv : Vis X.env.scope x := by first | exact Or.inl rfl | exact Or.inr (Or.inl rfl) | exact Or.inr (Or.inr rfl)) (hd : (x == ("__debug__" : Str)) = false := by decide)
    (hcd : (x == ("__classdict__" : Str)) = false := by decide) : PE X (.Name x pos) (tV P F0 H0 W (peek i)) := (pe_var hN hv hd hcd).imp fun σ H Q ⟨F, ρ, er, z⟩ => by
  unfold peek at z
  split at z
  · rename_i d q
    obtain ⟨v, h1, h2⟩ := er.sh i d q
    exact ⟨v, h1, z.here er.s (h2.vw er.s d)⟩
  · rename_i d q
    obtain ⟨a, h1, _, _, h2⟩ := er.ow i d q
    exact ⟨.ref a, h1, z.here er.s h2.vw⟩
  · exact z.elim
theorem pd_const {v : V} {d : D} (h : PE X e (tC v)) (q : ∀ F, Is P F d v) : PE X e (tE P F0 H0 W (fun _ => .ok d)) := h.imp fun σ H Q ⟨F, ρ, er, z⟩ => z.here er.s (q F)
theorem pd_int {i j} : PE X (.Constant (.int i) j pos) (tE P F0 H0 W (fun _ => .ok (.int i))) := pd_const pe_int fun F => by rw [Is]
theorem pd_bl {i j} : PE X (.Constant (.bool i) j pos) (tE P F0 H0 W (fun _ => .ok (.bl i))) := pd_const pe_bl fun F => by rw [Is]
theorem pd_non {j} : PE X (.Constant .none j pos) (tE P F0 H0 W (fun _ => .ok .non)) := pd_const pe_non fun F => by rw [Is]
theorem pd_str {i j} : PE X (.Constant (.str i) j pos) (tE P F0 H0 W (fun _ => .ok (.str i))) := pd_const pe_str fun F => by rw [Is]

/-- a two-place operation by data -/
def OpD (X : Cx) (P : Pm) (W : WX) (f : Value → Value → Sem Value) (r : D → D → Res D) : Prop :=
  ∀ (pins : List (Addr × Obj)) (s : Shared) (σ : St) (F H : Hp) (x y : V) (u v : Value) (dx dy : D) (Q : VK), Inv X pins σ H s → RelV x u → RelV y v → Sb P F H → Vw P F H dx x → Vw P F H dy y → PostG P W (rIs P) (r dx dy) F σ H Q →
    wpAny (model X.prog X.w) X.A (f u v) (EP X pins σ Q) X.xe s
def UnD (X : Cx) (P : Pm) (W : WX) (f : Value → Sem Value) (r : D → Res D) : Prop :=
  ∀ (pins : List (Addr × Obj)) (s : Shared) (σ : St) (F H : Hp) (x : V) (u : Value) (dx : D) (Q : VK), Inv X pins σ H s → RelV x u → Sb P F H → Vw P F H dx x → PostG P W (rIs P) (r dx) F σ H Q →
    wpAny (model X.prog X.w) X.A (f u) (EP X pins σ Q) X.xe s
def CallD (X : Cx) (P : Pm) (W : WX) (f : Value) (r : List D → Res D) : Prop :=
  ∀ (pins : List (Addr × Obj)) (s : Shared) (σ : St) (F H : Hp) (xs : List V) (us : List Value) (ds : List D) (Q : VK), Inv X pins σ H s → Vals xs us → Sb P F H → IsL P F ds xs → PostG P W (rIs P) (r ds) F σ H Q →
    wpAny (model X.prog X.w) X.A (call f us) (EP X pins σ Q) X.xe s
variable {op : Operator} {cop : CmpOp} {r : D → D → Res D}
/-- what two operands ask -/
theorem two_of {k : D → D → Res D} {σ : St} {H : Hp} {Q : VK} (h : tE P F0 H0 W (fun ρ => do let x ← fa ρ; let y ← fb ρ; k x y) σ H Q) :
    tV P F0 H0 W fa σ H fun x H1 => tV P F0 H0 W fb σ H1 fun y H2 => ∃ F dx dy, Sb P F H2 ∧ Vw P F H2 dx x ∧ Vw P F H2 dy y ∧ PostG P W (rIs P) (k dx dy) F σ H2 Q := by
  obtain ⟨F, ρ, er, z⟩ := h
  refine ⟨F, ρ, er, (PostG.bind (rel := rVw P) z).imp ?_⟩
  rintro x H1 ⟨F1, dx, g1, i1, z1⟩
  refine ⟨F1, ρ, er.grow g1, (PostG.bind (rel := rVw P) z1).imp ?_⟩
  rintro y H2 ⟨F2, dy, g2, i2, z2⟩
  exact ⟨F2, dx, dy, g2.s, i1.mono g2.f g2.h dx, i2, z2⟩
theorem pd_op (ho : OpD X P W (binaryOp op) r) (ha : PE X a (tV P F0 H0 W fa)) (hb : PE X b (tV P F0 H0 W fb)) : PE X (.BinOp a op b pos) (tE P F0 H0 W (fun ρ => do let x ← fa ρ; let y ← fb ρ; r x y)) := by
  refine ⟨fun pins s σ H Q I h => ?_⟩
  exact wpAny_BinOp (binT ha hb I (two_of h) fun v u s2 x y H2 I2 rx ry ⟨F, dx, dy, e, i1, i2, q⟩ => ho pins s2 σ F H2 x y v u dx dy Q I2 rx ry e i1 i2 q)
theorem pd_un {op : UnaryOp} {r : D → Res D} (ho : UnD X P W (unaryOp op) r) (ha : PE X a (tV P F0 H0 W fa)) : PE X (.UnaryOp op a pos) (tE P F0 H0 W (fun ρ => do let x ← fa ρ; r x)) := by
  refine ⟨fun pins s σ H Q I h => ?_⟩
  exact PyProof.Rows.UnaryOp_ (thn (ha.run pins s σ H _ I (tG.bind (rel := rVw P) (f := fa) (k := fun _ x => r x) h)) fun v s1 ⟨x, H1, I1, r1, F1, ρ, d, er, i1, q1⟩ => ho pins s1 σ F1 H1 x v d Q I1 r1 er.s i1 q1)
/-- the same of a comparison -/
theorem pd_cmp (ho : OpD X P W (compareOp cop) r) (ha : PE X a (tV P F0 H0 W fa)) (hb : PE X b (tV P F0 H0 W fb)) (hm : behindInMarks cop b = false) : PE X (.Compare a [cop] [b] pos) (tE P F0 H0 W (fun ρ => do let x ← fa ρ; let y ← fb ρ; r x y)) := by
  refine pe_cmp (t := tE P F0 H0 W (fun ρ => do let x ← fa ρ; let y ← fb ρ; r x y)) ⟨fun pins s σ H Q I h => ?_⟩ hm
  exact binT ha hb I (two_of h) fun v u s2 x y H2 I2 rx ry ⟨F, dx, dy, e, i1, i2, q⟩ => ho pins s2 σ F H2 x y v u dx dy Q I2 rx ry e i1 i2 q
end
end DL
namespace DL
open PySem L2

def bo : D → Res Bool
  | .bl b => .ok b
  | _ => .bad
def opt {α : Type} : Option α → Res α
  | some a => .ok a
  | none => .bad
section
variable {X : Cx} {P : Pm} {F0 : Fz} {H0 : Hp} {W : WX} {a b c e : Expr} {es : List Expr} {fa fb fc : Env → Res D} {ga gb gc : Env → Res Bool} {pos : Pos} {σ : St} {H F : Hp}
theorem bo_of {x : D} {v : V} {Q : Bool → Hp → Prop} (s : Sb P F H) (i : Is P F x v) (h : PostG P W rBo (bo x) F σ H Q) : ∃ k, v = .bl k ∧ Q k H := by
  cases x with
  | bl k =>
    rw [Is] at i
    exact ⟨k, i, h.here s rfl⟩
  | _ => exact h.elim
/-! ### tests -/
theorem tB_of {f : Env → Res D} {Q : Bool → Hp → Prop} (h : tT P F0 H0 W (fun ρ => f ρ >>= bo) σ H Q) : tB (tE P F0 H0 W f) σ H Q := by
  obtain ⟨F, ρ, er, z⟩ := h
  refine ⟨F, ρ, er, (PostG.bind (rel := rIs P) z).imp ?_⟩
  rintro v H1 ⟨F1, d, g, i, q⟩
  exact bo_of g.s i q
theorem td_val (h : PE X e (tE P F0 H0 W fa)) (he : ∀ whole, isTrue e X.env whole = (do let v ← whole; standAt e.pos; holding [v] (truthy v)) := by intro _; rfl) : PT X e (tT P F0 H0 W (fun ρ => fa ρ >>= bo)) :=
  (pt_val h he).imp fun _ _ _ z => tB_of z
theorem pd_pc {cop : CmpOp} {r : D → D → Res D} (ho : OpD X P W (compareOp cop) r) (ha : PE X a (tV P F0 H0 W fa)) (hb : PE X b (tV P F0 H0 W fb)) : PC X cop a b (tE P F0 H0 W (fun ρ => do let x ← fa ρ; let y ← fb ρ; r x y)) :=
  ⟨fun pins s σ H Q I h => binT ha hb I (two_of h) fun v u s2 x y H2 I2 rx ry ⟨F, dx, dy, e, i1, i2, q⟩ => ho pins s2 σ F H2 x y v u dx dy Q I2 rx ry e i1 i2 q⟩
theorem td_cmp {cop : CmpOp} {r : D → D → Res D} (ho : OpD X P W (compareOp cop) r) (ha : PE X a (tV P F0 H0 W fa)) (hb : PE X b (tV P F0 H0 W fb)) (hm : behindInMarks cop b = false) :
    PT X (.Compare a [cop] [b] pos) (tT P F0 H0 W (fun ρ => (do let x ← fa ρ; let y ← fb ρ; r x y) >>= bo)) := (pt_cmp (pd_pc ho ha hb) hm).imp fun _ _ _ z => tB_of z
theorem td_not (h : PT X a (tT P F0 H0 W ga)) : PT X (.UnaryOp .Not a pos) (tT P F0 H0 W (fun ρ => do let x ← ga ρ; .ok (!x))) := (pt_not h).imp fun σ H Q ⟨F, ρ, er, z⟩ => by
  refine ⟨F, ρ, er, (PostG.bind (rel := rBo) z).imp ?_⟩
  rintro v H1 ⟨F1, d, g, i, q⟩
  subst i
  exact q.here g.s rfl
theorem td_and1 (h : PT X a (tT P F0 H0 W ga)) : PW X (.BoolOp .And [a] pos) (tT P F0 H0 W ga) := pw_and1 h
theorem td_or1 (h : PT X a (tT P F0 H0 W ga)) : PW X (.BoolOp .Or [a] pos) (tT P F0 H0 W ga) := pw_or1 h
theorem td_and {rest : List Expr} (ha : PT X a (tT P F0 H0 W ga)) (hb : PW X (.BoolOp .And (b :: rest) pos) (tT P F0 H0 W gb)) : PW X (.BoolOp .And (a :: b :: rest) pos) (tT P F0 H0 W (fun ρ => do let x ← ga ρ; if x = true then gb ρ else .ok false)) :=
  (pw_and ha hb).imp fun σ H Q ⟨F, ρ, er, z⟩ => by
  refine ⟨F, ρ, er, (PostG.bind (rel := rBo) z).imp ?_⟩
  rintro v H1 ⟨F1, d, g, i, q⟩
  subst i
  split
  · rename_i hv
    rw [if_pos hv] at q
    exact ⟨F1, ρ, er.grow g, q⟩
  · rename_i hv
    rw [if_neg hv] at q
    exact q.here g.s rfl
theorem td_or {rest : List Expr} (ha : PT X a (tT P F0 H0 W ga)) (hb : PW X (.BoolOp .Or (b :: rest) pos) (tT P F0 H0 W gb)) : PW X (.BoolOp .Or (a :: b :: rest) pos) (tT P F0 H0 W (fun ρ => do let x ← ga ρ; if x = true then .ok true else gb ρ)) :=
  (pw_or ha hb).imp fun σ H Q ⟨F, ρ, er, z⟩ => by
  refine ⟨F, ρ, er, (PostG.bind (rel := rBo) z).imp ?_⟩
  rintro v H1 ⟨F1, d, g, i, q⟩
  subst i
  split
  · rename_i hv
    rw [if_pos hv] at q
    exact q.here g.s rfl
  · rename_i hv
    rw [if_neg hv] at q
    exact ⟨F1, ρ, er.grow g, q⟩
/-! ### and, or, not as values (bools), a if t else b -/
theorem pd_one {op} (h : PE X a (tE P F0 H0 W fa)) : PE X (.BoolOp op [a] pos) (tE P F0 H0 W fa) := pe_one h
theorem pd_and {rest : List Expr} (ha : PE X a (tE P F0 H0 W fa)) (hb : PE X (.BoolOp .And (b :: rest) pos) (tE P F0 H0 W fb)) : PE X (.BoolOp .And (a :: b :: rest) pos) (tE P F0 H0 W (fun ρ => do let x ← fa ρ; let k ← bo x; if k = true then fb ρ else .ok (.bl false))) :=
  (pe_and ha hb).imp fun σ H Q ⟨F, ρ, er, z⟩ => by
  refine ⟨F, ρ, er, (PostG.bind (rel := rIs P) z).imp ?_⟩
  rintro v H1 ⟨F1, d, g, i, q⟩
  obtain ⟨k, hk, F2, k', g2, e2, q⟩ := bo_of g.s i (PostG.bind (rel := rBo) q)
  subst e2
  refine ⟨k, hk, ?_⟩
  split
  · rename_i hv
    rw [if_pos hv] at q
    exact ⟨F2, ρ, (er.grow g).grow g2, q⟩
  · rename_i hv
    rw [if_neg hv] at q
    exact q.here g2.s (by show Is P F2 (.bl false) _; rw [Is])
theorem pd_or {rest : List Expr} (ha : PE X a (tE P F0 H0 W fa)) (hb : PE X (.BoolOp .Or (b :: rest) pos) (tE P F0 H0 W fb)) : PE X (.BoolOp .Or (a :: b :: rest) pos) (tE P F0 H0 W (fun ρ => do let x ← fa ρ; let k ← bo x; if k = true then .ok (.bl true) else fb ρ)) :=
  (pe_or ha hb).imp fun σ H Q ⟨F, ρ, er, z⟩ => by
  refine ⟨F, ρ, er, (PostG.bind (rel := rIs P) z).imp ?_⟩
  rintro v H1 ⟨F1, d, g, i, q⟩
  obtain ⟨k, hk, F2, k', g2, e2, q⟩ := bo_of g.s i (PostG.bind (rel := rBo) q)
  subst e2
  refine ⟨k, hk, ?_⟩
  split
  · rename_i hv
    rw [if_pos hv] at q
    exact q.here g2.s (by show Is P F2 (.bl true) _; rw [Is])
  · rename_i hv
    rw [if_neg hv] at q
    exact ⟨F2, ρ, (er.grow g).grow g2, q⟩
theorem pd_not (ha : PE X a (tE P F0 H0 W fa)) : PE X (.UnaryOp .Not a pos) (tE P F0 H0 W (fun ρ => do let x ← fa ρ; let k ← bo x; .ok (.bl (!k)))) :=
  (pe_not ha).imp fun σ H Q ⟨F, ρ, er, z⟩ => by
  refine ⟨F, ρ, er, (PostG.bind (rel := rIs P) z).imp ?_⟩
  rintro v H1 ⟨F1, d, g, i, q⟩
  obtain ⟨k, hk, F2, k', g2, e2, q⟩ := bo_of g.s i (PostG.bind (rel := rBo) q)
  subst e2
  exact ⟨k, hk, q.here g2.s (by show Is P F2 (.bl _) _; rw [Is])⟩
theorem pd_if (hc : PT X c (tT P F0 H0 W gc)) (ha : PE X a (tE P F0 H0 W fa)) (hb : PE X b (tE P F0 H0 W fb)) : PE X (.IfExp c a b pos) (tE P F0 H0 W (fun ρ => do let k ← gc ρ; if k = true then fa ρ else fb ρ)) :=
  (pe_ifExp hc ha hb).imp fun σ H Q ⟨F, ρ, er, z⟩ => by
  refine ⟨F, ρ, er, (PostG.bind (rel := rBo) z).imp ?_⟩
  rintro v H1 ⟨F1, d, g, i, q⟩
  subst i
  split
  · rename_i hv
    rw [if_pos hv] at q
    exact ⟨F1, ρ, er.grow g, q⟩
  · rename_i hv
    rw [if_neg hv] at q
    exact ⟨F1, ρ, er.grow g, q⟩
end

/-! ### argument lists -/
def VwL (P : Pm) (F H : Hp) : List D → List V → Prop
  | [], vs => vs = []
  | d :: ds, vs => ∃ v r, vs = v :: r ∧ Vw P F H d v ∧ VwL P F H ds r
abbrev rVs (P : Pm) : Rel (List D) (List V) := fun F H d v => VwL P F H d v
abbrev tW (P : Pm) (F0 : Fz) (H0 : Hp) (W : WX) (f : Env → Res (List D)) : TA := tG P F0 H0 W (rVs P) f
theorem VwL.mono {P : Pm} {F F' H H' : Hp} (e : Ex F F') (g : ExT H H') : ∀ (ds : List D) {vs : List V}, VwL P F H ds vs → VwL P F' H' ds vs
  | [], _, h => h
  | d :: ds, _, ⟨v, r, h1, h2, h3⟩ => ⟨v, r, h1, h2.mono e g d, VwL.mono e g ds h3⟩
theorem IsL.vw {P : Pm} {F H : Hp} (e : Sb P F H) : ∀ (ds : List D) {vs : List V}, IsL P F ds vs → VwL P F H ds vs
  | [], _, h => by rw [IsL] at h; exact h
  | d :: ds, _, h => by
    rw [IsL] at h
    obtain ⟨v, r, h1, h2, h3⟩ := h
    exact ⟨v, r, h1, h2.vw e d, IsL.vw e ds h3⟩
section
variable {X : Cx} {P : Pm} {F0 : Fz} {H0 : Hp} {W : WX} {a b c e : Expr} {es : List Expr} {fa fb fc : Env → Res D} {fs : Env → Res (List D)} {pos p : Pos} {σ : St} {H F : Hp}
theorem ad_nil : PA X [] (tL P F0 H0 W (fun _ => .ok [])) := pa_nil.imp fun σ H Q ⟨F, ρ, er, z⟩ => z.here er.s .nil
theorem ad_cons (ha : PE X e (tE P F0 H0 W fa)) (hr : PA X es (tL P F0 H0 W fs)) (hs : starEach (e :: es) X.env = (false, eval e X.env) :: starEach es X.env := by rfl) :
    PA X (e :: es) (tL P F0 H0 W (fun ρ => do let x ← fa ρ; let xs ← fs ρ; .ok (x :: xs))) := (pa_cons ha hr hs).imp fun σ H Q ⟨F, ρ, er, z⟩ => by
  refine ⟨F, ρ, er, (PostG.bind (rel := rIs P) z).imp ?_⟩
  rintro v H1 ⟨F1, d, g, i, q⟩
  refine ⟨F1, ρ, er.grow g, (PostG.bind (rel := rLs P) q).imp ?_⟩
  rintro vs H2 ⟨F2, ds, g2, i2, q2⟩
  exact q2.here g2.s (.cons (i.mono g2.f d) i2)
theorem av_nil : PA X [] (tW P F0 H0 W (fun _ => .ok [])) := pa_nil.imp fun σ H Q ⟨F, ρ, er, z⟩ => z.here er.s rfl
theorem av_cons (ha : PE X e (tV P F0 H0 W fa)) (hr : PA X es (tW P F0 H0 W fs)) (hs : starEach (e :: es) X.env = (false, eval e X.env) :: starEach es X.env := by rfl) :
    PA X (e :: es) (tW P F0 H0 W (fun ρ => do let x ← fa ρ; let xs ← fs ρ; .ok (x :: xs))) := (pa_cons ha hr hs).imp fun σ H Q ⟨F, ρ, er, z⟩ => by
  refine ⟨F, ρ, er, (PostG.bind (rel := rVw P) z).imp ?_⟩
  rintro v H1 ⟨F1, d, g, i, q⟩
  refine ⟨F1, ρ, er.grow g, (PostG.bind (rel := rVs P) q).imp ?_⟩
  rintro vs H2 ⟨F2, ds, g2, i2, q2⟩
  exact q2.here g2.s ⟨_, _, rfl, i.mono g2.f g2.h d, i2⟩

/-! ### new containers -/
/-- a new object at p, nobody's yet -/
def rNw (P : Pm) (H : Hp) : Rel D V := fun F' H' d v => ∃ p, v = .ref p ∧ NoD H p ∧ F' p = none ∧ Own P F' H' p d
def tN (P : Pm) (F0 : Fz) (H0 : Hp) (W : WX) (f : Env → Res D) : TE := fun σ H Q => ∃ F ρ, ER P F0 H0 F ρ σ H ∧ PostG P W (rNw P H) (f ρ) F σ H Q
def notDict : D → Bool
  | .dK _ _ => false
  | .dT _ _ => false
  | _ => true
/-- an object of one's own is kept still from now on -/
theorem Sb.keep {P : Pm} {F H : Hp} {p : Addr} {o : HO} (s : Sb P F H) (h0 : F p = none) (h1 : H p = some o) (ho : isT o = false) : Sb P (upd F p o) H := ⟨fun a u e => by
    by_cases q : a = p
    · subst q; rw [upd_same] at e; cases e; exact h1
    · rw [upd_ne q] at e; exact s.ex a u e, fun a u e => by
    by_cases q : a = p
    · subst q; rw [upd_same] at e; cases e; exact ho
    · rw [upd_ne q] at e; exact s.nt a u e, s.tabs⟩
theorem upd_or {F : Hp} {p : Addr} {o : HO} : ∀ a u, upd F p o a = some u → F a = some u ∨ a = p := fun a u e => by
  by_cases q : a = p
  · exact .inr q
  · rw [upd_ne q] at e; exact .inl e
theorem Own.still {P : Pm} {F H : Hp} {p : Addr} (s : Sb P F H) (h0 : F p = none) : ∀ {d : D}, notDict d = true → Own P F H p d → ∃ F', Ex F F' ∧ Sb P F' H ∧ Is P F' d (.ref p) ∧ ∀ a o, F' a = some o → F a = some o ∨ a = p
  | .lst xs, _, ⟨vs, h1, h2⟩ => ⟨upd F p (.lst vs), .new h0, s.keep h0 h1 rfl, by rw [Is]; exact ⟨p, vs, rfl, .inl upd_same, h2.mono (.new h0) xs⟩, upd_or⟩
  | .obj c xs, _, ⟨dx, vs, h1, h2, h3⟩ => ⟨upd F p (.ins (P.C c) dx ((P.nm c).zip vs)), .new h0, s.keep h0 h1 rfl, by rw [Is]; exact ⟨p, dx, vs, rfl, upd_same, h2, h3.mono (.new h0) xs⟩, upd_or⟩
  | .dK _ _, z, _ => by cases z
  | .dT _ _, z, _ => by cases z
  | .non, _, h => h.elim
  | .bl _, _, h => h.elim
  | .int _, _, h => h.elim
  | .str _, _, h => h.elim
  | .tup _, _, h => h.elim
  | .scr _, _, h => h.elim
theorem Sb.lock {P : Pm} {F H : Hp} {p : Addr} {u : HO} {od : Obj} (s : Sb P F H) (h0 : F p = none) (h1 : H p = some u) (hu : isD u = true) : Sb P (upd F p (.frz od u)) (upd H p (.frz od u)) := ⟨fun a v e => by
    by_cases q : a = p
    · subst q; rw [upd_same] at e; rw [upd_same]; exact e
    · rw [upd_ne q] at e; rw [upd_ne q]; exact s.ex a v e, fun a v e => by
    by_cases q : a = p
    · subst q; rw [upd_same] at e; cases e; rfl
    · rw [upd_ne q] at e; exact s.nt a v e, Tabs.upd s.tabs h1 hu⟩
/-- the same with the heap's reading: a dict is locked -/
theorem Own.stillI {X : Cx} {pins : List (Addr × Obj)} {σ : St} {s : Shared} {P : Pm} {F H : Hp} {p : Addr} (I : Inv X pins σ H s) (sb : Sb P F H) (h0 : F p = none) : ∀ {d : D}, Own P F H p d → ∃ F' H', Inv X pins σ H' s ∧ Ex F F' ∧ Sb P F' H' ∧ Is P F' d (.ref p) ∧ (∀ a o, F' a = some o → F a = some o ∨ a = p) ∧ ∀ b, b ≠ p → H' b = H b
  | .lst xs, h => by
    obtain ⟨F', a1, a2, a3, a4⟩ := h.still sb h0 rfl
    exact ⟨F', H, I, a1, a2, a3, a4, fun _ _ => rfl⟩
  | .obj c xs, h => by
    obtain ⟨F', a1, a2, a3, a4⟩ := h.still sb h0 rfl
    exact ⟨F', H, I, a1, a2, a3, a4, fun _ _ => rfl⟩
  | .dK ks xs, ⟨vs, h1, h2, h3⟩ => by
    obtain ⟨od, I2⟩ := I.lock h1 True.intro
    exact ⟨_, _, I2, .new h0, sb.lock h0 h1 rfl, by rw [Is]; exact ⟨p, od, vs, rfl, upd_same, h2, h3.mono (.new h0) xs⟩, upd_or, fun b hb => upd_ne hb⟩
  | .dT ks xs, ⟨vs, h1, h2, h3⟩ => by
    obtain ⟨od, I2⟩ := I.lock h1 True.intro
    exact ⟨_, _, I2, .new h0, sb.lock h0 h1 rfl, by rw [Is]; exact ⟨p, od, vs, rfl, upd_same, h2, h3.mono (.new h0) xs⟩, upd_or, fun b hb => upd_ne hb⟩
  | .non, h => h.elim
  | .bl _, h => h.elim
  | .int _, h => h.elim
  | .str _, h => h.elim
  | .tup _, h => h.elim
  | .scr _, h => h.elim
theorem Grow.still {P : Pm} {F H F1 H1 F2 H2 : Hp} {p : Addr} (g : Grow P F H F1 H1) (hp : NoD H p) (e1 : Ex F1 F2) (e2 : Sb P F2 H2) (n : ∀ a o, F2 a = some o → F1 a = some o ∨ a = p) (off : ∀ b, b ≠ p → H2 b = H1 b) : Grow P F H F2 H2 :=
  ⟨g.f.trans e1, ⟨fun a o h hn => by rw [off a (hp.ne h hn)]; exact g.h.at_ a o h hn⟩, e2, fun a o ha => by
    rcases n a o ha with y | y
    · exact g.n a o y
    · exact .inr (.inl (y ▸ hp))⟩
theorem n2e (h : PE X e (tN P F0 H0 W fa)) : PE X e (tE P F0 H0 W fa) := by
  refine ⟨fun pins s σ H Q I h0 => ?_⟩
  obtain ⟨F, ρ, er, z⟩ := h0
  refine thn (h.run pins s σ H (fun v H1 => ∃ F1 d, fa ρ = .ok d ∧ Grow P F H F1 H1 ∧ rNw P H F1 H1 d v) I ⟨F, ρ, er, ?_⟩) ?_
  · cases q : fa ρ with
    | ok d => exact fun v F' H' g r => ⟨F', d, rfl, g, r⟩
    | err c p =>
      rw [q] at z
      exact z
    | bad =>
      rw [q] at z
      exact z
  · rintro u s1 ⟨v, H1, I1, r, F1, d, hf, g, p, rfl, hp, hF, ho⟩
    obtain ⟨F2, H2, I2, a1, a2, a3, a4, a5⟩ := ho.stillI I1 g.s hF
    replace z : PostG P W (rIs P) (fa ρ) F σ H Q := z
    rw [hf] at z
    exact ⟨_, H2, I2, r, z _ F2 H2 (g.still hp a1 a2 a4 a5) a3⟩
def small (n : Nat) : Bool := decide (n ≤ 1000000)
theorem small_le {n : Nat} (h : small n = true) : n ≤ sizeLine := Nat.le_trans (of_decide_eq_true h) (by decide)
theorem small_lt {n : Nat} (h : small n = true) : n < sizeLine := Nat.lt_of_le_of_lt (of_decide_eq_true h) (by decide)
def mkL (xs : List D) : Res D := if small xs.length = true then .ok (.lst xs) else .bad
def mkT (xs : List D) : Res D := if small xs.length = true then .ok (.tup xs) else .bad
theorem nd_lst (h : PA X es (tL P F0 H0 W fs)) : PE X (.List es pos) (tN P F0 H0 W (fun ρ => fs ρ >>= mkL)) := (pe_lst h).imp fun σ H Q ⟨F, ρ, er, z⟩ => by
  refine ⟨F, ρ, er, (PostG.bind (rel := rLs P) z).imp ?_⟩
  rintro vs H1 ⟨F1, ds, g, i, q⟩
  unfold mkL at q
  split at q
  · rename_i hz
    refine ⟨by rw [← i.length]; exact small_le hz, fun p hp => ?_⟩
    exact q _ F1 _ (.junk g.s (.new hp)) ⟨p, rfl, g.h.back hp, g.s.back hp, vs, upd_same, i⟩
  · exact q.elim
theorem pd_lst (h : PA X es (tL P F0 H0 W fs)) : PE X (.List es pos) (tE P F0 H0 W (fun ρ => fs ρ >>= mkL)) := n2e (nd_lst h)
theorem pd_tup {x1} (h : PA X es (tL P F0 H0 W fs)) : PE X (.Tuple es x1 pos) (tE P F0 H0 W (fun ρ => fs ρ >>= mkT)) := (pe_tup h).imp fun σ H Q ⟨F, ρ, er, z⟩ => by
  refine ⟨F, ρ, er, (PostG.bind (rel := rLs P) z).imp ?_⟩
  rintro vs H1 ⟨F1, ds, g, i, q⟩
  unfold mkT at q
  split at q
  · rename_i hz
    refine ⟨by rw [← i.length]; exact small_le hz, fun p hp => ?_⟩
    exact q _ (upd F1 p (.tup vs)) _ (.new g.s hp) (by show Is P _ (.tup ds) _; rw [Is]; exact ⟨p, vs, rfl, upd_same, i.mono (.new (g.s.back hp)) ds⟩)
  · exact q.elim
end
end DL
namespace DL
open PySem L2

/-! ### promises by data -/
def fnG (n : Nat) (G : List D → Res D) (ds : List D) : Res D := if ds.length = n then G ds else .bad
abbrev WE0 (E : XK) : WX := fun cls x _ H => E cls x H
def spD (P : Pm) (n : Nat) (G : List D → Res D) : Sp := fun vs H Q E => ∃ F ds, Sb P F H ∧ IsL P F ds vs ∧ ds.length = n ∧ PostG P (WE0 E) (rIs P) (G ds) F [] H Q
def minus (H : Hp) (x : Addr) : Hp := fun a => if a = x then none else H a
theorem minus_same {H : Hp} {x : Addr} : minus H x x = none := by unfold minus; rw [if_pos rfl]
theorem minus_ne {H : Hp} {x a : Addr} (h : a ≠ x) : minus H x a = H a := by unfold minus; rw [if_neg h]
theorem minus_ex {H : Hp} {x : Addr} : Ex (minus H x) H := fun a o e => by
  by_cases q : a = x
  · subst q
    rw [minus_same] at e
    cases e
  · rw [minus_ne q] at e
    exact e
/-- __init__: the attributes that it sets -/
def spI (P : Pm) (c n : Nat) (G : List D → Res (List D)) : Sp := fun vs H Q E => ∃ x dx args F ds, vs = .ref x :: args ∧ H x = some (.ins (P.C c) dx []) ∧ F x = none ∧ Sb P F H ∧ IsL P F ds args ∧ ds.length = n ∧
  PostG P (WE0 E) (fun F' _ fs v => v = .non ∧ Is P F' (.obj c fs) (.ref x)) (G ds) F [] (minus H x) Q
section
variable {X : Cx} {P : Pm} {F0 : Fz} {H0 : Hp} {W : WX} {a b c e o : Expr} {es : List Expr} {fa fb fc : Env → Res D} {fs : Env → Res (List D)} {pos p apos : Pos} {σ : St} {H F : Hp}
variable {k n : Nat} {f C : Addr} {fd : FuncData} {ps : List Str} {dvs : List V} {dds : List D} {dv : List Value} {x m : Str} {G : List D → Res D} {GI : List D → Res (List D)}
/-- defaults as data -/
def Dfl (P : Pm) (dvs : List V) (dds : List D) : Prop := ∀ F : Hp, IsL P F dds dvs
theorem Dfl.nil : Dfl P [] [] := fun _ => .nil
theorem Dfl.int {i : Int} : Dfl P [.int i] [.int i] := fun _ => .cons (by rw [Is]) .nil
theorem PostG.sig {α β : Type} {rel : Rel α β} {r : Res α} {Q : β → Hp → Prop} (h : PostG P W rel r F σ H Q) : PostG P (WE0 fun cls x H => W cls x σ H) rel r F [] H Q := by
  cases r with
  | ok a => exact h
  | err c p => exact h
  | bad => exact h
theorem fnG_of {ds : List D} {F H : Hp} {Q : VK} {vs : List V} {E : XK} (hd : Dfl P dvs dds) (s : Sb P F H) (i : IsL P F ds vs) (h : PostG P (WE0 E) (rIs P) (fnG n G (ds ++ dds)) F [] H Q) : spD P n G (vs ++ dvs) H Q E := by
  unfold fnG at h
  split at h
  · rename_i hl
    exact ⟨F, ds ++ dds, s, i.append (hd F), hl, h⟩
  · exact h.elim
/-- f(e, ..) -/
theorem pd_call (Fn : FnOk X.prog X.w X.K X.mg X.base (L2.CX X.prog X.w) k f fd ps (spD P n G)) (hr : Room k X.A) (hg : Gl X x) (hm : X.mg x = some (.ref f)) (hk : PySem.W.keepIn X.K (.ref f) = true) (hb : Binds X.K fd ps dv) (hd : Vals dvs dv) (hdd : Dfl P dvs dds)
    (tk : Takes X W) (ha : PA X (e :: es) (tL P F0 H0 W fs)) (hdb : (x == ("__debug__" : Str)) = false := by decide) (he : starEach (e :: es) X.env = (false, eval e X.env) :: starEach es X.env := by rfl) (hpl : (backTo pos (starEach es X.env)).any (·.1) = false := by rfl) :
    PE X (.Call (.Name x p) (e :: es) [] pos) (tE P F0 H0 W (fun ρ => do let xs ← fs ρ; fnG n G (xs ++ dds))) :=
  (pe_callSD (E := WE W) Fn hr hg hm hk hb hd (fun σ => passAt tk σ) ha hdb he hpl).imp fun σ H Q ⟨F, ρ, er, z⟩ => by
  refine ⟨F, ρ, er, (PostG.bind (rel := rLs P) z).imp ?_⟩
  rintro vs H1 ⟨F1, ds, g, i, q⟩
  exact fnG_of hdd g.s i q.sig
/-- f() -/
theorem pd_call0 (Fn : FnOk X.prog X.w X.K X.mg X.base (L2.CX X.prog X.w) k f fd ps (spD P n G)) (hr : Room k X.A) (hg : Gl X x) (hm : X.mg x = some (.ref f)) (hk : PySem.W.keepIn X.K (.ref f) = true) (hb : Binds X.K fd ps dv) (hd : Vals dvs dv) (hdd : Dfl P dvs dds)
    (tk : Takes X W) (hdb : (x == ("__debug__" : Str)) = false := by decide) :
    PE X (.Call (.Name x p) [] [] pos) (tE P F0 H0 W (fun ρ => fnG n G dds)) := by
  refine ⟨fun pins s σ H Q I h => ?_⟩
  refine wpAny_Call_Name_kw (ld_glob I hg hm ?_ hdb)
  obtain ⟨F, ρ, er, z⟩ := h
  refine PySem.W.callWith_K0 I.kIn hk ?_
  exact run_fnSD (vs := []) (us := []) Fn hr hb hd (passAt tk σ) I .nil (fnG_of (ds := []) hdd er.s .nil z.sig)
/-- o.m(e, ..) -/
theorem run_methD {pins : List (Addr × Obj)} {s : Shared} {Q : VK} {us : List Value} {vs : List V} {ds : List D} (Fn : FnOk X.prog X.w X.K X.mg X.base (L2.CX X.prog X.w) k f fd ps (spD P n G)) (hr : Room k X.A) (hb : Binds X.K fd ps dv) (hd : Vals dvs dv) (hdd : Dfl P dvs dds)
    (tk : Takes X W) (I : Inv X pins σ H s) (r : Vals vs us) (sx : Sb P F H) (i : IsL P F ds vs) (z : PostG P W (rIs P) (fnG n G (ds ++ dds)) F σ H Q) : wpAny (model X.prog X.w) X.A (call (.ref f) us) (EP X pins σ Q) X.xe s :=
  run_fnSD (E := WE W) Fn hr hb hd (passAt tk σ) I r (fnG_of hdd sx i z.sig)
theorem obj_of {c : Nat} {xs : List D} {v : V} (i : Is P F (.obj c xs) v) : ∃ a dx vs, v = .ref a ∧ F a = some (.ins (P.C c) dx ((P.nm c).zip vs)) ∧ vs.length ≤ (P.nm c).length ∧ IsL P F xs vs := by
  rw [Is] at i
  exact i
theorem zip_none {β : Type} {m : Str} : ∀ {ks : List Str} {vs : List β}, m ∉ ks → (ks.zip vs).lookup m = none
  | [], _, _ => rfl
  | _ :: _, [], _ => rfl
  | k :: ks, v :: vs, h => by
    have h1 : (m == k) = false := by
      rw [beq_eq_false_iff_ne]
      exact fun q => h (q ▸ List.mem_cons_self)
    show (match m == k with | true => some v | false => (ks.zip vs).lookup m) = none
    rw [h1]
    exact zip_none fun q => h (List.mem_cons_of_mem _ q)
/-- x is an instance of the class number c -/
def isO (c : Nat) (x : D) : Res D := match x with
  | .obj c' ys => if c' = c then .ok x else .bad
  | _ => .bad
theorem isO_of {cn : Nat} {d : D} {v : V} {Q : VK} (s : Sb P F H) (i : Is P F d v) (h : PostG P W (rIs P) (isO cn d) F σ H Q) : ∃ xs a dx fs, d = .obj cn xs ∧ v = .ref a ∧ H a = some (.ins (P.C cn) dx ((P.nm cn).zip fs)) ∧ Q v H := by
  cases d with
  | obj c ys =>
    by_cases q : c = cn
    · subst q
      have e : isO c (.obj c ys) = .ok (.obj c ys) := if_pos rfl
      rw [e] at h
      obtain ⟨a, dx, vs, h1, h2, h3, h4⟩ := obj_of i
      exact ⟨ys, a, dx, vs, rfl, h1, s.ex _ _ h2, h.here s i⟩
    · have e : isO cn (.obj c ys) = .bad := if_neg q
      rw [e] at h
      exact h.elim
  | _ => exact h.elim
theorem pd_meth {cn : Nat} {pl : Sem Bool} (ho : PE X o (tE P F0 H0 W fa)) (cl : Cls X.K (P.C cn)) (hm : Meth X.K (P.C cn) m f) (hno : m ∉ P.nm cn) (Fn : FnOk X.prog X.w X.K X.mg X.base (L2.CX X.prog X.w) k f fd ps (spD P n G)) (hr : Room k X.A) (hb : Binds X.K fd ps dv) (hd : Vals dvs dv) (hdd : Dfl P dvs dds)
    (tk : Takes X W) (ha : PA X (e :: es) (tL P F0 H0 W fs))
    (hst : starEach (e :: es) X.env = (false, eval e X.env) :: starEach es X.env := by rfl) (hpl : (backTo pos (starEach es X.env)).any (·.1) = false := by rfl)
    (ht : eval (.Call (.Attribute o m apos) (e :: es) [] pos) X.env = (do
      let ov ← eval o X.env
      standAt apos.atName
      let (f, first) ← holding [ov] (getMethod ov m pl)
      callWith pos f first (backTo pos (starEach (e :: es) X.env)) (backToKw pos (keywordEach [] X.env))) := by rfl) :
    PE X (.Call (.Attribute o m apos) (e :: es) [] pos) (tE P F0 H0 W (fun ρ => do let x ← fa ρ; let y ← isO cn x; let xs ← fs ρ; fnG n G (y :: xs ++ dds))) := by
  refine ⟨fun pins s σ H Q I h => ?_⟩
  obtain ⟨F, ρ, er, z⟩ := h
  refine PySem.W.methodCall_KW (pl := pl) (thn (ho.run pins s σ H _ I ⟨F, ρ, er, PostG.bind (rel := rIs P) z⟩) ?_) ht
  rintro u s1 ⟨x, H1, I1, rx, F1, d, g1, i1, z1⟩
  obtain ⟨xs, a, dx, fs', rfl, rfl, ha1, F2, d2, g2, i2, z2⟩ := isO_of g1.s i1 (PostG.bind (rel := rIs P) z1)
  obtain rfl : u = Value.ref a := rx
  refine getmeth_ok I1 ha1 cl hm (zip_none hno) ?_
  refine PySem.W.callWith_K (first := [.ref a]) (h₀ := X.base) I.ok.mod.kin hm.kp (thn (ha.run pos pins s1 σ H1 _ I1 ⟨F2, ρ, (er.grow g1).grow g2, PostG.bind (rel := rLs P) z2⟩) ?_) hst hpl
  rintro us s2 ⟨vs, H2, I2, r, F3, ds, g3, i3, z3⟩
  exact ⟨I2.kIn, run_methD (vs := .ref a :: vs) (ds := d2 :: ds) Fn hr hb hd hdd tk I2 (.cons rfl r) g3.s (.cons (i2.mono g3.f _) i3) z3⟩
/-- o.m() -/
theorem pd_meth0 {cn : Nat} {pl : Sem Bool} (ho : PE X o (tE P F0 H0 W fa)) (cl : Cls X.K (P.C cn)) (hm : Meth X.K (P.C cn) m f) (hno : m ∉ P.nm cn) (Fn : FnOk X.prog X.w X.K X.mg X.base (L2.CX X.prog X.w) k f fd ps (spD P n G)) (hr : Room k X.A) (hb : Binds X.K fd ps dv) (hd : Vals dvs dv) (hdd : Dfl P dvs dds)
    (tk : Takes X W)
    (ht : eval (.Call (.Attribute o m apos) [] [] pos) X.env = (do
      let ov ← eval o X.env
      standAt apos.atName
      let (f, first) ← holding [ov] (getMethod ov m pl)
      callWith pos f first (backTo pos (starEach [] X.env)) (backToKw pos (keywordEach [] X.env))) := by rfl) :
    PE X (.Call (.Attribute o m apos) [] [] pos) (tE P F0 H0 W (fun ρ => do let x ← fa ρ; let y ← isO cn x; fnG n G (y :: dds))) := by
  refine ⟨fun pins s σ H Q I h => ?_⟩
  obtain ⟨F, ρ, er, z⟩ := h
  refine PySem.W.methodCall_KW (pl := pl) (thn (ho.run pins s σ H _ I ⟨F, ρ, er, PostG.bind (rel := rIs P) z⟩) ?_) ht
  rintro u s1 ⟨x, H1, I1, rx, F1, d, g1, i1, z1⟩
  obtain ⟨xs, a, dx, fs', rfl, rfl, ha1, F2, d2, g2, i2, z2⟩ := isO_of g1.s i1 (PostG.bind (rel := rIs P) z1)
  obtain rfl : u = Value.ref a := rx
  refine getmeth_ok I1 ha1 cl hm (zip_none hno) ?_
  refine PySem.W.callWith_K0 (first := [.ref a]) I1.kIn hm.kp ?_
  exact run_methD (vs := [.ref a]) (ds := [d2]) (dds := dds) Fn hr hb hd hdd tk I1 (.cons rfl .nil) g2.s (.cons i2 .nil) z2
/-! ### C(e, ..) -/
theorem run_makeS {CX : CXT} {sp : Sp} {E : XK} {pins : List (Addr × Obj)} {s : Shared} {Q : VK} {us : List Value} {vs : List V} (M : Mk X.K C f) (Fn : FnOk X.prog X.w X.K X.mg X.base CX k f fd ps sp) (hr : Room (k + 1) X.A) (hb : Binds X.K fd ps dv) (hd : Vals dvs dv)
    (hx : PassesAt CX X σ E) (I : Inv X pins σ H s) (r : Vals vs us)
    (h : ∀ x dx, H x = none → H dx = none → dx ≠ x → sp (.ref x :: (vs ++ dvs)) (upd (upd H dx (.own x)) x (.ins C dx [])) (fun v H2 => v = .non ∧ Q (.ref x) H2) E) :
    wpAny (model X.prog X.w) X.A (call (.ref C) us) (EP X pins σ Q) X.xe s := by
  have hq := h (s.heap.objs.size + 1) s.heap.objs.size (I.hok.fresh (Nat.le_succ _)) (I.hok.fresh (Nat.le_refl _)) (Nat.ne_of_lt (Nat.lt_succ_self _))
  have I2 := Inv.made (C := C) I
  have r2 : Vals (V.ref (s.heap.objs.size + 1) :: (vs ++ dvs)) (Value.ref (s.heap.objs.size + 1) :: (us ++ dv)) := .cons rfl (r.append hd)
  have hl : (Value.ref (s.heap.objs.size + 1) :: us ++ dv).length = ps.length := by
    have e := r2.length
    rw [Fn.len _ _ _ _ hq] at e
    exact e.symm
  refine wpAny_call (make_map (f := f) I.kIn M.makes M.init (beq_iff_eq.mp M.fn) (codeAny_mono (Fn.run _ X.stack _ _ ⟨Value.ref (s.heap.objs.size + 1) :: us, []⟩ (Value.ref (s.heap.objs.size + 1) :: (us ++ dv)) _ _ E (hr.make C us [])
    (I2.env0.make C us []) (hb _ (Value.ref (s.heap.objs.size + 1) :: us) I2.kIn hl) r2 hq) fun r s' hq' => ?_))
  cases r with
  | error e => exact hx pins _ _ e s' I2 hq'
  | ok fl =>
    cases fl with
    | ret u =>
      obtain ⟨v, H', I3, rv, ev, q3⟩ := I2.after hq'
      subst ev
      exact ⟨rv, ⟨V.ref (s.heap.objs.size + 1), H', I3, rfl, q3⟩⟩
    | next => exact False.elim hq'
    | brk => exact False.elim hq'
    | cont => exact False.elim hq'
def mkG (c n : Nat) (G : List D → Res (List D)) (ds : List D) : Res D := if ds.length = n then (do let fs ← G ds; .ok (.obj c fs)) else .bad
theorem mkG_of {cn : Nat} {ds : List D} {Q : VK} {vs : List V} (hdd : Dfl P dvs dds) (s : Sb P F H) (i : IsL P F ds vs) (h : PostG P W (rIs P) (mkG cn n GI (ds ++ dds)) F σ H Q) :
    ∀ x dx, H x = none → H dx = none → dx ≠ x → spI P cn n GI (.ref x :: (vs ++ dvs)) (upd (upd H dx (.own x)) x (.ins (P.C cn) dx [])) (fun v H2 => v = .non ∧ Q (.ref x) H2) (fun cls d H' => W cls d σ H') := by
  intro x dx hx hdx hne
  unfold mkG at h
  split at h
  · rename_i hl
    have e1 : minus (upd (upd H dx (.own x)) x (.ins (P.C cn) dx [])) x = upd H dx (.own x) := by
      funext a
      by_cases q : a = x
      · subst q
        rw [minus_same, upd_ne (Ne.symm hne), hx]
      · rw [minus_ne q, upd_ne q]
    refine ⟨x, dx, vs ++ dvs, F, ds ++ dds, rfl, upd_same, s.back hx, s.ext ((Ex.new hdx).trans (Ex.new ?_)), i.append (hdd F), hl, ?_⟩
    · rw [upd_ne (Ne.symm hne)]
      exact hx
    · rw [e1]
      have g0 : Grow P F H F (upd H dx (.own x)) := .junk s (.new hdx)
      cases hG : GI (ds ++ dds) with
      | ok fs =>
        rw [hG] at h
        rintro v F' H' g ⟨hv, i'⟩
        exact ⟨hv, h _ F' H' (g0.trans g) i'⟩
      | err c p =>
        rw [hG] at h
        exact fun F' H' y g q => h F' H' y (g0.trans g) q
      | bad =>
        rw [hG] at h
        exact h
  · exact h.elim
theorem pd_make {cn : Nat} (M : Mk X.K (P.C cn) f) (Fn : FnOk X.prog X.w X.K X.mg X.base (L2.CX X.prog X.w) k f fd ps (spI P cn n GI)) (hr : Room (k + 1) X.A) (hg : Gl X x) (hm : X.mg x = some (.ref (P.C cn))) (hb : Binds X.K fd ps dv) (hd : Vals dvs dv) (hdd : Dfl P dvs dds)
    (tk : Takes X W) (ha : PA X (e :: es) (tL P F0 H0 W fs)) (hdb : (x == ("__debug__" : Str)) = false := by decide) (he : starEach (e :: es) X.env = (false, eval e X.env) :: starEach es X.env := by rfl) (hpl : (backTo pos (starEach es X.env)).any (·.1) = false := by rfl) :
    PE X (.Call (.Name x p) (e :: es) [] pos) (tE P F0 H0 W (fun ρ => do let xs ← fs ρ; mkG cn n GI (xs ++ dds))) := by
  refine ⟨fun pins s σ H Q I h => ?_⟩
  obtain ⟨F, ρ, er, z⟩ := h
  refine wpAny_Call_Name_kw (ld_glob I hg hm ?_ hdb)
  refine PySem.W.callWith_K (h₀ := X.base) I.ok.mod.kin M.kp (thn (ha.run pos pins s σ H _ I ⟨F, ρ, er, PostG.bind (rel := rLs P) z⟩) ?_) he hpl
  rintro us s1 ⟨vs, H1, I1, r, F1, ds, g, i, q⟩
  exact ⟨I1.kIn, run_makeS (E := WE W σ) M Fn hr hb hd (passAt tk σ) I1 r (mkG_of hdd g.s i q)⟩
end
end DL
namespace DL
open PySem L2

/-! ### operations that raise nothing: D in, Option D out -/
/-- what is wanted of a value that comes out -/
abbrev Out (P : Pm) (F H : Hp) (d : D) (Q : VK) : Prop := ∀ v F' H', Grow P F H F' H' → Is P F' d v → Q v H'
def r2O (P : Pm) (r : D → D → Option D) : R2 := fun x y H Q => ∃ F dx dy d, Sb P F H ∧ Vw P F H dx x ∧ Vw P F H dy y ∧ r dx dy = some d ∧ Out P F H d Q
def r1O (P : Pm) (r : D → Option D) : V → Hp → VK → Prop := fun x H Q => ∃ F dx d, Sb P F H ∧ Vw P F H dx x ∧ r dx = some d ∧ Out P F H d Q
def rcO (P : Pm) (r : List D → Option D) : List V → Hp → VK → Prop := fun xs H Q => ∃ F ds d, Sb P F H ∧ VwL P F H ds xs ∧ r ds = some d ∧ Out P F H d Q
section
variable {X : Cx} {P : Pm} {F0 : Fz} {H0 : Hp} {W : WX} {a b c e o : Expr} {es : List Expr} {fa fb fc : Env → Res D} {fs : Env → Res (List D)} {pos p apos : Pos} {σ : St} {H F : Hp}
variable {f : Value → Value → Sem Value} {r : D → D → Option D} {x : Str} {id T : String}
theorem opt_of {α β : Type} {rel : Rel α β} {y : Option α} {Q : β → Hp → Prop} (h : PostG P W rel (opt y) F σ H Q) : ∃ d, y = some d ∧ ∀ v F' H', Grow P F H F' H' → rel F' H' d v → Q v H' := by
  cases y with
  | none => exact h.elim
  | some d => exact ⟨d, rfl, h⟩
theorem od_of (h : OpR X f (r2O P r)) : OpD X P W f (fun x y => opt (r x y)) := fun pins s σ F H x y u v dx dy Q I rx ry e i1 i2 z => by
  obtain ⟨d, hd, q⟩ := opt_of z
  exact h pins s σ H x y u v Q I rx ry ⟨F, dx, dy, d, e, i1, i2, hd, q⟩
theorem ud_of {f : Value → Sem Value} {r : D → Option D} (h : UnR X f (r1O P r)) : UnD X P W f (fun x => opt (r x)) := fun pins s σ F H x u dx Q I rx e i1 z => by
  obtain ⟨d, hd, q⟩ := opt_of z
  exact h pins s σ H x u Q I rx ⟨F, dx, d, e, i1, hd, q⟩
theorem Out.here {d : D} {Q : VK} {v : V} (q : Out P F H d Q) (s : Sb P F H) (i : Is P F d v) : Q v H := q v F H (.refl s) i
theorem Out.int {i : Int} {Q : VK} (q : Out P F H (.int i) Q) (s : Sb P F H) : Q (.int i) H := q.here s (by rw [Is])
theorem Out.bl {i : Bool} {Q : VK} (q : Out P F H (.bl i) Q) (s : Sb P F H) : Q (.bl i) H := q.here s (by rw [Is])
theorem Out.str {i : Str} {Q : VK} (q : Out P F H (.str i) Q) (s : Sb P F H) : Q (.str i) H := q.here s (by rw [Is])
theorem Out.lst {ds : List D} {vs : List V} {Q : VK} (q : Out P F H (.lst ds) Q) (s : Sb P F H) (i : IsL P F ds vs) : ∀ p, H p = none → Q (.ref p) (upd H p (.lst vs)) := fun p hp =>
  q _ (upd F p (.lst vs)) _ (.new s hp) (by rw [Is]; exact ⟨p, vs, rfl, .inl upd_same, i.mono (.new (s.back hp)) ds⟩)
theorem Out.tup {ds : List D} {vs : List V} {Q : VK} (q : Out P F H (.tup ds) Q) (s : Sb P F H) (i : IsL P F ds vs) : ∀ p, H p = none → Q (.ref p) (upd H p (.tup vs)) := fun p hp =>
  q _ (upd F p (.tup vs)) _ (.new s hp) (by rw [Is]; exact ⟨p, vs, rfl, upd_same, i.mono (.new (s.back hp)) ds⟩)

/-! ### ints -/
def int2 (g : Int → Int → Option D) : D → D → Option D
  | .int i, .int j => g i j
  | _, _ => none
theorem int2_of {g : Int → Int → Option D} {dx dy d : D} (h : int2 g dx dy = some d) : ∃ i j, dx = .int i ∧ dy = .int j ∧ g i j = some d := by
  unfold int2 at h
  split at h
  · exact ⟨_, _, rfl, rfl, h⟩
  · cases h
theorem op_int2 {g : Int → Int → Option D} {r' : R2} (h : OpR X f r') (hr : ∀ i j d H Q, g i j = some d → (∀ v, (∀ F, Is P F d v) → Q v H) → r' (.int i) (.int j) H Q) : OpR X f (r2O P (int2 g)) := fun pins s σ H x y u v Q I rx ry ⟨F, dx, dy, d, e, i1, i2, hd, q⟩ => by
  obtain ⟨i, j, rfl, rfl, hg⟩ := int2_of hd
  have e1 : x = .int i := i1
  have e2 : y = .int j := i2
  subst e1 e2
  exact h pins s σ H _ _ u v Q I rx ry (hr i j d H Q hg fun v hv => q.here e (hv F))
theorem is_int {F : Hp} {i : Int} : Is P F (.int i) (.int i) := by rw [Is]
theorem is_bl {F : Hp} {i : Bool} : Is P F (.bl i) (.bl i) := by rw [Is]
theorem is_str {F : Hp} {i : Str} : Is P F (.str i) (.str i) := by rw [Is]
theorem is_non {F : Hp} : Is P F .non .non := by rw [Is]
theorem io_add : OpR X (binaryOp .Add) (r2O P (int2 fun i j => some (.int (i + j)))) := op_int2 op_add fun i j d H Q hg q => ⟨i, j, rfl, rfl, q _ fun F => by cases hg; exact is_int⟩
theorem io_sub : OpR X (binaryOp .Sub) (r2O P (int2 fun i j => some (.int (i - j)))) := op_int2 op_sub fun i j d H Q hg q => ⟨i, j, rfl, rfl, q _ fun F => by cases hg; exact is_int⟩
def mulC (i j : Int) : Option D := if i.natAbs.log2 + j.natAbs.log2 < 1000000 then some (.int (i * j)) else none
theorem io_mul : OpR X (binaryOp .Mult) (r2O P (int2 mulC)) := op_int2 op_mulW fun i j d H Q hg q => by
  unfold mulC at hg
  split at hg
  · rename_i hc
    cases hg
    exact ⟨i, j, rfl, rfl, hc, q _ fun F => is_int⟩
  · cases hg
def modC (i j : Int) : Option D := if j = 0 then none else some (.int (i.fmod j))
theorem io_mod : OpR X (binaryOp .Mod) (r2O P (int2 modC)) := op_int2 op_modN fun i j d H Q hg q => by
  unfold modC at hg
  split at hg
  · cases hg
  · rename_i hc
    cases hg
    exact ⟨i, j, rfl, rfl, hc, q _ fun F => is_int⟩
def powC (i j : Int) : Option D := if 0 ≤ j ∧ j ≤ 1000000 ∧ i.natAbs < 2 ^ 64 then some (.int (i ^ j.toNat)) else none
theorem io_pow : OpR X (binaryOp .Pow) (r2O P (int2 powC)) := op_int2 op_pow fun i j d H Q hg q => by
  unfold powC at hg
  split at hg
  · rename_i hc
    cases hg
    exact ⟨i, j, rfl, rfl, hc, q _ fun F => is_int⟩
  · cases hg
theorem io_lt : OpR X (compareOp .Lt) (r2O P (int2 fun i j => some (.bl (decide (i < j))))) := op_int2 op_lt fun i j d H Q hg q => ⟨i, j, rfl, rfl, q _ fun F => by cases hg; exact is_bl⟩
theorem io_le : OpR X (compareOp .LtE) (r2O P (int2 fun i j => some (.bl (decide (i ≤ j))))) := op_int2 op_le fun i j d H Q hg q => ⟨i, j, rfl, rfl, q _ fun F => by cases hg; exact is_bl⟩
theorem io_gt : OpR X (compareOp .Gt) (r2O P (int2 fun i j => some (.bl (decide (j < i))))) := op_int2 op_gt fun i j d H Q hg q => ⟨i, j, rfl, rfl, q _ fun F => by cases hg; exact is_bl⟩
theorem io_ge : OpR X (compareOp .GtE) (r2O P (int2 fun i j => some (.bl (decide (j ≤ i))))) := op_int2 op_ge fun i j d H Q hg q => ⟨i, j, rfl, rfl, q _ fun F => by cases hg; exact is_bl⟩
def negC : D → Option D
  | .int i => some (.int (-i))
  | _ => none
theorem io_neg : UnR X (unaryOp .USub) (r1O P negC) := fun pins s σ H x u Q I rx ⟨F, dx, d, e, i1, hd, q⟩ => by
  cases dx with
  | int i =>
    have e1 : x = .int i := i1
    subst e1
    cases hd
    exact un_neg pins s σ H _ u Q I rx ⟨i, rfl, q.int e⟩
  | _ => cases hd
/-! ### a[b] of lists, tuples, texts -/
def itemD : D → D → Option D
  | .lst xs, .int i => atI xs i
  | .tup xs, .int i => atI xs i
  | .str z, .int i => if z.length ≤ 1000000 then (atI z.cps.toList i).map fun c => .str ⟨#[c]⟩ else none
  | _, _ => none
theorem IsL.atI {ds : List D} {vs : List V} {i : Int} {d : D} (h : IsL P F ds vs) (e : atI ds i = some d) : ∃ v, L2.atI vs i = some v ∧ Is P F d v := by
  unfold L2.atI at e ⊢
  rw [h.length] at e
  cases q : ixN vs.length i with
  | none =>
    rw [q] at e
    cases e
  | some j =>
    rw [q] at e
    exact h.get e
theorem pd_ix (ha : PE X a (tV P F0 H0 W fa)) (hb : PE X b (tV P F0 H0 W fb)) (hs : PlainIx b) : PE X (.Subscript a b pos) (tE P F0 H0 W (fun ρ => do let x ← fa ρ; let y ← fb ρ; opt (itemD x y))) :=
  (pe_ix ix_seq ha hb hs).imp fun σ H Q z => by
  obtain ⟨F, ρ, er, z⟩ := two_of z
  refine ⟨F, ρ, er, z.imp fun x H1 ⟨F1, ρ1, er1, z1⟩ => ⟨F1, ρ1, er1, z1.imp ?_⟩⟩
  rintro y H2 ⟨F2, dx, dy, s2, i1, i2, z2⟩
  obtain ⟨d, hd, q⟩ := opt_of z2
  unfold itemD at hd
  split at hd
  · obtain ⟨p, vs, rfl, h1, h2⟩ := i1
    obtain ⟨v, h3, h4⟩ := h2.atI hd
    exact .inl ⟨p, vs, _, v, rfl, i2, .inl h1, h3, Out.here q s2 h4⟩
  · obtain ⟨p, vs, rfl, h0, h1, h2⟩ := i1
    obtain ⟨v, h3, h4⟩ := h2.atI hd
    exact .inr (.inl ⟨p, vs, _, v, rfl, i2, .inl h1, h3, Out.here q s2 h4⟩)
  · rename_i z i
    split at hd
    · rename_i hl
      cases hc : atI z.cps.toList i with
      | none =>
        rw [hc] at hd
        cases hd
      | some ch =>
        rw [hc] at hd
        cases hd
        exact .inr (.inr ⟨z, i, ch, i1, i2, Nat.le_trans hl (by decide), hc, Out.str q s2⟩)
    · cases hd
  · cases hd
/-! ### o.f -/
def fldD (nm : Nat → List Str) (f : Str) : D → Option D
  | .obj c xs => ((nm c).zip xs).lookup f
  | _ => none
theorem IsL.lookup {f : Str} {d : D} : ∀ {ks : List Str} {ds : List D} {vs : List V}, IsL P F ds vs → (ks.zip ds).lookup f = some d → ∃ v, (ks.zip vs).lookup f = some v ∧ Is P F d v
  | [], _, _, _, e => by simp at e
  | _ :: _, [], _, _, e => by simp at e
  | k :: ks, d0 :: ds, _, h, e => by
    rw [IsL] at h
    obtain ⟨v, r, rfl, h2, h3⟩ := h
    have e' : (match f == k with | true => some d0 | false => (ks.zip ds).lookup f) = some d := e
    show ∃ v', (match f == k with | true => some v | false => (ks.zip r).lookup f) = some v' ∧ _
    cases q : f == k with
    | true =>
      rw [q] at e'
      cases e'
      exact ⟨v, rfl, h2⟩
    | false =>
      rw [q] at e'
      exact IsL.lookup h3 e'
theorem pd_fld {fl : Str} (ha : PE X a (tV P F0 H0 W fa)) (hcl : ∀ c d, ((P.nm c).zip d).lookup fl ≠ (none : Option D) → Cls X.K (P.C c) ∧ NoAttr X.K (P.C c) fl) (hb : attributeBase a fl X.env (eval a X.env) = eval a X.env := by rfl) :
    PE X (.Attribute a fl pos) (tE P F0 H0 W (fun ρ => do let x ← fa ρ; opt (fldD P.nm fl x))) := (pe_fld ha hb).imp fun σ H Q ⟨F, ρ, er, z⟩ => by
  refine ⟨F, ρ, er, (PostG.bind (rel := rVw P) z).imp ?_⟩
  rintro v H1 ⟨F1, d, g, i, q⟩
  obtain ⟨d', hd, q'⟩ := opt_of q
  cases d with
  | obj c xs =>
    have hd' : ((P.nm c).zip xs).lookup fl = some d' := hd
    obtain ⟨p, dx, vs, rfl, h1, h2, h3⟩ := i
    obtain ⟨v, h4, h5⟩ := h3.lookup hd'
    obtain ⟨k1, k2⟩ := hcl c xs (by rw [hd']; simp)
    exact ⟨p, _, dx, _, v, rfl, h1, k1, k2, h4, Out.here q' g.s h5⟩
  | _ => cases hd
/-! ### calls of built-ins -/
variable {rc : List D → Option D}
theorem pd_callB (hc : CallR X (.builtin id) (rcO P rc)) (hg : Gl X x) (hm : X.mg x = none) (hv : bootBuiltins x = some (.builtin id)) (ha : PA X (e :: es) (tW P F0 H0 W fs)) (hn : x ≠ "__name__" := by decide) (hdb : (x == ("__debug__" : Str)) = false := by decide)
    (he : starEach (e :: es) X.env = (false, eval e X.env) :: starEach es X.env := by rfl) (hpl : (backTo pos (starEach es X.env)).any (·.1) = false := by rfl) : PE X (.Call (.Name x p) (e :: es) [] pos) (tE P F0 H0 W (fun ρ => do let xs ← fs ρ; opt (rc xs))) :=
  (pe_callB hc hg hm hv ha hn hdb he hpl).imp fun σ H Q ⟨F, ρ, er, z⟩ => by
  refine ⟨F, ρ, er, (PostG.bind (rel := rVs P) z).imp ?_⟩
  rintro vs H1 ⟨F1, ds, g, i, q⟩
  obtain ⟨d, hd, q⟩ := opt_of q
  exact ⟨F1, ds, d, g.s, i, hd, q⟩
theorem pd_callTy (hc : CallR X (.type T) (rcO P rc)) (hg : Gl X x) (hm : X.mg x = none) (hv : bootBuiltins x = some (.type T)) (ha : PA X (e :: es) (tW P F0 H0 W fs)) (hn : x ≠ "__name__" := by decide) (hdb : (x == ("__debug__" : Str)) = false := by decide)
    (he : starEach (e :: es) X.env = (false, eval e X.env) :: starEach es X.env := by rfl) (hpl : (backTo pos (starEach es X.env)).any (·.1) = false := by rfl) : PE X (.Call (.Name x p) (e :: es) [] pos) (tE P F0 H0 W (fun ρ => do let xs ← fs ρ; opt (rc xs))) :=
  (pe_callTy hc hg hm hv ha hn hdb he hpl).imp fun σ H Q ⟨F, ρ, er, z⟩ => by
  refine ⟨F, ρ, er, (PostG.bind (rel := rVs P) z).imp ?_⟩
  rintro vs H1 ⟨F1, ds, g, i, q⟩
  obtain ⟨d, hd, q⟩ := opt_of q
  exact ⟨F1, ds, d, g.s, i, hd, q⟩
end
end DL
namespace DL
open PySem L2

/-! ### statements -/
inductive RS where
  | nx (ρ : Env) | rt (d : D) | bk (ρ : Env) | ct (ρ : Env) | err (c : Nat) (p : Option D) (ρ : Env) | bad
def PostS (P : Pm) (F0 : Fz) (H0 : Hp) (W : WX) (F : Hp) (r : RS) (N : Ends) : Prop :=
  match r with
  | .nx ρ => ∀ σ F' H', ER P F0 H0 F' ρ σ H' → Ex F F' → N.nx σ H'
  | .rt d => ∀ v F' H', Grow P F0.F H0 F' H' → Ex F F' → Is P F' d v → N.rt v H'
  | .bk ρ => ∀ σ F' H', ER P F0 H0 F' ρ σ H' → Ex F F' → N.bk σ H'
  | .ct ρ => ∀ σ F' H', ER P F0 H0 F' ρ σ H' → Ex F F' → N.ct σ H'
  | .err c p ρ => ∀ σ F' H' x, ER P F0 H0 F' ρ σ H' → Ex F F' → ErrAt P F' H' c p x → W (P.xc c) x σ H'
  | .bad => False
def tS (P : Pm) (F0 : Fz) (H0 : Hp) (W : WX) (g : Env → RS) : TS := fun N σ H => ∃ F ρ, ER P F0 H0 F ρ σ H ∧ PostS P F0 H0 W F (g ρ) N
def bindS {α : Type} (r : Res α) (ρ : Env) (k : α → RS) : RS := match r with
  | .ok a => k a
  | .err c p => .err c p ρ
  | .bad => .bad
def seqS (r : RS) (k : Env → RS) : RS := match r with
  | .nx ρ => k ρ
  | r => r
section
variable {P : Pm} {F0 : Fz} {H0 F F1 H H1 : Hp} {W : WX} {σ : St} {ρ : Env} {N : Ends}
theorem PostS.shift {r : RS} (h : PostS P F0 H0 W F r N) (e : Ex F F1) : PostS P F0 H0 W F1 r N := by
  cases r with
  | nx ρ => exact fun σ F' H' er x => h σ F' H' er (e.trans x)
  | rt d => exact fun v F' H' g x i => h v F' H' g (e.trans x) i
  | bk ρ => exact fun σ F' H' er x => h σ F' H' er (e.trans x)
  | ct ρ => exact fun σ F' H' er x => h σ F' H' er (e.trans x)
  | err c p ρ => exact fun σ F' H' y er x q => h σ F' H' y er (e.trans x) q
  | bad => exact h
theorem PostS.bind {α β : Type} {rel : Rel α β} {r : Res α} {k : α → RS} (er : ER P F0 H0 F ρ σ H) (h : PostS P F0 H0 W F (bindS r ρ k) N) :
    PostG P W rel r F σ H (fun v H1 => ∃ F1 a, Grow P F H F1 H1 ∧ rel F1 H1 a v ∧ PostS P F0 H0 W F1 (k a) N) := by
  cases r with
  | ok a => exact fun v F' H' g q => ⟨F', a, g, q, PostS.shift (r := k a) h g.f⟩
  | err c p => exact fun F' H' x g q => h σ F' H' x (er.grow g) g.f q
  | bad => exact h
end
section
variable {X : Cx} {P : Pm} {F0 : Fz} {H0 : Hp} {W : WX} {a b c e o : Expr} {es : List Expr} {fa fb fc : Env → Res D} {gc : Env → Res Bool} {fs : Env → Res (List D)} {pos p apos : Pos} {st : Stmt} {sts tts : List Stmt} {g g1 g2 : Env → RS}
theorem sd_nil : PSs X [] (tS P F0 H0 W .nx) := pss_nil.imp fun N σ H ⟨F, ρ, er, z⟩ => z σ F H er (.refl F)
theorem PostS.seq {F : Hp} {r : RS} {N : Ends} (z : PostS P F0 H0 W F (seqS r g2) N) : PostS P F0 H0 W F r { N with nx := tS P F0 H0 W g2 N } := by
  cases r with
  | nx ρ' => exact fun σ' F' H' er' x => ⟨F', ρ', er', PostS.shift (r := g2 ρ') z x⟩
  | rt d => exact z
  | bk ρ' => exact z
  | ct ρ' => exact z
  | err c p ρ' => exact z
  | bad => exact z
theorem sd_cons (h1 : PS X st (tS P F0 H0 W g1)) (h2 : PSs X sts (tS P F0 H0 W g2)) : PSs X (st :: sts) (tS P F0 H0 W (fun ρ => seqS (g1 ρ) g2)) := (pss_cons h1 h2).imp fun N σ H ⟨F, ρ, er, z⟩ =>
  ⟨F, ρ, er, PostS.seq (r := g1 ρ) z⟩
theorem sd_one (h1 : PS X st (tS P F0 H0 W g1)) : PSs X [st] (tS P F0 H0 W g1) := pss_one h1
theorem sd_pass : PS X (.Pass pos) (tS P F0 H0 W .nx) := ps_pass.imp fun N σ H ⟨F, ρ, er, z⟩ => z σ F H er (.refl F)
theorem sd_break : PS X (.Break pos) (tS P F0 H0 W .bk) := ps_break.imp fun N σ H ⟨F, ρ, er, z⟩ => z σ F H er (.refl F)
theorem sd_cont : PS X (.Continue pos) (tS P F0 H0 W .ct) := ps_continue.imp fun N σ H ⟨F, ρ, er, z⟩ => z σ F H er (.refl F)
theorem sd_ret (h : PE X e (tE P F0 H0 W fa)) : PS X (.Return (some e) pos) (tS P F0 H0 W (fun ρ => bindS (fa ρ) ρ .rt)) := (ps_ret h).imp fun N σ H ⟨F, ρ, er, z⟩ => by
  refine ⟨F, ρ, er, (PostS.bind (rel := rIs P) er z).imp ?_⟩
  rintro v H1 ⟨F1, d, g, i, q⟩
  exact q v F1 H1 (er.g.trans g) (.refl F1) i
theorem sd_expr (h : PE X e (tE P F0 H0 W fa)) (hs : swapsWith e none pos.line X.env = pure false := by rfl) : PS X (.Expr e pos) (tS P F0 H0 W (fun ρ => bindS (fa ρ) ρ fun _ => .nx ρ)) := (ps_expr h hs).imp fun N σ H ⟨F, ρ, er, z⟩ => by
  refine ⟨F, ρ, er, (PostS.bind (rel := rIs P) er z).imp ?_⟩
  rintro v H1 ⟨F1, d, g, i, q⟩
  exact q σ F1 H1 (er.grow g) (.refl F1)
theorem sd_if (hc : PT X c (tT P F0 H0 W gc)) (h1 : PSs X sts (tS P F0 H0 W g1)) (h2 : PSs X tts (tS P F0 H0 W g2)) : PS X (.If c sts tts pos) (tS P F0 H0 W (fun ρ => bindS (gc ρ) ρ fun k => if k = true then g1 ρ else g2 ρ)) :=
  (ps_if hc h1 h2).imp fun N σ H ⟨F, ρ, er, z⟩ => by
  refine ⟨F, ρ, er, (PostS.bind (rel := rBo) er z).imp ?_⟩
  rintro v H1 ⟨F1, d, g, i, q⟩
  subst i
  split
  · rename_i hv
    rw [if_pos hv] at q
    exact ⟨F1, ρ, er.grow g, q⟩
  · rename_i hv
    rw [if_neg hv] at q
    exact ⟨F1, ρ, er.grow g, q⟩
theorem sd_set {i : Nat} {x : Str} {pos' : Pos} (hN : X.N.Nodup) (hi : X.N[i]? = some x) (hx : Loc X.env.scope x) (he : PE X e (tE P F0 H0 W fa)) (hs : swapsWith e (some (.Name x pos')) pos.line X.env = pure false := by rfl) (hi0 : F0.S = none ∨ i ≠ 0 := by first | exact Or.inl rfl | exact Or.inr (by decide)) (hf : X.fn x = true ∨ X.env.scope.names.lookup x = some .local := by first | exact .inl rfl | exact .inr rfl | assumption) :
    PS X (.Assign [.Name x pos'] e pos) (tS P F0 H0 W (fun ρ => bindS (fa ρ) ρ fun d => .nx (ρ.set i (some (.sh d))))) := (ps_set hN hi hx he hs hf).imp fun N σ H ⟨F, ρ, er, z⟩ => by
  refine ⟨F, ρ, er, (PostS.bind (rel := rIs P) er z).imp ?_⟩
  rintro v H1 ⟨F1, d, g, j, q⟩
  exact q _ F1 H1 ((er.grow g).put i j hi0) (.refl F1)
/-! ### while -/
/-- a turn has ended -/
def loopK (r : RS) (k : Env → RS) : RS := match r with
  | .nx ρ => k ρ
  | .ct ρ => k ρ
  | .bk ρ => .nx ρ
  | r => r
def whileD (gc : Env → Res Bool) (gb : Env → RS) : Nat → Env → RS
  | 0, _ => .bad
  | n + 1, ρ => bindS (gc ρ) ρ fun k => if k = true then loopK (gb ρ) (whileD gc gb n) else .nx ρ
theorem PostS.loop {F : Hp} {r : RS} {k : Env → RS} {N : Ends} (z : PostS P F0 H0 W F (loopK r k) N) :
    PostS P F0 H0 W F r { N with nx := fun σ H => ∃ F' ρ, ER P F0 H0 F' ρ σ H ∧ Ex F F' ∧ PostS P F0 H0 W F' (k ρ) N, ct := fun σ H => ∃ F' ρ, ER P F0 H0 F' ρ σ H ∧ Ex F F' ∧ PostS P F0 H0 W F' (k ρ) N, bk := N.nx } := by
  cases r with
  | nx ρ' => exact fun σ' F' H' er' x => ⟨F', ρ', er', x, PostS.shift (r := k ρ') z x⟩
  | rt d => exact z
  | bk ρ' => exact z
  | ct ρ' => exact fun σ' F' H' er' x => ⟨F', ρ', er', x, PostS.shift (r := k ρ') z x⟩
  | err c p ρ' => exact z
  | bad => exact z
theorem sd_while (n : Nat) (hp : PassesOwn (model X.prog X.w) X.A X.env X.xe) (hc : PT X c (tT P F0 H0 W gc)) (hb : PSs X sts (tS P F0 H0 W g)) : PS X (.While c sts [] pos) (tS P F0 H0 W (whileD gc g n)) :=
  (ps_while hp hc hb).imp fun N σ H h => by
  refine ⟨fun m σ H => ∃ F ρ, ER P F0 H0 F ρ σ H ∧ PostS P F0 H0 W F (whileD gc g m ρ) N, ⟨n, h⟩, ?_⟩
  rintro m σ H ⟨F, ρ, er, z⟩
  cases m with
  | zero => exact z.elim
  | succ m =>
    refine ⟨F, ρ, er, (PostS.bind (rel := rBo) er z).imp ?_⟩
    rintro v H1 ⟨F1, d, gr, i, q⟩
    subst i
    split
    · rename_i hv
      rw [if_pos hv] at q
      refine ⟨fun σ H => ∃ F ρ, ER P F0 H0 F ρ σ H ∧ Ex F1 F ∧ PostS P F0 H0 W F (whileD gc g m ρ) N, fun σ' H' ⟨F', ρ', er', _, n'⟩ => ⟨m, Nat.lt_succ_self m, F', ρ', er', n'⟩, F1, ρ, er.grow gr, ?_⟩
      exact PostS.loop q
    · rename_i hv
      rw [if_neg hv] at q
      exact q σ F1 H1 (er.grow gr) (.refl F1)
/-! ### targets -/
def tGt (P : Pm) (F0 : Fz) (H0 : Hp) (vs : List Nat) (h : D → Env → Option Env) : TG := fun v σ H Q => ∃ F ρ d ρ', ER P F0 H0 F ρ σ H ∧ Is P F d v ∧ h d ρ = some ρ' ∧ ∀ σ', ER P F0 H0 F ρ' σ' H → wipe σ' vs = wipe σ vs → Q σ' H
def tGts (P : Pm) (F0 : Fz) (H0 : Hp) (us : List Nat) (h : List D → Env → Option Env) : TGs := fun vs σ H Q => ∃ F ρ ds ρ', ER P F0 H0 F ρ σ H ∧ IsL P F ds vs ∧ h ds ρ = some ρ' ∧ ∀ σ', ER P F0 H0 F ρ' σ' H → wipe σ' us = wipe σ us → Q σ' H
def hName (i : Nat) : D → Env → Option Env := fun d ρ => some (ρ.set i (some (.sh d)))
def hNil : List D → Env → Option Env := fun ds ρ => match ds with
  | [] => some ρ
  | _ => none
def hCons (h : D → Env → Option Env) (hs : List D → Env → Option Env) : List D → Env → Option Env := fun ds ρ => match ds with
  | d :: r => (h d ρ).bind (hs r)
  | [] => none
def hTup (hs : List D → Env → Option Env) : D → Env → Option Env := fun d ρ => match d with
  | .tup ds => hs ds ρ
  | _ => none
variable {h : D → Env → Option Env} {hs : List D → Env → Option Env} {us : List Nat}
theorem wipe_set {σ : St} {i : Nat} {v : Option V} : ∀ {us : List Nat}, i ∈ us → wipe (σ.set i v) us = wipe σ us
  | u :: us, h => by
    by_cases q : i ∈ us
    · show (wipe (σ.set i v) us).set u none = (wipe σ us).set u none
      rw [wipe_set q]
    · have e : i = u := by
        rcases List.mem_cons.mp h with z | z
        · exact z
        · exact absurd z q
      subst e
      show (wipe (σ.set i v) us).set i none = (wipe σ us).set i none
      have k : ∀ (us : List Nat), wipe (σ.set i v) us = wipe σ us ∨ wipe (σ.set i v) us = (wipe σ us).set i v := by
        intro us
        induction us with
        | nil => exact .inr rfl
        | cons w ws ih =>
          show (wipe (σ.set i v) ws).set w none = (wipe σ ws).set w none ∨ (wipe (σ.set i v) ws).set w none = ((wipe σ ws).set w none).set i v
          rcases ih with z | z
          · exact .inl (by rw [z])
          · by_cases hw : w = i
            · subst hw
              exact .inl (by rw [z, List.set_set])
            · exact .inr (by rw [z, List.set_comm _ _ (fun q => hw q.symm)])
      rcases k us with z | z
      · rw [z]
      · rw [z, List.set_set]
theorem _root_.L2.PG.imp {t t' : TG} (h : PG X e t) (q : ∀ v σ H Q, t' v σ H Q → t v σ H Q) : PG X e t' := ⟨fun pins s σ H v u Q I r z => h.run pins s σ H v u Q I r (q v σ H Q z)⟩
theorem _root_.L2.PGs.imp {t t' : TGs} (h : PGs X es t) (q : ∀ v σ H Q, t' v σ H Q → t v σ H Q) : PGs X es t' := ⟨fun pins s σ H v u Q I r z => h.run pins s σ H v u Q I r (q v σ H Q z)⟩
theorem gd_name {us : List Nat} {i : Nat} {x : Str} (hN : X.N.Nodup) (hi : X.N[i]? = some x) (hx : Loc X.env.scope x) (hu : i ∈ us := by decide) (hi0 : F0.S = none ∨ i ≠ 0 := by first | exact Or.inl rfl | exact Or.inr (by decide)) (hf : X.fn x = true ∨ X.env.scope.names.lookup x = some .local := by first | exact .inl rfl | exact .inr rfl | assumption) : PG X (.Name x pos) (tGt P F0 H0 us (hName i)) :=
  (pg_name hN hi hx hf).imp fun v σ H Q ⟨F, ρ, d, ρ', er, i1, e, q⟩ => by
  cases e
  exact q _ (er.put i i1 hi0) (wipe_set hu)
theorem gd_nil : PGs X [] (tGts P F0 H0 us hNil) := pgs_nil.imp fun vs σ H Q ⟨F, ρ, ds, ρ', er, i1, e, q⟩ => by
  cases ds with
  | nil =>
    rw [IsL] at i1
    cases e
    exact ⟨i1, q _ er rfl⟩
  | cons d r => cases e
theorem gd_cons (h1 : PG X e (tGt P F0 H0 us h)) (h2 : PGs X es (tGts P F0 H0 us hs)) (hq : (assignEach (e :: es) X.env).map (·.2) = assign e X.env :: (assignEach es X.env).map (·.2) := by rfl) : PGs X (e :: es) (tGts P F0 H0 us (hCons h hs)) :=
  (pgs_cons h1 h2 hq).imp fun vs σ H Q ⟨F, ρ, ds, ρ', er, i1, e, q⟩ => by
  cases ds with
  | nil => cases e
  | cons d r =>
    rw [IsL] at i1
    obtain ⟨v, r', rfl, i2, i3⟩ := i1
    have e' : (h d ρ).bind (hs r) = some ρ' := e
    cases hd : h d ρ with
    | none =>
      rw [hd] at e'
      cases e'
    | some ρ1 =>
      rw [hd] at e'
      exact ⟨v, r', rfl, F, ρ, d, ρ1, er, i2, hd, fun σ' er' w1 => ⟨F, ρ1, r, ρ', er', i3, e', fun σ2 er2 w2 => q σ2 er2 (w2.trans w1)⟩⟩
theorem gd_tup {k n : Nat} (hc : X.calm = true) (h : PGs X es (tGts P F0 H0 us hs)) (hn : (assignEach es X.env).length = n := by rfl) (hst : (assignEach es X.env).findIdx? (·.1) = none := by rfl) :
    PG X (.Tuple es k pos) (tGt P F0 H0 us (hTup fun ds ρ => if ds.length = n then hs ds ρ else none)) := (pg_tup hc h hn hst).imp fun v σ H Q ⟨F, ρ, d, ρ', er, i1, e, q⟩ => by
  cases d with
  | tup ds =>
    have e' : (if ds.length = n then hs ds ρ else none) = some ρ' := e
    split at e'
    · rename_i hl
      rw [Is] at i1
      obtain ⟨a, vs, rfl, h1, h2⟩ := i1
      exact ⟨a, vs, rfl, .inl (.inl (er.s.ex _ _ h1)), by rw [← h2.length]; exact hl, F, ρ, ds, ρ', er, h2, e', q⟩
    · cases e'
  | _ => cases e
/-! ### for -/
def ItD (P : Pm) : Rel (List D) It := fun F _ items J => ∀ i F1 H1, Ex F F1 → Sb P F1 H1 →
  (∀ d, items[i]? = some d → J.go i H1 ∧ ∀ x H2, J.yld i H1 x H2 → ∃ F2, Grow P F1 H1 F2 H2 ∧ Is P F2 d x) ∧ (items.length ≤ i → J.stop i H1)
def tI (P : Pm) (F0 : Fz) (H0 : Hp) (W : WX) (f : Env → Res (List D)) : TI := fun σ H R => ∃ F ρ, ER P F0 H0 F ρ σ H ∧ PostG P W (ItD P) (f ρ) F σ H R
def forD (h : D → Env → Option Env) (gb : Env → RS) : List D → Env → RS
  | [], ρ => .nx ρ
  | d :: r, ρ => match h d ρ with
    | none => .bad
    | some ρ1 => loopK (gb ρ1) (forD h gb r)
theorem sd_for {tg iter : Expr} {fi : Env → Res (List D)} (hp : PassesOwn (model X.prog X.w) X.A X.env X.xe) (hc : X.calm = true) (hi : PI X tg iter (tI P F0 H0 W fi)) (hg : PG X tg (tGt P F0 H0 us h)) (hb : PSs X sts (tS P F0 H0 W g))
    (hs : ∀ x, foldedSetIterable iter X.env x = pure x := by intro _; rfl) : PS X (.For tg iter sts [] pos) (tS P F0 H0 W (fun ρ => bindS (fi ρ) ρ fun items => forD h g items ρ)) :=
  (ps_for hp hc hi hg hb hs).imp fun N σ H ⟨F, ρ, er, z⟩ => by
  refine ⟨F, ρ, er, (PostS.bind (rel := ItD P) er z).imp ?_⟩
  rintro J H1 ⟨FJ, items, gr, hJ, q⟩
  refine ⟨fun i m σ H => m = items.length - i ∧ ∃ F ρ, ER P F0 H0 F ρ σ H ∧ Ex FJ F ∧ PostS P F0 H0 W F (forD h g (items.drop i) ρ) N, ⟨_, rfl, FJ, ρ, er.grow gr, .refl FJ, q⟩, ?_⟩
  rintro i m σ H ⟨rfl, F, ρ, er, ej, q⟩
  obtain ⟨j1, j2⟩ := hJ i F H ej er.s
  rcases Nat.lt_or_ge i items.length with hi | hi
  · obtain ⟨k1, k2⟩ := j1 items[i] (List.getElem?_eq_getElem hi)
    rw [List.drop_eq_getElem_cons hi] at q
    cases hh : h items[i] ρ with
    | none =>
      have q3 : PostS P F0 H0 W F (match h items[i] ρ with | none => .bad | some ρ1 => loopK (g ρ1) (forD h g (items.drop (i + 1)))) N := q
      rw [hh] at q3
      exact q3.elim
    | some ρ1 =>
      have q3 : PostS P F0 H0 W F (match h items[i] ρ with | none => .bad | some ρ1 => loopK (g ρ1) (forD h g (items.drop (i + 1)))) N := q
      rw [hh] at q3
      replace q3 : PostS P F0 H0 W F (loopK (g ρ1) (forD h g (items.drop (i + 1)))) N := q3
      refine .inr ⟨k1, fun σ H => ∃ F2 ρ, ER P F0 H0 F2 ρ σ H ∧ Ex F F2 ∧ PostS P F0 H0 W F2 (forD h g (items.drop (i + 1)) ρ) N, fun σ' H' ⟨F', ρ', er', x, n'⟩ => ⟨items.length - (i + 1), by omega, rfl, F', ρ', er', ej.trans x, n'⟩, ?_⟩
      intro x H2 hy
      obtain ⟨F2, g2, i2⟩ := k2 x H2 hy
      refine ⟨F2, ρ, items[i], ρ1, er.grow g2, i2, hh, fun σ' er' _ => ⟨F2, ρ1, er', ?_⟩⟩
      have q4 := PostS.loop (q3.shift g2.f)
      cases hg : g ρ1 with
      | nx ρ' =>
        rw [hg] at q4
        exact fun σ' F' H' er' y => by
          obtain ⟨F3, ρ3, e3, x3, z3⟩ := q4 σ' F' H' er' y
          exact ⟨F3, ρ3, e3, g2.f.trans x3, z3⟩
      | ct ρ' =>
        rw [hg] at q4
        exact fun σ' F' H' er' y => by
          obtain ⟨F3, ρ3, e3, x3, z3⟩ := q4 σ' F' H' er' y
          exact ⟨F3, ρ3, e3, g2.f.trans x3, z3⟩
      | bk ρ' =>
        rw [hg] at q4
        exact q4
      | rt d =>
        rw [hg] at q4
        exact q4
      | err c p ρ' =>
        rw [hg] at q4
        exact q4
      | bad =>
        rw [hg] at q4
        exact q4
  · rw [List.drop_eq_nil_of_le hi] at q
    exact .inl ⟨j2 hi, q σ F H er (.refl F)⟩
end
end DL
namespace DL
open PySem L2

/-! ### a def by its body -/
def env0 (n : Nat) (ds : List D) : Env := ds.map (fun d => some (.sh d)) ++ List.replicate (n - ds.length) none
def runB (g : Env → RS) (n : Nat) (ds : List D) : Res D := match g (env0 n ds) with
  | .rt d => .ok d
  | .nx _ => .ok .non
  | .err c p _ => .err c p
  | _ => .bad
section
variable {P : Pm} {F H : Hp} {N : List Str} {ds : List D} {vs : List V}
theorem er_start (s : Sb P F H) (i : IsL P F ds vs) : ER P ⟨F, none⟩ H F (env0 N.length ds) (L2.start N vs) H where
  g := .refl s
  self := fun x hx => by cases hx
  len := by
    unfold env0 L2.start
    simp [i.length]
  sh := fun j d e => by
    unfold env0 at e
    unfold L2.start
    have hj : j < ds.length := by
      rcases Nat.lt_or_ge j ds.length with q | q
      · exact q
      · rw [List.getElem?_append_right (by simpa using q)] at e
        rw [List.getElem?_replicate] at e
        split at e <;> cases e
    rw [List.getElem?_append_left (by simpa using hj), List.getElem?_map] at e
    cases hd : ds[j]? with
    | none =>
      rw [hd] at e
      cases e
    | some d' =>
      rw [hd] at e
      cases e
      obtain ⟨v, h1, h2⟩ := i.get hd
      refine ⟨v, ?_, h2⟩
      rw [List.getElem?_append_left (by simpa [← i.length] using hj), List.getElem?_map, h1]
      rfl
  bw := fun j d e => by
    unfold env0 at e
    exfalso
    rcases Nat.lt_or_ge j ds.length with q | q
    · rw [List.getElem?_append_left (by simpa using q), List.getElem?_map] at e
      cases hd : ds[j]? with
      | none =>
        rw [hd] at e
        cases e
      | some d' =>
        rw [hd] at e
        cases e
    · rw [List.getElem?_append_right (by simpa using q)] at e
      rw [List.getElem?_replicate] at e
      split at e <;> cases e
  ow := fun j d e => by
    unfold env0 at e
    exfalso
    rcases Nat.lt_or_ge j ds.length with q | q
    · rw [List.getElem?_append_left (by simpa using q), List.getElem?_map] at e
      cases hd : ds[j]? with
      | none =>
        rw [hd] at e
        cases e
      | some d' =>
        rw [hd] at e
        cases e
    · rw [List.getElem?_append_right (by simpa using q)] at e
      rw [List.getElem?_replicate] at e
      split at e <;> cases e
  nd := fun j k d e a h1 => by
    unfold env0 at h1
    exfalso
    rcases Nat.lt_or_ge j ds.length with q | q
    · rw [List.getElem?_append_left (by simpa using q), List.getElem?_map] at h1
      cases hd : ds[j]? with
      | none =>
        rw [hd] at h1
        cases h1
      | some d' =>
        rw [hd] at h1
        cases h1
    · rw [List.getElem?_append_right (by simpa using q)] at h1
      rw [List.getElem?_replicate] at h1
      split at h1 <;> cases h1
end
section
variable {prog : Program} {w : World} {K : PySem.W.Frag} {mg : Str → Option Value} {base : Heap} {P : Pm}
theorem fnd {x qual : Str} {st : Stmt} {f : Addr} {fd : FuncData} {N ps : List Str} {k : Nat} {g : Env → RS} (Fu : Fun K x qual st f fd) (S : FnScope N ps (defScope st))
    (hbody : ∀ (cdv : Value) (A : Around) (outer : List PySem.Env) (s : Shared) (H F0 : Hp) (E : XK), Room k (A.deeper (PyProof.Rows.envOfC qual (defScope st) s.heap.objs.size f cdv)) →
      PSs (cxOf (L2.CX prog w) prog w K mg base N qual (defScope st) f cdv A outer s H E) (defBody st) (tS P ⟨F0, none⟩ H (WE0 E) g)) :
    FnOk prog w K mg base (L2.CX prog w) (k + 1) f fd ps (spD P ps.length (runB g N.length)) := by
  refine Fu.okX S (fun vs H Q E ⟨F, ds, _, i, hl, _⟩ => by rw [← i.length]; exact hl) (fun cdv A outer s H vs Q E hr h => ?_)
  obtain ⟨F, ds, sx, i, hl, z⟩ := h
  refine ⟨_, hbody cdv A outer s H F E hr, F, env0 N.length ds, er_start sx i, ?_⟩
  unfold runB at z
  cases hg : g (env0 N.length ds) with
  | nx ρ =>
    rw [hg] at z
    exact fun σ F' H' er _ => z .non F' H' er.g is_non
  | rt d =>
    rw [hg] at z
    exact fun v F' H' gr _ i' => z v F' H' gr i'
  | bk ρ =>
    rw [hg] at z
    exact z.elim
  | ct ρ =>
    rw [hg] at z
    exact z.elim
  | err c p ρ =>
    rw [hg] at z
    exact fun σ F' H' y er _ q => z F' H' y er.g q
  | bad =>
    rw [hg] at z
    exact z.elim
/-! ### __init__ by its body: self is one's own -/
def env0I (c n : Nat) (ds : List D) : Env := some (.ow (.obj c [])) :: env0 (n - 1) ds
def selfF (c : Nat) : Env → Res (List D)
  | some (.ow (.obj c' xs)) :: _ => if c' = c then .ok xs else .bad
  | some (.sh (.obj c' xs)) :: _ => if c' = c then .ok xs else .bad
  | _ => .bad
def runI (c : Nat) (g : Env → RS) (n : Nat) (ds : List D) : Res (List D) := match g (env0I c n ds) with
  | .nx ρ => selfF c ρ
  | .err c p _ => .err c p
  | _ => .bad
theorem selfF_of {c : Nat} {ρ : Env} {xs : List D} (h : selfF c ρ = .ok xs) : ρ[0]? = some (some (.ow (.obj c xs))) ∨ ρ[0]? = some (some (.sh (.obj c xs))) := by
  unfold selfF at h
  split at h
  · split at h
    · rename_i q
      cases h
      subst q
      exact .inl rfl
    · cases h
  · split at h
    · rename_i q
      cases h
      subst q
      exact .inr rfl
    · cases h
  · cases h
theorem selfF_noerr {c : Nat} {ρ : Env} {e : Nat} {p : Option D} : selfF c ρ ≠ .err e p := by
  unfold selfF
  split <;> (try split) <;> (intro h; cases h)
theorem env0_nob {n j : Nat} {ds : List D} {d : D} (e : (env0 n ds)[j]? = some (some (.bw d))) : False := by
  unfold env0 at e
  rcases Nat.lt_or_ge j ds.length with q | q
  · rw [List.getElem?_append_left (by simpa using q), List.getElem?_map] at e
    cases hd : ds[j]? with
    | none =>
      rw [hd] at e
      cases e
    | some d' =>
      rw [hd] at e
      cases e
  · rw [List.getElem?_append_right (by simpa using q)] at e
    rw [List.getElem?_replicate] at e
    split at e <;> cases e
theorem er_startI {F H : Hp} {N : List Str} {ds : List D} {vs : List V} {x dx : Addr} {c : Nat} (hN : N ≠ []) (s : Sb P F H) (i : IsL P F ds vs) (hx : H x = some (.ins (P.C c) dx [])) (hf : F x = none) :
    ER P ⟨F, some x⟩ (minus H x) F (env0I c N.length ds) (L2.start N (.ref x :: vs)) H := by
  obtain ⟨n0, N', rfl⟩ : ∃ n0 N', N = n0 :: N' := by
    cases N with
    | nil => exact absurd rfl hN
    | cons a b => exact ⟨a, b, rfl⟩
  have e0 : L2.start (n0 :: N') (.ref x :: vs) = some (V.ref x) :: L2.start N' vs := by
    unfold L2.start
    simp
  have e1 : env0I c (n0 :: N').length ds = some (.ow (.obj c [])) :: env0 N'.length ds := rfl
  have er := er_start (N := N') s i
  rw [e0, e1]
  exact {
    g := ⟨.refl F, minus_ex.t, s, fun _ _ e => .inl e⟩
    self := fun y hy => by cases hy; rfl
    len := by simp [er.len]
    sh := fun j d e => by
      cases j with
      | zero => cases e
      | succ j => exact er.sh j d e
    bw := fun j d e => by
      exfalso
      cases j with
      | zero => cases e
      | succ j => exact env0_nob e
    ow := fun j d e => by
      cases j with
      | zero =>
        cases e
        exact ⟨x, rfl, .of minus_same, hf, dx, [], by simpa using hx, by simp, by rw [IsL]⟩
      | succ j =>
        obtain ⟨a, _, _, _, h4⟩ := er.ow j d e
        exfalso
        have := er.ow j d e
        obtain ⟨a, h1, h2, h3, h4⟩ := this
        obtain ⟨o, ho, hdo⟩ := h4.there
        exact h2.no ho (isD_T hdo)
    nd := fun j k d e a h1 h2 h3 h4 => by
      cases j with
      | zero =>
        cases k with
        | zero => rfl
        | succ k =>
          obtain ⟨a', q1, q2, q3, q4⟩ := er.ow k e h2
          obtain ⟨o, ho, hdo⟩ := q4.there
          exact (q2.no ho (isD_T hdo)).elim
      | succ j =>
        obtain ⟨a', q1, q2, q3, q4⟩ := er.ow j d h1
        obtain ⟨o, ho, hdo⟩ := q4.there
        exact (q2.no ho (isD_T hdo)).elim }
theorem fndI {c : Nat} {x qual : Str} {st : Stmt} {f : Addr} {fd : FuncData} {N ps : List Str} {k : Nat} {g : Env → RS} {n : Nat} (hn : ps.length = n + 1) (hN : N ≠ []) (Fu : Fun K x qual st f fd) (S : FnScope N ps (defScope st))
    (hbody : ∀ (cdv : Value) (A : Around) (outer : List PySem.Env) (s : Shared) (H F0 H0 : Hp) (x : Addr) (E : XK), Room k (A.deeper (PyProof.Rows.envOfC qual (defScope st) s.heap.objs.size f cdv)) →
      PSs (cxOf (L2.CX prog w) prog w K mg base N qual (defScope st) f cdv A outer s H E) (defBody st) (tS P ⟨F0, some x⟩ H0 (WE0 E) g)) :
    FnOk prog w K mg base (L2.CX prog w) (k + 1) f fd ps (spI P c n (runI c g N.length)) := by
  refine Fu.okX S (fun vs H Q E ⟨x, dx, args, F, ds, e, _, _, _, i, hl, _⟩ => by rw [e, List.length_cons, ← i.length, hl, hn]) (fun cdv A outer s H vs Q E hr h => ?_)
  obtain ⟨x, dx, args, F, ds, rfl, hx, hf, sx, i, hl, z⟩ := h
  refine ⟨_, hbody cdv A outer s H F (minus H x) x E hr, F, env0I c N.length ds, er_startI hN sx i hx hf, ?_⟩
  unfold runI at z
  cases hg : g (env0I c N.length ds) with
  | nx ρ =>
    rw [hg] at z
    intro σ F' H' er _
    replace z : PostG P (WE0 E) (fun F' _ fs v => v = .non ∧ Is P F' (.obj c fs) (.ref x)) (selfF c ρ) F [] (minus H x) Q := z
    have hx0 := er.self x rfl
    cases hs : selfF c ρ with
    | bad =>
      rw [hs] at z
      exact z.elim
    | err e p => exact absurd hs selfF_noerr
    | ok xs =>
      rw [hs] at z
      rcases selfF_of hs with q | q
      · obtain ⟨a, h1, h2, h3, h4⟩ := er.ow 0 _ q
        rw [hx0] at h1
        cases h1
        obtain ⟨F2, e1, e2, i2, n2⟩ := h4.still er.s h3 rfl
        refine z .non F2 H' ⟨er.g.f.trans e1, er.g.h, e2, fun b o hb => ?_⟩ ⟨rfl, i2⟩
        rcases n2 b o hb with y | y
        · exact er.g.n b o y
        · exact .inr (.inl (y ▸ .of minus_same))
      · obtain ⟨v, h1, h2⟩ := er.sh 0 _ q
        rw [hx0] at h1
        cases h1
        exact z .non F' H' er.g ⟨rfl, h2⟩
  | rt d =>
    rw [hg] at z
    exact z.elim
  | bk ρ =>
    rw [hg] at z
    exact z.elim
  | ct ρ =>
    rw [hg] at z
    exact z.elim
  | err e p ρ =>
    rw [hg] at z
    exact fun σ F' H' y er _ q => z F' H' y er.g q
  | bad =>
    rw [hg] at z
    exact z.elim
end
end DL
namespace DL
open PySem L2

section
variable {P : Pm} {F0 : Fz} {H0 F F' H H' : Hp} {ρ : Env} {σ : St}
theorem Own.at {a : Addr} (e : H' a = H a) : ∀ {d : D}, Own P F H a d → Own P F H' a d
  | .lst xs, ⟨vs, h1, h2⟩ => ⟨vs, e.trans h1, h2⟩
  | .dK ks xs, ⟨vs, h1, h2, h3⟩ => ⟨vs, e.trans h1, h2, h3⟩
  | .dT ks xs, ⟨vs, h1, h2, h3⟩ => ⟨vs, e.trans h1, h2, h3⟩
  | .obj c xs, ⟨dx, vs, h1, h2, h3⟩ => ⟨dx, vs, e.trans h1, h2, h3⟩
  | .non, h => h.elim
  | .bl _, h => h.elim
  | .int _, h => h.elim
  | .str _, h => h.elim
  | .tup _, h => h.elim
  | .scr _, h => h.elim
theorem lt_of_get {α : Type} {l : List α} {i : Nat} {x : α} (h : l[i]? = some x) : i < l.length := by
  rcases Nat.lt_or_ge i l.length with q | q
  · exact q
  · rw [List.getElem?_eq_none q] at h
    cases h
theorem IsL.unnil {vs : List V} (h : IsL P F [] vs) : vs = [] := by
  rw [IsL] at h
  exact h
theorem IsL.uncons {d : D} {ds : List D} {vs : List V} (h : IsL P F (d :: ds) vs) : ∃ v r, vs = v :: r ∧ Is P F d v ∧ IsL P F ds r := by
  rw [IsL] at h
  exact h
/-- a name gets a new object, one's own -/
theorem ER.putO (r : ER P F0 H0 F ρ σ H) (g : Grow P F H F' H') (i : Nat) {d : D} {p : Addr} (hp : NoD H p) (hf : F' p = none) (ho : Own P F' H' p d) (hi0 : F0.S = none ∨ i ≠ 0) :
    ER P F0 H0 F' (ρ.set i (some (.ow d))) (σ.set i (some (.ref p))) H' := by
  have r' := r.grow g
  exact {
    g := r'.g
    self := fun x hx => by
      rcases hi0 with q | q
      · rw [q] at hx
        cases hx
      · rw [List.getElem?_set_ne q]
        exact r.self x hx
    len := by simp [r.len]
    sh := fun j e q => by
      by_cases hj : i = j
      · subst hj
        have hl : i < ρ.length := by simpa using lt_of_get q
        rw [get_set_self hl] at q
        cases q
      · rw [List.getElem?_set_ne hj] at q
        rw [List.getElem?_set_ne hj]
        exact r'.sh j e q
    bw := fun j e q => by
      by_cases hj : i = j
      · subst hj
        have hl : i < ρ.length := by simpa using lt_of_get q
        rw [get_set_self hl] at q
        cases q
      · rw [List.getElem?_set_ne hj] at q
        rw [List.getElem?_set_ne hj]
        exact r'.bw j e q
    ow := fun j e q => by
      by_cases hj : i = j
      · subst hj
        have hl : i < ρ.length := by simpa using lt_of_get q
        rw [get_set_self hl] at q
        cases q
        exact ⟨p, get_set_self (r.len ▸ hl), r.g.h.backN hp, hf, ho⟩
      · rw [List.getElem?_set_ne hj] at q
        rw [List.getElem?_set_ne hj]
        exact r'.ow j e q
    nd := fun j k d' e' a q1 q2 q3 q4 => by
      by_cases hj : i = j
      · by_cases hk : i = k
        · exact hj.symm.trans hk
        · exfalso
          subst hj
          have hl : i < ρ.length := by simpa using lt_of_get q1
          rw [get_set_self (r.len ▸ hl)] at q3
          cases q3
          rw [List.getElem?_set_ne hk] at q2 q4
          obtain ⟨a', h1, h2, h3, h4⟩ := r.ow k e' q2
          rw [q4] at h1
          cases h1
          obtain ⟨o, h5, hdo⟩ := h4.there
          exact hp.no h5 (isD_T hdo)
      · by_cases hk : i = k
        · exfalso
          subst hk
          have hl : i < ρ.length := by simpa using lt_of_get q2
          rw [get_set_self (r.len ▸ hl)] at q4
          cases q4
          rw [List.getElem?_set_ne hj] at q1 q3
          obtain ⟨a', h1, h2, h3, h4⟩ := r.ow j d' q1
          rw [q3] at h1
          cases h1
          obtain ⟨o, h5, hdo⟩ := h4.there
          exact hp.no h5 (isD_T hdo)
        · rw [List.getElem?_set_ne hj] at q1 q3
          rw [List.getElem?_set_ne hk] at q2 q4
          exact r.nd j k d' e' a q1 q2 q3 q4 }
/-- an object of one's own is changed -/
theorem ER.mut (r : ER P F0 H0 F ρ σ H) {i : Nat} {d d' : D} {a : Addr} {o : HO} (hr : ρ[i]? = some (some (.ow d))) (hs : σ[i]? = some (some (.ref a))) (ho : Own P F (upd H a o) a d') :
    ER P F0 H0 F (ρ.set i (some (.ow d'))) σ (upd H a o) := by
  obtain ⟨a', h1, h2, h3, h4⟩ := r.ow i d hr
  rw [hs] at h1
  cases h1
  have hl := lt_of_get hr
  exact {
    g := by
      obtain ⟨u0, hu0, hd0⟩ := h4.there
      exact ⟨r.g.f, ⟨fun b u e n => by rw [upd_ne (h2.ne e n)]; exact r.g.h.at_ b u e n⟩, ⟨fun b u e => by rw [upd_ne (ne_of_none e h3)]; exact r.g.s.ex b u e, r.g.s.nt, Tabs.upd r.g.s.tabs hu0 hd0⟩, r.g.n⟩
    self := r.self
    len := by simp [r.len]
    sh := fun j e q => by
      by_cases hj : i = j
      · subst hj
        rw [get_set_self hl] at q
        cases q
      · rw [List.getElem?_set_ne hj] at q
        exact r.sh j e q
    bw := fun j e q => by
      by_cases hj : i = j
      · subst hj
        rw [get_set_self hl] at q
        cases q
      · rw [List.getElem?_set_ne hj] at q
        exact r.bw j e q
    ow := fun j e q => by
      by_cases hj : i = j
      · subst hj
        rw [get_set_self hl] at q
        cases q
        exact ⟨a, hs, h2, h3, ho⟩
      · rw [List.getElem?_set_ne hj] at q
        obtain ⟨b, k1, k2, k3, k4⟩ := r.ow j e q
        refine ⟨b, k1, k2, k3, k4.at (upd_ne fun z => ?_)⟩
        subst z
        exact hj (r.nd i j d e b hr q hs k1)
    nd := fun j k d1 e1 b q1 q2 q3 q4 => by
      by_cases hj : i = j
      · by_cases hk : i = k
        · exact hj.symm.trans hk
        · subst hj
          rw [List.getElem?_set_ne hk] at q2
          exact r.nd i k d e1 b hr q2 q3 q4
      · rw [List.getElem?_set_ne hj] at q1
        by_cases hk : i = k
        · subst hk
          exact r.nd j i d1 d b q1 hr q3 q4
        · rw [List.getElem?_set_ne hk] at q2
          exact r.nd j k d1 e1 b q1 q2 q3 q4 }
def frz (i : Nat) (ρ : Env) : Env := match ρ[i]? with
  | some (some (.ow d)) => ρ.set i (some (.sh d))
  | _ => ρ
/-- an object of one's own is kept still from now on -/
theorem ER.freezeI {X : Cx} {pins : List (Addr × Obj)} {s : Shared} (I : Inv X pins σ H s) (r : ER P F0 H0 F ρ σ H) (i : Nat) : ∃ F' H', Inv X pins σ H' s ∧ Ex F F' ∧ ER P F0 H0 F' (frz i ρ) σ H' := by
  unfold frz
  split
  · rename_i d q
    obtain ⟨a, h1, h2, h3, h4⟩ := r.ow i d q
    obtain ⟨F2, H2, I2, e1, e2, i2, n2, off⟩ := h4.stillI I r.s h3
    have hl := lt_of_get q
    refine ⟨F2, H2, I2, e1, ?_⟩
    exact {
      g := r.g.still h2 e1 e2 n2 off
      self := r.self
      len := by simp [r.len]
      sh := fun j e z => by
        by_cases hj : i = j
        · subst hj
          rw [get_set_self hl] at z
          cases z
          exact ⟨.ref a, h1, i2⟩
        · rw [List.getElem?_set_ne hj] at z
          obtain ⟨v, k1, k2⟩ := r.sh j e z
          exact ⟨v, k1, k2.mono e1 e⟩
      bw := fun j e z => by
        by_cases hj : i = j
        · subst hj
          rw [get_set_self hl] at z
          cases z
        · rw [List.getElem?_set_ne hj] at z
          exact r.bw j e z
      ow := fun j e z => by
        by_cases hj : i = j
        · subst hj
          rw [get_set_self hl] at z
          cases z
        · rw [List.getElem?_set_ne hj] at z
          obtain ⟨b, k1, k2, k3, k4⟩ := r.ow j e z
          have hba : b ≠ a := fun y => by
            subst y
            exact absurd (r.nd i j d e b q z h1 k1) hj
          refine ⟨b, k1, k2, ?_, (k4.at (off b hba)).mono e1 (.refl H2)⟩
          cases hb : F2 b with
          | none => rfl
          | some o =>
            rcases n2 b o hb with y | y
            · rw [k3] at y
              cases y
            · exact absurd y hba
      nd := fun j k d1 e1 b q1 q2 q3 q4 => by
        by_cases hj : i = j
        · subst hj
          rw [get_set_self hl] at q1
          cases q1
        · by_cases hk : i = k
          · subst hk
            rw [get_set_self hl] at q2
            cases q2
          · rw [List.getElem?_set_ne hj] at q1
            rw [List.getElem?_set_ne hk] at q2
            exact r.nd j k d1 e1 b q1 q2 q3 q4 }
  · exact ⟨F, H, I, .refl F, r⟩
end
section
variable {X : Cx} {P : Pm} {F0 : Fz} {H0 : Hp} {W : WX} {a b c e o : Expr} {es : List Expr} {fa fb fc : Env → Res D} {gc : Env → Res Bool} {fs : Env → Res (List D)} {pos p apos : Pos} {st : Stmt} {sts tts : List Stmt} {g g1 g2 : Env → RS}
theorem sd_frz (i : Nat) (h : PSs X sts (tS P F0 H0 W g)) : PSs X sts (tS P F0 H0 W (fun ρ => g (frz i ρ))) := ⟨fun pins s σ H N I ⟨F, ρ, er, z⟩ => by
  obtain ⟨F', H', I', e, er'⟩ := er.freezeI I i
  exact h.run pins s σ H' N I' ⟨F', frz i ρ, er', PostS.shift (r := g (frz i ρ)) z e⟩⟩
theorem sd_frz1 (i : Nat) (h : PS X st (tS P F0 H0 W g)) : PS X st (tS P F0 H0 W (fun ρ => g (frz i ρ))) := ⟨fun pins s σ H N I ⟨F, ρ, er, z⟩ => by
  obtain ⟨F', H', I', e, er'⟩ := er.freezeI I i
  exact h.run pins s σ H' N I' ⟨F', frz i ρ, er', PostS.shift (r := g (frz i ρ)) z e⟩⟩
/-- x = a new object, which will be changed by x -/
theorem sd_setN {i : Nat} {x : Str} {pos' : Pos} (hN : X.N.Nodup) (hi : X.N[i]? = some x) (hx : Loc X.env.scope x) (he : PE X e (tN P F0 H0 W fa)) (hs : swapsWith e (some (.Name x pos')) pos.line X.env = pure false := by rfl) (hi0 : F0.S = none ∨ i ≠ 0 := by first | exact Or.inl rfl | exact Or.inr (by decide)) (hf : X.fn x = true ∨ X.env.scope.names.lookup x = some .local := by first | exact .inl rfl | exact .inr rfl | assumption) :
    PS X (.Assign [.Name x pos'] e pos) (tS P F0 H0 W (fun ρ => bindS (fa ρ) ρ fun d => .nx (ρ.set i (some (.ow d))))) := (ps_set hN hi hx he hs hf).imp fun N σ H ⟨F, ρ, er, z⟩ => by
  refine ⟨F, ρ, er, ?_⟩
  refine (PostS.bind (rel := rNw P H) er z).imp ?_
  rintro v H1 ⟨F1, d, g, ⟨q, rfl, h1, h2, h3⟩, z⟩
  exact z _ F1 H1 (er.putO g i h1 h2 h3 hi0) (.refl F1)
/-- x.append(e) -/
def appD (i : Nat) (ρ : Env) (d : D) : RS := match ρ[i]? with
  | some (some (.ow (.lst xs))) => if small (xs.length + 1) = true then .nx (ρ.set i (some (.ow (.lst (xs ++ [d]))))) else .bad
  | _ => .bad
def isOw (i : Nat) (ρ : Env) : Res Unit := match ρ[i]? with
  | some (some (.ow (.lst _))) => .ok ()
  | _ => .bad
theorem isOw_cases (i : Nat) (ρ : Env) : (isOw i ρ = .bad) ∨ ∃ xs, isOw i ρ = .ok () ∧ ρ[i]? = some (some (.ow (.lst xs))) := by
  unfold isOw
  split
  · rename_i xs q
    exact .inr ⟨xs, rfl, q⟩
  · exact .inl rfl
theorem sd_append (i : Nat) {x : Str} {p1 apos cpos : Pos} (he : PE X e (tE P F0 H0 W fa)) (hN : X.N[i]? = some x := by rfl) (hv : Vis X.env.scope x := by first | exact Or.inl rfl | exact Or.inr (Or.inl rfl) | exact Or.inr (Or.inr rfl)) (hd : (x == ("__debug__" : Str)) = false := by decide)
    (hcd : (x == ("__classdict__" : Str)) = false := by decide)
    (hbase : attributeBase (.Name x p1) "append" X.env (eval (.Name x p1) X.env) = eval (.Name x p1) X.env := by rfl)
    (hfew : ((backTo cpos (starEach [e] X.env)).all (fun x => !x.1) && (backToKw cpos (keywordEach [] X.env)).all (fun x => x.1.isSome)
      && decide (([e] : List Expr).length + ([] : List Keyword).length + (if ([] : List Keyword).isEmpty then 0 else 1) < 30)) = true := by rfl)
    (hline : (apos.endLine == cpos.line) = true := by rfl) (hs1 : starEach [e] X.env = (false, eval e X.env) :: starEach [] X.env := by rfl) (hplain : (backTo cpos (starEach [] X.env)).any (·.1) = false := by rfl)
    (hs : swapsWith (.Call (.Attribute (.Name x p1) "append" apos) [e] [] cpos) none pos.line X.env = pure false := by rfl) :
    PS X (.Expr (.Call (.Attribute (.Name x p1) "append" apos) [e] [] cpos) pos) (tS P F0 H0 W (fun ρ => bindS (isOw i ρ) ρ fun _ => bindS (fa ρ) ρ fun d => appD i ρ d)) :=
  (ps_expr (pe_bm PySem.F.plainAttrs_list PySem.F.slot_list_append PySem.F.type_list_append mt_append (pe_var hN hv hd hcd) (pa_cons he pa_nil hs1) hbase hfew hline hs1 hplain) hs).imp fun N σ H ⟨F, ρ, er, z⟩ => by
  have z' : PostS P F0 H0 W F (bindS (isOw i ρ) ρ fun _ => bindS (fa ρ) ρ fun d => appD i ρ d) N := z
  rcases isOw_cases i ρ with hb | ⟨xs, hb, q⟩
  · rw [hb] at z'
    exact z'.elim
  · rw [hb] at z'
    replace z' : PostS P F0 H0 W F (bindS (fa ρ) ρ fun d => appD i ρ d) N := z'
    obtain ⟨a, h1, h2, h3, vs, h4, h5⟩ := er.ow i _ q
    refine ⟨.ref a, h1, .inl ⟨rfl, vs, SqL.of h4⟩, ?_⟩
    refine ⟨F, ρ, er, (PostS.bind (rel := rIs P) er z').imp ?_⟩
    rintro v H1 ⟨F1, d, g, j, z1⟩
    have ea : appD i ρ d = if small (xs.length + 1) = true then .nx (ρ.set i (some (.ow (.lst (xs ++ [d]))))) else .bad := by
      unfold appD
      rw [q]
    rw [ea] at z1
    by_cases hz : small (xs.length + 1) = true
    · rw [if_pos hz] at z1
      refine ⟨a, vs, v, rfl, rfl, g.h.dat h4, by have := small_lt hz; rw [h5.length] at this; omega, ?_⟩
      refine z1 σ F1 _ ((er.grow g).mut q h1 ⟨vs ++ [v], upd_same, ?_⟩) (.refl F1)
      exact (h5.mono g.f xs).append (.cons j .nil)
    · rw [if_neg hz] at z1
      exact z1.elim
/-! ### several names at once -/
def par2 (i j : Nat) (ρ : Env) : List D → RS
  | [d, e] => .nx ((ρ.set i (some (.sh d))).set j (some (.sh e)))
  | _ => .bad
theorem sd_par {i j : Nat} {x y : Str} {px py pt : Pos} {kt k2 pt2} (hc : X.calm = true) (hN : X.N.Nodup) (hi : X.N[i]? = some x) (hj : X.N[j]? = some y) (hij : i ≠ j)
    (hx : X.env.scope.names.lookup x = some .local) (hy : X.env.scope.names.lookup y = some .local) (ha : PA X [a, b] (tL P F0 H0 W fs))
    (hw : swappedStores [.Tuple [.Name x px, .Name y py] kt pt] (.Tuple [a, b] k2 pt2) X.env = pure (some [x, y])) (h0 : F0.S = none := by rfl)
    (hs : swapsWithSole [.Tuple [.Name x px, .Name y py] kt pt] (.Tuple [a, b] k2 pt2) pos.line X.env = pure false := by rfl) :
    PS X (.Assign [.Tuple [.Name x px, .Name y py] kt pt] (.Tuple [a, b] k2 pt2) pos) (tS P F0 H0 W (fun ρ => bindS (fs ρ) ρ (par2 i j ρ))) := (ps_par hc hN hi hj hij hx hy ha hw hs).imp fun N σ H ⟨F, ρ, er, z⟩ => by
  refine ⟨F, ρ, er, (PostS.bind (rel := rLs P) er z).imp ?_⟩
  rintro vs H1 ⟨F1, ds, g, q, z1⟩
  unfold par2 at z1
  split at z1
  · rename_i d e
    obtain ⟨v, r, rfl, q1, q⟩ := q.uncons
    obtain ⟨v2, r2, rfl, q2, q⟩ := q.uncons
    obtain rfl := q.unnil
    exact ⟨v, v2, rfl, z1 _ F1 H1 (((er.grow g).put i q1 (.inl h0)).put j q2 (.inl h0)) (.refl F1)⟩
  · exact z1.elim
def par3 (i j l : Nat) (ρ : Env) : List D → RS
  | [d, e, f] => .nx (((ρ.set i (some (.sh d))).set j (some (.sh e))).set l (some (.sh f)))
  | _ => .bad
theorem sd_par3 {i j l : Nat} {x y z : Str} {px py pz pt pos : Pos} {kt k2 pt2} (hc : X.calm = true) (hN : X.N.Nodup) (hi : X.N[i]? = some x) (hj : X.N[j]? = some y) (hl : X.N[l]? = some z) (hij : i ≠ j) (hil : i ≠ l) (hjl : j ≠ l)
    (hx : X.env.scope.names.lookup x = some .local) (hy : X.env.scope.names.lookup y = some .local) (hz : X.env.scope.names.lookup z = some .local) (ha : PA X [a, b, c] (tL P F0 H0 W fs))
    (hw : swappedStores [.Tuple [.Name x px, .Name y py, .Name z pz] kt pt] (.Tuple [a, b, c] k2 pt2) X.env = pure (some [x, y, z])) (h0 : F0.S = none := by rfl)
    (hs : swapsWithSole [.Tuple [.Name x px, .Name y py, .Name z pz] kt pt] (.Tuple [a, b, c] k2 pt2) pos.line X.env = pure false := by rfl) :
    PS X (.Assign [.Tuple [.Name x px, .Name y py, .Name z pz] kt pt] (.Tuple [a, b, c] k2 pt2) pos) (tS P F0 H0 W (fun ρ => bindS (fs ρ) ρ (par3 i j l ρ))) := (ps_par3 hc hN hi hj hl hij hil hjl hx hy hz ha hw hs).imp fun N σ H ⟨F, ρ, er, z⟩ => by
  refine ⟨F, ρ, er, (PostS.bind (rel := rLs P) er z).imp ?_⟩
  rintro vs H1 ⟨F1, ds, g, q, z1⟩
  unfold par3 at z1
  split at z1
  · rename_i d e f
    obtain ⟨v, r, rfl, q1, q⟩ := q.uncons
    obtain ⟨v2, r2, rfl, q2, q⟩ := q.uncons
    obtain ⟨v3, r3, rfl, q3, q⟩ := q.uncons
    obtain rfl := q.unnil
    exact ⟨v, v2, v3, rfl, z1 _ F1 H1 ((((er.grow g).put i q1 (.inl h0)).put j q2 (.inl h0)).put l q3 (.inl h0)) (.refl F1)⟩
  · exact z1.elim
/-- target = value, any target -/
theorem sd_asg {tg : Expr} {us : List Nat} {h : D → Env → Option Env} (he : PE X e (tE P F0 H0 W fa)) (hg : PG X tg (tGt P F0 H0 us h)) (hs : swapsWithSole [tg] e pos.line X.env = pure false := by rfl) (hw : swappedStores [tg] e X.env = pure none := by rfl)
    (h1 : (assignEach [tg] X.env).map (·.2) = [assign tg X.env] := by rfl) : PS X (.Assign [tg] e pos) (tS P F0 H0 W (fun ρ => bindS (fa ρ) ρ fun d => match h d ρ with | some ρ' => .nx ρ' | none => .bad)) := (ps_asg he hg hs hw h1).imp fun N σ H ⟨F, ρ, er, z⟩ => by
  refine ⟨F, ρ, er, (PostS.bind (rel := rIs P) er z).imp ?_⟩
  rintro v H1 ⟨F1, d, g, q, z1⟩
  cases hh : h d ρ with
  | none =>
    rw [hh] at z1
    exact z1.elim
  | some ρ' =>
    rw [hh] at z1
    exact ⟨F1, ρ, d, ρ', er.grow g, q, hh, fun σ' er' _ => z1 σ' F1 H1 er' (.refl F1)⟩
end
end DL
namespace DL
open PySem L2

/-! ### what is walked -/
section
variable {X : Cx} {P : Pm} {F0 : Fz} {H0 : Hp} {W : WX} {a b c e l tg : Expr} {es : List Expr} {fa fb fc : Env → Res D} {fs : Env → Res (List D)} {pos p : Pos}
theorem _root_.L2.PI.imp {t t' : TI} (h : PI X tg e t) (q : ∀ σ H R, t' σ H R → t σ H R) : PI X tg e t' := ⟨fun pins s σ H R I z => h.run pins s σ H R I (q σ H R z)⟩
def iSeq (K : PySem.W.Frag) (tl : TE) : TI := fun σ H R => tl σ H fun x H1 => (∃ a, x = .ref a ∧ (∃ xs, SqL K H1 a xs) ∧ R (Itl K a) H1) ∨ (∃ a, x = .ref a ∧ (∃ xs, SqT K H1 a xs) ∧ R (Itt K a) H1) ∨ ∃ z, x = .str z ∧ R (Its z) H1
theorem pi_seq {tl : TE} (hl : PE X l tl) : PI X tg l (iSeq X.K tl) := by
  refine ⟨fun pins s σ H R I h => ?_⟩
  refine thn (hl.run pins s σ H _ I h) fun v s1 ⟨x, H1, I1, r1, q1⟩ => ?_
  rcases q1 with ⟨a, e, ⟨xs, hq⟩, q⟩ | ⟨a, e, ⟨xs, hq⟩, q⟩ | ⟨z, e, q⟩
  · subst e
    cases r1
    obtain ⟨its, rv, p, hz⟩ := I1.list hq
    refine wpAny_pyIter_list p.isList ?_
    refine ⟨s1.heap.objs.size, [s1.heap.objs.size], _, _, H1, rfl, I1.kept (t' := s1.toks) fun b o e => Heap.get?_push_of_some _ e, turn_list a _, ⟨_, Heap.get?_push_size _ rfl, rfl, rfl⟩, fun b hb => ?_, q⟩
    have e : b = s1.heap.objs.size := by simpa using hb
    subst e
    exact I1.fpOk (Nat.le_refl _) (I1.hok.fresh (Nat.le_refl _))
  · subst e
    cases r1
    obtain ⟨its, rv, p, hz⟩ := I1.tuple hq
    refine wpAny_pyIter_tuple (show s1.heap.IsTuple a its.toArray from p) ?_
    refine ⟨s1.heap.objs.size, [s1.heap.objs.size], _, _, H1, rfl, I1.kept (t' := s1.toks) fun b o e => Heap.get?_push_of_some _ e, turn_tuple a _, ⟨_, Heap.get?_push_size _ rfl, rfl, rfl⟩, fun b hb => ?_, q⟩
    have e : b = s1.heap.objs.size := by simpa using hb
    subst e
    exact I1.fpOk (Nat.le_refl _) (I1.hok.fresh (Nat.le_refl _))
  · subst e
    obtain ⟨t, rfl⟩ := r1
    cases ha : z.cps.all (· < 128)
    · exact PySem.wpAny_pyIter_wide ha (pi_one (tk := s1.toks) I1 _ (turn_str _ z t "str_iterator" (.inr rfl)) ⟨_, Heap.get?_push_size _ rfl, rfl, rfl⟩ q)
    · exact PySem.wpAny_pyIter_ascii ha (pi_one (tk := s1.toks) I1 _ (turn_str _ z t "str_ascii_iterator" (.inl rfl)) ⟨_, Heap.get?_push_size _ rfl, rfl, rfl⟩ q)
def seqD : D → Res (List D)
  | .lst xs => .ok xs
  | .tup xs => .ok xs
  | .str z => .ok (z.cps.toList.map fun c => .str ⟨#[c]⟩)
  | _ => .bad
theorem un_lst {F : Hp} {xs : List D} {v : V} (h : Is P F (.lst xs) v) : ∃ a vs, v = .ref a ∧ Rd F a (.lst vs) ∧ IsL P F xs vs := by
  rw [Is] at h
  exact h
theorem un_tup {F : Hp} {xs : List D} {v : V} (h : Is P F (.tup xs) v) : ∃ a vs, v = .ref a ∧ Rd F a (.tup vs) ∧ IsL P F xs vs := by
  rw [Is] at h
  obtain ⟨a, vs, h1, h2, h3⟩ := h
  exact ⟨a, vs, h1, .inl h2, h3⟩
theorem un_str {F : Hp} {z : Str} {v : V} (h : Is P F (.str z) v) : v = .str z := by
  rw [Is] at h
  exact h
theorem un_int {F : Hp} {z : Int} {v : V} (h : Is P F (.int z) v) : v = .int z := by
  rw [Is] at h
  exact h
theorem un_bl {F : Hp} {z : Bool} {v : V} (h : Is P F (.bl z) v) : v = .bl z := by
  rw [Is] at h
  exact h
theorem un_non {F : Hp} {v : V} (h : Is P F .non v) : v = .non := by
  rw [Is] at h
  exact h
theorem itl_D {K : PySem.W.Frag} {F H : Hp} {a : Addr} {vs : List V} {ds : List D} (h : Rd F a (.lst vs)) (i : IsL P F ds vs) : ItD P F H ds (Itl K a) := fun j F1 H1 e1 e2 => by
  have hr : SqL K H1 a vs := .inl ((e2.sub e1).rd h)
  refine ⟨fun d hd => ?_, fun hl => ⟨vs, hr, by rw [← i.length]; exact hl⟩⟩
  obtain ⟨v, h1, h2⟩ := i.get hd
  refine ⟨⟨vs, v, hr, h1⟩, ?_⟩
  rintro x H2 ⟨rfl, hx⟩
  have := hx vs hr
  rw [h1] at this
  cases this
  exact ⟨F1, .refl e2, h2.mono e1 d⟩
theorem itt_D {K : PySem.W.Frag} {F H : Hp} {a : Addr} {vs : List V} {ds : List D} (h : Rd F a (.tup vs)) (i : IsL P F ds vs) : ItD P F H ds (Itt K a) := fun j F1 H1 e1 e2 => by
  have hr : SqT K H1 a vs := .inl ((e2.sub e1).rd h)
  refine ⟨fun d hd => ?_, fun hl => ⟨vs, hr, by rw [← i.length]; exact hl⟩⟩
  obtain ⟨v, h1, h2⟩ := i.get hd
  refine ⟨⟨vs, v, hr, h1⟩, ?_⟩
  rintro x H2 ⟨rfl, hx⟩
  have := hx vs hr
  rw [h1] at this
  cases this
  exact ⟨F1, .refl e2, h2.mono e1 d⟩
theorem its_D {F H : Hp} {z : Str} : ItD P F H (z.cps.toList.map fun c => D.str ⟨#[c]⟩) (Its z) := fun j F1 H1 e1 e2 => by
  refine ⟨fun d hd => ?_, fun hl => (by simpa using hl : z.cps.size ≤ j)⟩
  rw [List.getElem?_map] at hd
  cases hc : z.cps.toList[j]? with
  | none =>
    rw [hc] at hd
    cases hd
  | some c =>
    rw [hc] at hd
    cases hd
    have hj := lt_of_get hc
    refine ⟨(by simpa using hj : j < z.cps.size), ?_⟩
    rintro x H2 ⟨rfl, c', hc', rfl⟩
    have : z.cps.toList[j]? = some c' := by simpa using hc'
    rw [hc] at this
    cases this
    exact ⟨F1, .refl e2, is_str⟩
/-- for x in e: a list, a tuple, a text -/
theorem id_seq (h : PE X l (tE P F0 H0 W fa)) : PI X tg l (tI P F0 H0 W (fun ρ => fa ρ >>= seqD)) := (pi_seq h).imp fun σ H R ⟨F, ρ, er, z⟩ => by
  refine ⟨F, ρ, er, (PostG.bind (rel := rIs P) z).imp ?_⟩
  rintro v H1 ⟨F1, d, g, i, q⟩
  unfold seqD at q
  split at q
  · obtain ⟨a, vs, rfl, h1, h2⟩ := un_lst i
    exact .inl ⟨a, rfl, ⟨vs, .inl (g.s.rd h1)⟩, q.here g.s (itl_D h1 h2)⟩
  · obtain ⟨a, vs, rfl, h1, h2⟩ := un_tup i
    exact .inr (.inl ⟨a, rfl, ⟨vs, .inl (g.s.rd h1)⟩, q.here g.s (itt_D h1 h2)⟩)
  · exact .inr (.inr ⟨_, un_str i, q.here g.s its_D⟩)
  · exact q.elim
/-! ### ranges -/
def rngD (lo hi : Int) : List D := (List.range (hi - lo).toNat).map fun k => .int (lo + (k : Nat))
theorem itr_D {F H : Hp} {lo hi : Int} : ItD P F H (rngD lo hi) (Itr lo (hi - lo).toNat) := fun j F1 H1 e1 e2 => by
  refine ⟨fun d hd => ?_, fun hl => (by simp [rngD] at hl; omega : (hi - lo).toNat ≤ j)⟩
  unfold rngD at hd
  rw [List.getElem?_map] at hd
  cases hc : (List.range (hi - lo).toNat)[j]? with
  | none =>
    rw [hc] at hd
    cases hd
  | some c =>
    rw [hc] at hd
    cases hd
    have hj := lt_of_get hc
    rw [List.getElem?_eq_getElem hj] at hc
    simp at hc hj
    subst hc
    refine ⟨(by omega : j < (hi - lo).toNat), ?_⟩
    rintro x H2 ⟨rfl, rfl⟩
    exact ⟨F1, .refl e2, is_int⟩
def rng1 : List D → Res (List D)
  | [.int j] => if -(2 ^ 62) ≤ j ∧ j < 2 ^ 62 then .ok (rngD 0 j) else .bad
  | _ => .bad
def rng2 : List D → Res (List D)
  | [.int i, .int j] => if -(2 ^ 62) ≤ i ∧ i < 2 ^ 62 ∧ -(2 ^ 62) ≤ j ∧ j < 2 ^ 62 then .ok (rngD i j) else .bad
  | _ => .bad
theorem id_range1 (hg : Gl X "range") (hm : X.mg "range" = none) (ha : PA X [a] (tL P F0 H0 W fs)) (hs : starEach [a] X.env = [(false, eval a X.env)] := by rfl) : PI X tg (.Call (.Name "range" p) [a] [] pos) (tI P F0 H0 W (fun ρ => fs ρ >>= rng1)) :=
  (pi_range1 hg hm ha hs).imp fun σ H R ⟨F, ρ, er, z⟩ => by
  refine ⟨F, ρ, er, (PostG.bind (rel := rLs P) z).imp ?_⟩
  rintro vs H1 ⟨F1, ds, g, i, q⟩
  unfold rng1 at q
  split at q
  · rename_i j
    obtain ⟨v, r, rfl, i1, i⟩ := i.uncons
    obtain rfl := i.unnil
    rw [Is] at i1
    subst i1
    split at q
    · rename_i hj
      refine ⟨j, rfl, hj.1, hj.2, ?_⟩
      have := q.here g.s (itr_D (lo := 0) (hi := j))
      simpa using this
    · exact q.elim
  · exact q.elim
theorem id_range2 (hg : Gl X "range") (hm : X.mg "range" = none) (ha : PA X [a, b] (tL P F0 H0 W fs)) (hs : starEach [a, b] X.env = [(false, eval a X.env), (false, eval b X.env)] := by rfl) (hs2 : starEach [b] X.env = [(false, eval b X.env)] := by rfl) : PI X tg (.Call (.Name "range" p) [a, b] [] pos) (tI P F0 H0 W (fun ρ => fs ρ >>= rng2)) :=
  (pi_range2 hg hm ha hs hs2).imp fun σ H R ⟨F, ρ, er, z⟩ => by
  refine ⟨F, ρ, er, (PostG.bind (rel := rLs P) z).imp ?_⟩
  rintro vs H1 ⟨F1, ds, g, i, q⟩
  unfold rng2 at q
  split at q
  · rename_i j k
    obtain ⟨v, r, rfl, i1, i⟩ := i.uncons
    obtain ⟨v2, r2, rfl, i2, i⟩ := i.uncons
    obtain rfl := i.unnil
    rw [Is] at i1 i2
    subst i1 i2
    split at q
    · rename_i hj
      exact ⟨j, k, rfl, hj, q.here g.s itr_D⟩
    · exact q.elim
  · exact q.elim
/-! ### zip, enumerate -/
def zipL (xs ys : List D) : List D := (xs.zip ys).map fun q => .tup [q.1, q.2]
theorem zipL_get {xs ys : List D} {j : Nat} {d : D} (h : (zipL xs ys)[j]? = some d) : ∃ x y, xs[j]? = some x ∧ ys[j]? = some y ∧ d = .tup [x, y] := by
  unfold zipL at h
  rw [List.getElem?_map] at h
  cases hz : (xs.zip ys)[j]? with
  | none =>
    rw [hz] at h
    cases h
  | some q =>
    rw [hz] at h
    cases h
    rw [List.getElem?_zip_eq_some] at hz
    exact ⟨q.1, q.2, hz.1, hz.2, rfl⟩
theorem zipL_len {xs ys : List D} : (zipL xs ys).length = min xs.length ys.length := by simp [zipL]
theorem pair_D {F1 H1 : Hp} {x y : D} {vx vy : V} {T : Addr} (e2 : Sb P F1 H1) (hT : H1 T = none) (hx : Is P F1 x vx) (hy : Is P F1 y vy) : ∃ F2, Grow P F1 H1 F2 (upd H1 T (.tup [vx, vy])) ∧ Is P F2 (.tup [x, y]) (.ref T) :=
  ⟨upd F1 T (.tup [vx, vy]), .new e2 hT, by rw [Is]; exact ⟨T, _, rfl, upd_same, .cons (hx.mono (.new (e2.back hT)) x) (.cons (hy.mono (.new (e2.back hT)) y) .nil)⟩⟩
def zipD : List D → Res (List D)
  | [.lst xs, .lst ys] => .ok (zipL xs ys)
  | [.tup xs, .tup ys] => .ok (zipL xs ys)
  | _ => .bad
theorem id_zip {elts : List Expr} {kk : Nat} {tpos : Pos} (hg : Gl X "zip") (hm : X.mg "zip" = none) (ha : PA X [a, b] (tL P F0 H0 W fs)) (hs : starEach [a, b] X.env = (false, eval a X.env) :: starEach [b] X.env := by rfl) (hpl : (backTo pos (starEach [b] X.env)).any (·.1) = false := by rfl) :
    PI X (.Tuple elts kk tpos) (.Call (.Name "zip" p) [a, b] [] pos) (tI P F0 H0 W (fun ρ => fs ρ >>= zipD)) := (RZ.pi_zipA hg hm ha hs hpl).imp fun σ H R ⟨F, ρ, er, z⟩ => by
  refine ⟨F, ρ, er, (PostG.bind (rel := rLs P) z).imp ?_⟩
  rintro vs H1 ⟨F1, ds, g, i, q⟩
  unfold zipD at q
  split at q
  · rename_i xs ys
    obtain ⟨v, r, rfl, i1, i⟩ := i.uncons
    obtain ⟨v2, r2, rfl, i2, i⟩ := i.uncons
    obtain rfl := i.unnil
    rw [Is] at i1 i2
    obtain ⟨a1, vs1, rfl, h1, j1⟩ := i1
    obtain ⟨a2, vs2, rfl, h2, j2⟩ := i2
    refine ⟨a1, a2, vs1, vs2, rfl, .inl ⟨.inl (g.s.rd h1), .inl (g.s.rd h2), q.here g.s fun j F2 H2 e1 e2 => ?_⟩⟩
    have hr1 : SqL X.K H2 a1 vs1 := .inl ((e2.sub e1).rd h1)
    have hr2 : SqL X.K H2 a2 vs2 := .inl ((e2.sub e1).rd h2)
    refine ⟨fun d hd => ?_, fun hl => ⟨vs1, vs2, hr1, hr2, ?_⟩⟩
    · obtain ⟨x, y, hx, hy, rfl⟩ := zipL_get hd
      obtain ⟨vx, k1, k2⟩ := j1.get hx
      obtain ⟨vy, l1, l2⟩ := j2.get hy
      refine ⟨⟨vs1, vs2, vx, vy, hr1, hr2, k1, l1⟩, ?_⟩
      rintro v H3 ⟨T, x', y', rfl, hT, rfl, hx', hy'⟩
      have e3 := hx' vs1 hr1
      have e4 := hy' vs2 hr2
      rw [k1] at e3
      rw [l1] at e4
      cases e3
      cases e4
      exact pair_D e2 hT (k2.mono e1 x) (l2.mono e1 y)
    · rw [zipL_len, j1.length, j2.length] at hl
      omega
  · rename_i xs ys
    obtain ⟨v, r, rfl, i1, i⟩ := i.uncons
    obtain ⟨v2, r2, rfl, i2, i⟩ := i.uncons
    obtain rfl := i.unnil
    obtain ⟨a1, vs1, rfl, h1, j1⟩ := un_tup i1
    obtain ⟨a2, vs2, rfl, h2, j2⟩ := un_tup i2
    refine ⟨a1, a2, vs1, vs2, rfl, .inr ⟨.inl (g.s.rd h1), .inl (g.s.rd h2), q.here g.s fun j F2 H2 e1 e2 => ?_⟩⟩
    have hr1 : SqT X.K H2 a1 vs1 := .inl ((e2.sub e1).rd h1)
    have hr2 : SqT X.K H2 a2 vs2 := .inl ((e2.sub e1).rd h2)
    refine ⟨fun d hd => ?_, fun hl => ⟨vs1, vs2, hr1, hr2, ?_⟩⟩
    · obtain ⟨x, y, hx, hy, rfl⟩ := zipL_get hd
      obtain ⟨vx, k1, k2⟩ := j1.get hx
      obtain ⟨vy, l1, l2⟩ := j2.get hy
      refine ⟨⟨vs1, vs2, vx, vy, hr1, hr2, k1, l1⟩, ?_⟩
      rintro v H3 ⟨T, x', y', rfl, hT, rfl, hx', hy'⟩
      have e3 := hx' vs1 hr1
      have e4 := hy' vs2 hr2
      rw [k1] at e3
      rw [l1] at e4
      cases e3
      cases e4
      exact pair_D e2 hT (k2.mono e1 x) (l2.mono e1 y)
    · rw [zipL_len, j1.length, j2.length] at hl
      omega
  · exact q.elim
def enuL (xs : List D) : List D := xs.zipIdx.map fun q => .tup [.int (q.2 : Nat), q.1]
def enuD : List D → Res (List D)
  | [.lst xs] => .ok (enuL xs)
  | _ => .bad
theorem id_enum {elts : List Expr} {kk : Nat} {tpos : Pos} (hg : Gl X "enumerate") (hm : X.mg "enumerate" = none) (ha : PA X [a] (tL P F0 H0 W fs)) (hs : starEach [a] X.env = [(false, eval a X.env)] := by rfl) :
    PI X (.Tuple elts kk tpos) (.Call (.Name "enumerate" p) [a] [] pos) (tI P F0 H0 W (fun ρ => fs ρ >>= enuD)) := (pi_enum hg hm ha hs).imp fun σ H R ⟨F, ρ, er, z⟩ => by
  refine ⟨F, ρ, er, (PostG.bind (rel := rLs P) z).imp ?_⟩
  rintro vs H1 ⟨F1, ds, g, i, q⟩
  unfold enuD at q
  split at q
  · rename_i xs
    obtain ⟨v, r, rfl, i1, i⟩ := i.uncons
    obtain rfl := i.unnil
    rw [Is] at i1
    obtain ⟨a1, vs1, rfl, h1, j1⟩ := i1
    refine ⟨a1, vs1, rfl, .inl (g.s.rd h1), q.here g.s fun j F2 H2 e1 e2 => ?_⟩
    have hr1 : SqL X.K H2 a1 vs1 := .inl ((e2.sub e1).rd h1)
    refine ⟨fun d hd => ?_, fun hl => ⟨vs1, hr1, ?_⟩⟩
    · unfold enuL at hd
      rw [List.getElem?_map] at hd
      cases hz : xs.zipIdx[j]? with
      | none =>
        rw [hz] at hd
        cases hd
      | some q =>
        rw [hz] at hd
        cases hd
        rw [List.getElem?_zipIdx] at hz
        cases hx : xs[j]? with
        | none =>
          rw [hx] at hz
          cases hz
        | some x =>
          rw [hx] at hz
          simp at hz
          subst hz
          obtain ⟨vx, k1, k2⟩ := j1.get hx
          refine ⟨⟨vs1, vx, hr1, k1⟩, ?_⟩
          rintro v H3 ⟨T, x', rfl, hT, rfl, hx'⟩
          have e3 := hx' vs1 hr1
          rw [k1] at e3
          cases e3
          exact pair_D e2 hT is_int (k2.mono e1 x)
    · rw [← j1.length]
      simpa [enuL] using hl
  · exact q.elim
end
end DL
namespace DL
open PySem L2

def noErr {α : Type} : Res α → Res α
  | .ok a => .ok a
  | _ => .bad
theorem PostG.noErr {α β : Type} {P : Pm} {W W' : WX} {rel : Rel α β} {r : Res α} {F H : Hp} {σ σ' : St} {Q : β → Hp → Prop} (h : PostG P W rel (DL.noErr r) F σ H Q) : PostG P W' rel r F σ' H Q := by
  cases r with
  | ok a => exact h
  | err c p => exact h.elim
  | bad => exact h.elim
def wipeE (ρ : Env) : List Nat → Env
  | [] => ρ
  | v :: vs => (wipeE ρ vs).set v none
section
variable {P : Pm} {F0 : Fz} {H0 F H : Hp} {ρ : Env} {σ : St}
theorem wipeE_length : ∀ us : List Nat, (wipeE ρ us).length = ρ.length
  | [] => rfl
  | v :: us => by
    show ((wipeE ρ us).set v none).length = _
    rw [List.length_set, wipeE_length us]
theorem wipeE_some {i : Nat} {x : B} : ∀ {us : List Nat}, (wipeE ρ us)[i]? = some (some x) → ρ[i]? = some (some x) ∧ i ∉ us
  | [], h => ⟨h, by simp⟩
  | v :: us, h => by
    have h' : ((wipeE ρ us).set v none)[i]? = some (some x) := h
    by_cases q : v = i
    · subst q
      have hl : v < (wipeE ρ us).length := by simpa using lt_of_get h'
      rw [get_set_self hl] at h'
      cases h'
    · rw [List.getElem?_set_ne q] at h'
      obtain ⟨h1, h2⟩ := wipeE_some h'
      exact ⟨h1, by simp [h2, Ne.symm q]⟩
theorem wipe_keep {i : Nat} : ∀ {us : List Nat}, i ∉ us → (wipe σ us)[i]? = σ[i]?
  | [], _ => rfl
  | v :: us, h => by
    show ((wipe σ us).set v none)[i]? = _
    rw [List.getElem?_set_ne (fun q => h (by simp [q]))]
    exact wipe_keep fun q => h (List.mem_cons_of_mem _ q)
theorem wipe_twice (us : List Nat) : wipe (wipe σ us) us = wipe σ us := by
  apply List.ext_getElem?
  intro i
  by_cases q : i ∈ us
  · have k : ∀ (us : List Nat) (τ : St), i ∈ us → (wipe τ us)[i]? = if i < τ.length then some none else none := by
      intro us
      induction us with
      | nil => intro τ h; cases h
      | cons v vs ih =>
        intro τ h
        show ((wipe τ vs).set v none)[i]? = _
        by_cases e : v = i
        · subst e
          rw [List.getElem?_set]
          simp [wipe_length]
        · rw [List.getElem?_set_ne e]
          exact ih τ (by simpa [Ne.symm e] using h)
    rw [k us _ q, k us _ q, wipe_length]
  · rw [wipe_keep q]
theorem ER.wiped (r : ER P F0 H0 F ρ σ H) (us : List Nat) (h0 : F0.S = none ∨ 0 ∉ us) : ER P F0 H0 F (wipeE ρ us) (wipe σ us) H where
  g := r.g
  self := fun x hx => by
    rcases h0 with q | q
    · rw [q] at hx
      cases hx
    · rw [wipe_keep q]
      exact r.self x hx
  len := by rw [wipeE_length, wipe_length, r.len]
  sh := fun i d e => by
    obtain ⟨h1, h2⟩ := wipeE_some e
    rw [wipe_keep h2]
    exact r.sh i d h1
  bw := fun i d e => by
    obtain ⟨h1, h2⟩ := wipeE_some e
    rw [wipe_keep h2]
    exact r.bw i d h1
  ow := fun i d e => by
    obtain ⟨h1, h2⟩ := wipeE_some e
    rw [wipe_keep h2]
    exact r.ow i d h1
  nd := fun i j d e a q1 q2 q3 q4 => by
    obtain ⟨h1, h2⟩ := wipeE_some q1
    obtain ⟨h3, h4⟩ := wipeE_some q2
    rw [wipe_keep h2] at q3
    rw [wipe_keep h4] at q4
    exact r.nd i j d e a h1 h3 q3 q4
theorem Tabs.put {T : List (Addr × Str)} {H : Hp} {a : Addr} {o : HO} (t : LamX.Tabs T H) (h : H a = none ∨ ∃ u, H a = some u ∧ isD u = true) : LamX.Tabs T (L2.upd H a o) := by
  rcases h with h | ⟨u, h, hd⟩
  · exact t.ext (Ex.new h)
  · exact Tabs.upd t h hd
theorem Grow.put {H1 F1 F' H' : Hp} {p : Addr} {o : HO} (gg : Grow P F1 H1 F' H') (hD : NoD H1 p) (f4 : F' p = none) (hu : H' p = none ∨ ∃ u, H' p = some u ∧ isD u = true) : Grow P F1 H1 F' (upd H' p o) :=
  ⟨gg.f, ⟨fun b u e n => by rw [upd_ne (hD.ne e n)]; exact gg.h.at_ b u e n⟩, ⟨fun b u e => by rw [upd_ne (ne_of_none e f4)]; exact gg.s.ex b u e, gg.s.nt, Tabs.put gg.s.tabs hu⟩, gg.n⟩
/-- an object that is nobody's by name is changed -/
theorem ER.other (r : ER P F0 H0 F ρ σ H) {p : Addr} {o : HO} (hu : H p = none ∨ ∃ u, H p = some u ∧ isD u = true) (h0 : NoD H0 p) (hf : F p = none) (hn : ∀ (i : Nat) (d : D), ρ[i]? = some (some (B.ow d)) → σ[i]? ≠ some (some (V.ref p))) : ER P F0 H0 F ρ σ (upd H p o) where
  g := r.g.put h0 hf hu
  self := r.self
  len := r.len
  sh := r.sh
  bw := r.bw
  ow := fun i d e => by
    obtain ⟨a, h1, h2, h3, h4⟩ := r.ow i d e
    exact ⟨a, h1, h2, h3, h4.at (upd_ne fun z => hn i d e (by rw [h1, z]))⟩
  nd := r.nd
end
/-- the items of a comprehension -/
def lcD (h : D → Env → Option Env) (gt : Env → Res Bool) (fe : Env → Res D) (ρ : Env) : List D → Res (List D)
  | [] => .ok []
  | d :: r => match h d ρ with
    | none => .bad
    | some ρ1 => do
      let k ← noErr (gt ρ1)
      if k = true then (do let y ← noErr (fe ρ1); let ys ← lcD h gt fe ρ r; .ok (y :: ys)) else lcD h gt fe ρ r
section
variable {X : Cx} {P : Pm} {F0 : Fz} {H0 : Hp} {W : WX} {elt tg iter : Expr} {ifs : List Expr} {scope : Scope} {own : List (Str × Nat)} {pos : Pos} {fi : Env → Res (List D)} {h : D → Env → Option Env} {gt : Env → Res Bool} {fe : Env → Res D}
abbrev W0 : WX := fun _ _ _ _ => False
theorem Res.bind_eq_ok {α β : Type} {r : Res α} {k : α → Res β} {b : β} (h : (r >>= k) = .ok b) : ∃ a, r = .ok a ∧ k a = .ok b := by
  cases r with
  | ok a => exact ⟨a, rfl, h⟩
  | err c p => cases h
  | bad => cases h
theorem lc_of {F H : Hp} {ρ : Env} {σ : St} {Q : VK} {us : List Nat} (h0 : F0.S = none ∨ 0 ∉ us) (er : ER P F0 H0 F ρ σ H)
    (z : PostG P W (rNw P H) (do let items ← fi ρ; let ys ← lcD h gt fe (wipeE ρ us) items; mkL ys) F σ H Q) :
    tLc (tI P F0 H0 W fi) (tGt P F0 H0 us h) (tT P F0 H0 W0 gt) (tE P F0 H0 W0 fe) us σ H Q := by
  refine ⟨F, ρ, er, (PostG.bind (rel := ItD P) z).imp ?_⟩
  rintro J H1 ⟨FJ, items, gr, hJ, z1⟩
  intro Dn hD
  have erJ := er.grow gr
  cases hy : lcD h gt fe (wipeE ρ us) items with
  | bad =>
    rw [hy] at z1
    exact z1.elim
  | err c p =>
    exfalso
    revert hy
    clear z1 hJ
    suffices ∀ items, lcD h gt fe (wipeE ρ us) items ≠ .err c p from this items
    intro items
    induction items with
    | nil => intro q; cases q
    | cons d r ih =>
      intro q
      have q' : (match h d (wipeE ρ us) with
        | none => Res.bad
        | some ρ1 => do
          let k ← noErr (gt ρ1)
          if k = true then (do let y ← noErr (fe ρ1); let ys ← lcD h gt fe (wipeE ρ us) r; .ok (y :: ys)) else lcD h gt fe (wipeE ρ us) r) = .err c p := q
      cases hh : h d (wipeE ρ us) with
      | none =>
        rw [hh] at q'
        cases q'
      | some ρ1 =>
        rw [hh] at q'
        cases hg : gt ρ1 with
        | ok k =>
          have q2 : (if k = true then (do let y ← noErr (fe ρ1); let ys ← lcD h gt fe (wipeE ρ us) r; .ok (y :: ys)) else lcD h gt fe (wipeE ρ us) r) = .err c p := by
            have := q'
            simp only [hg] at this
            exact this
          split at q2
          · cases hf : fe ρ1 with
            | ok y =>
              rw [hf] at q2
              cases hr : lcD h gt fe (wipeE ρ us) r with
              | ok ys =>
                rw [hr] at q2
                cases q2
              | err c' p' =>
                rw [hr] at q2
                cases q2
                exact ih hr
              | bad =>
                rw [hr] at q2
                cases q2
            | err c' p' =>
              rw [hf] at q2
              cases q2
            | bad =>
              rw [hf] at q2
              cases q2
          · exact ih q2
        | err c' p' =>
          simp only [hg] at q'
          cases q'
        | bad =>
          simp only [hg] at q'
          cases q'
  | ok ys =>
    rw [hy] at z1
    replace z1 : PostG P W (rNw P H) (mkL ys) FJ σ H1 Q := z1
    unfold mkL at z1
    by_cases hsm : small ys.length = true
    case neg =>
      rw [if_neg hsm] at z1
      exact z1.elim
    rw [if_pos hsm] at z1
    have hne : ∀ (i : Nat) (d : D), (wipeE ρ us)[i]? = some (some (B.ow d)) → (wipe σ us)[i]? ≠ some (some (V.ref Dn)) := fun i d e q => by
      obtain ⟨a, k1, k2, k3, k4⟩ := (erJ.wiped us h0).ow i d e
      rw [q] at k1
      cases k1
      obtain ⟨o, ho, _⟩ := k4.there
      rw [hD] at ho
      cases ho
    have hFD : FJ Dn = none := gr.s.back hD
    have h0D : NoD H0 Dn := erJ.g.h.back hD
    refine ⟨fun i m H' => m = items.length - i ∧ ∃ F' accD acc rest, Grow P FJ H1 F' H' ∧ ER P F0 H0 F' (wipeE ρ us) (wipe σ us) H' ∧ F' Dn = none ∧ H' Dn = some (.lst acc) ∧ IsL P F' accD acc ∧ lcD h gt fe (wipeE ρ us) (items.drop i) = .ok rest ∧ accD ++ rest = ys, ⟨_, rfl, FJ, [], [], ys, .junk gr.s (.new hD), (erJ.wiped us h0).other (.inl hD) h0D hFD hne, hFD, upd_same, .nil, hy, rfl⟩, ?_⟩
    rintro i m H' ⟨rfl, F', accD, acc, rest, g1, er1, f1, d1, i1, l1, e1⟩
    obtain ⟨j1, j2⟩ := hJ i F' H' g1.f g1.s
    rcases Nat.lt_or_ge i items.length with hi | hi
    · obtain ⟨k1, k2⟩ := j1 items[i] (List.getElem?_eq_getElem hi)
      rw [List.drop_eq_getElem_cons hi] at l1
      have l2 : (match h items[i] (wipeE ρ us) with
        | none => Res.bad
        | some ρ1 => do
          let k ← noErr (gt ρ1)
          if k = true then (do let y ← noErr (fe ρ1); let ys ← lcD h gt fe (wipeE ρ us) (items.drop (i + 1)); .ok (y :: ys)) else lcD h gt fe (wipeE ρ us) (items.drop (i + 1))) = .ok rest := l1
      cases hh : h items[i] (wipeE ρ us) with
      | none =>
        rw [hh] at l2
        cases l2
      | some ρ1 =>
        rw [hh] at l2
        obtain ⟨k, hk, l3⟩ := Res.bind_eq_ok (r := noErr (gt ρ1)) l2
        refine .inr ⟨k1, fun H' => ∃ F' accD acc rest, Grow P FJ H1 F' H' ∧ ER P F0 H0 F' (wipeE ρ us) (wipe σ us) H' ∧ F' Dn = none ∧ H' Dn = some (.lst acc) ∧ IsL P F' accD acc ∧ lcD h gt fe (wipeE ρ us) (items.drop (i + 1)) = .ok rest ∧ accD ++ rest = ys, fun H' n' => ⟨_, by omega, rfl, n'⟩, ?_⟩
        intro x H2 hyl
        obtain ⟨F2, g2, i2⟩ := k2 x H2 hyl
        refine ⟨F2, wipeE ρ us, items[i], ρ1, er1.grow g2, i2, hh, fun σ2 er2 w2 => ⟨w2.trans (wipe_twice us), ?_⟩⟩
        refine ⟨F2, ρ1, er2, ?_⟩
        have hgt : gt ρ1 = .ok k := by
          cases hg : gt ρ1 with
          | ok k' =>
            rw [hg] at hk
            exact hk
          | err c p =>
            rw [hg] at hk
            cases hk
          | bad =>
            rw [hg] at hk
            cases hk
        rw [hgt]
        intro b F3 H3 g3 hb
        subst hb
        have er3 := (er1.grow g2).grow g3
        have fd3 : ∀ {Fa Ha Fb Hb : Hp}, Grow P Fa Ha Fb Hb → Fa Dn = none → (∃ ys, Ha Dn = some (.lst ys)) → Fb Dn = none := fun {Fa Ha Fb Hb} g q1 q2 => by
          cases q : Fb Dn with
          | none => rfl
          | some o =>
            obtain ⟨ys, q2⟩ := q2
            rcases g.n Dn o q with y | y | ⟨zs, y⟩
            · rw [q1] at y
              cases y
            · exact (y.no q2 rfl).elim
            · have k1 := g.s.ex _ _ q
              rw [g.h.dat q2, y] at k1
              cases k1
        have n0 : ∃ ys, H' Dn = some (.lst ys) := ⟨_, d1⟩
        have f2 := fd3 g2 f1 n0
        have d2 : H2 Dn = some (.lst acc) := g2.h.dat d1
        have n2 : ∃ ys, H2 Dn = some (.lst ys) := ⟨_, d2⟩
        have f3 := fd3 g3 f2 n2
        have d3 : H3 Dn = some (.lst acc) := g3.h.dat d2
        have n3 : ∃ ys, H3 Dn = some (.lst ys) := ⟨_, d3⟩
        have hir := i1.mono (g2.f.trans g3.f) accD
        by_cases hb : b = true
        · rw [if_pos hb]
          rw [if_pos hb] at l3
          obtain ⟨y, hy1, l4⟩ := Res.bind_eq_ok (r := noErr (fe ρ1)) l3
          obtain ⟨ys', hy2, l5⟩ := Res.bind_eq_ok (r := lcD h gt fe (wipeE ρ us) (items.drop (i + 1))) l4
          cases l5
          have hfe : fe ρ1 = .ok y := by
            cases hg : fe ρ1 with
            | ok k' =>
              rw [hg] at hy1
              exact hy1
            | err c p =>
              rw [hg] at hy1
              cases hy1
            | bad =>
              rw [hg] at hy1
              cases hy1
          refine ⟨F3, ρ1, er2.grow g3, ?_⟩
          rw [hfe]
          intro v F4 H4 g4 i4
          have f4 := fd3 g4 f3 n3
          have d4 : H4 Dn = some (.lst acc) := g4.h.dat d3
          refine ⟨acc, d4, ?_, F4, accD ++ [y], acc ++ [v], ys', ?_, (er3.grow g4).other (.inr ⟨_, d4, rfl⟩) h0D f4 hne, f4, upd_same, (hir.mono g4.f accD).append (.cons i4 .nil), hy2, by rw [← e1]; simp⟩
          · have hlen : acc.length ≤ ys.length := by
              rw [← e1, ← i1.length]
              simp
            exact Nat.lt_of_le_of_lt hlen (small_lt hsm)
          · have gg := ((g1.trans g2).trans g3).trans g4
            exact gg.put (.of hD) f4 (.inr ⟨_, d4, rfl⟩)
        · rw [if_neg hb]
          rw [if_neg hb] at l3
          exact ⟨F3, accD, acc, rest, (g1.trans g2).trans g3, er3, f3, d3, hir, l3, e1⟩
    · rw [List.drop_eq_nil_of_le hi] at l1
      cases l1
      rw [List.append_nil] at e1
      subst e1
      exact .inl ⟨j2 hi, z1 _ F' H' g1 ⟨Dn, rfl, gr.h.back hD, f1, acc, d1, i1⟩⟩
theorem nd_lc {us : List Nat} (hc : X.calm = true) (hN : X.N.Nodup) (hi : PI X tg iter (tI P F0 H0 W fi)) (ok : BlkOk X.N X.env.scope scope own) (hu : own.map (·.2) = us)
    (hg : ∀ (s : Shared) (H : Hp) (C : Addr) (cl : List (Str × Addr)) (fp : List Addr), PG (X.blk s H scope (PySem.compEnvC scope cl C X.env) fp) tg (tGt P F0 H0 us h))
    (ht : ∀ (s : Shared) (H : Hp) (C : Addr) (cl : List (Str × Addr)) (fp : List Addr), PTs (X.blk s H scope (PySem.compEnvC scope cl C X.env) fp) ifs (tT P F0 H0 W0 gt))
    (he : ∀ (s : Shared) (H : Hp) (C : Addr) (cl : List (Str × Addr)) (fp : List Addr), PE (X.blk s H scope (PySem.compEnvC scope cl C X.env) fp) elt (tE P F0 H0 W0 fe)) (h0 : F0.S = none ∨ 0 ∉ us := by first | exact Or.inl rfl | exact Or.inr (by decide))
    (hs : ∀ x, foldedSetIterable iter X.env x = pure x := by intro _; rfl) :
    PE X (.ListComp elt [⟨tg, iter, ifs, 0⟩] scope pos) (tN P F0 H0 W (fun ρ => do let items ← fi ρ; let ys ← lcD h gt fe (wipeE ρ us) items; mkL ys)) :=
  (pe_lc hc hN hi ok hg ht he hs).imp fun σ H Q ⟨F, ρ, er, z⟩ => by
  rw [hu]
  exact lc_of h0 er z
end
end DL
namespace DL
open PySem L2

/-! ### == of data -/
mutual
def toPD : D → Option PyData
  | .non => some .none
  | .bl b => some (.bool b)
  | .int i => some (.int i)
  | .str s => some (.str s)
  | .lst xs => (toPDs xs).map .list
  | .tup xs => (toPDs xs).map .tuple
  | .dK _ _ => none
  | .dT _ _ => none
  | .obj _ _ => none
  | .scr _ => none
def toPDs : List D → Option (List PyData)
  | [] => some []
  | d :: ds => (toPD d).bind fun x => (toPDs ds).map fun xs => x :: xs
end
section
variable {P : Pm} {F H : Hp} {K : PySem.W.Frag}
mutual
theorem Is.dp (e : Sb P F H) : ∀ (d : D) {v : V} {pd : PyData}, Is P F d v → toPD d = some pd → Dp K H v pd
  | .non, _, _, h, q => by rw [Is] at h; rw [toPD] at q; cases q; rw [h]; exact .non
  | .bl b, _, _, h, q => by rw [Is] at h; rw [toPD] at q; cases q; rw [h]; exact .bl b
  | .int i, _, _, h, q => by rw [Is] at h; rw [toPD] at q; cases q; rw [h]; exact .int i
  | .str s, _, _, h, q => by rw [Is] at h; rw [toPD] at q; cases q; rw [h]; exact .str s
  | .lst xs, _, _, h, q => by
    rw [Is] at h
    obtain ⟨a, vs, rfl, h2, h3⟩ := h
    rw [toPD] at q
    cases hx : toPDs xs with
    | none => rw [hx] at q; cases q
    | some ys =>
      rw [hx] at q
      cases q
      exact .lst (.inl (e.rd h2)) (IsL.dp e xs h3 hx)
  | .tup xs, _, _, h, q => by
    rw [Is] at h
    obtain ⟨a, vs, rfl, h2, h3⟩ := h
    rw [toPD] at q
    cases hx : toPDs xs with
    | none => rw [hx] at q; cases q
    | some ys =>
      rw [hx] at q
      cases q
      exact .tup (.inl (.inl (e.ex _ _ h2))) (IsL.dp e xs h3 hx)
  | .dK ks xs, _, _, h, q => by rw [toPD] at q; cases q
  | .dT ks xs, _, _, h, q => by rw [toPD] at q; cases q
  | .obj c xs, _, _, h, q => by rw [toPD] at q; cases q
  | .scr ns, _, _, h, q => by rw [toPD] at q; cases q
theorem IsL.dp (e : Sb P F H) : ∀ (ds : List D) {vs : List V} {ps : List PyData}, IsL P F ds vs → toPDs ds = some ps → DpAll K H vs ps
  | [], _, _, h, q => by rw [IsL] at h; rw [toPDs] at q; cases q; rw [h]; exact .nil
  | d :: ds, _, _, h, q => by
    rw [IsL] at h
    obtain ⟨v, r, rfl, h2, h3⟩ := h
    rw [toPDs] at q
    cases hd : toPD d with
    | none => rw [hd] at q; cases q
    | some x =>
      cases hx : toPDs ds with
      | none => rw [hd, hx] at q; cases q
      | some xs =>
        rw [hd, hx] at q
        cases q
        exact .cons (Is.dp e d h2 hd) (IsL.dp e ds h3 hx)
end
theorem Vw.dp (e : Sb P F H) : ∀ (d : D) {v : V} {pd : PyData}, Vw P F H d v → toPD d = some pd → Dp K H v pd
  | .non, _, _, h, q => by rw [toPD] at q; cases q; rw [show _ = V.non from h]; exact .non
  | .bl b, _, _, h, q => by rw [toPD] at q; cases q; rw [show _ = V.bl b from h]; exact .bl b
  | .int i, _, _, h, q => by rw [toPD] at q; cases q; rw [show _ = V.int i from h]; exact .int i
  | .str s, _, _, h, q => by rw [toPD] at q; cases q; rw [show _ = V.str s from h]; exact .str s
  | .lst xs, _, _, ⟨a, vs, h1, h2, h3⟩, q => by
    subst h1
    rw [toPD] at q
    cases hx : toPDs xs with
    | none => rw [hx] at q; cases q
    | some ys =>
      rw [hx] at q
      cases q
      exact .lst (.inl h2) (IsL.dp e xs h3 hx)
  | .tup xs, _, _, ⟨a, vs, h1, h0, h2, h3⟩, q => by
    subst h1
    rw [toPD] at q
    cases hx : toPDs xs with
    | none => rw [hx] at q; cases q
    | some ys =>
      rw [hx] at q
      cases q
      exact .tup (.inl h2) (IsL.dp e xs h3 hx)
  | .dK ks xs, _, _, h, q => by rw [toPD] at q; cases q
  | .dT ks xs, _, _, h, q => by rw [toPD] at q; cases q
  | .obj c xs, _, _, h, q => by rw [toPD] at q; cases q
  | .scr ns, _, _, h, q => by rw [toPD] at q; cases q
end
def eqP (x y : D) : Option Bool := (toPD x).bind fun a => (toPD y).bind fun b => if SeqAt.shaped a = true ∧ SeqAt.shaped b = true then some (PyData.eqv a b) else none
def eqD (x y : D) : Option D := (eqP x y).map .bl
def neD (x y : D) : Option D := (eqP x y).map fun b => .bl (!b)
section
variable {X : Cx} {P : Pm} {F0 : Fz} {H0 : Hp} {W : WX} {a b c e o : Expr} {es : List Expr} {fa fb fc : Env → Res D} {fs : Env → Res (List D)} {pos p apos : Pos} {σ : St} {H F : Hp}
theorem eqP_of {x y : D} {b : Bool} (h : eqP x y = some b) : ∃ p q, toPD x = some p ∧ toPD y = some q ∧ SeqAt.shaped p = true ∧ SeqAt.shaped q = true ∧ PyData.eqv p q = b := by
  unfold eqP at h
  cases hx : toPD x with
  | none => rw [hx] at h; cases h
  | some p =>
    cases hy : toPD y with
    | none => rw [hx, hy] at h; cases h
    | some q =>
      rw [hx, hy] at h
      have h' : (if SeqAt.shaped p = true ∧ SeqAt.shaped q = true then some (PyData.eqv p q) else none) = some b := h
      split at h'
      · rename_i hs
        cases h'
        exact ⟨p, q, rfl, rfl, hs.1, hs.2, rfl⟩
      · cases h'
theorem io_eq (hu : X.A.units + 64 < cLine) : OpR X (compareOp .Eq) (r2O P eqD) := fun pins s σ H x y u v Q I rx ry ⟨F, dx, dy, d, e, i1, i2, hd, q⟩ => by
  unfold eqD at hd
  cases hb : eqP dx dy with
  | none => rw [hb] at hd; cases hd
  | some b =>
    rw [hb] at hd
    cases hd
    obtain ⟨p1, p2, h1, h2, h3, h4, rfl⟩ := eqP_of hb
    exact op_eqD hu pins s σ H x y u v Q I rx ry ⟨p1, p2, i1.dp e dx h1, i2.dp e dy h2, h3, h4, q.bl e⟩
theorem io_ne (hu : X.A.units + 64 < cLine) : OpR X (compareOp .NotEq) (r2O P neD) := fun pins s σ H x y u v Q I rx ry ⟨F, dx, dy, d, e, i1, i2, hd, q⟩ => by
  unfold neD at hd
  cases hb : eqP dx dy with
  | none => rw [hb] at hd; cases hd
  | some b =>
    rw [hb] at hd
    cases hd
    obtain ⟨p1, p2, h1, h2, h3, h4, rfl⟩ := eqP_of hb
    exact op_neD hu pins s σ H x y u v Q I rx ry ⟨p1, p2, i1.dp e dx h1, i2.dp e dy h2, h3, h4, q.bl e⟩
/-! ### // -/
def fdivC (i j : Int) : Option D := if j ≠ 0 ∧ j.natAbs.log2 < 9000 then some (.int (i.fdiv j)) else none
theorem op_fdivNW : OpR X (binaryOp .FloorDiv) (rI (fun _ j => j ≠ 0 ∧ j.natAbs.log2 < 9000) fun i j => .int (i.fdiv j)) := opI fun _ _ _ _ _ _ _ hc q => PyProof.Rows.floordiv_int hc.1 q (.inl (PyProof.noPylong_of_log2 hc.2))
theorem io_fdiv : OpR X (binaryOp .FloorDiv) (r2O P (int2 fdivC)) := op_int2 op_fdivNW fun i j d H Q hg q => by
  unfold fdivC at hg
  split at hg
  · rename_i hc
    cases hg
    exact ⟨i, j, rfl, rfl, hc, q _ fun F => is_int⟩
  · cases hg
/-! ### is None -/
def isNone : D → Bool
  | .non => true
  | _ => false
theorem Vw.non {d : D} {v : V} (h : Vw P F H d v) : decide (v = .non) = isNone d := by
  cases d with
  | non => rw [show v = .non from h]; rfl
  | bl b => rw [show v = .bl b from h]; rfl
  | int b => rw [show v = .int b from h]; rfl
  | str b => rw [show v = .str b from h]; rfl
  | lst xs => obtain ⟨a, vs, rfl, _⟩ := h; rfl
  | tup xs => obtain ⟨a, vs, rfl, _⟩ := h; rfl
  | dK ks xs => obtain ⟨a, vs, rfl, _⟩ := h; rfl
  | dT ks xs => obtain ⟨a, vs, rfl, _⟩ := h; rfl
  | obj ks xs => obtain ⟨a, dx, vs, rfl, _⟩ := h; rfl
  | scr ns => obtain ⟨a, rfl, _⟩ := h; rfl
theorem pd_isN {j pos'} (ha : PE X a (tV P F0 H0 W fa)) : PC X .Is a (.Constant .none j pos') (tE P F0 H0 W (fun ρ => do let x ← fa ρ; .ok (.bl (isNone x)))) := ⟨fun pins s σ H Q I h => (pc_isN ha).run pins s σ H Q I (by
  obtain ⟨F, ρ, er, z⟩ := h
  refine ⟨F, ρ, er, (PostG.bind (rel := rVw P) z).imp ?_⟩
  rintro v H1 ⟨F1, d, g, i, q⟩
  have e : decide (v = .non) = isNone d := Vw.non i
  rw [e]
  exact q.here g.s is_bl)⟩
theorem pd_notN {j pos'} (ha : PE X a (tV P F0 H0 W fa)) : PC X .IsNot a (.Constant .none j pos') (tE P F0 H0 W (fun ρ => do let x ← fa ρ; .ok (.bl (!isNone x)))) := ⟨fun pins s σ H Q I h => (pc_notN ha).run pins s σ H Q I (by
  obtain ⟨F, ρ, er, z⟩ := h
  refine ⟨F, ρ, er, (PostG.bind (rel := rVw P) z).imp ?_⟩
  rintro v H1 ⟨F1, d, g, i, q⟩
  have e : decide (v = .non) = isNone d := Vw.non i
  rw [e]
  exact q.here g.s is_bl)⟩
/-! ### built-ins -/
theorem VwL.uncons {d : D} {ds : List D} {vs : List V} (h : VwL P F H (d :: ds) vs) : ∃ v r, vs = v :: r ∧ Vw P F H d v ∧ VwL P F H ds r := h
theorem VwL.unnil {vs : List V} (h : VwL P F H [] vs) : vs = [] := h
def cAbs : List D → Option D
  | [.int i] => some (.int (if i < 0 then -i else i))
  | _ => none
theorem ic_abs : CallR X (.builtin "abs") (rcO P cAbs) := fun pins s σ H xs us Q I rx ⟨F, ds, d, e, i, hd, q⟩ => by
  unfold cAbs at hd
  split at hd
  · cases hd
    obtain ⟨v, r, rfl, i1, i⟩ := i.uncons
    obtain rfl := i.unnil
    exact call_abs pins s σ H _ us Q I rx ⟨_, by rw [show v = V.int _ from i1], q.int e⟩
  · cases hd
def cInt : List D → Option D
  | [.int i] => some (.int i)
  | [.bl b] => some (.int (if b then 1 else 0))
  | _ => none
theorem ic_int : CallR X (.type "int") (rcO P cInt) := fun pins s σ H xs us Q I rx ⟨F, ds, d, e, i, hd, q⟩ => by
  unfold cInt at hd
  split at hd
  · cases hd
    obtain ⟨v, r, rfl, i1, i⟩ := i.uncons
    obtain rfl := i.unnil
    exact call_int1 pins s σ H _ us Q I rx (.inl ⟨_, by rw [show v = V.int _ from i1], q.int e⟩)
  · cases hd
    obtain ⟨v, r, rfl, i1, i⟩ := i.uncons
    obtain rfl := i.unnil
    exact call_int1 pins s σ H _ us Q I rx (.inr ⟨_, by rw [show v = V.bl _ from i1], q.int e⟩)
  · cases hd
def cLen : List D → Option D
  | [.lst xs] => some (.int (xs.length : Nat))
  | [.tup xs] => some (.int (xs.length : Nat))
  | [.str z] => if z.length ≤ 1000000 then some (.int (z.length : Nat)) else none
  | _ => none
theorem ic_len : CallR X (.builtin "len") (rcO P cLen) := fun pins s σ H xs us Q I rx ⟨F, ds, d, e, i, hd, q⟩ => by
  unfold cLen at hd
  split at hd
  · cases hd
    obtain ⟨v, r, rfl, i1, i⟩ := i.uncons
    obtain rfl := i.unnil
    obtain ⟨a, vs, rfl, h1, h2⟩ := i1
    exact call_len_seq pins s σ H _ us Q I rx ⟨a, vs, rfl, .inl (.inl h1), by rw [← h2.length]; exact q.int e⟩
  · cases hd
    obtain ⟨v, r, rfl, i1, i⟩ := i.uncons
    obtain rfl := i.unnil
    obtain ⟨a, vs, rfl, h0, h1, h2⟩ := i1
    exact call_len_seq pins s σ H _ us Q I rx ⟨a, vs, rfl, .inr (.inl h1), by rw [← h2.length]; exact q.int e⟩
  · split at hd
    · rename_i hl
      cases hd
      obtain ⟨v, r, rfl, i1, i⟩ := i.uncons
      obtain rfl := i.unnil
      exact call_len_str pins s σ H _ us Q I rx ⟨_, by rw [show v = V.str _ from i1], Nat.le_trans hl (by decide), q.int e⟩
    · cases hd
  · cases hd
/-- bools -/
def bls : List D → Option (List Bool)
  | [] => some []
  | .bl b :: r => (bls r).map fun bs => b :: bs
  | _ => none
theorem bls_of : ∀ {ds : List D} {bs : List Bool} {vs : List V}, bls ds = some bs → IsL P F ds vs → vs = bs.map V.bl
  | [], bs, vs, h, i => by
    cases h
    exact i.unnil
  | d :: r, bs, vs, h, i => by
    obtain ⟨v, r', rfl, i1, i2⟩ := i.uncons
    cases d with
    | bl b =>
      have h' : (bls r).map (fun bs => b :: bs) = some bs := h
      cases hr : bls r with
      | none => rw [hr] at h'; cases h'
      | some bs' =>
        rw [hr] at h'
        cases h'
        rw [un_bl i1, bls_of hr i2]
        rfl
    | _ => cases h
def cAny : List D → Option D
  | [.lst xs] => (bls xs).map fun bs => .bl (bs.any id)
  | _ => none
def cAll : List D → Option D
  | [.lst xs] => (bls xs).map fun bs => .bl (bs.all id)
  | _ => none
theorem ic_any (hc : X.calm = true) : CallR X (.builtin "any") (rcO P cAny) := fun pins s σ H xs us Q I rx ⟨F, ds, d, e, i, hd, q⟩ => by
  unfold cAny at hd
  split at hd
  · rename_i ys
    cases hb : bls ys with
    | none => rw [hb] at hd; cases hd
    | some bs =>
      rw [hb] at hd
      cases hd
      obtain ⟨v, r, rfl, i1, i⟩ := i.uncons
      obtain rfl := i.unnil
      obtain ⟨a, vs, rfl, h1, h2⟩ := i1
      exact cr_any hc pins s σ H _ us Q I rx ⟨a, bs, rfl, by rw [← bls_of hb h2]; exact .inl h1, q.bl e⟩
  · cases hd
theorem ic_all (hc : X.calm = true) : CallR X (.builtin "all") (rcO P cAll) := fun pins s σ H xs us Q I rx ⟨F, ds, d, e, i, hd, q⟩ => by
  unfold cAll at hd
  split at hd
  · rename_i ys
    cases hb : bls ys with
    | none => rw [hb] at hd; cases hd
    | some bs =>
      rw [hb] at hd
      cases hd
      obtain ⟨v, r, rfl, i1, i⟩ := i.uncons
      obtain rfl := i.unnil
      obtain ⟨a, vs, rfl, h1, h2⟩ := i1
      exact cr_all hc pins s σ H _ us Q I rx ⟨a, bs, rfl, by rw [← bls_of hb h2]; exact .inl h1, q.bl e⟩
  · cases hd
/-! ### isinstance -/
/-- what the text says of an own class, for isinstance -/
structure IsiC (K : PySem.W.Frag) (C : Addr) : Prop where
  cl : Cls K C
  ha : PySem.W.findIn K (.ref C) "__class__" = some (some (.builtin "object.__class__"))
  hn : PySem.W.specialIn K (.builtin "object.__class__") "__get__" = some (some (.builtin "getset_descriptor.__get__"))
  htk : PySem.W.takesIn K (.builtin "object.__class__") = some true
  hm : PySem.W.mroIn K C (.type "object") = some true
/-- the type of data -/
def tyD (P : Pm) : D → Value
  | .non => .type "NoneType"
  | .bl _ => .type "bool"
  | .int _ => .type "int"
  | .str _ => .type "str"
  | .lst _ => .type "list"
  | .tup _ => .type "tuple"
  | .dK _ _ => .type "dict"
  | .dT _ _ => .type "dict"
  | .obj c _ => .ref (P.C c)
  | .scr _ => .type "list"
theorem Vw.ty {K : PySem.W.Frag} (hI : ∀ c, IsiC K (P.C c)) {d : D} {v : V} (h : Vw P F H d v) (hs : ∀ ns, d ≠ .scr ns) (hT : ∀ ks xs, d ≠ .dT ks xs) : TyX K H v (tyD P d) := by
  cases d with
  | non => rw [show v = .non from h]; exact .base .non
  | bl b => rw [show v = .bl b from h]; exact .base (.bl b)
  | int b => rw [show v = .int b from h]; exact .base (.int b)
  | str b => rw [show v = .str b from h]; exact .base (.str b)
  | lst xs =>
    obtain ⟨a, vs, rfl, h1 | ⟨o, h1⟩, _⟩ := h
    · exact .base (.lst h1)
    · exact .base (.frz h1)
  | tup xs =>
    obtain ⟨a, vs, rfl, _, h1 | ⟨o, h1⟩, _⟩ := h
    · exact .base (.tup h1)
    · exact .fTuple h1
  | dK ks xs =>
    obtain ⟨a, vs, rfl, h1 | ⟨o, h1⟩, _⟩ := h
    · exact .base (.dK h1)
    · exact .fDict h1
  | dT ks xs => exact absurd rfl (hT ks xs)
  | obj c xs =>
    obtain ⟨a, dx, vs, rfl, h1, _⟩ := h
    exact .base (.ins h1 (hI c).cl (hI c).ha (hI c).hn (hI c).htk (hI c).hm)
  | scr ns => exact absurd rfl (hs ns)
end
end DL
namespace PySem
namespace ErrX
open PySem.W PySem.Calls PyProof.Rows PySem.HandSPX
/-! ### an own error over ListError over ValueError: super().__init__('..'); self.f = v -/
abbrev iArgs (f : Str) (p1 p2 : Pos) : Arguments := { posonlyargs := [], args := [{ arg := "self", annotation := none, pos := p1 }, { arg := f, annotation := none, pos := p2 }], vararg := none, kwonlyargs := [], kw_defaults := [], kwarg := none, defaults := [] }
abbrev iSuper (msg : Str) (j : Nat) (q0 q1 q2 q3 q4 q5 : Pos) : Stmt := .Expr (.Call (.Attribute (.Call (.Name "super" q0) [] [] q1) "__init__" q2) [.Constant (.str msg) j q3] [] q4) q5
abbrev iSet (f : Str) (r1 r2 r3 r4 : Pos) : Stmt := .Assign [.Attribute (.Name "self" r1) f r2] (.Name f r3) r4
abbrev iSc (f : Str) : Scope := { kind := .function, names := [(PySem.Str.ofString "self", .local), (f, .local), (PySem.Str.ofString "__class__", .free), (PySem.Str.ofString "super", .globalImplicit)], isGenerator := false, isCoroutine := false, more := [] }
/-- what the text of __init__ shows by itself (rfl, each) -/
structure ErrEv (fd : FuncData) (fI : Addr) (f msg : Str) (j : Nat) (q0 q1 q2 q3 q4 q5 r1 r2 r3 r4 : Pos) : Prop where
  he : ∃ pl : Sem Bool, ∀ L : Addr, eval (.Call (.Attribute (.Call (.Name "super" q0) [] [] q1) "__init__" q2) [.Constant (.str msg) j q3] [] q4) (callEnv fd L fI) = (do
      let ov ← attributeBase (.Call (.Name "super" q0) [] [] q1) "__init__" (callEnv fd L fI) (eval (.Call (.Name "super" q0) [] [] q1) (callEnv fd L fI))
      standAt q2.atName
      let (f, first) ← holding [ov] (getMethod ov "__init__" pl)
      callWith q4 f first (backTo q4 (starEach [.Constant (.str msg) j q3] (callEnv fd L fI))) [])
  hi : ∀ L : Addr, interactive (callEnv fd L fI) = false
  hs : ∀ L : Addr, swapsWith (.Call (.Attribute (.Call (.Name "super" q0) [] [] q1) "__init__" q2) [.Constant (.str msg) j q3] [] q4) none q5.line (callEnv fd L fI) = pure false
  hs2 : ∀ L : Addr, swapsWith (.Name f r3) (some (.Attribute (.Name "self" r1) f r2)) r4.line (callEnv fd L fI) = pure false
  st : ∀ L : Addr, starEach [.Constant (.str msg) j q3] (callEnv fd L fI) = (false, eval (.Constant (.str msg) j q3) (callEnv fd L fI)) :: starEach [] (callEnv fd L fI)
  bind : ∀ u v : Value, bindArgs fd ⟨[u, v], []⟩ = pure [(("self" : Str), u), (f, v)]
/-- what the text says of such a class at C: f its field, msg its message, x its name -/
structure ErrTxt (prog : Program) (K : Frag) (mg : Str → Option Value) (x f : Str) (C fI : Addr) : Prop where
  gC : mg x = some (.ref C)
  cls : ∃ nm q N bs bm sn sub ab col dd k0 k1 k2 k3 k5, K.lookup C = some (excClassObj nm q C N bs bm true sn sub ab col dd k0 k1 k2 k3 k5 "ValueError.__new__") ∧ refsVE bm = true
  sa : findIn K (.ref C) "__setattr__" = some (some (.builtin "object.__setattr__"))
  ga : findIn K (.ref C) "__getattribute__" = some (some (.builtin "BaseException.__getattribute__"))
  gg : findIn K (.ref C) "__getattr__" = some none
  noN : findIn K (.ref C) f = some none
  iC : findIn K (.ref C) "__init__" = some (some (.ref fI))
  tC : typeIn K (.ref fI) = some (.type "function")
  kC : keepIn K (.ref C) = true
  exC : subIn K (.ref C) (.type "BaseException") = some true
  veC : subIn K (.ref C) (.type "ValueError") = some true
  tyC : typeIn K (.ref C) = some (.type "type")
  hdC : hasDictIn K C = true
  mro : mroIn K C (.ref C) = some true
  sup : ks_superIn K C C "__init__" = some (some (.builtin "ValueError.__init__"))
  opq : nsIn K cStatics "thirdparty.any" = some none
  hsup : mg "super" = none
  htop : (prog.main.scope.names.lookup ("super" : Str)).isSome = false
  fn : ∃ (oc : Value) (od : Option Addr) (q msg : Str) (j : Nat) (doc pm : Value) (an : Option Addr) (ct : Value) (osl : Array (Option Value)) (cc cda : Addr) (p1 p2 q0 q1 q2 q3 q4 q5 r1 r2 r3 r4 : Pos) (ccl cl : Value) (cdd cld : Option Addr) (vs : Array Value) (ccs csl : Array (Option Value)) (file : Str) (tf : Tok),
    K.lookup fI = some ⟨oc, od, .func (ksFn "__init__" q (iArgs f p1 p2) [iSuper msg j q0 q1 q2 q3 q4 q5, iSet f r1 r2 r3 r4] (iSc f) .none .none doc pm an (.ref cda) ct cc), osl⟩ ∧ codeIn K (.ref cda) q = true ∧
    K.lookup cda = some ⟨ccl, cdd, .fields vs, ccs⟩ ∧ vs[2]? = some (.str file tf) ∧ ((prog.main.file : Str) == file) = true ∧ K.lookup cc = some ⟨cl, cld, .cell (some (.ref C)), csl⟩ ∧
    ErrEv (ksFn "__init__" q (iArgs f p1 p2) [iSuper msg j q0 q1 q2 q3 q4 q5, iSet f r1 r2 r3 r4] (iSc f) .none .none doc pm an (.ref cda) ct cc) fI f msg j q0 q1 q2 q3 q4 q5 r1 r2 r3 r4
/-- what __init__ leaves of a fresh exception at x -/
structure InitEnd (h h' : Heap) (x C dx t1 : Addr) (f : Str) (v : Value) : Prop where
  keep : ∀ b o, b ≠ x → h.get? b = some o → h'.get? b = some o
  obj : h'.get? x = some { cls := .ref C, dict := some dx, data := .fields #[.ref t1, .none, .none, .none, .bool false, .none] }
  dbig : h.objs.size ≤ dx
  dne : dx ≠ x
  ns : h'.Ns1 dx (fun y => if y = f then some v else none)
/-- a made error -/
structure OwnMade (h h' : Heap) (e C d : Addr) (f : Str) (v : Value) : Prop where
  keep : ∀ b o, h.get? b = some o → h'.get? b = some o
  new : h.objs.size ≤ e
  obj : ∃ oe vs, h'.get? e = some oe ∧ oe.cls = .ref C ∧ oe.dict = some d ∧ oe.data = .fields vs ∧ vs[1]? = some .none
  dbig : h.objs.size ≤ d
  dne : d ≠ e
  ns : h'.Ns1 d (fun y => if y = f then some v else none)
section
variable {prog : Program} {w : World} {A : Around} {E : Value → Shared → Prop} {h : Heap} {g : Array GenState} {d : Drawn} {t : Nat} {os : OsState}
variable {nm q : Str} {C N : Addr} {bs bm : List Value} {hdct : Bool} {sn : List Str} {sub : List Value} {ab : Bool} {col : Option Bool} {dd : Option Addr} {k0 k1 k2 k3 k5 : Option Value}
/-- the bound ValueError.__init__ is called -/
theorem call_mw {u e t0 : Addr} {rest : List Value} {Q : Value → Shared → Prop}
    (hC : h.get? C = some (excClassObj nm q C N bs bm hdct sn sub ab col dd k0 k1 k2 k3 k5 "ValueError.__new__")) (he : h.get? e = some (excO C t0)) (hu : h.get? u = some (kxs_mw "ValueError.__init__" e)) (hrest : rest.length ≤ sizeLine)
    (hq : ∀ h' t1, (∀ b o, b ≠ e → h.get? b = some o → h'.get? b = some o) → h'.get? e = some (excO C t1) → Q .none ⟨h', g, d, t, os⟩) :
    wpAny (model prog w) A (call (.ref u) rest) Q E ⟨h, g, d, t, os⟩ := by
  refine wpAny_call (codeAny_of_tree ?_)
  show wpAny _ A.in1 (callAny (.ref u) ⟨rest, []⟩) _ _ _
  simp only [callAny]
  refine wpAny_bind (wpAny_load hu ?_)
  simp only [kxs_mw, show (Value.type "method-wrapper" == Value.type "method" || Value.type "method-wrapper" == Value.type "builtin_function_or_method" || Value.type "method-wrapper" == Value.type "method-wrapper") = true by decide, if_true]
  refine W.KFB.if_so (by decide) ?_
  refine wpAny_bind (PySem.W.check_bound_init F.excBase_ValueError.toExcCallFacts hC he rfl ?_)
  refine wpAny_bind (wpAny_pure (wpAny_pure ?_))
  refine ⟨Code.quiet_builtin _ (by decide +kernel), codeAny_builtin F.excBase_ValueError.initEntry ?_⟩
  rw [Around.under_plainId F.excBase_ValueError.init.plain _]
  wp_walk
  refine hq _ h.objs.size (fun b o hb ho => ?_) ?_
  · rw [Heap.get?_update_other _ _ (Ne.symm hb)]
    exact Heap.get?_push_of_some _ ho
  · rw [Heap.get?_update_self _ (Heap.get?_push_of_some _ he) rfl]
    rfl
end
section
variable {prog : Program} {w : World} {A : Around} {E : Value → Shared → Prop} {R : Result → Shared → Prop} {s : Shared} {K : Frag} {mg mb : Str → Option Value} {C fI : Addr} {xn f : Str}
theorem at_of {M : Model} {c : Code} {α : Type} {t : Sem α} {Q : α → Shared → Prop} (h : wpAny M A t Q E s) : _root_.PySem.wpAt M A c t Q E s := fun Γ p _ hΓ => h Γ p hΓ
theorem err_init (T : ErrTxt prog K mg xn f C fI) (hfs : ¬ f = "self") (hfc : ¬ f = "__class__") (hfp : ¬ f = "super") (hfd : (f == ("__debug__" : Str)) = false) {x t0 : Addr} {v : Value} (X : K.In s.heap) (G : s.heap.Ns mainGlobals mg) (GB : s.heap.Ns builtinsNs mb) (hmb : mb "super" = some (.type "super")) (hlim : s.heap.NoLimit) (hx : s.heap.get? x = some (excO C t0)) (hnx : K.lookup x = none) (hroom : A.depth < recursionLimit)
    (hq : ∀ h' tk dx t1, InitEnd s.heap h' x C dx t1 f v → R (.ok (.ret .none)) { s with heap := h', toks := tk }) :
    codeAny (model prog w) A (.call (.ref fI) ⟨[.ref x, v], []⟩) R s := by
  obtain ⟨oc, od, q, msg, j, doc, pm, an, ct, osl, cc, cda, p1, p2, q0, q1, q2, q3, q4, q5, r1, r2, r3, r4, ccl, cl, cdd, cld, vs, ccs, csl, file, tf, ho, hcd, hcode, hvs, hfile, hcell, hev⟩ := T.fn
  obtain ⟨nm, qq, N, bs, bm, sn, sub, ab, col, dd, k0, k1, k2, k3, k5, hC, hbm⟩ := T.cls
  have hcl : clsIn K C = some { name := nm, bases := bs, mro := .ref C :: bm, ns := N, qualname := qq, hasDict := true, slotNames := sn, subclasses := sub, abstract := ab, collection := col, hasDel := false } := by unfold clsIn; rw [hC] <;> rfl
  have l1 : (iSc f).names.lookup ("self" : Str) = some .local := by simp [iSc, List.lookup]
  have hfs' : (f == ("self" : Str)) = false := beq_eq_false_iff_ne.mpr hfs
  have hfc' : (("__class__" : Str) == f) = false := beq_eq_false_iff_ne.mpr (Ne.symm hfc)
  have hfp' : (("super" : Str) == f) = false := beq_eq_false_iff_ne.mpr (Ne.symm hfp)
  have l2 : (iSc f).names.lookup f = some .local := by simp [iSc, List.lookup, hfs']
  have c1 : (("__class__" : Str) == ("self" : Str)) = false := by decide
  have c2 : (("super" : Str) == ("self" : Str)) = false := by decide
  have c3 : (("super" : Str) == ("__class__" : Str)) = false := by decide
  have l3 : (iSc f).names.lookup ("__class__" : Str) = some .free := by simp [iSc, List.lookup, c1, hfc']
  have l4 : (iSc f).names.lookup ("super" : Str) = some .globalImplicit := by simp [iSc, List.lookup, c2, c3, hfp']
  refine ks_codeAny_call_defAt (fd := ksFn "__init__" q (iArgs f p1 p2) [iSuper msg j q0 q1 q2 q3 q4 q5, iSet f r1 r2 r3 r4] (iSc f) .none .none doc pm an (.ref cda) ct cc) (body := [iSuper msg j q0 q1 q2 q3 q4 q5, iSet f r1 r2 r3 r4]) (binds := [("self", .ref x), (f, v)]) hroom (X _ _ ho) rfl hlim (codeRec_of X hcd) rfl (BindsTo.of_eq (hev.bind _ _)) ?_ ?_ (fun h₁ hns hk₁ => ?_)
  · intro y hy
    have hy' : y ∈ (iSc f).names := hy
    simp only [iSc, List.mem_cons, List.not_mem_nil, or_false] at hy'
    rcases hy' with rfl | rfl | rfl | rfl <;> (intro z; cases z)
  · intro y hy
    simp only [List.mem_cons, List.not_mem_nil, or_false] at hy
    rcases hy with rfl | rfl
    · exact l1
    · exact l2
  · have nself : (fun y => [(("self" : Str), Value.ref x), (f, v)].reverse.lookup y) "self" = some (.ref x) := by
      have : (("self" : Str) == f) = false := beq_eq_false_iff_ne.mpr (Ne.symm hfs)
      simp [List.lookup, this]
    have nf : (fun y => [(("self" : Str), Value.ref x), (f, v)].reverse.lookup y) f = some v := by simp [List.lookup]
    generalize hm : (fun y => [(("self" : Str), Value.ref x), (f, v)].reverse.lookup y) = m at hns nself nf
    have X₁ : K.In h₁ := X.keeps hk₁
    have hx₁ := hk₁ _ _ hx
    have hxL : s.heap.objs.size ≠ x := Nat.ne_of_gt (Heap.lt_size hx)
    obtain ⟨hp, gn, dr, tk, os⟩ := s
    -- super().__init__('..')
    obtain ⟨pl, he⟩ := hev.he
    refine ks_wpAt_execs_cons (ks_wpAt_Expr_any (ks_wpAt_MethodCall (pl := pl) ?_ (he _)) (hev.hi _) (hev.hs _))
    · refine ks_wpAt_super_base (f := fI) (cc := cda) l4 l3 (by decide) rfl (X₁ _ _ ho) rfl rfl rfl (X₁ _ _ hcode) rfl hvs hfile T.htop ?_
      refine ks_loadName_global rfl l4 (loadGlobal_builtin (G.keeps hk₁) T.hsup (GB.keeps hk₁) hmb ⟨rfl, ?_⟩)
      refine wpAny_loadName_free rfl l3 rfl ⟨_, X₁ _ _ hcell, rfl⟩ ?_
      refine wpAny_loadName_local rfl l1 hns nself ?_
      refine ks_wpAny_isType_cls (X₁ _ _ hC) rfl ⟨rfl, ?_⟩
      refine ks_wpAny_call_super (X₁ _ _ hC) rfl hx₁ rfl (fun c e => by cases e) (looks_mroIn X₁ T.mro) (fun h₂ e2 k₂ => ?_)
      have X₂ : K.In h₂ := X₁.keeps k₂
      have hx₂ := k₂ _ _ hx₁
      have I₂ : InstAt h₂ x (excO C t0) C none := ⟨hx₂, rfl, rfl, trivial⟩
      have hI : Looks (model prog w) h₂ (isInstance (.ref x) (.type "ValueError")) true := I₂.type.andThen (looks_subIn X₂ T.veC)
      have hm2 := T.sup
      unfold ks_superIn at hm2
      rw [hcl] at hm2
      refine kxs_getMethod kxs_ValueError e2 (looks_opaque X₂ T.opq) (l₀ := .ref C :: bm) ?_ rfl X₂ hm2 hI (ks_ne X₂ I₂ hcl) (by decide) ?_
      · exact fun A Q E s k q => wpAny_bind ((looks_clsIn X₂ hcl) A _ E s k (wpAny_pure q))
      show wpAny _ _ (callWith q4 (.ref h₂.objs.size) [] _ []) _ _ _
      refine kxs_callWith (i := "ValueError.__init__") (x := x) (u := h₂.objs.size) ?_ ?_
      · rw [hev.st]
        rfl
      · rw [hev.st]
        refine evalArgs_plain ?_
        refine Calls.spliced_cons (wpAny_Constant_str (x := msg) (k := j) (pos := q3) (Calls.spliced_nil ?_))
        refine ⟨Heap.get?_push_at rfl rfl, ?_⟩
        have kP : ∀ b o, h₂.get? b = some o → (h₂.push (kxs_mw "ValueError.__init__" x)).get? b = some o := fun b o e => Heap.get?_push_of_some _ e
        refine call_mw (t0 := t0) (kP _ _ (X₂ _ _ hC)) (kP _ _ hx₂) (Heap.get?_push_at rfl rfl) (by show 1 ≤ sizeLine; decide) fun h₃ t1 k₃ hx₃ => ?_
        show _root_.PySem.wpAt _ _ _ (execs _ _) _ _ _
        -- self.f = v
        have keep0 : ∀ b o, b ≠ x → hp.get? b = some o → h₃.get? b = some o := fun b o hb e => k₃ b o hb (kP _ _ (k₂ _ _ (hk₁ _ _ e)))
        have keep1 : ∀ b o, b ≠ x → h₁.get? b = some o → h₃.get? b = some o := fun b o hb e => k₃ b o hb (kP _ _ (k₂ _ _ e))
        have X₃ : K.In h₃ := fun a o e => k₃ a o (fun z => by rw [z, hnx] at e; cases e) (kP _ _ (X₂ a o e))
        have hns₃ : h₃.Ns hp.objs.size m := by
          obtain ⟨oL, es, ep, hL, r⟩ := hns
          exact ⟨oL, es, ep, keep1 _ _ hxL hL, r⟩
        refine ks_wpAt_execs_cons (ks_wpAt_Assign_Attr (at_of ?_) (hev.hs2 _))
        refine wpAny_Name (wpAny_loadName_local rfl l2 hns₃ nf ?_) hfd
        refine wpAny_Name (wpAny_loadName_local rfl l1 hns₃ nself ?_) (by decide)
        refine set_plain X₃ (ox := excO C t1) (od := none) ⟨hx₃, rfl, rfl, trivial⟩ T.sa ?_
        refine exc_osa X₃ hx₃ hcl (show refsVE (.ref C :: bm) = true from hbm) rfl T.noN (fun h₄ tk₄ dx k₄ dn dne hx₄ hn₄ => ?_)
        show _root_.PySem.wpAt _ _ _ (execs _ _) _ _ _
        refine at_of (wpAny_execs_nil ?_)
        refine hq h₄ tk₄ dx t1 ⟨fun b o hb e => k₄ b o hb (keep0 b o hb e), hx₄, ?_, dne, hn₄⟩
        have z1 : hp.objs.size < h₃.objs.size := hns₃.lt
        exact Nat.le_of_lt (Nat.lt_of_lt_of_le z1 dn)
end
end ErrX
end PySem
namespace PySem
namespace ErrX
open PySem.W PySem.Calls PyProof.Rows PySem.HandSPX
section
variable {prog : Program} {w : World} {A : Around} {E : Value → Shared → Prop} {R : Result → Shared → Prop} {s : Shared} {K : Frag} {mg mb : Str → Option Value} {C fI : Addr} {xn f : Str}
/-- f is a plain name -/
structure FldOk (f : Str) : Prop where
  ns : ¬ f = "self"
  nc : ¬ f = "__class__"
  np : ¬ f = "super"
  nd : (f == ("__debug__" : Str)) = false
theorem err_made (T : ErrTxt prog K mg xn f C fI) (hf : FldOk f) {v : Value} (X : K.In s.heap) (G : s.heap.Ns mainGlobals mg) (GB : s.heap.Ns builtinsNs mb) (hmb : mb "super" = some (.type "super")) (hlim : s.heap.NoLimit) (hroom : A.depth + 1 < recursionLimit)
    (hq : ∀ h' tk e d, OwnMade s.heap h' e C d f v → R (.ok (.ret (.ref e))) { s with heap := h', toks := tk }) :
    codeAny (model prog w) A (.call (.ref C) ⟨[v], []⟩) R s := by
  obtain ⟨nm, qq, N, bs, bm, sn, sub, ab, col, dd, k0, k1, k2, k3, k5, hC, hbm⟩ := T.cls
  obtain ⟨hp, gn, dr, tk, os⟩ := s
  have kq : ∀ b o, hp.get? b = some o → ((hp.push (kdv_tup [v])).push (excO C hp.objs.size)).get? b = some o := fun b o e => Heap.get?_push_of_some _ (Heap.get?_push_of_some _ e)
  have hg2 : ((hp.push (kdv_tup [v])).push (excO C hp.objs.size)).get? (hp.objs.size + 1) = some (excO C hp.objs.size) := by heap_get
  have hnx : K.lookup (hp.objs.size + 1) = none := by
    cases e : K.lookup (hp.objs.size + 1) with
    | none => rfl
    | some o =>
      have z : hp.get? (hp.objs.size + 1) = some o := X _ _ e
      exact absurd (Nat.lt_of_succ_lt (Heap.lt_size z)) (Nat.lt_irrefl _)
  have h1 : [v].length ≤ sizeLine := by show 1 ≤ sizeLine; decide
  refine call_own F.excBase_ValueError (fun Z => refsVE_contains Z bm hbm) (X _ _ hC) (looks_findIn X T.iC) (fun self => bind_fn X self T.tC) h1 ?_
  refine err_init (s := ⟨(hp.push (kdv_tup [v])).push (excO C hp.objs.size), gn, dr, tk, os⟩) T hf.ns hf.nc hf.np hf.nd (X.keeps kq) (G.keeps kq) (GB.keeps kq) hmb (hlim.keeps kq) hg2 hnx ?_ fun h' tk' dx t1 ⟨k', hx, dn, dne, hns⟩ => ?_
  · show A.depth + 1 < recursionLimit
    exact hroom
  · have old : ∀ b o, hp.get? b = some o → h'.get? b = some o := fun b o e => k' b o (Nat.ne_of_lt (Nat.lt_succ_of_lt (Heap.lt_size e))) (kq b o e)
    have z : hp.objs.size + 1 + 1 ≤ dx := by
      first
        | (simpa only [Heap.size_push] using dn)
        | exact dn
        | (have q := dn; rw [Heap.size_push, Heap.size_push] at q; exact q)
    exact ⟨rfl, hq h' tk' (hp.objs.size + 1) dx ⟨old, Nat.le_succ _, ⟨_, _, hx, rfl, rfl, rfl, rfl⟩, Nat.le_trans (Nat.le_trans (Nat.le_succ _) (Nat.le_succ _)) z, dne, hns⟩⟩
end
end ErrX
end PySem
namespace DL
open PySem L2 PySem.ErrX
theorem relO_one {v : V} {v' : Value} {f : Str} (r : RelV v v') (y : Str) : RelO (List.lookup y [(f, v)]) (if y = f then some v' else none) := by
  by_cases hw : y = f
  · subst hw
    rw [if_pos rfl, show List.lookup y [(y, v)] = some v by simp [List.lookup]]
    exact r
  · have qw : (y == f) = false := by simpa using hw
    rw [if_neg hw, show List.lookup y [(f, v)] = none by simp [List.lookup, qw]]
    trivial
section
variable {X : Cx} {C fI : Addr} {xn f : Str}
/-- an own error made of one value -/
def tMkE (C : Addr) (f : Str) (ta : TA) : L2.St → Hp → XK → Prop := fun σ H Q => ta σ H fun vs H1 => ∃ v, vs = [v] ∧ ∀ d, H1 d = none → Q (.ref C) (some d) (upd H1 d (.xd [(f, v)]))
theorem pmk_err {a : Expr} {ta : TA} {p pos : Pos} {k : Nat} (T : ErrTxt X.prog X.K X.mg xn f C fI) (hfo : FldOk f) (hr : Room k X.A) (ha : PA X [a] ta) (hg : Gl X xn) (hdb : (xn == ("__debug__" : Str)) = false)
    (he : starEach (a :: []) X.env = (false, eval a X.env) :: starEach [] X.env := by rfl) (hpl : (backTo pos (starEach [] X.env)).any (·.1) = false := by rfl) :
    PMk X (.Call (.Name xn p) [a] [] pos) (tMkE C f ta) := by
  intro pins s σ H Q I h
  refine wpAny_Call_Name_kw (ld_glob I hg T.gC ?_ hdb)
  refine PySem.W.callWith_K (h₀ := X.base) I.ok.mod.kin T.kC (thn (ha.run pos pins s σ H _ I h) fun us s1 hh => ?_) he hpl
  obtain ⟨vs, H1, I1, r1, v, ev, q1⟩ := hh
  subst ev
  refine ⟨I1.kIn, ?_⟩
  cases r1 with
  | cons rv rn =>
    rename_i v' us'
    cases rn
    show wpAny _ _ (call (.ref C) [v']) _ _ _
    have hlim := I1.nolimit
    obtain ⟨mb, hmb1, hmb2⟩ := I1.ok.mod.blt
    have G1 := I1.ok.mod.glob.keeps I1.bk
    have G2 := hmb1.keeps I1.bk
    obtain ⟨hp, g, dr, tk, os⟩ := s1
    refine wpAny_call (err_made T hfo I1.kIn G1 G2 ((hmb2 "super" (by decide)).trans (by decide +kernel)) hlim (by have := hr.dp; omega) fun h' tk' e d M => ?_)
    show MkP X pins σ Q (.ref e) ⟨h', g, dr, tk', os⟩
    obtain ⟨oe, fv, hoe, hc, hd, hdat, h1⟩ := M.obj
    obtain ⟨G', g1, g2⟩ := restrict h' fun b => decide (b ≠ e)
    have gk : ∀ b, b ≠ e → G'.get? b = h'.get? b := fun b hb => g1 b (decide_eq_true hb)
    have ge : G'.get? e = none := g2 e (by simp)
    have old : ∀ b o, hp.get? b = some o → G'.get? b = some o := fun b o q => (gk b (Nat.ne_of_lt (Nat.lt_of_lt_of_le (Heap.lt_size q) M.new))).trans (M.keep b o q)
    have ob : ObjOk X.prog X.w (upd H1 d (.xd [(f, v)])) G' d (.xd [(f, v)]) := ⟨_, M.ns.at (fun o q => (gk d M.dne).trans q), fun y => relO_one rv y⟩
    have J : Inv X pins σ (upd H1 d (.xd [(f, v)])) ⟨G', g, dr, tk', os⟩ := I1.laid (t' := tk') old M.dbig ob
    refine ⟨e, oe, fv, ⟨G', g, dr, tk', os⟩, _, .ref C, some d, rfl, J, fun b o q => ?_, ge, hoe, ⟨hc, hd⟩, hdat, h1, ?_, rfl, I1.bare, raises_own T.exC T.tyC, q1 d (I1.hok.fresh M.dbig)⟩
    · by_cases hb : b = e
      · have q' : G'.get? b = some o := q
        rw [hb, ge] at q'
        cases q'
      · exact (gk b hb).symm.trans q
    · rw [upd_ne (Ne.symm M.dne)]
      exact I1.hok.fresh M.new
/-- e.f of the error that the suite holds -/
def tFE (C : Addr) (f : Str) (a : Addr) (cls : Value) (d : Option Addr) (te : TE) : TE := fun σ H Q => te σ H fun x H1 => x = .ref a ∧ cls = .ref C ∧ ∃ (dd : Addr) (v : V), d = some dd ∧ H1 dd = some (.xd [(f, v)]) ∧ Q v H1
theorem pe_fe {a : Addr} {oe : Obj} {cls : Value} {d : Option Addr} {pn : List (Addr × Obj)} {e : Expr} {te : TE} {pos : Pos} (T : ErrTxt X.prog X.K X.mg xn f C fI) (hz : Zc cls d oe) (hf : ∃ vs, oe.data = .fields vs) (he : PE (X.suite a ((a, oe) :: pn)) e te)
    (hb : attributeBase e f X.env (eval e X.env) = eval e X.env := by rfl) : PE (X.suite a ((a, oe) :: pn)) (.Attribute e f pos) (tFE C f a cls d te) := by
  refine ⟨fun pins s σ H Q I h => ?_⟩
  refine attr_of hb (thn (he.run pins s σ H _ I h) fun u s1 hh => ?_)
  obtain ⟨x, H1, I1, rx, ex, ec, dd, v, ed, ea, q⟩ := hh
  subst ex
  obtain rfl : u = Value.ref a := rx
  subst ec
  subst ed
  obtain ⟨ha, _⟩ := I1.pin (a, oe) (List.mem_append_left _ List.mem_cons_self)
  obtain ⟨vs, hd⟩ := hf
  obtain ⟨mA, hns, hr⟩ := (I1.hok dd _ ea : ObjOk X.prog X.w H1 s1.heap dd (.xd [(f, v)]))
  obtain ⟨od, ho, hl⟩ := lookIn_ns hns
  obtain ⟨u, hu, ru⟩ := RelO.some_of (v := v) (o := mA f) (by rw [← (show List.lookup f [(f, v)] = some v by simp [List.lookup])]; exact hr f)
  have J : PySem.W.InstAt s1.heap a oe C (some od) := ⟨ha, hz.1, by unfold PySem.W.notCls; rw [hd] <;> rfl, by rw [hz.2]; exact ho⟩
  exact HandSPX.exc_get I1.kIn J T.ga T.gg T.exC (PySem.W.findObj_own T.hdC T.noN rfl (by rw [hl, hu])) (handed_of ru) ⟨v, H1, I1.tok _, ru, q⟩
end
end DL
namespace DL
open PySem L2 PySem.ErrX
section
variable {X : Cx} {P : Pm} {F0 : Fz} {H0 : Hp} {W : WX} {a b c e o : Expr} {es : List Expr} {fa fb fc : Env → Res D} {fs : Env → Res (List D)} {pos p apos : Pos} {st : Stmt} {sts tts : List Stmt} {g g1 g2 : Env → RS}
/-- code that is never come to -/
theorem sd_never : PS X st (tS P F0 H0 W (fun _ => .bad)) := ps_never.imp fun N σ H ⟨F, ρ, er, z⟩ => z
/-- raise Own(e) -/
theorem sd_raise {cn : Nat} {xn f : Str} {C fI : Addr} {k : Nat} {pos2 : Pos} (hc : X.calm = true) (tk : Takes X W) (T : ErrTxt X.prog X.K X.mg xn f C fI) (hxc : P.xc cn = .ref C) (hxf : P.xf cn = f) (hfo : FldOk f) (hr : Room k X.A) (ha : PE X a (tE P F0 H0 W fa)) (hg : Gl X xn) (hdb : (xn == ("__debug__" : Str)) = false)
    (he : starEach (a :: []) X.env = (false, eval a X.env) :: starEach [] X.env := by rfl) (hpl : (backTo pos (starEach [] X.env)).any (·.1) = false := by rfl) :
    PS X (.Raise (some (.Call (.Name xn p) [a] [] pos)) none pos2) (tS P F0 H0 W (fun ρ => bindS (fa ρ) ρ fun d => .err cn (some d) ρ)) :=
  (ps_raise hc tk (pmk_err T hfo hr (pa_cons ha pa_nil he) hg hdb he hpl)).imp fun N σ H ⟨F, ρ, er, z⟩ => by
  refine ⟨F, ρ, er, (PostS.bind (rel := rIs P) er z).imp ?_⟩
  rintro v H1 ⟨F1, d, g, i, q⟩
  refine ⟨v, rfl, fun dct hd => ?_⟩
  have er1 := (er.grow g).grow (Grow.junk g.s (.new hd) : Grow P F1 H1 F1 (upd H1 dct (.xd [(f, v)])))
  have := q σ F1 _ (some dct) er1 (.refl F1) ⟨dct, v, rfl, by rw [hxf]; exact upd_same, i⟩
  rw [hxc] at this
  exact this
/-! ### try: body, except X as n: return e -/
def tryD (gb : Env → RS) (c : Nat) (gs : Option D → Env → Res D) : Env → RS := fun ρ => match gb ρ with
  | .err c' p ρ' => if c' = c then bindS (gs p ρ') ρ' .rt else .bad
  | r => r
/-- an expression of a suite that holds the error number c -/
def tX (P : Pm) (F0 : Fz) (H0 : Hp) (c i : Nat) (a : Addr) (cls : Value) (x : Option Addr) (fx : Option D → Env → Res D) : TE := fun σ H Q => ∃ F ρ p, ER P F0 H0 F ρ σ H ∧ σ[i]? = some (some (.ref a)) ∧ cls = P.xc c ∧ ErrAt P F H c p x ∧ PostG P W0 (rIs P) (fx p ρ) F σ H Q
theorem ER.drop {F H : Hp} {ρ : Env} {σ : L2.St} (r : ER P F0 H0 F ρ σ H) (i : Nat) (v : Option V) (h0 : F0.S = none ∨ i ≠ 0) : ER P F0 H0 F (ρ.set i none) (σ.set i v) H where
  g := r.g
  self := fun x hx => by
    rcases h0 with q | q
    · rw [q] at hx
      cases hx
    · rw [List.getElem?_set_ne q]
      exact r.self x hx
  len := by simp [r.len]
  sh := fun j d q => by
    by_cases hj : i = j
    · subst hj
      have hl : i < ρ.length := by simpa using lt_of_get q
      rw [get_set_self hl] at q
      cases q
    · rw [List.getElem?_set_ne hj] at q ⊢
      exact r.sh j d q
  bw := fun j d q => by
    by_cases hj : i = j
    · subst hj
      have hl : i < ρ.length := by simpa using lt_of_get q
      rw [get_set_self hl] at q
      cases q
    · rw [List.getElem?_set_ne hj] at q ⊢
      exact r.bw j d q
  ow := fun j d q => by
    by_cases hj : i = j
    · subst hj
      have hl : i < ρ.length := by simpa using lt_of_get q
      rw [get_set_self hl] at q
      cases q
    · rw [List.getElem?_set_ne hj] at q ⊢
      exact r.ow j d q
  nd := fun j k d e a q1 q2 q3 q4 => by
    by_cases hj : i = j
    · subst hj
      have hl : i < ρ.length := by simpa using lt_of_get q1
      rw [get_set_self hl] at q1
      cases q1
    · by_cases hk : i = k
      · subst hk
        have hl : i < ρ.length := by simpa using lt_of_get q2
        rw [get_set_self hl] at q2
        cases q2
      · rw [List.getElem?_set_ne hj] at q1 q3
        rw [List.getElem?_set_ne hk] at q2 q4
        exact r.nd j k d e a q1 q2 q3 q4
theorem tryD_err {gb : Env → RS} {cn : Nat} {gs : Option D → Env → Res D} {ρ ρ' : Env} {c' : Nat} {p : Option D} (h : gb ρ = .err c' p ρ') : tryD gb cn gs ρ = if c' = cn then bindS (gs p ρ') ρ' .rt else .bad := by
  unfold tryD
  rw [h]
section
variable {gb : Env → RS} {gs : Option D → Env → Res D} {cn i : Nat} {x n : Str} {cv : Value} {np rp pos' : Pos} {body : List Stmt}
theorem PostS.try_ {F : Hp} {ρ : Env} {N : Ends} {ts : Addr → Value → Option Addr → TS} {W' : WX} (z : PostS P F0 H0 W F (tryD gb cn gs ρ) N)
    (hW : ∀ p ρ' σ F' H' x, ER P F0 H0 F' ρ' σ H' → Ex F F' → ErrAt P F' H' cn p x → PostS P F0 H0 W F (bindS (gs p ρ') ρ' .rt) N → W' (P.xc cn) x σ H') : PostS P F0 H0 W' F (gb ρ) N := by
  cases hg : gb ρ with
  | nx ρ' =>
    have e : tryD gb cn gs ρ = .nx ρ' := by unfold tryD; rw [hg]
    rw [e] at z
    exact z
  | rt d =>
    have e : tryD gb cn gs ρ = .rt d := by unfold tryD; rw [hg]
    rw [e] at z
    exact z
  | bk ρ' =>
    have e : tryD gb cn gs ρ = .bk ρ' := by unfold tryD; rw [hg]
    rw [e] at z
    exact z
  | ct ρ' =>
    have e : tryD gb cn gs ρ = .ct ρ' := by unfold tryD; rw [hg]
    rw [e] at z
    exact z
  | bad =>
    have e : tryD gb cn gs ρ = .bad := by unfold tryD; rw [hg]
    rw [e] at z
    exact z
  | err c' p ρ' =>
    rw [tryD_err hg] at z
    by_cases hc : c' = cn
    · rw [if_pos hc] at z
      subst hc
      exact fun σ F' H' y er ex q => hW p ρ' σ F' H' y er ex q z
    · rw [if_neg hc] at z
      exact z.elim
theorem sd_tryAs {te : Expr} (hs : X.stack = X.env :: X.outer) (hf : X.env.frame = some X.env.locals) (hN : X.N.Nodup) (hi : X.N[i]? = some n) (hln : X.env.kindOf n = some .local) (hcv : Names X x cv) (hex : PySem.W.exmOne X.K (P.xc cn) cv = some true) (h0 : F0.S = none := by rfl)
    (hb : ∀ (W : WX) (pn : List (Addr × Obj)) (xe : Value → Shared → Prop), Takes (X.tr pn xe) W → PassesOwn (model X.prog X.w) X.A X.env xe → PSs (X.tr pn xe) body (tS P F0 H0 W gb))
    (hsu : ∀ (a : Addr) (oe : Obj) (cls : Value) (d : Option Addr) (pn : List (Addr × Obj)), Zc cls d oe → (∃ vs, oe.data = .fields vs) → PE (X.suite a ((a, oe) :: pn)) te (tX P F0 H0 cn i a cls d fun p ρ => noErr (gs p ρ)))
    (tk : Takes X (fun _ _ _ _ => False) := by exact L2.takes0) :
    PS X (.Try body [.ExceptHandler (some (.Name x np)) (some n) [.Return (some te) rp] pos'] [] [] pos) (tS P F0 H0 W (tryD gb cn fun p ρ => if i < ρ.length then noErr (gs p (ρ.set i none)) else .bad)) :=
  (ps_try_as (tb := fun W => tS P F0 H0 W gb) (ts := fun a cls d => tRet (tX P F0 H0 cn i a cls d fun p ρ => noErr (gs p ρ))) (Wout := fun _ _ _ _ => False) hs hf hN hi hln hcv tk hb (fun a oe cls d pn hz hd => pss_one (ps_ret (hsu a oe cls d pn hz hd)))).imp fun N σ H ⟨F, ρ, er, z⟩ => by
  refine ⟨F, ρ, er, PostS.try_ (ts := fun _ _ _ => tNext) z ?_⟩
  rintro p ρ' σ' F' H' y er' ex' q z'
  refine ⟨true, hex, fun _ a ha => ?_, fun q => by cases q⟩
  by_cases hl : i < ρ'.length
  · rw [if_pos hl] at z'
    refine ⟨F', ρ'.set i none, p, er'.drop i (some (.ref a)) (.inl h0), get_set_self (er'.len ▸ hl), rfl, q, ?_⟩
    show PostG P W0 (rIs P) (noErr (gs p (ρ'.set i none))) F' _ H' N.rt
    cases hr : gs p (ρ'.set i none) with
    | ok d =>
      rw [hr] at z'
      exact fun v F2 H2 g2 i2 => z' v F2 H2 (er'.g.trans g2) (ex'.trans g2.f) i2
    | err c p =>
      rw [hr] at z'
      exact z'.elim
    | bad =>
      rw [hr] at z'
      exact z'.elim
  · rw [if_neg hl] at z'
    exact z'.elim
/-- except X: return e -/
theorem sd_try {te : Expr} (hs : X.stack = X.env :: X.outer) (hf : X.env.frame = some X.env.locals) (hcv : Names X x cv) (hex : PySem.W.exmOne X.K (P.xc cn) cv = some true) {gt : Env → Res D}
    (hb : ∀ (W : WX) (pn : List (Addr × Obj)) (xe : Value → Shared → Prop), Takes (X.tr pn xe) W → PassesOwn (model X.prog X.w) X.A X.env xe → PSs (X.tr pn xe) body (tS P F0 H0 W gb))
    (hsu : ∀ (a : Addr) (oe : Obj) (cls : Value) (d : Option Addr) (pn : List (Addr × Obj)), Zc cls d oe → (∃ vs, oe.data = .fields vs) → PE (X.suite a ((a, oe) :: pn)) te (tE P F0 H0 W0 gt))
    (tk : Takes X (fun _ _ _ _ => False) := by exact L2.takes0) :
    PS X (.Try body [.ExceptHandler (some (.Name x np)) none [.Return (some te) rp] pos'] [] [] pos) (tS P F0 H0 W (tryD gb cn fun _ ρ => noErr (gt ρ))) :=
  (ps_try_only (tb := fun W => tS P F0 H0 W gb) (ts := fun _ _ _ => tRet (tE P F0 H0 W0 gt)) (Wout := fun _ _ _ _ => False) hs hf hcv tk hb (fun a oe cls d pn hz hd => pss_one (ps_ret (hsu a oe cls d pn hz hd)))).imp fun N σ H ⟨F, ρ, er, z⟩ => by
  refine ⟨F, ρ, er, PostS.try_ (ts := fun _ _ _ => tNext) z ?_⟩
  rintro p ρ' σ' F' H' y er' ex' q z'
  refine ⟨true, hex, fun _ a ha => ?_, fun q => by cases q⟩
  refine ⟨F', ρ', er', ?_⟩
  cases hr : gt ρ' with
  | ok d =>
    rw [hr] at z'
    exact fun v F2 H2 g2 i2 => z' v F2 H2 (er'.g.trans g2) (ex'.trans g2.f) i2
  | err c p =>
    rw [hr] at z'
    exact z'.elim
  | bad =>
    rw [hr] at z'
    exact z'.elim
end
/-! ### what a suite says -/
section
variable {cn i : Nat} {x n f : Str} {ad : Addr} {oe : Obj} {cls : Value} {d : Option Addr} {pn : List (Addr × Obj)} {C fI : Addr}
def payD (p : Option D) : Res D := match p with
  | some d => .ok d
  | none => .bad
theorem xd_fe {p1 pos : Pos} (T : ErrTxt X.prog X.K X.mg x f C fI) (hxc : P.xc cn = .ref C) (hxf : P.xf cn = f) (hz : Zc cls d oe) (hf : ∃ vs, oe.data = .fields vs) (hN : X.N[i]? = some n) (hv : Vis X.env.scope n) (hd : (n == ("__debug__" : Str)) = false := by decide) (hcd : (n == ("__classdict__" : Str)) = false := by decide)
    (hb : attributeBase (.Name n p1) f X.env (eval (.Name n p1) X.env) = eval (.Name n p1) X.env := by rfl) :
    PE (X.suite ad ((ad, oe) :: pn)) (.Attribute (.Name n p1) f pos) (tX P F0 H0 cn i ad cls d fun p _ => noErr (payD p)) :=
  (pe_fe T hz hf (pe_var (X := X.suite ad ((ad, oe) :: pn)) hN hv hd hcd) hb).imp fun σ H Q ⟨F, ρ, p, er, hi, hc, he, z⟩ => by
  cases p with
  | none => exact z.elim
  | some dd =>
    obtain ⟨a1, v, h1, h2, h3⟩ := he
    rw [hxf] at h2
    exact ⟨.ref ad, hi, rfl, hc.trans hxc, a1, v, h1, h2, PostG.here (rel := rIs P) z er.s h3⟩
theorem xd_lift {te : Expr} {gt : Env → Res D} (h : PE (X.suite ad ((ad, oe) :: pn)) te (tE P F0 H0 W0 gt)) : PE (X.suite ad ((ad, oe) :: pn)) te (tX P F0 H0 cn i ad cls d fun _ ρ => noErr (gt ρ)) :=
  h.imp fun σ H Q ⟨F, ρ, p, er, hi, hc, he, z⟩ => ⟨F, ρ, er, PostG.noErr z⟩
/-- (constant, e.f) -/
theorem xd_pair {e1 e2 : Expr} {k : Nat} {pos : Pos} {dv : D} {vv : V} {gx : Option D → Env → Res D} (h1 : PE (X.suite ad ((ad, oe) :: pn)) e1 (tC vv)) (hv : ∀ F, Is P F dv vv) (h2 : PE (X.suite ad ((ad, oe) :: pn)) e2 (tX P F0 H0 cn i ad cls d fun p ρ => noErr (gx p ρ)))
    (hs1 : starEach [e1, e2] X.env = (false, eval e1 X.env) :: starEach [e2] X.env := by rfl) (hs2 : starEach [e2] X.env = (false, eval e2 X.env) :: starEach [] X.env := by rfl) :
    PE (X.suite ad ((ad, oe) :: pn)) (.Tuple [e1, e2] k pos) (tX P F0 H0 cn i ad cls d fun p ρ => noErr (do let y ← gx p ρ; .ok (.tup [dv, y]))) :=
  (pe_tup (pa_cons h1 (pa_cons h2 pa_nil hs2) hs1)).imp fun σ H Q ⟨F, ρ, p, er, hi, hc, he, z⟩ => by
  refine ⟨F, ρ, p, er, hi, hc, he, ?_⟩
  replace z : PostG P W0 (rIs P) (noErr (do let y ← gx p ρ; .ok (.tup [dv, y]))) F σ H Q := z
  show PostG P W0 (rIs P) (noErr (gx p ρ)) F σ H _
  cases hr : gx p ρ with
  | ok y =>
    rw [hr] at z
    intro v F' H' g i2
    refine ⟨by show 2 ≤ sizeLine; decide, fun q hq => ?_⟩
    exact z _ (upd F' q (.tup [vv, v])) _ (g.trans (.new g.s hq)) (by show Is P _ (.tup [dv, y]) _; rw [Is]; exact ⟨q, _, rfl, upd_same, .cons (hv _) (.cons (i2.mono (.new (g.s.back hq)) y) .nil)⟩)
  | err c p =>
    rw [hr] at z
    exact z.elim
  | bad =>
    rw [hr] at z
    exact z.elim
end
end
end DL
namespace DL
open PySem L2 PySem.ErrX
section
variable {X : Cx} {P : Pm} {F0 : Fz} {H0 : Hp} {W : WX} {a b c e o : Expr} {es : List Expr} {fa fb fc : Env → Res D} {fs : Env → Res (List D)} {pos p apos : Pos} {st : Stmt} {sts tts : List Stmt} {g g1 g2 : Env → RS} {F H : Hp} {σ : L2.St}
/-! ### isinstance(e, T) -/
def notScr : D → Bool
  | .scr _ => false
  | .dT _ _ => false
  | _ => true
def isiD (ib : D → Option Bool) (x : D) : Res D := if notScr x = true then (match ib x with
  | some b => .ok (.bl b)
  | none => .bad) else .bad
theorem pd_isi {x2 : Str} {tv : V} {u : Value} {ib : D → Option Bool} {p1 p2 : Pos} (hI : ∀ c, IsiC X.K (P.C c)) (kit : ∀ d b, ib d = some b → PySem.W.kitOne X.K (tyD P d) u = some b) (hcl : ClsV tv u) (ht : PE X (.Name x2 p2) (tC tv)) (ha : PE X a (tV P F0 H0 W fa)) (hg : Gl X "isinstance") (hm : X.mg "isinstance" = none)
    (h1 : starEach [a, .Name x2 p2] X.env = (false, eval a X.env) :: starEach [.Name x2 p2] X.env := by rfl) (h2 : (backTo pos (starEach [.Name x2 p2] X.env)).any (·.1) = false := by rfl) (h3 : starEach [.Name x2 p2] X.env = (false, eval (.Name x2 p2) X.env) :: starEach [] X.env := by rfl) :
    PE X (.Call (.Name "isinstance" p1) [a, .Name x2 p2] [] pos) (tE P F0 H0 W (fun ρ => do let x ← fa ρ; isiD ib x)) :=
  (pe_callB call_isi hg hm (by decide +kernel) (pa_cons ha (pa_cons ht pa_nil h3) h1) (by decide) (by decide) h1 h2).imp fun σ H Q ⟨F, ρ, er, z⟩ => by
  refine ⟨F, ρ, er, (PostG.bind (rel := rVw P) z).imp ?_⟩
  rintro v H1 ⟨F1, d, g, i, q⟩
  unfold isiD at q
  split at q
  · rename_i hns
    cases hb : ib d with
    | none =>
      rw [hb] at q
      exact q.elim
    | some b =>
      rw [hb] at q
      exact ⟨v, tv, _, u, b, rfl, hcl, i.ty hI (fun ns e => by subst e; cases hns) (fun ks xs e => by subst e; cases hns), kit d b hb, q.here g.s is_bl⟩
  · exact q.elim
/-! ### self.f = e -/
def setF (nm : Nat → List Str) (f : Str) (ρ : Env) (i : Nat) (d : D) : RS := match ρ[i]? with
  | some (some (.ow (.obj c xs))) => if (nm c)[xs.length]? = some f ∧ xs.length < 100 then .nx (ρ.set i (some (.ow (.obj c (xs ++ [d]))))) else .bad
  | _ => .bad
theorem putF_new {f : Str} {v : V} : ∀ {fs : List (Str × V)}, (∀ q ∈ fs, q.1 ≠ f) → putF f v fs = fs ++ [(f, v)]
  | [], _ => rfl
  | q :: r, h => by
    have h1 := h q List.mem_cons_self
    obtain ⟨k, w⟩ := q
    show (if k = f then (k, v) :: r else (k, w) :: putF f v r) = _
    rw [if_neg h1, putF_new fun z hz => h z (List.mem_cons_of_mem _ hz)]
    rfl
theorem zip_snoc {α β : Type} {v : β} {k : α} : ∀ {ks : List α} {vs : List β}, ks[vs.length]? = some k → ks.zip (vs ++ [v]) = ks.zip vs ++ [(k, v)]
  | [], vs, h => by simp at h
  | k0 :: ks, [], h => by
    simp at h
    subst h
    simp
  | k0 :: ks, v0 :: vs, h => by
    simp at h
    simp [zip_snoc h]
theorem sd_fld {i : Nat} {x f : Str} {p1 pos' : Pos} (hcl : ∀ c, f ∈ P.nm c → Cls X.K (P.C c) ∧ NoAttr X.K (P.C c) f) (hnd : ∀ c, (P.nm c).Nodup) (hv : PE X e (tE P F0 H0 W fa)) (hN : X.N[i]? = some x := by rfl) (hvi : Vis X.env.scope x := by first | exact Or.inl rfl | exact Or.inr (Or.inl rfl) | exact Or.inr (Or.inr rfl)) (hd : (x == ("__debug__" : Str)) = false := by decide)
    (hcd : (x == ("__classdict__" : Str)) = false := by decide) (hs : swapsWith e (some (.Attribute (.Name x p1) f pos')) pos.line X.env = pure false := by rfl) :
    PS X (.Assign [.Attribute (.Name x p1) f pos'] e pos) (tS P F0 H0 W (fun ρ => bindS (fa ρ) ρ fun d => setF P.nm f ρ i d)) := (ps_fld (pe_var hN hvi hd hcd) hv hs).imp fun N σ H ⟨F, ρ, er, z⟩ => by
  refine ⟨F, ρ, er, (PostS.bind (rel := rIs P) er z).imp ?_⟩
  rintro v H1 ⟨F1, d, g, j, z1⟩
  unfold setF at z1
  split at z1
  · rename_i c xs q
    obtain ⟨ad, h1, h2, h3, dx, vs, h4, h5, h6⟩ := (er.grow g).ow i _ q
    split at z1
    · rename_i hk
      have hk1 : (P.nm c)[vs.length]? = some f := by rw [← h6.length]; exact hk.1
      obtain ⟨k1, k2⟩ := hcl c (List.mem_of_getElem? hk1)
      refine ⟨.ref ad, h1, ad, P.C c, dx, _, rfl, h4, k1, k2, ?_, ?_⟩
      · rw [List.length_zip, ← h6.length]
        exact Nat.lt_of_le_of_lt (Nat.min_le_right _ _) (Nat.lt_trans hk.2 (by decide))
      · have e1 : putF f v ((P.nm c).zip vs) = (P.nm c).zip (vs ++ [v]) := by
          rw [zip_snoc hk1]
          refine putF_new fun q hq hqf => ?_
          obtain ⟨n, hn⟩ := List.getElem?_of_mem hq
          rw [List.getElem?_zip_eq_some] at hn
          have hlt : n < vs.length := lt_of_get hn.2
          have e3 : (P.nm c)[n]? = some f := by rw [hn.1, hqf]
          have : n = vs.length := nodup_ix (hnd c) e3 hk1
          omega
        rw [e1]
        refine z1 σ F1 _ ((er.grow g).mut q h1 ⟨dx, vs ++ [v], upd_same, ?_, h6.append (.cons j .nil)⟩) (.refl F1)
        have := lt_of_get hk1
        simp
        omega
    · exact z1.elim
  · exact z1.elim
/-! ### texts -/
def small2 (n m : Nat) : Bool := decide (n + m ≤ 1000000)
/-- + of ints, texts, lists, tuples -/
def addD : D → D → Option D
  | .int i, .int j => some (.int (i + j))
  | .str x, .str y => if small2 x.length y.length = true then some (.str (x ++ y)) else none
  | _, _ => none
theorem io_addS : OpR X (binaryOp .Add) (r2O P addD) := fun pins s σ H x y u v Q I rx ry ⟨F, dx, dy, d, e, i1, i2, hd, q⟩ => by
  unfold addD at hd
  split at hd
  · cases hd
    exact op_add pins s σ H x y u v Q I rx ry ⟨_, _, i1, i2, q.int e⟩
  · split at hd
    · rename_i hz
      cases hd
      exact op_add_str pins s σ H x y u v Q I rx ry ⟨_, _, i1, i2, Nat.le_trans (of_decide_eq_true hz) (by decide), q.str e⟩
    · cases hd
  · cases hd
/-- list + list: a new list -/
def catD : D → D → Option D
  | .lst xs, .lst ys => if small2 xs.length ys.length = true then some (.lst (xs ++ ys)) else none
  | _, _ => none
theorem notIn_sign {c : Nat} {z : Str} : True := trivial
def inS : D → D → Option D
  | .str ⟨cs⟩, .str z => match cs.toList with
    | [c] => some (.bl (decide (c ∈ z.cps.toList)))
    | _ => none
  | _, _ => none
def notInS : D → D → Option D
  | .str ⟨cs⟩, .str z => match cs.toList with
    | [c] => some (.bl (!decide (c ∈ z.cps.toList)))
    | _ => none
  | _, _ => none
theorem arr_one {cs : Array Nat} {c : Nat} (h : cs.toList = [c]) : cs = #[c] := by
  cases cs
  simp at h
  subst h
  rfl
theorem io_inS : OpR X (compareOp .In) (r2O P inS) := fun pins s σ H x y u v Q I rx ry ⟨F, dx, dy, d, e, i1, i2, hd, q⟩ => by
  unfold inS at hd
  split at hd
  · split at hd
    · rename_i c hc
      cases hd
      have := arr_one hc
      subst this
      exact op_in_sign pins s σ H x y u v Q I rx ry ⟨c, _, i1, i2, q.bl e⟩
    · cases hd
  · cases hd
theorem io_notInS : OpR X (compareOp .NotIn) (r2O P notInS) := fun pins s σ H x y u v Q I rx ry ⟨F, dx, dy, d, e, i1, i2, hd, q⟩ => by
  unfold notInS at hd
  split at hd
  · split at hd
    · rename_i c hc
      cases hd
      have := arr_one hc
      subst this
      exact op_notIn_sign pins s σ H x y u v Q I rx ry ⟨c, _, i1, i2, q.bl e⟩
    · cases hd
  · cases hd
/-! ### slices of texts and lists -/
abbrev rOp : Rel (Option Int) (Option Int) := fun _ _ d v => v = d
abbrev tOp' (P : Pm) (F0 : Fz) (H0 : Hp) (W : WX) (f : Env → Res (Option Int)) : TO := tG P F0 H0 W rOp f
def ptI : D → Res (Option Int)
  | .int i => .ok (some i)
  | _ => .bad
theorem _root_.L2.PO.imp {e : Option Expr} {t t' : TO} (h : PO X e t) (q : ∀ σ H Q, t' σ H Q → t σ H Q) : PO X e t' := ⟨fun pins s σ H Q I z => h.run pins s σ H Q I (q σ H Q z)⟩
theorem po_no : PO X none (tOp' P F0 H0 W (fun _ => .ok none)) := po_none.imp fun σ H Q ⟨F, ρ, er, z⟩ => z.here er.s rfl
theorem po_so (h : PE X e (tE P F0 H0 W fa)) : PO X (some e) (tOp' P F0 H0 W (fun ρ => fa ρ >>= ptI)) := (po_some h).imp fun σ H Q ⟨F, ρ, er, z⟩ => by
  refine ⟨F, ρ, er, (PostG.bind (rel := rIs P) z).imp ?_⟩
  rintro v H1 ⟨F1, d, g, i, q⟩
  unfold ptI at q
  split at q
  · exact ⟨_, un_int i, q.here g.s rfl⟩
  · exact q.elim
def cutD (xs : List D) (lo hi : Option Int) : List D := (xs.drop (HT.sIx xs.length 0 lo)).take (HT.sIx xs.length xs.length hi - HT.sIx xs.length 0 lo)
def slcD (x : D) (lo hi : Option Int) : Option D := match x with
  | .str z => if z.length ≤ 1000000 then some (.str (cutS z lo hi)) else none
  | .lst xs => some (.lst (cutD xs lo hi))
  | .tup xs => some (.tup (cutD xs lo hi))
  | _ => none
theorem IsL.cut {ds : List D} {vs : List V} (h : IsL P F ds vs) (lo hi : Option Int) : IsL P F (cutD ds lo hi) (cutV vs lo hi) := by
  unfold cutD cutV
  rw [h.length]
  exact (h.drop _).take _
theorem pd_slc {lo hi : Option Expr} {fl fh : Env → Res (Option Int)} {p2 : Pos} (ha : PE X a (tV P F0 H0 W fa)) (hl : PO X lo (tOp' P F0 H0 W fl)) (hh : PO X hi (tOp' P F0 H0 W fh)) :
    PE X (.Subscript a (.Slice lo hi none p2) pos) (tE P F0 H0 W (fun ρ => do let x ← fa ρ; let l ← fl ρ; let h ← fh ρ; opt (slcD x l h))) :=
  (pe_slice ((sl_str.or sl_list).or sl_tupA) ha hl hh).imp fun σ H Q ⟨F, ρ, er, z⟩ => by
  refine ⟨F, ρ, er, (PostG.bind (rel := rVw P) z).imp ?_⟩
  rintro x H1 ⟨F1, d, g1, i1, z1⟩
  refine ⟨F1, ρ, er.grow g1, (PostG.bind (rel := rOp) z1).imp ?_⟩
  rintro l H2 ⟨F2, l', g2, rfl, z2⟩
  refine ⟨F2, ρ, (er.grow g1).grow g2, (PostG.bind (rel := rOp) z2).imp ?_⟩
  rintro h H3 ⟨F3, h', g3, rfl, z3⟩
  obtain ⟨dr, hd, q⟩ := opt_of z3
  have i3 : Vw P F3 H3 d x := (i1.mono g2.f g2.h d).mono g3.f g3.h d
  unfold slcD at hd
  split at hd
  · split at hd
    · rename_i hz
      cases hd
      exact .inl (.inl ⟨_, i3, Nat.le_trans hz (by decide), Out.str q g3.s⟩)
    · cases hd
  · cases hd
    obtain ⟨ad, vs, rfl, h1, h2⟩ := i3
    exact .inl (.inr ⟨ad, vs, rfl, .inl h1, Out.lst q g3.s (h2.cut _ _)⟩)
  · cases hd
    obtain ⟨ad, vs, rfl, h0, h1, h2⟩ := i3
    refine .inr ⟨ad, vs, rfl, .inl h1, fun hw => ?_, fun _ => Out.tup q g3.s (h2.cut _ _)⟩
    have ew : cutV vs l h = vs := by
      unfold cutV
      rw [hw.1, hw.2]
      simp
    have h5 := h2.cut l h
    rw [ew] at h5
    exact Out.here q g3.s (by rw [Is]; exact ⟨ad, vs, rfl, h0, h5⟩)
  · cases hd
end
end DL
namespace DL
open PySem L2 PySem.ErrX
section
variable {X : Cx} {P : Pm} {F0 : Fz} {H0 : Hp} {W : WX} {a b c e o : Expr} {es : List Expr} {fa fb fc : Env → Res D} {fs : Env → Res (List D)} {pos p apos : Pos} {st : Stmt} {sts tts : List Stmt} {g g1 g2 : Env → RS} {F H : Hp} {σ : L2.St}
/-! ### e.split(sep) -/
def strD : D → Res Str
  | .str x => .ok x
  | _ => .bad
abbrev rSt : Rel Str V := fun _ _ d v => v = .str d
theorem strD_of {d : D} {v : V} {Q : V → Hp → Prop} (s : Sb P F H) (i : Is P F d v) (h : PostG P W rSt (strD d) F σ H Q) : ∃ x, v = .str x ∧ Q v H := by
  cases d with
  | str x => exact ⟨x, un_str i, h.here s (un_str i)⟩
  | _ => exact h.elim
def splD (x y : Str) : Res D := if (y.length == 0) = false ∧ x.length ≤ 1000000 then .ok (.lst ((Txt.split x y).map .str)) else .bad
theorem isL_strs {ys : List Str} : IsL P F (ys.map D.str) (ys.map V.str) := by
  induction ys with
  | nil => exact .nil
  | cons y ys ih => exact .cons is_str ih
theorem nd_split {apos pos : Pos} (ho : PE X o (tE P F0 H0 W fa)) (he : PE X e (tE P F0 H0 W fb))
    (hbase : attributeBase o "split" X.env (eval o X.env) = eval o X.env := by rfl)
    (hfew : ((backTo pos (starEach [e] X.env)).all (fun x => !x.1) && (backToKw pos (keywordEach [] X.env)).all (fun x => x.1.isSome)
      && decide (([e] : List Expr).length + ([] : List Keyword).length + (if ([] : List Keyword).isEmpty then 0 else 1) < 30)) = true := by rfl)
    (hline : (apos.endLine == pos.line) = true := by rfl) (hs1 : starEach [e] X.env = (false, eval e X.env) :: starEach [] X.env := by rfl) (hplain : (backTo pos (starEach [] X.env)).any (·.1) = false := by rfl) :
    PE X (.Call (.Attribute o "split" apos) [e] [] pos) (tN P F0 H0 W (fun ρ => do let x ← fa ρ; let s ← strD x; let y ← fb ρ; let t ← strD y; splD s t)) :=
  (pe_bm PySem.F.plainAttrs_str PySem.F.slot_str_split PySem.F.type_str_split mt_split ho (pa_cons he pa_nil hs1) hbase hfew hline hs1 hplain).imp fun σ H Q ⟨F, ρ, er, z⟩ => by
  refine ⟨F, ρ, er, (PostG.bind (rel := rIs P) z).imp ?_⟩
  rintro x H1 ⟨F1, d, g1, i1, z1⟩
  obtain ⟨x', rfl, F1', s', g1', e1', z1'⟩ := strD_of g1.s i1 (PostG.bind (rel := rSt) z1)
  cases e1'
  have er1 := (er.grow g1).grow g1'
  refine ⟨rfl, F1', ρ, er1, (PostG.bind (rel := rIs P) z1').imp ?_⟩
  rintro y H2 ⟨F2, d2, g2, i2, z2⟩
  obtain ⟨y', rfl, F3, t', g3, e3, z3⟩ := strD_of g2.s i2 (PostG.bind (rel := rSt) z2)
  cases e3
  unfold splD at z3
  by_cases hz : (y'.length == 0) = false ∧ x'.length ≤ 1000000
  · rw [if_pos hz] at z3
    refine ⟨x', y', rfl, rfl, hz.1, Nat.le_trans (Nat.add_le_add_right hz.2 2) (by decide), fun p hp => ?_⟩
    exact z3 _ F3 _ (.junk g3.s (.new hp)) ⟨p, rfl, (((g1.trans g1').trans g2).trans g3).h.back hp, g3.s.back hp, _, upd_same, isL_strs⟩
  · rw [if_neg hz] at z3
    exact z3.elim
/-! ### int(e), str(e) -/
def cInt2 : List D → Option D
  | [.int i] => some (.int i)
  | [.bl b] => some (.int (if b then 1 else 0))
  | [.str x] => if x.length ≤ 640 then (PySem.intText? x).map .int else none
  | _ => none
theorem ic_int2 : CallR X (.type "int") (rcO P cInt2) := fun pins s σ H xs us Q I rx ⟨F, ds, d, e, i, hd, q⟩ => by
  unfold cInt2 at hd
  split at hd
  · cases hd
    obtain ⟨v, r, rfl, i1, i⟩ := i.uncons
    obtain rfl := i.unnil
    exact call_int1 pins s σ H _ us Q I rx (.inl ⟨_, by rw [show v = V.int _ from i1], q.int e⟩)
  · cases hd
    obtain ⟨v, r, rfl, i1, i⟩ := i.uncons
    obtain rfl := i.unnil
    exact call_int1 pins s σ H _ us Q I rx (.inr ⟨_, by rw [show v = V.bl _ from i1], q.int e⟩)
  · rename_i x
    split at hd
    · rename_i hl
      cases hn : PySem.intText? x with
      | none =>
        rw [hn] at hd
        cases hd
      | some n =>
        rw [hn] at hd
        cases hd
        obtain ⟨v, r, rfl, i1, i⟩ := i.uncons
        obtain rfl := i.unnil
        exact call_int_str pins s σ H _ us Q I rx ⟨x, n, by rw [show v = V.str _ from i1], hn, hl, q.int e⟩
    · cases hd
  · cases hd
/-! ### an own function called somewhere below -/
theorem run_at {k n : Nat} {f : Addr} {fd : FuncData} {ps : List Str} {G : List D → Res D} {A' : Around} {pins : List (Addr × Obj)} {s : Shared} {Q : VK} {us : List Value} {vs : List V} {ds : List D} (Fn : FnOk X.prog X.w X.K X.mg X.base (L2.CX X.prog X.w) k f fd ps (spD P n G)) (sb : Sub X k A') (hb : Binds X.K fd ps [])
    (tk : Takes X W) (I : Inv X pins σ H s) (r : Vals vs us) (sx : Sb P F H) (i : IsL P F ds vs) (z : PostG P W (rIs P) (fnG n G ds) F σ H Q) : wpAny (model X.prog X.w) A' (call (.ref f) us) (EP X pins σ Q) X.xe s := by
  have h : spD P n G vs H Q (WE W σ) := by
    have := fnG_of (dvs := []) (dds := []) (n := n) (G := G) (E := WE W σ) Dfl.nil sx i (by rw [List.append_nil]; exact z.sig)
    rw [List.append_nil] at this
    exact this
  have hl : (us ++ []).length = ps.length := by rw [List.append_nil, ← r.length]; exact Fn.len _ _ _ _ h
  have e0 : Env0 X.prog X.w X.K X.mg X.base A' X.stack s H := { I.env0 with frames := by rw [sb.fr]; exact I.env0.frames }
  have hbb := hb s us I.kIn hl
  rw [List.append_nil] at hbb
  refine wpAny_call (codeAny_mono (Fn.run A' X.stack s H ⟨us, []⟩ us vs Q (WE W σ) sb.room e0 hbb r h) fun r s' hq => ?_)
  cases r with
  | error e => exact passAt tk σ pins H s e s' I hq
  | ok fl =>
    cases fl with
    | ret u => exact I.after hq
    | next => exact False.elim hq
    | brk => exact False.elim hq
    | cont => exact False.elim hq
theorem sub_here {k : Nat} (hr : Room k X.A) : Sub X k X.A := ⟨hr, rfl⟩
/-- an own class's method by its name -/
structure OwnM (K : PySem.W.Frag) (C : Addr) (m : Str) (f : Addr) : Prop where
  at_ : PySem.W.findIn K (.ref C) m = some (some (.ref f))
  fn : PySem.W.isFn K (.ref f) = true
theorem inst_at {pins : List (Addr × Obj)} {s : Shared} {ad C dx : Addr} {fs : List (Str × V)} (I : Inv X pins σ H s) (h : H ad = some (.ins C dx fs)) : ∃ ox od, PySem.W.InstAt s.heap ad ox C od := by
  obtain ⟨mA, ho, _⟩ := ins_get I.hok h
  obtain ⟨od, h1, _⟩ := lookIn_ns ho.ns
  exact ⟨_, some od, ho.obj, rfl, rfl, h1⟩
/-! ### - and str of numbers: ints and instances of the class number 0 -/
def negN (G : List D → Res D) : D → Res D
  | .int i => .ok (.int (-i))
  | .obj 0 xs => fnG 1 G [.obj 0 xs]
  | _ => .bad
theorem CmpBack_of {Q : VK} {pins : List (Addr × Obj)} {u : Value} {s : Shared} (h : EP X pins σ Q u s) : PySem.W.CmpBack (EP X pins σ Q) u s := by
  obtain ⟨v, H', I, r, q⟩ := h
  cases u with
  | notImplemented => cases v <;> (first | (obtain ⟨t, e⟩ := r; cases e) | cases r)
  | _ => exact ⟨v, H', I, r, q⟩
theorem pd_neg {k : Nat} {f : Addr} {fd : FuncData} {ps : List Str} {G : List D → Res D} (Fn : FnOk X.prog X.w X.K X.mg X.base (L2.CX X.prog X.w) k f fd ps (spD P 1 G)) (M : OwnM X.K (P.C 0) "__neg__" f) (hr : Room k X.A) (hb : Binds X.K fd ps []) (tk : Takes X W) (ha : PE X a (tE P F0 H0 W fa)) :
    PE X (.UnaryOp .USub a pos) (tE P F0 H0 W (fun ρ => do let x ← fa ρ; negN G x)) := by
  refine ⟨fun pins s σ H Q I h => ?_⟩
  refine PyProof.Rows.UnaryOp_ (thn (ha.run pins s σ H _ I (tG.bind (rel := rIs P) (f := fa) (k := fun _ x => negN G x) h)) ?_)
  rintro v s1 ⟨x, H1, I1, r1, F1, ρ, d, er, i1, q1⟩
  unfold negN at q1
  split at q1
  · have ex := un_int i1
    subst ex
    exact un_neg pins s1 σ H1 _ v Q I1 r1 ⟨_, rfl, q1.here er.s is_int⟩
  · obtain ⟨ad, dx, vs, rfl, h1, h2, h3⟩ := obj_of i1
    obtain rfl : v = Value.ref ad := r1
    obtain ⟨ox, od, J⟩ := inst_at I1 (er.s.ex _ _ h1)
    obtain ⟨m, Fr⟩ := I1.fr
    refine PySem.W.ksp_neg Fr I1.ok.mod.kin J M.at_ M.fn ?_
    exact run_at (vs := [.ref ad]) (ds := [_]) Fn (sub_here hr) hb tk I1 (.cons rfl .nil) er.s (.cons i1 .nil) q1
  · exact q1.elim
def strN (G : List D → Res D) : D → Res D
  | .int i => if i.natAbs.log2 < 1920 then .ok (.str (toString i)) else .bad
  | .obj 0 xs => do let y ← fnG 1 G [.obj 0 xs]; let z ← strD y; .ok (.str z)
  | _ => .bad
theorem pd_strN {p1 : Pos} {k : Nat} {f : Addr} {fd : FuncData} {ps : List Str} {G : List D → Res D} (Fn : FnOk X.prog X.w X.K X.mg X.base (L2.CX X.prog X.w) k f fd ps (spD P 1 G)) (M : OwnM X.K (P.C 0) "__str__" f) (hr : Room (k + 2) X.A) (hb : Binds X.K fd ps []) (tk : Takes X W) (hg : Gl X "str") (hm : X.mg "str" = none) (ha : PE X a (tE P F0 H0 W fa))
    (he : starEach [a] X.env = (false, eval a X.env) :: starEach [] X.env := by rfl) (hpl : (backTo pos (starEach [] X.env)).any (·.1) = false := by rfl) :
    PE X (.Call (.Name "str" p1) [a] [] pos) (tE P F0 H0 W (fun ρ => do let x ← fa ρ; strN G x)) := by
  refine ⟨fun pins s σ H Q I h => ?_⟩
  refine wpAny_Call_Name_kw (ld_blt (u := .type "str") I hg hm (by decide +kernel) ?_)
  obtain ⟨F, ρ, er, z⟩ := h
  refine PyProof.Rows.callWith_type1 (thn ((pa_cons ha pa_nil he).run pos pins s σ H (fun vs H1 => ∃ v, vs = [v] ∧ ∃ F1 d, Grow P F H F1 H1 ∧ Is P F1 d v ∧ PostG P W (rIs P) (strN G d) F1 σ H1 Q) I ⟨F, ρ, er, (PostG.bind (rel := rIs P) z).imp fun v H1 q => ⟨v, rfl, q⟩⟩) ?_) he hpl
  rintro us s1 ⟨vs, H1, I1, r1, v, rfl, F1, d, g1, i1, q1⟩
  obtain ⟨u, rfl, rv⟩ := Vals.one r1
  unfold strN at q1
  split at q1
  · have ex := un_int i1
    subst ex
    split at q1
    · rename_i hl
      exact call_str_int pins s1 σ H1 _ _ Q I1 r1 ⟨_, rfl, hl, q1.here g1.s is_str⟩
    · exact q1.elim
  · obtain ⟨ad, dx, vs, rfl, h1, h2, h3⟩ := obj_of i1
    obtain rfl : u = Value.ref ad := rv
    obtain ⟨ox, od, J⟩ := inst_at I1 (g1.s.ex _ _ h1)
    refine PySem.W.kso_call ?_ I1.kIn J M.at_ M.fn ?_
    · have := (hr.in1.in1).units0
      exact this
    · refine thn (run_at (A' := X.A.in1.in1) (vs := [.ref ad]) (ds := [_]) Fn ((sub_here hr).in1.in1) hb tk I1 (.cons rfl .nil) g1.s (.cons i1 .nil) (PostG.bind (rel := rIs P) q1)) ?_
      rintro w s2 ⟨v2, H2, I2, r2, F2, d2, g2, i2, q2⟩
      obtain ⟨x', rfl, F3, t', g3, e3, z3⟩ := strD_of g2.s i2 (PostG.bind (rel := rSt) q2)
      cases e3
      obtain ⟨t, rfl⟩ := r2
      exact ⟨.str x', H2, I2, ⟨t, rfl⟩, z3.here g3.s is_str⟩
  · exact q1.elim
end
end DL
namespace DL
open PySem L2 PySem.ErrX
section
variable {X : Cx} {P : Pm} {F0 : Fz} {H0 : Hp} {W : WX} {a b c e o : Expr} {es : List Expr} {fa fb fc : Env → Res D} {fs : Env → Res (List D)} {pos p apos : Pos} {st : Stmt} {sts tts : List Stmt} {g g1 g2 : Env → RS} {F H : Hp} {σ : L2.St}
/-! ### + of ints, texts, lists, tuples -/
theorem Inv.rdl {pins : List (Addr × Obj)} {s : Shared} {l : Addr} {xs : List V} (I : Inv X pins σ H s) (h : Rd H l (.lst xs)) : xs.length ≤ sizeLine ∧ ∃ (its : List Value) (n : Nat), Vals xs its ∧ s.heap.get? l = some { cls := .type "list", data := .seq its.toArray n } :=
  (h.ok I.hok : ObjOk X.prog X.w H s.heap l (.lst xs))
def rCatR : R2 := fun x y H Q => ∃ l b xs zs, x = .ref l ∧ y = .ref b ∧ Rd H l (.lst xs) ∧ Rd H b (.lst zs) ∧ xs.length + zs.length ≤ sizeLine ∧ ∀ p, H p = none → Q (.ref p) (upd H p (.lst (xs ++ zs)))
theorem op_catR : OpR X (binaryOp .Add) rCatR := by
  intro pins s σ H x y v u Q I rx ry h
  obtain ⟨l, b, xs, zs, rfl, rfl, hH, hB, hz, q⟩ := h
  cases rx
  cases ry
  obtain ⟨z1, its1, n1, v1, e1⟩ := Inv.rdl I hH
  obtain ⟨z2, its2, n2, v2, e2⟩ := Inv.rdl I hB
  refine PySem.P.add_list e1 e2 ?_ (by rw [List.size_toArray, List.size_toArray, ← v1.length, ← v2.length]; exact hz)
  rw [show its1.toArray ++ its2.toArray = (its1 ++ its2).toArray by simp]
  exact ⟨.ref _, _, I.lnew (t' := s.toks) (v1.append v2) (by rw [List.length_append]; exact hz), rfl, q _ I.fresh⟩
def addA : D → D → Option D
  | .int i, .int j => some (.int (i + j))
  | .str x, .str y => if small2 x.length y.length = true then some (.str (x ++ y)) else none
  | .lst xs, .lst ys => if small2 xs.length ys.length = true then some (.lst (xs ++ ys)) else none
  | .tup xs, .tup ys => if small2 xs.length ys.length = true then some (.tup (xs ++ ys)) else none
  | _, _ => none
theorem io_addA : OpR X (binaryOp .Add) (r2O P addA) := fun pins s σ H x y u v Q I rx ry ⟨F, dx, dy, d, e, i1, i2, hd, q⟩ => by
  unfold addA at hd
  split at hd
  · cases hd
    exact op_add pins s σ H x y u v Q I rx ry ⟨_, _, i1, i2, q.int e⟩
  · split at hd
    · rename_i hz
      cases hd
      exact op_add_str pins s σ H x y u v Q I rx ry ⟨_, _, i1, i2, Nat.le_trans (of_decide_eq_true hz) (by decide), q.str e⟩
    · cases hd
  · split at hd
    · rename_i hz
      cases hd
      obtain ⟨a1, vs1, rfl, h1, j1⟩ := i1
      obtain ⟨a2, vs2, rfl, h2, j2⟩ := i2
      exact op_catR pins s σ H _ _ u v Q I rx ry ⟨a1, a2, vs1, vs2, rfl, rfl, h1, h2, by rw [← j1.length, ← j2.length]; exact Nat.le_trans (of_decide_eq_true hz) (by decide), q.lst e (j1.append j2)⟩
    · cases hd
  · split at hd
    · rename_i hz
      cases hd
      obtain ⟨a1, vs1, rfl, f1, h1, j1⟩ := i1
      obtain ⟨a2, vs2, rfl, f2, h2, j2⟩ := i2
      refine op_catA pins s σ H _ _ u v Q I rx ry ⟨a1, a2, vs1, vs2, rfl, rfl, .inl h1, .inl h2, by rw [← j1.length, ← j2.length]; exact Nat.le_trans (of_decide_eq_true hz) (by decide), fun h0 => ?_, fun _ h0 => ?_, fun _ _ => q.tup e (j1.append j2)⟩
      · have hj := j1.append j2
        rw [h0] at hj
        exact q.here e (by rw [Is]; exact ⟨a2, vs2, rfl, f2, hj⟩)
      · have hj := j1.append j2
        rw [h0, List.append_nil] at hj
        exact q.here e (by rw [Is]; exact ⟨a1, vs1, rfl, f1, hj⟩)
    · cases hd
  · cases hd
/-! ### list(e), tuple(e) of lists and tuples -/
def cList : List D → Option D
  | [.lst xs] => some (.lst xs)
  | [.tup xs] => some (.lst xs)
  | _ => none
theorem ic_list : CallR X (.type "list") (rcO P cList) := fun pins s σ H xs us Q I rx ⟨F, ds, d, e, i, hd, q⟩ => by
  unfold cList at hd
  split at hd
  · cases hd
    obtain ⟨v, r, rfl, i1, i⟩ := i.uncons
    obtain rfl := i.unnil
    obtain ⟨ad, vs, rfl, h1, h2⟩ := i1
    exact call_list_of pins s σ H _ us Q I rx ⟨ad, vs, rfl, .inl (.inl h1), q.lst e h2⟩
  · cases hd
    obtain ⟨v, r, rfl, i1, i⟩ := i.uncons
    obtain rfl := i.unnil
    obtain ⟨ad, vs, rfl, h0, h1, h2⟩ := i1
    exact call_list_of pins s σ H _ us Q I rx ⟨ad, vs, rfl, .inr (.inl h1), q.lst e h2⟩
  · cases hd
def cTup : List D → Option D
  | [.lst xs] => some (.tup xs)
  | [.tup xs] => some (.tup xs)
  | _ => none
theorem ic_tup : CallR X (.type "tuple") (rcO P cTup) := fun pins s σ H xs us Q I rx ⟨F, ds, d, e, i, hd, q⟩ => by
  unfold cTup at hd
  split at hd
  · cases hd
    obtain ⟨v, r, rfl, i1, i⟩ := i.uncons
    obtain rfl := i.unnil
    obtain ⟨ad, vs, rfl, h1, h2⟩ := i1
    exact call_tuple_of pins s σ H _ us Q I rx ⟨ad, vs, rfl, .inl ⟨.inl h1, q.tup e h2⟩⟩
  · cases hd
    obtain ⟨v, r, rfl, i1, i⟩ := i.uncons
    obtain rfl := i.unnil
    obtain ⟨ad, vs, rfl, h0, h1, h2⟩ := i1
    exact call_tuple_of pins s σ H _ us Q I rx ⟨ad, vs, rfl, .inr ⟨.inl h1, q.here e (by rw [Is]; exact ⟨ad, vs, rfl, h0, h2⟩)⟩⟩
  · cases hd
/-! ### f-strings -/
def fmtD : D → Res Str
  | .str y => if y.length ≤ 1000000 then .ok y else .bad
  | .int i => if i.natAbs.log2 < 1920 then .ok (toString i) else .bad
  | _ => .bad
/-- a part of an f-string -/
structure PF (X : Cx) (P : Pm) (F0 : Fz) (H0 : Hp) (W : WX) (e : Expr) (t : TE) (f : Env → Res Str) : Prop where
  pe : PE X e t
  rd : ∀ σ H (Q : V → Hp → Prop), tG P F0 H0 W rSt f σ H Q → t σ H Q
theorem pf_fmt {pos : Pos} (he : PE X e (tE P F0 H0 W fa)) : PF X P F0 H0 W (.FormattedValue e (-1) none pos) (tFmt (tE P F0 H0 W fa)) (fun ρ => fa ρ >>= fmtD) := ⟨pe_fmt he, fun σ H Q ⟨F, ρ, er, z⟩ => by
  refine ⟨F, ρ, er, (PostG.bind (rel := rIs P) z).imp ?_⟩
  rintro v H1 ⟨F1, d, g, i, q⟩
  unfold fmtD at q
  split at q
  · split at q
    · rename_i hl
      exact .inl ⟨_, un_str i, Nat.le_trans hl (by decide), q.here g.s rfl⟩
    · exact q.elim
  · split at q
    · rename_i hl
      exact .inr ⟨_, un_int i, hl, q.here g.s rfl⟩
    · exact q.elim
  · exact q.elim⟩
theorem pf_str {x : Str} {j : Nat} {pos : Pos} : PF X P F0 H0 W (.Constant (.str x) j pos) (tC (.str x)) (fun _ => .ok x) := ⟨pe_str, fun σ H Q ⟨F, ρ, er, z⟩ => PostG.here (rel := rSt) z er.s rfl⟩
theorem pd_f1 {f1 : Env → Res Str} {t1 : TE} {pos : Pos} (h : PF X P F0 H0 W e t1 f1) : PE X (.JoinedStr [e] pos) (tE P F0 H0 W (fun ρ => do let x ← f1 ρ; .ok (.str x))) := (pe_joined1 h.pe).imp fun σ H Q ⟨F, ρ, er, z⟩ => by
  refine h.rd σ H Q ⟨F, ρ, er, (PostG.bind (rel := rSt) z).imp ?_⟩
  rintro v H1 ⟨F1, d, g, rfl, q⟩
  exact q.here g.s is_str
def ckS (x : Str) : Res Str := if x.length ≤ 1000000 then .ok x else .bad
abbrev rStr : Rel Str Str := fun _ _ d v => v = d
theorem ckS_of {x : Str} {Q : Str → Hp → Prop} (s : Sb P F H) (h : PostG P W rStr (ckS x) F σ H Q) : x.length ≤ sizeLine ∧ Q x H := by
  unfold ckS at h
  by_cases hl : x.length ≤ 1000000
  · rw [if_pos hl] at h
    exact ⟨Nat.le_trans hl (by decide), h.here s rfl⟩
  · rw [if_neg hl] at h
    exact h.elim
theorem pd_f3 {e1 e2 e3 : Expr} {f1 f2 f3 : Env → Res Str} {t1 t2 t3 : TE} {pos : Pos} (h1 : PF X P F0 H0 W e1 t1 f1) (h2 : PF X P F0 H0 W e2 t2 f2) (h3 : PF X P F0 H0 W e3 t3 f3) :
    PE X (.JoinedStr [e1, e2, e3] pos) (tE P F0 H0 W (fun ρ => do let x ← f1 ρ; let u ← ckS (Str.empty ++ x); let y ← f2 ρ; let v ← ckS (u ++ y); let z ← f3 ρ; let w ← ckS (v ++ z); .ok (.str w))) :=
  (pe_joined (.cons h1.pe (.cons h2.pe (.cons h3.pe .nil)))).imp fun σ H Q ⟨F, ρ, er, z⟩ => by
  refine h1.rd σ H _ ⟨F, ρ, er, (PostG.bind (rel := rSt) z).imp ?_⟩
  rintro v1 H1 ⟨F1, x, g1, rfl, z1⟩
  obtain ⟨l1, F1', u, g1', rfl, z1'⟩ := ckS_of g1.s (PostG.bind (rel := rStr) z1)
  refine ⟨x, rfl, l1, h2.rd σ H1 _ ⟨F1', ρ, (er.grow g1).grow g1', (PostG.bind (rel := rSt) z1').imp ?_⟩⟩
  rintro v2 H2 ⟨F2, y, g2, rfl, z2⟩
  obtain ⟨l2, F2', v, g2', rfl, z2'⟩ := ckS_of g2.s (PostG.bind (rel := rStr) z2)
  refine ⟨y, rfl, l2, h3.rd σ H2 _ ⟨F2', ρ, (((er.grow g1).grow g1').grow g2).grow g2', (PostG.bind (rel := rSt) z2').imp ?_⟩⟩
  rintro v3 H3 ⟨F3, w, g3, rfl, z3⟩
  obtain ⟨l3, F3', v, g3', rfl, z3'⟩ := ckS_of g3.s (PostG.bind (rel := rStr) z3)
  exact ⟨w, rfl, l3, z3'.here g3'.s is_str⟩
end
end DL
namespace DL
open PySem L2

/-! ### the functions' shapes, by name -/
abbrev fK (d : D) : Env → Res D := fun _ => .ok d
abbrev fOp (r : D → D → Option D) (a b : Env → Res D) : Env → Res D := fun ρ => do let x ← a ρ; let y ← b ρ; opt (r x y)
abbrev fU (r : D → Option D) (a : Env → Res D) : Env → Res D := fun ρ => do let x ← a ρ; opt (r x)
abbrev fM (r : D → Res D) (a : Env → Res D) : Env → Res D := fun ρ => do let x ← a ρ; r x
abbrev fIsN (a : Env → Res D) : Env → Res D := fun ρ => do let x ← a ρ; .ok (.bl (isNone x))
abbrev fNotN (a : Env → Res D) : Env → Res D := fun ρ => do let x ← a ρ; .ok (.bl (!isNone x))
abbrev tB' (a : Env → Res D) : Env → Res Bool := fun ρ => a ρ >>= bo
abbrev tNot' (a : Env → Res Bool) : Env → Res Bool := fun ρ => do let x ← a ρ; .ok (!x)
abbrev tAnd' (a b : Env → Res Bool) : Env → Res Bool := fun ρ => do let x ← a ρ; if x = true then b ρ else .ok false
abbrev tOr' (a b : Env → Res Bool) : Env → Res Bool := fun ρ => do let x ← a ρ; if x = true then .ok true else b ρ
abbrev vAnd (a b : Env → Res D) : Env → Res D := fun ρ => do let x ← a ρ; let k ← bo x; if k = true then b ρ else .ok (.bl false)
abbrev vOr (a b : Env → Res D) : Env → Res D := fun ρ => do let x ← a ρ; let k ← bo x; if k = true then .ok (.bl true) else b ρ
abbrev vNot (a : Env → Res D) : Env → Res D := fun ρ => do let x ← a ρ; let k ← bo x; .ok (.bl (!k))
abbrev fIf (c : Env → Res Bool) (a b : Env → Res D) : Env → Res D := fun ρ => do let k ← c ρ; if k = true then a ρ else b ρ
abbrev lNil : Env → Res (List D) := fun _ => .ok []
abbrev lCons (a : Env → Res D) (l : Env → Res (List D)) : Env → Res (List D) := fun ρ => do let x ← a ρ; let xs ← l ρ; .ok (x :: xs)
abbrev fLst (l : Env → Res (List D)) : Env → Res D := fun ρ => l ρ >>= mkL
abbrev fTup (l : Env → Res (List D)) : Env → Res D := fun ρ => l ρ >>= mkT
abbrev fCall (n : Nat) (G : List D → Res D) (l : Env → Res (List D)) : Env → Res D := fun ρ => do let xs ← l ρ; fnG n G xs
abbrev fMk (c n : Nat) (G : List D → Res (List D)) (l : Env → Res (List D)) : Env → Res D := fun ρ => do let xs ← l ρ; mkG c n G xs
abbrev fB (rc : List D → Option D) (l : Env → Res (List D)) : Env → Res D := fun ρ => do let xs ← l ρ; opt (rc xs)
abbrev fSlc (a : Env → Res D) (l h : Env → Res (Option Int)) : Env → Res D := fun ρ => do let x ← a ρ; let u ← l ρ; let v ← h ρ; opt (slcD x u v)
abbrev oNo : Env → Res (Option Int) := fun _ => .ok none
abbrev oSo (a : Env → Res D) : Env → Res (Option Int) := fun ρ => a ρ >>= ptI
abbrev fSplit (a b : Env → Res D) : Env → Res D := fun ρ => do let x ← a ρ; let s ← strD x; let y ← b ρ; let t ← strD y; splD s t
abbrev fLc (fi : Env → Res (List D)) (h : D → Env → Option Env) (gt : Env → Res Bool) (fe : Env → Res D) (us : List Nat) : Env → Res D := fun ρ => do let items ← fi ρ; let ys ← lcD h gt fe (wipeE ρ us) items; mkL ys
abbrev iSq (a : Env → Res D) : Env → Res (List D) := fun ρ => a ρ >>= seqD
abbrev iR1 (l : Env → Res (List D)) : Env → Res (List D) := fun ρ => l ρ >>= rng1
abbrev tYes' : Env → Res Bool := fun _ => .ok true
abbrev zF (a : Env → Res D) : Env → Res Str := fun ρ => a ρ >>= fmtD
abbrev zS (x : Str) : Env → Res Str := fun _ => .ok x
abbrev fF1 (f1 : Env → Res Str) : Env → Res D := fun ρ => do let x ← f1 ρ; .ok (.str x)
abbrev fF3 (f1 f2 f3 : Env → Res Str) : Env → Res D := fun ρ => do let x ← f1 ρ; let u ← ckS (Str.empty ++ x); let y ← f2 ρ; let v ← ckS (u ++ y); let z ← f3 ρ; let w ← ckS (v ++ z); .ok (.str w)
abbrev sSeq (g1 g2 : Env → RS) : Env → RS := fun ρ => seqS (g1 ρ) g2
abbrev sRet (a : Env → Res D) : Env → RS := fun ρ => bindS (a ρ) ρ .rt
abbrev sIf (c : Env → Res Bool) (g1 g2 : Env → RS) : Env → RS := fun ρ => bindS (c ρ) ρ fun k => if k = true then g1 ρ else g2 ρ
abbrev sSet (i : Nat) (a : Env → Res D) : Env → RS := fun ρ => bindS (a ρ) ρ fun d => .nx (ρ.set i (some (.sh d)))
abbrev sSetO (i : Nat) (a : Env → Res D) : Env → RS := fun ρ => bindS (a ρ) ρ fun d => .nx (ρ.set i (some (.ow d)))
abbrev sFor (fi : Env → Res (List D)) (h : D → Env → Option Env) (g : Env → RS) : Env → RS := fun ρ => bindS (fi ρ) ρ fun items => forD h g items ρ
abbrev sApp (i : Nat) (a : Env → Res D) : Env → RS := fun ρ => bindS (isOw i ρ) ρ fun _ => bindS (a ρ) ρ fun d => appD i ρ d
abbrev sPar (i j : Nat) (l : Env → Res (List D)) : Env → RS := fun ρ => bindS (l ρ) ρ (par2 i j ρ)
abbrev sAsg (a : Env → Res D) (h : D → Env → Option Env) : Env → RS := fun ρ => bindS (a ρ) ρ fun d => match h d ρ with | some ρ' => .nx ρ' | none => .bad
abbrev sRaise (c : Nat) (a : Env → Res D) : Env → RS := fun ρ => bindS (a ρ) ρ fun d => .err c (some d) ρ
abbrev sFld (nm : Nat → List Str) (f : Str) (i : Nat) (a : Env → Res D) : Env → RS := fun ρ => bindS (a ρ) ρ fun d => setF nm f ρ i d
abbrev sFrz (i : Nat) (g : Env → RS) : Env → RS := fun ρ => g (frz i ρ)
abbrev sBad : Env → RS := fun _ => .bad
abbrev sTryAs (gb : Env → RS) (c i : Nat) (gs : Option D → Env → Res D) : Env → RS := tryD gb c fun p ρ => if i < ρ.length then noErr (gs p (ρ.set i none)) else .bad

section
variable {X : Cx} {P : Pm} {F0 : Fz} {H0 : Hp} {W : WX} {a b c e o : Expr} {es : List Expr} {fa fb fc : Env → Res D} {fs : Env → Res (List D)} {pos p apos : Pos} {st : Stmt} {sts tts : List Stmt} {g g1 g2 : Env → RS} {F H : Hp} {σ : L2.St}
variable {k n : Nat} {x : Str} {G : List D → Res D} {GI : List D → Res (List D)}
/-! ### what the program's own things keep -/
structure CalD (prog : Program) (w : World) (K : PySem.W.Frag) (mg : Str → Option Value) (base : Heap) (P : Pm) (k : Nat) (x : Str) (n : Nat) (G : List D → Res D) : Prop where
  ex : ∃ f fd ps, FnOk prog w K mg base (L2.CX prog w) k f fd ps (spD P n G) ∧ mg x = some (.ref f) ∧ PySem.W.keepIn K (.ref f) = true ∧ Binds K fd ps []
theorem pd_cal (c : CalD X.prog X.w X.K X.mg X.base P k x n G) (hr : Room k X.A) (tk : Takes X W) (ha : PA X (e :: es) (tL P F0 H0 W fs)) (hg : Gl X x := by rfl) (hdb : (x == ("__debug__" : Str)) = false := by decide) (he : starEach (e :: es) X.env = (false, eval e X.env) :: starEach es X.env := by rfl) (hpl : (backTo pos (starEach es X.env)).any (·.1) = false := by rfl) :
    PE X (.Call (.Name x p) (e :: es) [] pos) (tE P F0 H0 W (fCall n G fs)) := by
  obtain ⟨f, fd, ps, h1, h2, h3, h4⟩ := c.ex
  have := pd_call (p := p) h1 hr hg h2 h3 h4 .nil Dfl.nil tk ha hdb he hpl
  simpa only [List.append_nil] using this
structure MkD (prog : Program) (w : World) (K : PySem.W.Frag) (mg : Str → Option Value) (base : Heap) (P : Pm) (k : Nat) (x : Str) (cn n : Nat) (G : List D → Res (List D)) : Prop where
  ex : ∃ f fd ps, Mk K (P.C cn) f ∧ FnOk prog w K mg base (L2.CX prog w) k f fd ps (spI P cn n G) ∧ mg x = some (.ref (P.C cn)) ∧ Binds K fd ps []
theorem pd_mk {cn : Nat} (c : MkD X.prog X.w X.K X.mg X.base P k x cn n GI) (hr : Room (k + 1) X.A) (tk : Takes X W) (ha : PA X (e :: es) (tL P F0 H0 W fs)) (hg : Gl X x := by rfl) (hdb : (x == ("__debug__" : Str)) = false := by decide) (he : starEach (e :: es) X.env = (false, eval e X.env) :: starEach es X.env := by rfl) (hpl : (backTo pos (starEach es X.env)).any (·.1) = false := by rfl) :
    PE X (.Call (.Name x p) (e :: es) [] pos) (tE P F0 H0 W (fMk cn n GI fs)) := by
  obtain ⟨f, fd, ps, h0, h1, h2, h4⟩ := c.ex
  have := pd_make (p := p) h0 h1 hr hg h2 h4 .nil Dfl.nil tk ha hdb he hpl
  simpa only [List.append_nil] using this
structure OwnD (prog : Program) (w : World) (K : PySem.W.Frag) (mg : Str → Option Value) (base : Heap) (P : Pm) (k : Nat) (m : Str) (cn n : Nat) (G : List D → Res D) : Prop where
  ex : ∃ f fd ps, FnOk prog w K mg base (L2.CX prog w) k f fd ps (spD P n G) ∧ OwnM K (P.C cn) m f ∧ Binds K fd ps []
theorem pd_ngD (c : OwnD X.prog X.w X.K X.mg X.base P k "__neg__" 0 1 G) (hr : Room k X.A) (tk : Takes X W) (ha : PE X a (tE P F0 H0 W fa)) : PE X (.UnaryOp .USub a pos) (tE P F0 H0 W (fM (negN G) fa)) := by
  obtain ⟨f, fd, ps, h0, h1, h2⟩ := c.ex
  exact pd_neg h0 h1 hr h2 tk ha
theorem pd_stD {p1 : Pos} (c : OwnD X.prog X.w X.K X.mg X.base P k "__str__" 0 1 G) (hr : Room (k + 2) X.A) (tk : Takes X W) (hm : X.mg "str" = none) (ha : PE X a (tE P F0 H0 W fa)) (hg : Gl X "str" := by rfl) (he : starEach [a] X.env = (false, eval a X.env) :: starEach [] X.env := by rfl) (hpl : (backTo pos (starEach [] X.env)).any (·.1) = false := by rfl) :
    PE X (.Call (.Name "str" p1) [a] [] pos) (tE P F0 H0 W (fM (strN G) fa)) := by
  obtain ⟨f, fd, ps, h0, h1, h2⟩ := c.ex
  exact pd_strN h0 h1 hr h2 tk hg hm ha he hpl
/-! ### comparisons as tests, as values -/
theorem td_pc {cop : CmpOp} {f : Env → Res D} (h : PC X cop a b (tE P F0 H0 W f)) (hm : behindInMarks cop b = false) : PT X (.Compare a [cop] [b] pos) (tT P F0 H0 W (tB' f)) := (pt_cmp h hm).imp fun _ _ _ z => tB_of z
theorem pd_pcv {cop : CmpOp} {f : Env → Res D} (h : PC X cop a b (tE P F0 H0 W f)) (hm : behindInMarks cop b = false) : PE X (.Compare a [cop] [b] pos) (tE P F0 H0 W f) := pe_cmp h hm
theorem td_yes : PTs X [] (tT P F0 H0 W tYes') := ⟨fun pins s σ H Q I ⟨F, ρ, er, z⟩ => pts_nil.run pins s σ H Q I (z.here er.s rfl)⟩
/-! ### the script -/
def cLenS : List D → Option D
  | [.scr ns] => some (.int (ns.length : Nat))
  | _ => none
theorem ic_lenS (hK : P.K = X.K) : CallR X (.builtin "len") (rcO P cLenS) := fun pins s σ H xs us Q I rx ⟨F, ds, d, e, i, hd, q⟩ => by
  unfold cLenS at hd
  split at hd
  · cases hd
    obtain ⟨v, r, rfl, i1, i⟩ := i.uncons
    obtain rfl := i.unnil
    obtain ⟨a, rfl, h1⟩ := i1
    rw [hK] at h1
    exact call_len_seq pins s σ H _ us Q I rx ⟨a, _, rfl, .inl h1, by simpa using q.here e is_int⟩
  · cases hd
def itemS : D → D → Option D
  | .scr ns, .int i => (atI ns i).map .int
  | _, _ => none
theorem atI_map {α β : Type} {f : α → β} {xs : List α} {i : Int} {v : α} (h : atI xs i = some v) : atI (xs.map f) i = some (f v) := by
  unfold atI at h ⊢
  rw [List.length_map]
  cases hj : ixN xs.length i with
  | none =>
    rw [hj] at h
    cases h
  | some j =>
    rw [hj] at h
    have h' : xs[j]? = some v := h
    show (xs.map f)[j]? = some (f v)
    rw [List.getElem?_map, h']
    rfl
theorem pd_ixS (hK : P.K = X.K) (ha : PE X a (tV P F0 H0 W fa)) (hb : PE X b (tV P F0 H0 W fb)) (hs : PlainIx b) : PE X (.Subscript a b pos) (tE P F0 H0 W (fOp itemS fa fb)) :=
  (pe_ix ix_seq ha hb hs).imp fun σ H Q z => by
  obtain ⟨F, ρ, er, z⟩ := two_of z
  refine ⟨F, ρ, er, z.imp fun x H1 ⟨F1, ρ1, er1, z1⟩ => ⟨F1, ρ1, er1, z1.imp ?_⟩⟩
  rintro y H2 ⟨F2, dx, dy, s2, i1, i2, z2⟩
  obtain ⟨d, hd, q⟩ := opt_of z2
  unfold itemS at hd
  split at hd
  · rename_i ns i
    obtain ⟨p, rfl, h1⟩ := i1
    rw [hK] at h1
    obtain rfl : y = .int i := i2
    cases hz : atI ns i with
    | none =>
      rw [hz] at hd
      cases hd
    | some z =>
      rw [hz] at hd
      cases hd
      exact .inl ⟨p, _, i, .int z, rfl, rfl, h1, atI_map hz, q _ F2 H2 (.refl s2) is_int⟩
  · cases hd
end
section
variable {prog : Program} {w : World} {K : PySem.W.Frag} {mg : Str → Option Value} {base : Heap} {P : Pm}
/-- an __init__ with defaults -/
theorem fndJ {c : Nat} {x qual : Str} {params : Arguments} {body : List Stmt} {scope : Scope} {dvs : List V} {kws : List (Str × V)} {f : Addr} {fd : FuncData} {N ps : List Str} {k : Nat} {g : Env → RS} {n : Nat} (hn : ps.length = n + 1) (hN : N ≠ []) (Fu : FunD K x qual params body scope dvs kws f fd) (S : FnScope N ps scope)
    (hbody : ∀ (cdv : Value) (A : Around) (outer : List PySem.Env) (s : Shared) (H F0 H0 : Hp) (x : Addr) (E : XK), Room k (A.deeper (PyProof.Rows.envOfC qual scope s.heap.objs.size f cdv)) →
      PSs (cxOf (L2.CX prog w) prog w K mg base N qual scope f cdv A outer s H E) body (tS P ⟨F0, some x⟩ H0 (WE0 E) g)) :
    FnOk prog w K mg base (L2.CX prog w) (k + 1) f fd ps (spI P c n (runI c g N.length)) := by
  refine Fu.ok S (fun vs H Q E ⟨x, dx, args, F, ds, e, _, _, _, i, hl, _⟩ => by rw [e, List.length_cons, ← i.length, hl, hn]) (fun cdv A outer s H vs Q E hr h => ?_)
  obtain ⟨x, dx, args, F, ds, rfl, hx, hf, sx, i, hl, z⟩ := h
  refine ⟨_, hbody cdv A outer s H F (minus H x) x E hr, F, env0I c N.length ds, er_startI hN sx i hx hf, ?_⟩
  unfold runI at z
  cases hg : g (env0I c N.length ds) with
  | nx ρ =>
    rw [hg] at z
    intro σ F' H' er _
    replace z : PostG P (WE0 E) (fun F' _ fs v => v = .non ∧ Is P F' (.obj c fs) (.ref x)) (selfF c ρ) F [] (minus H x) Q := z
    have hx0 := er.self x rfl
    cases hs : selfF c ρ with
    | bad =>
      rw [hs] at z
      exact z.elim
    | err e p => exact absurd hs selfF_noerr
    | ok xs =>
      rw [hs] at z
      rcases selfF_of hs with q | q
      · obtain ⟨a, h1, h2, h3, h4⟩ := er.ow 0 _ q
        rw [hx0] at h1
        cases h1
        obtain ⟨F2, e1, e2, i2, n2⟩ := h4.still er.s h3 rfl
        refine z .non F2 H' ⟨er.g.f.trans e1, er.g.h, e2, fun b o hb => ?_⟩ ⟨rfl, i2⟩
        rcases n2 b o hb with y | y
        · exact er.g.n b o y
        · exact .inr (.inl (y ▸ .of minus_same))
      · obtain ⟨v, h1, h2⟩ := er.sh 0 _ q
        rw [hx0] at h1
        cases h1
        exact z .non F' H' er.g ⟨rfl, h2⟩
  | rt d =>
    rw [hg] at z
    exact z.elim
  | bk ρ =>
    rw [hg] at z
    exact z.elim
  | ct ρ =>
    rw [hg] at z
    exact z.elim
  | err e p ρ =>
    rw [hg] at z
    exact fun σ F' H' y er _ q => z F' H' y er.g q
  | bad =>
    rw [hg] at z
    exact z.elim
/-- a def, its name, its promise -/
theorem calD {x y qual : Str} {st : Stmt} {f : Addr} {fd : FuncData} {N ps : List Str} {k : Nat} {g : Env → RS} (Fu : Fun K x qual st f fd) (S : FnScope N ps (defScope st)) (hm : mg y = some (.ref f)) (hb : Binds K fd ps [])
    (hbody : ∀ (cdv : Value) (A : Around) (outer : List PySem.Env) (s : Shared) (H F0 : Hp) (E : XK), Room k (A.deeper (PyProof.Rows.envOfC qual (defScope st) s.heap.objs.size f cdv)) →
      PSs (cxOf (L2.CX prog w) prog w K mg base N qual (defScope st) f cdv A outer s H E) (defBody st) (tS P ⟨F0, none⟩ H (WE0 E) g)) :
    CalD prog w K mg base P (k + 1) y ps.length (runB g N.length) := ⟨f, fd, ps, fnd Fu S hbody, hm, Fu.kp, hb⟩
theorem ownD {c : Nat} {x qual : Str} {st : Stmt} {f : Addr} {fd : FuncData} {N ps : List Str} {k : Nat} {g : Env → RS} (Fu : Fun K x qual st f fd) (S : FnScope N ps (defScope st)) (hm : OwnM K (P.C c) x f) (hb : Binds K fd ps [])
    (hbody : ∀ (cdv : Value) (A : Around) (outer : List PySem.Env) (s : Shared) (H F0 : Hp) (E : XK), Room k (A.deeper (PyProof.Rows.envOfC qual (defScope st) s.heap.objs.size f cdv)) →
      PSs (cxOf (L2.CX prog w) prog w K mg base N qual (defScope st) f cdv A outer s H E) (defBody st) (tS P ⟨F0, none⟩ H (WE0 E) g)) :
    OwnD prog w K mg base P (k + 1) x c ps.length (runB g N.length) := ⟨f, fd, ps, fnd Fu S hbody, hm, hb⟩
theorem mkD {c : Nat} {x y qual : Str} {params : Arguments} {body : List Stmt} {scope : Scope} {dvs : List V} {kws : List (Str × V)} {f : Addr} {fd : FuncData} {N ps : List Str} {k : Nat} {g : Env → RS} {n : Nat} (hn : ps.length = n + 1) (hN : N ≠ []) (Fu : FunD K x qual params body scope dvs kws f fd) (S : FnScope N ps scope) (M : Mk K (P.C c) f) (hm : mg y = some (.ref (P.C c))) (hb : Binds K fd ps [])
    (hbody : ∀ (cdv : Value) (A : Around) (outer : List PySem.Env) (s : Shared) (H F0 H0 : Hp) (x : Addr) (E : XK), Room k (A.deeper (PyProof.Rows.envOfC qual scope s.heap.objs.size f cdv)) →
      PSs (cxOf (L2.CX prog w) prog w K mg base N qual scope f cdv A outer s H E) body (tS P ⟨F0, some x⟩ H0 (WE0 E) g)) :
    MkD prog w K mg base P (k + 1) y c n (runI c g N.length) := ⟨f, fd, ps, M, fndJ hn hN Fu S hbody, hm, hb⟩
/-- the law's head: what a law's def must answer -/

def noT (H : Hp) : Hp := fun b => match H b with
  | some o => if isT o = true then none else some o
  | none => none
theorem noT_of {H : Hp} {a : Addr} {o : HO} (h : noT H a = some o) : H a = some o ∧ isT o = false := by
  unfold noT at h
  split at h
  · rename_i o' e
    split at h
    · cases h
    · rename_i n
      cases h
      exact ⟨e, by simpa using n⟩
  · cases h
theorem noT_at {H : Hp} {a : Addr} {o : HO} (h : H a = some o) (hn : isT o = false) : noT H a = some o := by
  unfold noT
  rw [h]
  exact if_neg (by rw [hn]; simp)
theorem noT_sb {H : Hp} (t : LamX.Tabs P.T H) : Sb P (noT H) H := ⟨fun a o h => (noT_of h).1, fun a o h => (noT_of h).2, t⟩
theorem noT_sq {H : Hp} {a : Addr} {xs : List V} (h : SqL K H a xs) : SqL K (noT H) a xs := by
  rcases h with (h | ⟨o, h⟩) | h
  · exact .inl (.inl (noT_at h rfl))
  · exact .inl (.inr ⟨o, noT_at h rfl⟩)
  · exact .inr h
theorem law_post {G : List D → Res D} (hp : P.K = K) (hG : ∀ ns : List Int, ns.length ≤ 63 → G [.scr ns] = .ok (.bl true)) (H : Hp) (a : Addr) (ns : List Int) (hl : ns.length ≤ 63) (hT : LamX.Tabs P.T H) (hS : SqL K H a (ns.map V.int)) :
    spD P 1 G [.ref a] H (fun v _ => v = .bl true) fun _ _ _ => False := by
  refine ⟨noT H, [.scr ns], noT_sb hT, .cons (by rw [Is]; exact ⟨a, rfl, hp ▸ noT_sq hS⟩) .nil, rfl, ?_⟩
  rw [hG ns hl]
  intro v F' H' _ h
  exact un_bl h
end
end DL
namespace DL
open PySem L2
abbrev dSub : D → D → Option D := int2 fun i j => some (.int (i - j))
abbrev dLt : D → D → Option D := int2 fun i j => some (.bl (decide (i < j)))
abbrev dLe : D → D → Option D := int2 fun i j => some (.bl (decide (i ≤ j)))
abbrev dGt : D → D → Option D := int2 fun i j => some (.bl (decide (j < i)))
abbrev dGe : D → D → Option D := int2 fun i j => some (.bl (decide (j ≤ i)))
/-- turns that a while is given -/
def big : Nat := 10 ^ 400
def ib_int : D → Option Bool
  | .int _ => some true
  | .bl _ => some true
  | .scr _ => none
  | _ => some false
def ib_bool : D → Option Bool
  | .bl _ => some true
  | .scr _ => none
  | _ => some false
def ib_Ratio : D → Option Bool
  | .obj _ _ => some true
  | .scr _ => none
  | _ => some false
section
variable {X : Cx} {P : Pm} {F0 : Fz} {H0 : Hp} {W : WX} {pos : Pos}
theorem pd_gl {x z : Str} (hg : Gl X x) (hm : ∃ t, X.mg x = some (.str z t)) (hd : (x == ("__debug__" : Str)) = false) : PE X (.Name x pos) (tE P F0 H0 W (fK (.str z))) := by
  obtain ⟨t, ht⟩ := hm
  exact pd_const (pe_glob hg ht (v := .str z) ⟨t, rfl⟩ hd) fun F => by rw [Is]
end
/-- no built-in's object is one of the class at C -/
structure NoB (K : PySem.W.Frag) (C : Addr) : Prop where
  n1 : PySem.W.kitOne K (.type "NoneType") (.ref C) = some false
  n2 : PySem.W.kitOne K (.type "bool") (.ref C) = some false
  n3 : PySem.W.kitOne K (.type "int") (.ref C) = some false
  n4 : PySem.W.kitOne K (.type "str") (.ref C) = some false
  n5 : PySem.W.kitOne K (.type "list") (.ref C) = some false
  n6 : PySem.W.kitOne K (.type "tuple") (.ref C) = some false
  n7 : PySem.W.kitOne K (.type "dict") (.ref C) = some false
section
variable {K : PySem.W.Frag} {P : Pm} {C : Addr}
theorem kit_int (h : ∀ c, PySem.W.kitOne K (.ref (P.C c)) (.type "int") = some false) : ∀ d b, ib_int d = some b → PySem.W.kitOne K (tyD P d) (.type "int") = some b := by
  intro d b hb
  cases d <;> simp only [ib_int, Option.some.injEq] at hb <;> (try subst hb) <;> first | exact kit_ty rfl | exact h _ | cases hb
theorem kit_bool (h : ∀ c, PySem.W.kitOne K (.ref (P.C c)) (.type "bool") = some false) : ∀ d b, ib_bool d = some b → PySem.W.kitOne K (tyD P d) (.type "bool") = some b := by
  intro d b hb
  cases d <;> simp only [ib_bool, Option.some.injEq] at hb <;> (try subst hb) <;> first | exact kit_ty rfl | exact h _ | cases hb
theorem kit_Ratio (hC : ∀ c, P.C c = C) (h : NoB K C) : ∀ d b, ib_Ratio d = some b → PySem.W.kitOne K (tyD P d) (.ref C) = some b := by
  intro d b hb
  cases d <;> simp only [ib_Ratio, Option.some.injEq] at hb <;> (try subst hb) <;> first | exact h.n1 | exact h.n2 | exact h.n3 | exact h.n4 | exact h.n5 | exact h.n6 | exact h.n7 | cases hb | skip
  show PySem.W.kitOne K (.ref (P.C _)) (.ref C) = some true
  rw [hC]
  unfold PySem.W.kitOne
  rw [if_pos (by simp)]
end
end DL
namespace PySem
namespace ErrX
open PySem.W PySem.Calls PyProof.Rows
theorem asInt_ref {x : Addr} {ox : Obj} {M : Model} {A : Around} {E : Value → Shared → Prop} {s : Shared} {Q : Option Int → Shared → Prop} (at_ : s.heap.get? x = some ox) (hd : ∀ i u, ox.data ≠ .prim (.int i u)) (hq : Q none s) : wpAny M A (asInt? (.ref x)) Q E s := by
  simp only [asInt?]
  refine wpAny_bind (wpAny_load at_ ?_)
  split
  · rename_i i u h
    exact absurd h (hd i u)
  · exact wpAny_pure hq
theorem decl_ref {name : String} {f : Int → Int → Sem Fin} {r : Bool} {a : Int} {t : Tok} {x : Addr} {ox : Obj} {M : Model} {A : Around} {E : Value → Shared → Prop} {s : Shared} {Q : Fin → Shared → Prop} (at_ : s.heap.get? x = some ox) (hd : ∀ i u, ox.data ≠ .prim (.int i u)) (hq : Q (.done (.ret .notImplemented)) s) :
    wpAny M A (Builtin.Int.intBinary name f r ⟨[.int a t, .ref x], []⟩) Q E s := by
  unfold Builtin.Int.intBinary
  have e1 : slotArgs name 1 { pos := [Value.int a t, Value.ref x] } = pure (Value.int a t, [Value.ref x]) := rfl
  have e2 : Builtin.Int.intOfSelf (Value.int a t) = pure a := rfl
  rw [e1, pure_bind]
  dsimp only
  rw [e2, pure_bind]
  refine wpAny_bind (asInt_ref at_ hd ?_)
  dsimp only
  exact wpAny_bind (wpAny_rule (wpAny_pure hq))
section
variable {prog : Program} {w : World} {A : Around} {E : Value → Shared → Prop} {s : Shared} {K : Frag} {x C L f : Addr} {h₀ : Heap} {m : Str → Option Value} {ox : Obj} {od : Option Obj}
/-- what an int and an instance of an own class need for a binary operator: the int's way declines, the class's reflected one is taken -/
structure RBin (op : Operator) (idl : String) : Prop where
  fills : fillsNumberSlot (.type "int") op.info.2 = pure true
  slot : Slot "int" (PySem.dunder op.info.2) idl
  decl : ∀ {prog : Program} {w : World} {A : Around} {E : Value → Shared → Prop} {s : Shared} {Q : Value → Shared → Prop} {a : Int} {t : Tok} {x : Addr} {ox : Obj}, s.heap.get? x = some ox → (∀ i u, ox.data ≠ .prim (.int i u)) → Q .notImplemented s → wpAny (model prog w) A (call (.builtin idl) [.int a t, .ref x]) Q E s
theorem rbin_K {op : Operator} {idl : String} {a : Int} {t : Tok} {Q : Value → Shared → Prop} (R : RBin op idl) (F : Fr h₀ L s.heap m) (X₀ : K.In h₀) (I : InstAt s.heap x ox C od) (hd : ∀ i u, ox.data ≠ .prim (.int i u)) (hc : selfFirst K C = true) {g : Addr}
    (hs : findIn K (.ref C) (PySem.dunder op.info.2) = some (some (.ref g))) (hr : findIn K (.ref C) (dunderR op.info.2) = some (some (.ref f))) (hf : isFn K (.ref f) = true) (hsub : subIn K (.ref C) (.type "int") = some false)
    (h : wpAny (model prog w) A (call (.ref f) [.ref x, .int a t]) (W.CmpBack Q) E s) : wpAny (model prog w) A (binaryOp op (.int a t) (.ref x)) Q E s := by
  have X := X₀.keeps F.keep
  obtain ⟨cd, rest, hcd, hm⟩ := ksp_first hc
  obtain ⟨fl, sl, dc⟩ := R
  rcases hi : op.info with ⟨sym, nm'⟩
  rw [hi] at hs hr fl sl
  dsimp only at hs hr fl sl
  have one := ksp_try X I hr hf h
  have L1 : Looks (model prog w) s.heap (typeOf (.ref x)) (.ref C) := I.type
  have L3 : Looks (model prog w) s.heap (fillsNumberSlot (.ref C) nm') true := fills_K X hcd hm hs
  have L5 : Looks (model prog w) s.heap (isSubtype (.ref C) (.type "int")) false := looks_subIn X hsub
  have hne : (Value.type "int" == Value.ref C) = false := Bool.eq_false_iff.mpr fun q => by cases beq_iff_eq.mp q
  have ha : s.TypeIs (.int a t) "int" := typeIs_int s a t
  simp only [binaryOp, hi]
  refine wpAny_holding (wpAny_bind ?_)
  unfold binaryOp1
  refine wpAny_bind (wpAny_typeOf ha (wpAny_bind (L1.at (wpAny_bind (wpAny_of_eq fl ?_)))))
  simp only [hne, Bool.false_eq_true, if_false]
  refine wpAny_bind (L3.at ?_)
  simp only [Bool.and_self, if_true]
  refine wpAny_bind (L5.at ?_)
  have hpy : numberSlotInPython (.type "int") nm' = pure false := rfl
  simp only [Bool.false_eq_true, if_false, pure_bind, Bool.not_false, Bool.and_self, if_true, hpy]
  have t1 : wpAny (model prog w) A (tryMethod (.int a t) (PySem.dunder nm') (.ref x)) (fun r s' => r = none ∧ s' = s) E s := by
    unfold tryMethod
    refine wpAny_bind (wpAny_callSpecial?_slot ha sl (dc I.at_ hd ?_))
    exact wpAny_pure ⟨rfl, rfl⟩
  refine wpAny_bind (wpAny_mono t1 (fun r s' hr' => ?_) fun _ _ e => e)
  obtain ⟨rfl, rfl⟩ := hr'
  refine wpAny_bind (wpAny_mono one (fun r s' hr' => ?_) fun _ _ e => e)
  obtain ⟨v, rfl, hq⟩ := hr'
  exact wpAny_bind (wpAny_rule (wpAny_pure (wpAny_pure hq)))
theorem decl_call {id : String} {name : String} {ff : Int → Int → Sem Fin} {nm : Str} (slot : Slot "int" nm id) (entry : entryFor table id = some (Builtin.Int.intBinary name ff)) (args : ∀ (a : Int) (t : Tok) (x : Addr), argsOk id ⟨[.int a t, .ref x], []⟩)
    {prog : Program} {w : World} {A : Around} {E : Value → Shared → Prop} {s : Shared} {Q : Value → Shared → Prop} {a : Int} {t : Tok} {x : Addr} {ox : Obj} (at_ : s.heap.get? x = some ox) (hd : ∀ i u, ox.data ≠ .prim (.int i u)) (hq : Q .notImplemented s) :
    wpAny (model prog w) A (call (.builtin id) [.int a t, .ref x]) Q E s := by
  refine call_meets slot (typeIs_int s a t) entry (args a t x) (S := fun _ R s => (∃ ox : Obj, s.heap.get? x = some ox ∧ ∀ i u, ox.data ≠ .prim (.int i u)) ∧ R (.ok (.ret .notImplemented)) s) ?_ ⟨⟨ox, at_, hd⟩, hq⟩
  intro prog w A R s ⟨⟨o, h1, h2⟩, h3⟩
  exact decl_ref h1 h2 h3
end
end ErrX
end PySem
namespace DL
open PySem L2
theorem rb_add : PySem.ErrX.RBin .Add "int.__add__" := ⟨F.fills_int_add, F.slot_int_add, fun h1 h2 h3 => PySem.ErrX.decl_call F.slot_int_add F.entry_int_add (fun _ _ _ => F.args_int_add_2 _ _) h1 h2 h3⟩
theorem rb_sub : PySem.ErrX.RBin .Sub "int.__sub__" := ⟨F.fills_int_sub, F.slot_int_sub, fun h1 h2 h3 => PySem.ErrX.decl_call F.slot_int_sub F.entry_int_sub (fun _ _ _ => F.args_int_sub_2 _ _) h1 h2 h3⟩
theorem rb_mul : PySem.ErrX.RBin .Mult "int.__mul__" := ⟨F.fills_int_mul, F.slot_int_mul, fun h1 h2 h3 => PySem.ErrX.decl_call F.slot_int_mul F.entry_int_mul (fun _ _ _ => F.args_int_mul_2 _ _) h1 h2 h3⟩
/-- what the top tells of a class of numbers, for one operator -/
structure NumC (K : PySem.W.Frag) (C : Addr) (m mr : Str) : Prop where
  sf : PySem.W.selfFirst K C = true
  a1 : ∃ fo, PySem.W.findIn K (.type "int") m = some fo
  a2 : ∃ ro, PySem.W.findIn K (.type "int") mr = some ro
  s1 : PySem.W.subIn K (.type "int") (.ref C) = some false
  s2 : PySem.W.subIn K (.ref C) (.type "int") = some false
def opN (gi : Int → Int → Option D) (G GR : List D → Res D) : D → D → Res D
  | .int i, .int j => opt (gi i j)
  | .obj 0 xs, .int j => fnG 2 G [.obj 0 xs, .int j]
  | .obj 0 xs, .obj 0 ys => fnG 2 G [.obj 0 xs, .obj 0 ys]
  | .int i, .obj 0 ys => fnG 2 GR [.obj 0 ys, .int i]
  | _, _ => .bad
@[simp] abbrev fN (r : D → D → Res D) (a b : Env → Res D) : Env → Res D := fun ρ => do let x ← a ρ; let y ← b ρ; r x y
section
variable {X : Cx} {P : Pm} {F0 : Fz} {H0 : Hp} {W : WX} {a b : Expr} {fa fb : Env → Res D} {pos : Pos} {σ : L2.St} {H F : Hp} {k kr : Nat} {op : Operator} {idl : String} {m mr : Str} {gi : Int → Int → Option D} {G GR : List D → Res D}
theorem two_ofE {kk : D → D → Res D} {Q : VK} (h : tE P F0 H0 W (fun ρ => do let x ← fa ρ; let y ← fb ρ; kk x y) σ H Q) :
    tE P F0 H0 W fa σ H fun x H1 => tE P F0 H0 W fb σ H1 fun y H2 => ∃ F dx dy, Sb P F H2 ∧ Is P F dx x ∧ Is P F dy y ∧ PostG P W (rIs P) (kk dx dy) F σ H2 Q := by
  obtain ⟨F, ρ, er, z⟩ := h
  refine ⟨F, ρ, er, (PostG.bind (rel := rIs P) z).imp ?_⟩
  rintro x H1 ⟨F1, dx, g1, i1, z1⟩
  refine ⟨F1, ρ, er.grow g1, (PostG.bind (rel := rIs P) z1).imp ?_⟩
  rintro y H2 ⟨F2, dy, g2, i2, z2⟩
  exact ⟨F2, dx, dy, g2.s, i1.mono g2.f dx, i2, z2⟩
theorem ins_data {pins : List (Addr × Obj)} {s : Shared} {ad C dx : Addr} {fs : List (Str × V)} (I : Inv X pins σ H s) (h : H ad = some (.ins C dx fs)) : ∃ ox od, PySem.W.InstAt s.heap ad ox C od ∧ ∀ i u, ox.data ≠ .prim (.int i u) := by
  obtain ⟨mA, ho, _⟩ := ins_get I.hok h
  obtain ⟨od, h1, _⟩ := lookIn_ns ho.ns
  exact ⟨_, some od, ⟨ho.obj, rfl, rfl, h1⟩, fun i u e => by cases e⟩
theorem pd_opN (R : PySem.ErrX.RBin op idl) (hd : PySem.dunder op.info.2 = m) (hdr : PySem.dunderR op.info.2 = mr) (N : NumC X.K (P.C 0) m mr) (hi : OpR X (binaryOp op) (r2O P (int2 gi)))
    (c : OwnD X.prog X.w X.K X.mg X.base P k m 0 2 G) (cr : OwnD X.prog X.w X.K X.mg X.base P kr mr 0 2 GR) (hr : Room k X.A) (hrr : Room kr X.A) (tk : Takes X W) (ha : PE X a (tE P F0 H0 W fa)) (hb : PE X b (tE P F0 H0 W fb)) :
    PE X (.BinOp a op b pos) (tE P F0 H0 W (fN (opN gi G GR) fa fb)) := by
  obtain ⟨f, fd, ps, c1, c2, c3⟩ := c.ex
  obtain ⟨fr, fdr, psr, d1, d2, d3⟩ := cr.ex
  obtain ⟨fo, hfo⟩ := N.a1
  obtain ⟨ro, hro⟩ := N.a2
  refine ⟨fun pins s σ H Q I h => ?_⟩
  refine wpAny_BinOp (binT ha hb I (two_ofE h) fun v u s2 x y H2 I2 rx ry ⟨F, dx, dy, e, i1, i2, q⟩ => ?_)
  unfold opN at q
  split at q
  · exact od_of hi pins s2 σ F H2 x y v u _ _ Q I2 rx ry e (i1.vw e _) (i2.vw e _) q
  · obtain ⟨ad, dd, vs, rfl, h1, h2, h3⟩ := obj_of i1
    obtain rfl : v = Value.ref ad := rx
    obtain ⟨ox, od, J, _⟩ := ins_data I2 (e.ex _ _ h1)
    obtain ⟨mm, Fr⟩ := I2.fr
    obtain rfl := un_int i2
    obtain ⟨t, rfl⟩ := ry
    refine PySem.W.ksp_binT Fr I2.ok.mod.kin J (T := "int") rfl N.sf (by rw [hd]; exact c2.at_) c2.fn (by rw [hdr]; exact d2.at_) (.inr ⟨fr, rfl⟩) (by rw [hd]; exact hfo) (by rw [hdr]; exact hro) N.s1 ?_
    exact wpAny_mono (run_at (vs := [.ref ad, .int _]) (ds := [_, _]) c1 (sub_here hr) c3 tk I2 (.cons rfl (.cons ⟨t, rfl⟩ .nil)) e (.cons i1 (.cons i2 .nil)) q) (fun _ _ z => CmpBack_of z) fun _ _ z => z
  · obtain ⟨ad, dd, vs, rfl, h1, h2, h3⟩ := obj_of i1
    obtain ⟨bd, dd', vs', rfl, h1', h2', h3'⟩ := obj_of i2
    obtain rfl : v = Value.ref ad := rx
    obtain rfl : u = Value.ref bd := ry
    obtain ⟨ox, od, J, _⟩ := ins_data I2 (e.ex _ _ h1)
    obtain ⟨ox', od', J', _⟩ := ins_data I2 (e.ex _ _ h1')
    obtain ⟨mm, Fr⟩ := I2.fr
    refine PySem.W.binop_K Fr I2.ok.mod.kin J J'.type N.sf (by rw [hd]; exact c2.at_) c2.fn ?_
    exact wpAny_mono (run_at (vs := [.ref ad, .ref bd]) (ds := [_, _]) c1 (sub_here hr) c3 tk I2 (.cons rfl (.cons rfl .nil)) e (.cons i1 (.cons i2 .nil)) q) (fun _ _ z => CmpBack_of z) fun _ _ z => z
  · obtain ⟨bd, dd', vs', rfl, h1', h2', h3'⟩ := obj_of i2
    obtain rfl : u = Value.ref bd := ry
    obtain rfl := un_int i1
    obtain ⟨t, rfl⟩ := rx
    obtain ⟨ox', od', J', hp⟩ := ins_data I2 (e.ex _ _ h1')
    obtain ⟨mm, Fr⟩ := I2.fr
    refine PySem.ErrX.rbin_K R Fr I2.ok.mod.kin J' hp N.sf (by rw [hd]; exact c2.at_) (by rw [hdr]; exact d2.at_) d2.fn N.s2 ?_
    exact wpAny_mono (run_at (vs := [.ref bd, .int _]) (ds := [_, _]) d1 (sub_here hrr) d3 tk I2 (.cons rfl (.cons ⟨t, rfl⟩ .nil)) e (.cons i2 (.cons i1 .nil)) q) (fun _ _ z => CmpBack_of z) fun _ _ z => z
  · exact q.elim
end
end DL
namespace PySem
namespace ErrX
open PySem.W PySem.Calls PyProof.Rows
section
variable {prog : Program} {w : World} {A : Around} {E : Value → Shared → Prop} {s : Shared} {K : Frag} {x C L f : Addr} {h₀ : Heap} {m : Str → Option Value} {ox : Obj} {od : Option Obj}
/-- an int == an instance of an own class: the class answers -/
theorem req_K {a : Int} {t : Tok} {Q : Value → Shared → Prop} (hu : A.units < cLine) (Fm : Fr h₀ L s.heap m) (X₀ : K.In h₀) (I : InstAt s.heap x ox C od) (hd : ∀ i u, ox.data ≠ .prim (.int i u)) (hs : findIn K (.ref C) "__eq__" = some (some (.ref f))) (hf : isFn K (.ref f) = true) (hsub : subIn K (.ref C) (.type "int") = some false)
    (h : wpAny (model prog w) A (call (.ref f) [.ref x, .int a t]) (W.CmpBack Q) E s) : wpAny (model prog w) A (richCompare .Eq (.int a t) (.ref x)) Q E s := by
  have X := X₀.keeps Fm.keep
  have one : wpAny (model prog w) A (tryCompare (.ref x) "__eq__" (.int a t)) (fun r s' => ∃ v, r = some v ∧ Q v s') E s := by
    unfold tryCompare
    refine wpAny_bind (ifBound_K X I hs hf (wpAny_mono h (fun v s' hv => ?_) fun _ _ e => e))
    cases v <;> first | exact hv.elim | exact wpAny_pure ⟨_, rfl, hv⟩
  have ha : s.TypeIs (.int a t) "int" := typeIs_int s a t
  have t1 : wpAny (model prog w) A (tryCompare (.int a t) "__eq__" (.ref x)) (fun r s' => r = none ∧ s' = s) E s := by
    unfold tryCompare
    refine wpAny_bind (wpAny_callSpecialIfBound?_slot ha F.slot_int_eq (decl_call F.slot_int_eq F.entry_int_eq (fun _ _ _ => F.args_int_eq_2 _ _) I.at_ hd ?_))
    exact wpAny_pure ⟨rfl, rfl⟩
  have hne : (Value.type "int" != Value.ref C) = true := rfl
  have L5 : Looks (model prog w) s.heap (isSubtype (.ref C) (.type "int")) false := looks_subIn X hsub
  unfold richCompare
  have o1 : oneThing? .Eq (.int a t) (.ref x) = none := rfl
  simp only [o1]
  refine wpAny_holding (wpAny_bind (wpAny_cRoomFor hu ?_))
  refine wpAny_bind (wpAny_typeOf ha (wpAny_bind (I.type.here ?_)))
  simp only [hne, if_true]
  refine wpAny_bind (L5.here ?_)
  simp only [Bool.false_eq_true, if_false, Bool.not_false, if_true]
  refine wpAny_bind (wpAny_mono t1 (fun r s' z => ?_) fun _ _ e => e)
  obtain ⟨rfl, rfl⟩ := z
  refine wpAny_bind (wpAny_mono one (fun r s' z => ?_) fun _ _ e => e)
  obtain ⟨v, rfl, hq⟩ := z
  exact wpAny_pure hq
/-- not, of what the class's __eq__ tells -/
def NotBack (Q : Value → Shared → Prop) (v : Value) (s' : Shared) : Prop := ∃ b, v = .bool b ∧ Q (.bool (!b)) s'
theorem objNe_call {b : Value} {Q : Value → Shared → Prop} (hu : A.in1.units < cLine) (X : K.In s.heap) (I : InstAt s.heap x ox C od) (hs : findIn K (.ref C) "__eq__" = some (some (.ref f))) (hf : isFn K (.ref f) = true) (hm : mroIn K C (.type "object") = some true)
    (h : wpAny (model prog w) A.in1 (call (.ref f) [.ref x, b]) (NotBack Q) E s) : wpAny (model prog w) A (call (.builtin "object.__ne__") [.ref x, b]) Q E s := by
  refine wpAny_call (codeAny_call_builtin F.cmp_object.ne.plain F.cmpEntry_ne (PySem.W.check_slot F.cmpKind_ne F.cmpSplit_ne (I.type.andThen (PySem.W.looks_mroIn X hm)) (F.cmpArgs_ne _ _) ?_))
  unfold Builtin.«object.__ne__»
  have e1 : slotArgs "__ne__" 1 { pos := [Value.ref x, b] } = pure (Value.ref x, [b]) := rfl
  rw [e1, pure_bind]
  dsimp only
  refine wpAny_bind (wpAny_cRoomFor hu ?_)
  refine wpAny_bind (ifBound_K X I hs hf (wpAny_mono h (fun v s' hv => ?_) fun _ _ e => e))
  obtain ⟨k, rfl, hq⟩ := hv
  dsimp only
  exact wpAny_bind (wpAny_of_eq (rfl : truthy (.bool k) = pure k) (wpAny_pure hq))
theorem bound_ne {M : Model} {args : List Value} {Q : Option Value → Shared → Prop} (X : K.In s.heap) (I : InstAt s.heap x ox C od) (hs : findIn K (.ref C) "__ne__" = some (some (.builtin "object.__ne__")))
    (h : wpAny M A (call (.builtin "object.__ne__") (.ref x :: args)) (fun v => Q (some v)) E s) : wpAny M A (callSpecialIfBound? (.ref x) "__ne__" args) Q E s := by
  have fin : wpAny M A (call (.builtin "object.__ne__") ([.ref x] ++ args) >>= fun v => pure (some v)) Q E s := wpAny_bind (wpAny_mono h (fun _ _ z => wpAny_pure z) fun _ _ z => z)
  unfold callSpecialIfBound? bindSpecialIfBound?
  refine wpAny_holding (wpAny_bind (wpAny_bind (wpAny_bind (I.type.here ((looks_findIn X hs).here (wpAny_bind (wpAny_askSetting (wpAny_ite ?_))))))))
  split
  · exact wpAny_bind (wpAny_of_eq (F.cmp_object.ne.bind _) (wpAny_pure (by exact fin)))
  · exact wpAny_tryCatch (wpAny_bind (wpAny_of_eq (F.cmp_object.ne.bind _) (wpAny_pure (by exact fin))))
theorem try_ne {b : Value} {Q : Value → Shared → Prop} (hu : A.in1.units < cLine) (X : K.In s.heap) (I : InstAt s.heap x ox C od) (hs : findIn K (.ref C) "__eq__" = some (some (.ref f))) (hf : isFn K (.ref f) = true) (hn : findIn K (.ref C) "__ne__" = some (some (.builtin "object.__ne__"))) (hm : mroIn K C (.type "object") = some true)
    (h : wpAny (model prog w) A.in1 (call (.ref f) [.ref x, b]) (NotBack Q) E s) : wpAny (model prog w) A (tryCompare (.ref x) "__ne__" b) (fun r s' => ∃ v, r = some v ∧ Q v s') E s := by
  unfold tryCompare
  have z := objNe_call (Q := fun v s' => (∃ k, v = .bool k) ∧ Q v s') hu X I hs hf hm (wpAny_mono h (fun v s' ⟨k, e, q⟩ => ⟨k, e, ⟨!k, rfl⟩, q⟩) fun _ _ e => e)
  refine wpAny_bind (bound_ne X I hn (wpAny_mono z (fun v s' hz => ?_) fun _ _ e => e))
  obtain ⟨⟨k, rfl⟩, q⟩ := hz
  exact wpAny_pure ⟨_, rfl, q⟩
/-- an instance != something -/
theorem ne_K {b tb : Value} {Q : Value → Shared → Prop} (hu : A.units < cLine) (hu1 : A.in1.units < cLine) (Fm : Fr h₀ L s.heap m) (X₀ : K.In h₀) (I : InstAt s.heap x ox C od) (hb : Looks (model prog w) s.heap (typeOf b) tb) (hnf : notFirst K C tb = true) (hs : findIn K (.ref C) "__eq__" = some (some (.ref f))) (hf : isFn K (.ref f) = true) (hn : findIn K (.ref C) "__ne__" = some (some (.builtin "object.__ne__"))) (hm : mroIn K C (.type "object") = some true)
    (h : wpAny (model prog w) A.in1 (call (.ref f) [.ref x, b]) (NotBack Q) E s) : wpAny (model prog w) A (richCompare .NotEq (.ref x) b) Q E s := by
  have X := X₀.keeps Fm.keep
  have one := try_ne hu1 X I hs hf hn hm h
  unfold richCompare
  simp only [oneThing_ref]
  refine wpAny_holding (wpAny_bind (wpAny_cRoomFor hu (wpAny_bind (I.type.here (wpAny_bind (hb.here ?_))))))
  have fin : wpAny (model prog w) A (tryCompare (.ref x) "__ne__" b) (fun r s' => ∃ v, r = some v ∧ Q v s') E s := one
  split
  · rename_i q
    have e : subIn K tb (.ref C) = some false := by
      rcases Bool.or_eq_true_iff.mp hnf with z | z
      · rw [beq_iff_eq.mp z] at q
        simp at q
      · exact beq_iff_eq.mp z
    refine wpAny_bind ((looks_subIn X e).here ?_)
    refine wpAny_bind (wpAny_mono fin (fun r s' z => ?_) fun _ _ e => e)
    obtain ⟨v, rfl, hq⟩ := z
    exact wpAny_pure hq
  · refine wpAny_bind (wpAny_pure (wpAny_bind (wpAny_mono fin (fun r s' z => ?_) fun _ _ e => e)))
    obtain ⟨v, rfl, hq⟩ := z
    exact wpAny_pure hq
/-- an int != an instance -/
theorem rne_K {a : Int} {t : Tok} {Q : Value → Shared → Prop} (hu : A.units < cLine) (hu1 : A.in1.units < cLine) (Fm : Fr h₀ L s.heap m) (X₀ : K.In h₀) (I : InstAt s.heap x ox C od) (hd : ∀ i u, ox.data ≠ .prim (.int i u)) (hs : findIn K (.ref C) "__eq__" = some (some (.ref f))) (hf : isFn K (.ref f) = true) (hn : findIn K (.ref C) "__ne__" = some (some (.builtin "object.__ne__"))) (hm : mroIn K C (.type "object") = some true) (hsub : subIn K (.ref C) (.type "int") = some false)
    (h : wpAny (model prog w) A.in1 (call (.ref f) [.ref x, .int a t]) (NotBack Q) E s) : wpAny (model prog w) A (richCompare .NotEq (.int a t) (.ref x)) Q E s := by
  have X := X₀.keeps Fm.keep
  have one := try_ne hu1 X I hs hf hn hm h
  have ha : s.TypeIs (.int a t) "int" := typeIs_int s a t
  have t1 : wpAny (model prog w) A (tryCompare (.int a t) "__ne__" (.ref x)) (fun r s' => r = none ∧ s' = s) E s := by
    unfold tryCompare
    refine wpAny_bind (wpAny_callSpecialIfBound?_slot ha F.slot_int_ne (decl_call F.slot_int_ne F.entry_int_ne (fun _ _ _ => F.args_int_ne_2 _ _) I.at_ hd ?_))
    exact wpAny_pure ⟨rfl, rfl⟩
  have hne : (Value.type "int" != Value.ref C) = true := rfl
  have L5 : Looks (model prog w) s.heap (isSubtype (.ref C) (.type "int")) false := looks_subIn X hsub
  unfold richCompare
  have o1 : oneThing? .NotEq (.int a t) (.ref x) = none := rfl
  simp only [o1]
  refine wpAny_holding (wpAny_bind (wpAny_cRoomFor hu ?_))
  refine wpAny_bind (wpAny_typeOf ha (wpAny_bind (I.type.here ?_)))
  simp only [hne, if_true]
  refine wpAny_bind (L5.here ?_)
  simp only [Bool.false_eq_true, if_false, Bool.not_false, if_true]
  refine wpAny_bind (wpAny_mono t1 (fun r s' z => ?_) fun _ _ e => e)
  obtain ⟨rfl, rfl⟩ := z
  refine wpAny_bind (wpAny_mono one (fun r s' z => ?_) fun _ _ e => e)
  obtain ⟨v, rfl, hq⟩ := z
  exact wpAny_pure hq
end
end ErrX
end PySem
namespace DL
open PySem L2
def eqN (G : List D → Res D) : D → D → Res D
  | .obj 0 xs, y => if notScr y = true then fnG 2 G [.obj 0 xs, y] else .bad
  | .int i, .obj 0 ys => fnG 2 G [.obj 0 ys, .int i]
  | x, y => opt (eqD x y)
def notB (r : D) : Res D := match r with
  | .bl b => .ok (.bl (!b))
  | _ => .bad
def neN (G : List D → Res D) : D → D → Res D
  | .obj 0 xs, y => if notScr y = true then (do let r ← fnG 2 G [.obj 0 xs, y]; notB r) else .bad
  | .int i, .obj 0 ys => do let r ← fnG 2 G [.obj 0 ys, .int i]; notB r
  | x, y => opt (neD x y)
/-- what the top tells of a class with an __eq__ -/
structure EqC (K : PySem.W.Frag) (P : Pm) : Prop where
  nf : ∀ d, notScr d = true → PySem.W.notFirst K (P.C 0) (tyD P d) = true
  isi : ∀ c, IsiC K (P.C c)
  ne : PySem.W.findIn K (.ref (P.C 0)) "__ne__" = some (some (.builtin "object.__ne__"))
  s2 : PySem.W.subIn K (.ref (P.C 0)) (.type "int") = some false
section
variable {X : Cx} {P : Pm} {F0 : Fz} {H0 : Hp} {W : WX} {a b : Expr} {fa fb : Env → Res D} {pos : Pos} {σ : L2.St} {H F : Hp} {k : Nat} {G : List D → Res D}
theorem ty_looks {pins : List (Addr × Obj)} {s : Shared} {d : D} {v : V} {u : Value} (E : EqC X.K P) (I : Inv X pins σ H s) (e : Sb P F H) (i : Is P F d v) (r : RelV v u) (hs : notScr d = true) : PySem.W.Looks (model X.prog X.w) s.heap (typeOf u) (tyD P d) := by
  obtain ⟨Pp, kx, hp, _⟩ := kit_of I r ((i.vw e d).ty E.isi (fun ns q => by subst q; cases hs) (fun ks xs q => by subst q; cases hs))
  exact kx.ty _ _ I.kIn hp
theorem pc_eqN (E : EqC X.K P) (c : OwnD X.prog X.w X.K X.mg X.base P k "__eq__" 0 2 G) (hr : Room k X.A) (tk : Takes X W) (ha : PE X a (tE P F0 H0 W fa)) (hb : PE X b (tE P F0 H0 W fb)) : PC X .Eq a b (tE P F0 H0 W (fN (eqN G) fa fb)) := by
  obtain ⟨f, fd, ps, c1, c2, c3⟩ := c.ex
  refine ⟨fun pins s σ H Q I h => binT ha hb I (two_ofE h) fun v u s2 x y H2 I2 rx ry ⟨F, dx, dy, e, i1, i2, q⟩ => ?_⟩
  unfold eqN at q
  split at q
  · split at q
    · rename_i hns
      obtain ⟨ad, dd, vs, rfl, h1, h2, h3⟩ := obj_of i1
      obtain rfl : v = Value.ref ad := rx
      obtain ⟨ox, od, J, _⟩ := ins_data I2 (e.ex _ _ h1)
      obtain ⟨mm, Fr⟩ := I2.fr
      refine PySem.W.cmp_K (op := .Eq) hr.units0 Fr I2.ok.mod.kin J (ty_looks E I2 e i2 ry hns) (E.nf _ hns) c2.at_ c2.fn ?_
      exact wpAny_mono (run_at (vs := [.ref ad, y]) (ds := [_, _]) c1 (sub_here hr) c3 tk I2 (.cons rfl (.cons ry .nil)) e (.cons i1 (.cons i2 .nil)) q) (fun _ _ z => CmpBack_of z) fun _ _ z => z
    · exact q.elim
  · obtain ⟨bd, dd', vs', rfl, h1', h2', h3'⟩ := obj_of i2
    obtain rfl : u = Value.ref bd := ry
    obtain rfl := un_int i1
    obtain ⟨t, rfl⟩ := rx
    obtain ⟨ox', od', J', hp⟩ := ins_data I2 (e.ex _ _ h1')
    obtain ⟨mm, Fr⟩ := I2.fr
    refine PySem.ErrX.req_K hr.units0 Fr I2.ok.mod.kin J' hp c2.at_ c2.fn E.s2 ?_
    exact wpAny_mono (run_at (vs := [.ref bd, .int _]) (ds := [_, _]) c1 (sub_here hr) c3 tk I2 (.cons rfl (.cons ⟨t, rfl⟩ .nil)) e (.cons i2 (.cons i1 .nil)) q) (fun _ _ z => CmpBack_of z) fun _ _ z => z
  · exact od_of (io_eq hr.units) pins s2 σ F H2 x y v u _ _ Q I2 rx ry e (i1.vw e _) (i2.vw e _) q
theorem notB_of {pins : List (Addr × Obj)} {r : D} {v : V} {w : Value} {s : Shared} {Q : VK} (I : Inv X pins σ H s) (e : Sb P F H) (i : Is P F r v) (rv : RelV v w) (q : PostG P W (rIs P) (notB r) F σ H Q) : PySem.ErrX.NotBack (EP X pins σ Q) w s := by
  unfold notB at q
  split at q
  · rename_i bb
    obtain rfl := un_bl i
    obtain rfl : w = Value.bool bb := rv
    exact ⟨bb, rfl, .bl (!bb), H, I, rfl, q.here e is_bl⟩
  · exact q.elim
theorem pc_neN (E : EqC X.K P) (c : OwnD X.prog X.w X.K X.mg X.base P k "__eq__" 0 2 G) (hr : Room (k + 1) X.A) (tk : Takes X W) (ha : PE X a (tE P F0 H0 W fa)) (hb : PE X b (tE P F0 H0 W fb)) : PC X .NotEq a b (tE P F0 H0 W (fN (neN G) fa fb)) := by
  obtain ⟨f, fd, ps, c1, c2, c3⟩ := c.ex
  refine ⟨fun pins s σ H Q I h => binT ha hb I (two_ofE h) fun v u s2 x y H2 I2 rx ry ⟨F, dx, dy, e, i1, i2, q⟩ => ?_⟩
  unfold neN at q
  split at q
  · split at q
    · rename_i hns
      obtain ⟨ad, dd, vs, rfl, h1, h2, h3⟩ := obj_of i1
      obtain rfl : v = Value.ref ad := rx
      obtain ⟨ox, od, J, _⟩ := ins_data I2 (e.ex _ _ h1)
      obtain ⟨mm, Fr⟩ := I2.fr
      refine PySem.ErrX.ne_K hr.units0 hr.in1.units0 Fr I2.ok.mod.kin J (ty_looks E I2 e i2 ry hns) (E.nf _ hns) c2.at_ c2.fn E.ne (E.isi 0).hm ?_
      have z := run_at (W := W) (vs := [.ref ad, y]) (ds := [_, _]) c1 (sub_here hr).in1 c3 tk I2 (.cons rfl (.cons ry .nil)) e (.cons i1 (.cons i2 .nil)) (PostG.bind (rel := rIs P) q)
      refine wpAny_mono z (fun w s' hz => ?_) fun _ _ z => z
      obtain ⟨vv, H', I', r', F', d', g', i', q'⟩ := hz
      exact notB_of I' g'.s i' r' q'
    · exact q.elim
  · obtain ⟨bd, dd', vs', rfl, h1', h2', h3'⟩ := obj_of i2
    obtain rfl : u = Value.ref bd := ry
    obtain rfl := un_int i1
    obtain ⟨t, rfl⟩ := rx
    obtain ⟨ox', od', J', hp⟩ := ins_data I2 (e.ex _ _ h1')
    obtain ⟨mm, Fr⟩ := I2.fr
    refine PySem.ErrX.rne_K hr.units0 hr.in1.units0 Fr I2.ok.mod.kin J' hp c2.at_ c2.fn E.ne (E.isi 0).hm E.s2 ?_
    have z := run_at (W := W) (vs := [.ref bd, .int _]) (ds := [_, _]) c1 (sub_here hr).in1 c3 tk I2 (.cons rfl (.cons ⟨t, rfl⟩ .nil)) e (.cons i2 (.cons i1 .nil)) (PostG.bind (rel := rIs P) q)
    refine wpAny_mono z (fun w s' hz => ?_) fun _ _ z => z
    obtain ⟨vv, H', I', r', F', d', g', i', q'⟩ := hz
    exact notB_of I' g'.s i' r' q'
  · exact od_of (io_ne hr.units) pins s2 σ F H2 x y v u _ _ Q I2 rx ry e (i1.vw e _) (i2.vw e _) q
end
end DL
namespace DL
open PySem L2

section
variable {X : Cx} {P : Pm} {F0 : Fz} {H0 : Hp} {W : WX} {a b c e o : Expr} {es : List Expr} {fa fb fc : Env → Res D} {ga gb gc : Env → Res Bool} {fs : Env → Res (List D)} {pos p apos : Pos} {σ : St} {H F : Hp}
/-- a if c else b, as a test -/
theorem td_ifx (hc : PT X c (tT P F0 H0 W gc)) (ha : PT X a (tT P F0 H0 W ga)) (hb : PT X b (tT P F0 H0 W gb)) : PT X (.IfExp c a b pos) (tT P F0 H0 W (fun ρ => do let k ← gc ρ; if k = true then ga ρ else gb ρ)) := by
  refine ⟨fun pins s σ H Q I h => ?_⟩
  obtain ⟨F, ρ, er, z⟩ := h
  show wpAny _ _ (isTrue c X.env (eval c X.env) >>= fun k => if k = true then isTrue a X.env (eval a X.env) else isTrue b X.env (eval b X.env)) _ _ s
  refine wpAny_bind (thn (hc.run pins s σ H _ I ⟨F, ρ, er, PostG.bind (rel := rBo) z⟩) ?_)
  rintro k s1 ⟨H1, I1, F1, d, g, i, q⟩
  subst i
  by_cases hv : k = true
  · rw [if_pos hv] at q ⊢
    exact ha.run pins s1 σ H1 Q I1 ⟨F1, ρ, er.grow g, q⟩
  · rw [if_neg hv] at q ⊢
    exact hb.run pins s1 σ H1 Q I1 ⟨F1, ρ, er.grow g, q⟩
/-! ### products of great numbers -/
def mulB (i j : Int) : Option D := if i.natAbs.log2 + j.natAbs.log2 < 1000000 ∨ (-(2 ^ 64) < i ∧ i < 2 ^ 64) ∨ (-(2 ^ 64) < j ∧ j < 2 ^ 64) then some (.int (i * j)) else none
theorem io_mulB : OpR X (binaryOp .Mult) (r2O P (int2 mulB)) := fun pins s σ H x y u v Q I rx ry h => by
  obtain ⟨F, dx, dy, d, e, i1, i2, hd, q⟩ := h
  obtain ⟨i, j, rfl, rfl, hg⟩ := int2_of hd
  have e1 : x = .int i := i1
  have e2 : y = .int j := i2
  subst e1 e2
  unfold mulB at hg
  split at hg
  · rename_i hc
    cases hg
    rcases hc with hc | hc
    · exact op_mulW pins s σ H _ _ u v Q I rx ry ⟨i, j, rfl, rfl, hc, q.here e is_int⟩
    · exact op_mul pins s σ H _ _ u v Q I rx ry ⟨i, j, rfl, rfl, hc, q.here e is_int⟩
  · cases hg
/-! ### x in a list -/
def inD (x y : D) : Option D := (toPD x).bind fun a => match y with
  | .lst ys => (toPDs ys).bind fun bs => if SeqAt.shaped a = true ∧ SeqAt.shaped (.list bs) = true then some (.bl (bs.any fun z => PyData.eqv z a)) else none
  | _ => none
theorem inD_of {x y d : D} (h : inD x y = some d) : ∃ a ys bs, toPD x = some a ∧ y = .lst ys ∧ toPDs ys = some bs ∧ SeqAt.shaped a = true ∧ SeqAt.shaped (.list bs) = true ∧ d = .bl (bs.any fun z => PyData.eqv z a) := by
  unfold inD at h
  cases ha : toPD x with
  | none =>
    rw [ha] at h
    cases h
  | some a =>
    rw [ha] at h
    cases y with
    | lst ys =>
      cases hb : toPDs ys with
      | none =>
        have h' : (toPDs ys).bind (fun bs => if SeqAt.shaped a = true ∧ SeqAt.shaped (.list bs) = true then some (D.bl (bs.any fun z => PyData.eqv z a)) else none) = some d := h
        rw [hb] at h'
        cases h'
      | some bs =>
        have h' : (toPDs ys).bind (fun bs => if SeqAt.shaped a = true ∧ SeqAt.shaped (.list bs) = true then some (D.bl (bs.any fun z => PyData.eqv z a)) else none) = some d := h
        rw [hb] at h'
        replace h' : (if SeqAt.shaped a = true ∧ SeqAt.shaped (.list bs) = true then some (D.bl (bs.any fun z => PyData.eqv z a)) else none) = some d := h'
        split at h'
        · rename_i hc
          cases h'
          exact ⟨a, ys, bs, rfl, rfl, hb, hc.1, hc.2, rfl⟩
        · cases h'
    | _ => cases h
theorem toPD_lst {ys : List D} {bs : List PyData} (h : toPDs ys = some bs) : toPD (.lst ys) = some (.list bs) := by
  rw [toPD, h]
  rfl
theorem io_inD (hu : X.A.units + 65 < cLine) : OpR X (compareOp .In) (r2O P inD) := fun pins s σ H x y u v Q I rx ry h => by
  obtain ⟨F, dx, dy, d, e, i1, i2, hd, q⟩ := h
  obtain ⟨pa, ys, bs, h1, rfl, h2, h3, h4, rfl⟩ := inD_of hd
  exact op_inD hu pins s σ H x y u v Q I rx ry ⟨pa, bs, i1.dp e dx h1, i2.dp e _ (toPD_lst h2), h3, h4, q.bl e⟩
/-! ### raise T('..') of a built-in class -/
theorem sd_raiseB {T N I : String} {x m : Str} {j cn : Nat} {p2 pos' : Pos} (hc : X.calm = true) (tk : Takes X W) (B : ExcB T N I) (hxc : P.xc cn = .type T) (hm : X.mg x = none) (hv : bootBuiltins x = some (.type T)) (hg : Gl X x := by rfl) (hn : x ≠ "__name__" := by decide) (hdb : (x == ("__debug__" : Str)) = false := by decide) :
    PS X (.Raise (some (.Call (.Name x p) [.Constant (.str m) j p2] [] pos)) none pos') (tS P F0 H0 W (fun ρ => .err cn none ρ)) := (ps_raiseB hc tk B hg hm hv hn hdb).imp fun N σ H ⟨F, ρ, er, z⟩ => by
  rw [← hxc]
  exact z σ F H none er (.refl F) rfl
end
/-! ### x(lambda: e), where x is: try: a() / except T: return True / return False -/
abbrev rzBody (a e : Str) (j j2 : Nat) (p1 p2 p3 p4 p5 p6 p7 p8 p9 p10 : Pos) : List Stmt := [.Try [.Expr (.Call (.Name a p1) [] [] p2) p3] [.ExceptHandler (some (.Name e p4)) none [.Return (some (.Constant (.bool true) j p5)) p6] p7] [] [] p8, .Return (some (.Constant (.bool false) j2 p9)) p10]
def TTr (K : PySem.W.Frag) (cv : Value) : (XK → Hp → VK → Prop) → Hp → VK → Prop := fun tl H Q => tl (fun cls _ H' => PySem.W.exmOne K cls cv = some true ∧ Q (.bl true) H') H (fun _ H' => Q (.bl false) H')
section
variable {X : Cx}
theorem raises_gives {Ng : List Str} {x a e q : Str} {sg : Scope} {g : Addr} {cdg cv : Value} {j j2 : Nat} {p1 p2 p3 p4 p5 p6 p7 p8 p9 p10 : Pos} (hge : sg.names.lookup e = some .globalImplicit) (hme : X.mg e = some cv ∨ (X.mg e = none ∧ bootBuiltins e = some cv ∧ e ≠ "__name__")) (hde : (e == ("__debug__" : Str)) = false)
    (h0 : ∀ f : Addr, (L2.start Ng [V.ref f])[0]? = some (some (V.ref f))) : LamX.GivesTo X Ng x sg g cdg (rzBody a e j j2 p1 p2 p3 p4 p5 p6 p7 p8 p9 p10) a q (TTr X.K cv) := by
  intro f c' s H Q tl act hc h
  refine ⟨_, pss_cons (ps_try_only (X := (cxOf C8.CX0 X.prog X.w X.K X.mg X.base Ng x sg g cdg X.A X.stack s H C8.E0).nox) (c := cv)
      (tb := fun W D σ H => ∃ Ech : XK, (∀ cls d σ' H', Ech cls d H' → W cls d σ' H') ∧ σ[0]? = some (some (.ref f)) ∧ H c' = some (LamX.CodeO c' q) ∧ tl Ech H (fun _ H1 => D.nx σ H1))
      rfl rfl ⟨hge, hde, hme⟩ LamX.takes0 (fun W pn xe tk _ => ?_) (fun _ _ _ _ _ _ _ => pss_one (ps_ret pe_bl))) (pss_one (ps_ret pe_bl)), ?_⟩
  · refine ⟨fun pins s' σ H' D I h' => ?_⟩
    obtain ⟨Ech, hW, h1, h2, h3⟩ := h'
    exact (pss_one (ps_expr (act W pn xe Ech p1 p2 tk hW))).run pins s' σ H' D I ⟨h1, h2, h3⟩
  · refine ⟨fun cls _ H' => PySem.W.exmOne X.K cls cv = some true ∧ Q (.bl true) H', fun cls d σ' H' z => ⟨true, z.1, fun _ _ _ => z.2, fun w => by cases w⟩, h0 f, hc, h⟩
end
def rzD (cz : Nat) : Res D → Res D
  | .ok _ => .ok (.bl false)
  | .err c _ => if c = cz then .ok (.bl true) else .bad
  | .bad => .bad
/-- the tables of code: where the def's own one is -/
structure TabAt (P : Pm) (base : Heap) (mg : Str → Option Value) (c t : Addr) (q : Str) : Prop where
  tb : LamX.TabB base mg c t
  mem : (t, q) ∈ P.T
  one : ∀ p ∈ P.T, p.1 = t → p.2 = q
/-- the def that takes the lambda -/
structure RzD (K : PySem.W.Frag) (mg : Str → Option Value) (x a e : Str) (cv : Value) : Prop where
  ex : ∃ (st : Stmt) (g : Addr) (fd : FuncData) (Ng : List Str) (j j2 : Nat) (p1 p2 p3 p4 p5 p6 p7 p8 p9 p10 : Pos), Fun K x x st g fd ∧ mg x = some (.ref g) ∧ Binds K fd [a] [] ∧ FnScope Ng [a] (defScope st) ∧ Ng[0]? = some a ∧ Vis (defScope st) a ∧
    defBody st = rzBody a e j j2 p1 p2 p3 p4 p5 p6 p7 p8 p9 p10 ∧ (defScope st).names.lookup e = some .globalImplicit ∧ ∀ f : Addr, (L2.start Ng [V.ref f])[0]? = some (some (V.ref f))
  cl : mg e = some cv ∨ (mg e = none ∧ bootBuiltins e = some cv ∧ e ≠ "__name__")
  nd : (e == ("__debug__" : Str)) = false
section
variable {X : Cx} {P : Pm} {F0 : Fz} {H0 : Hp} {W : WX}
theorem pd_raises {x a e : Str} {cv : Value} {cz k : Nat} {c t : Addr} {params : Arguments} {body : Expr} {scope : Scope} {p lpos pos : Pos} {fb : Env → Res D} (R : RzD X.K X.mg x a e cv) (hex : PySem.W.exmOne X.K (P.xc cz) cv = some true) (TA : TabAt P X.base X.mg c t (X.env.qual ++ "<lambda>")) (hcode : X.env.code = .ref c)
    (hr : Room (k + 2) X.A) (L : LamX.LamS X.env.scope scope) (hdef : defaultsOf params X.env = ([], []))
    (hbind : ∀ (q : Str) (cl : List (Str × Addr)) (pm cv ctv : Value), bindArgs (PySem.W.kla_fn "<lambda>" q params body scope cl pm cv ctv) ⟨[], []⟩ = pure [])
    (hbody : ∀ (A : Around) (outer : List PySem.Env) (s : Shared) (H : Hp) (E : XK) (f c' : Addr), Room k (A.deeper (LamX.lamEnv X scope s.heap.objs.size f c')) → Takes (LamX.lamCx X A outer s H E scope f c') (WE0 E) → PE (LamX.lamCx X A outer s H E scope f c') body (tE P F0 H0 (WE0 E) fb))
    (hg : Gl X x := by rfl) (hdb : (x == ("__debug__" : Str)) = false := by decide) (hd : (a == ("__debug__" : Str)) = false := by decide) (hcd : (a == ("__classdict__" : Str)) = false := by decide) :
    PE X (.Call (.Name x p) [.Lambda params body scope lpos] [] pos) (tE P F0 H0 W (fun ρ => rzD cz (fb ρ))) := by
  obtain ⟨st, g, fd, Ng, j, j2, p1, p2, p3, p4, p5, p6, p7, p8, p9, p10, Fu, hm, hb, Sg, hN0, hva, hbg, hge, h0⟩ := R.ex
  obtain ⟨oc, od, kV, doc, pm, an, cdv, ct, osl, rfl, lk, hcd'⟩ := Fu.ex
  have hG : LamX.GivesTo X Ng x (defScope st) g cdv (defBody st) a (X.env.qual ++ "<lambda>") (TTr X.K cv) := by
    rw [hbg]
    exact raises_gives hge R.cl R.nd h0
  refine (LamX.pe_lamcall (T := P.T) (t := fun E => tE P F0 H0 (WE0 E) fb) hg hm Fu.kp lk hcd' hb Sg hN0 hva hG TA.tb hcode TA.mem TA.one hr L hdef hbind (fun A outer s H E f c' hr' => hbody A outer s H E f c' hr' (takes_of rfl rfl rfl rfl)) hdb hd hcd).imp fun σ H Q ⟨F, ρ, er, z⟩ => ?_
  replace z : PostG P W (rIs P) (rzD cz (fb ρ)) F σ H Q := z
  refine ⟨er.s.tabs, fun H1 e1 t1 => ?_⟩
  have eT : ExT H H1 := ⟨fun a o h n => e1 a o h fun ps hp => by
    subst hp
    cases n⟩
  have g1 : Grow P F H F H1 := ⟨.refl F, eT, er.s.ext' eT t1, fun _ _ e => .inl e⟩
  refine ⟨F, ρ, er.grow g1, ?_⟩
  cases hf : fb ρ with
  | ok d =>
    rw [hf] at z
    exact fun v F' H' g i => z (.bl false) F' H' (g1.trans g) is_bl
  | err c p =>
    rw [hf] at z
    by_cases hz : c = cz
    · have e2 : rzD cz (.err c p) = .ok (.bl true) := if_pos hz
      rw [e2] at z
      exact fun F' H' y g q => ⟨hz ▸ hex, z (.bl true) F' H' (g1.trans g) is_bl⟩
    · have e2 : rzD cz (.err c p) = .bad := if_neg hz
      rw [e2] at z
      exact z.elim
  | bad =>
    rw [hf] at z
    exact z.elim
end
end DL
namespace DL
open PySem L2

/-! ### methods, defaults, keywords, a def whose code object is known -/
section
variable {X : Cx} {P : Pm} {F0 : Fz} {H0 : Hp} {W : WX} {a b c e o : Expr} {es : List Expr} {fa fb fc : Env → Res D} {fs : Env → Res (List D)} {pos p apos : Pos} {σ : St} {H F : Hp} {k n : Nat} {x m : Str} {G : List D → Res D} {GI : List D → Res (List D)}
structure MetD (prog : Program) (w : World) (K : PySem.W.Frag) (mg : Str → Option Value) (base : Heap) (P : Pm) (k : Nat) (m : Str) (cn n : Nat) (G : List D → Res D) : Prop where
  ex : ∃ f fd ps, FnOk prog w K mg base (L2.CX prog w) k f fd ps (spD P n G) ∧ Cls K (P.C cn) ∧ Meth K (P.C cn) m f ∧ Binds K fd ps [] ∧ m ∉ P.nm cn
abbrev fMet (cn n : Nat) (G : List D → Res D) (fa : Env → Res D) (fs : Env → Res (List D)) : Env → Res D := fun ρ => do let x ← fa ρ; let y ← isO cn x; let xs ← fs ρ; fnG n G (y :: xs)
theorem pd_met {cn : Nat} {pl : Sem Bool} (c : MetD X.prog X.w X.K X.mg X.base P k m cn n G) (hr : Room k X.A) (tk : Takes X W) (ho : PE X o (tE P F0 H0 W fa)) (ha : PA X (e :: es) (tL P F0 H0 W fs))
    (hst : starEach (e :: es) X.env = (false, eval e X.env) :: starEach es X.env := by rfl) (hpl : (backTo pos (starEach es X.env)).any (·.1) = false := by rfl)
    (ht : eval (.Call (.Attribute o m apos) (e :: es) [] pos) X.env = (do
      let ov ← eval o X.env
      standAt apos.atName
      let (f, first) ← holding [ov] (getMethod ov m pl)
      callWith pos f first (backTo pos (starEach (e :: es) X.env)) (backToKw pos (keywordEach [] X.env))) := by rfl) :
    PE X (.Call (.Attribute o m apos) (e :: es) [] pos) (tE P F0 H0 W (fMet cn n G fa fs)) := by
  obtain ⟨f, fd, ps, h1, h2, h3, h4, h5⟩ := c.ex
  have := pd_meth ho h2 h3 h5 h1 hr h4 .nil Dfl.nil tk ha hst hpl ht
  simpa only [List.append_nil, List.cons_append] using this
/-- o.m() -/
theorem pd_met0 {cn : Nat} {pl : Sem Bool} (c : MetD X.prog X.w X.K X.mg X.base P k m cn n G) (hr : Room k X.A) (tk : Takes X W) (ho : PE X o (tE P F0 H0 W fa))
    (ht : eval (.Call (.Attribute o m apos) [] [] pos) X.env = (do
      let ov ← eval o X.env
      standAt apos.atName
      let (f, first) ← holding [ov] (getMethod ov m pl)
      callWith pos f first (backTo pos (starEach [] X.env)) (backToKw pos (keywordEach [] X.env))) := by rfl) :
    PE X (.Call (.Attribute o m apos) [] [] pos) (tE P F0 H0 W (fMet cn n G fa (fun _ => .ok []))) := by
  obtain ⟨f, fd, ps, h1, h2, h3, h4, h5⟩ := c.ex
  have := pd_meth0 ho h2 h3 h5 h1 hr h4 .nil Dfl.nil tk ht
  exact this
theorem metD {prog : Program} {w : World} {K : PySem.W.Frag} {mg : Str → Option Value} {base : Heap} {c : Nat} {x qual : Str} {st : Stmt} {f : Addr} {fd : FuncData} {N ps : List Str} {k : Nat} {g : Env → RS} (Fu : Fun K x qual st f fd) (S : FnScope N ps (defScope st)) (hc : Cls K (P.C c)) (hm : Meth K (P.C c) x f) (hb : Binds K fd ps []) (hn : x ∉ P.nm c)
    (hbody : ∀ (cdv : Value) (A : Around) (outer : List PySem.Env) (s : Shared) (H F0 : Hp) (E : XK), Room k (A.deeper (PyProof.Rows.envOfC qual (defScope st) s.heap.objs.size f cdv)) →
      PSs (cxOf (L2.CX prog w) prog w K mg base N qual (defScope st) f cdv A outer s H E) (defBody st) (tS P ⟨F0, none⟩ H (WE0 E) g)) :
    MetD prog w K mg base P (k + 1) x c ps.length (runB g N.length) := ⟨f, fd, ps, fnd Fu S hbody, hc, hm, hb, hn⟩
/-- C(e, ..), the rest by defaults -/
structure MkDd (prog : Program) (w : World) (K : PySem.W.Frag) (mg : Str → Option Value) (base : Heap) (P : Pm) (k : Nat) (x : Str) (cn n : Nat) (dds : List D) (G : List D → Res (List D)) : Prop where
  ex : ∃ f fd ps dv dvs, Mk K (P.C cn) f ∧ FnOk prog w K mg base (L2.CX prog w) k f fd ps (spI P cn n G) ∧ mg x = some (.ref (P.C cn)) ∧ Binds K fd ps dv ∧ Vals dvs dv ∧ Dfl P dvs dds
abbrev fMkd (cn n : Nat) (dds : List D) (G : List D → Res (List D)) (fs : Env → Res (List D)) : Env → Res D := fun ρ => do let xs ← fs ρ; mkG cn n G (xs ++ dds)
theorem pd_mkd {cn : Nat} {dds : List D} (c : MkDd X.prog X.w X.K X.mg X.base P k x cn n dds GI) (hr : Room (k + 1) X.A) (tk : Takes X W) (ha : PA X (e :: es) (tL P F0 H0 W fs)) (hg : Gl X x := by rfl) (hdb : (x == ("__debug__" : Str)) = false := by decide) (he : starEach (e :: es) X.env = (false, eval e X.env) :: starEach es X.env := by rfl) (hpl : (backTo pos (starEach es X.env)).any (·.1) = false := by rfl) :
    PE X (.Call (.Name x p) (e :: es) [] pos) (tE P F0 H0 W (fMkd cn n dds GI fs)) := by
  obtain ⟨f, fd, ps, dv, dvs, h0, h1, h2, h4, h5, h6⟩ := c.ex
  exact pd_make (p := p) h0 h1 hr hg h2 h4 h5 h6 tk ha hdb he hpl
/-- C(k = e, ..), all by keywords -/
structure MkDk (prog : Program) (w : World) (K : PySem.W.Frag) (mg : Str → Option Value) (base : Heap) (P : Pm) (k : Nat) (x : Str) (cn n : Nat) (ks : List Str) (pr : {α : Type} → List α → List α) (G : List D → Res (List D)) : Prop where
  ex : ∃ f fd ps, Mk K (P.C cn) f ∧ FnOk prog w K mg base (L2.CX prog w) k f fd ps (spI P cn n G) ∧ mg x = some (.ref (P.C cn)) ∧ KBn K fd ps 1 ks (fun us ws => us ++ pr ws) (fun us ws => us ++ pr ws)
  rel : ∀ {F : Hp} {ds : List D} {vs : List V}, IsL P F ds vs → IsL P F (pr ds) (pr vs)
abbrev fMkk (cn n m : Nat) (pr : {α : Type} → List α → List α) (G : List D → Res (List D)) (fs : Env → Res (List D)) : Env → Res D := fun ρ => do let xs ← fs ρ; if xs.length = m then noErr (mkG cn n G (pr xs)) else .bad
theorem PK.imp {kws : List Keyword} {t t' : TA} (h : PK X kws t) (q : ∀ σ H Q, t' σ H Q → t σ H Q) : PK X kws t' := ⟨fun p pins s σ H Q I z => h.run p pins s σ H Q I (q σ H Q z)⟩
theorem kd_nil : PK X [] (tL P F0 H0 W (fun _ => .ok [])) := PK.imp pk_nil fun σ H Q ⟨F, ρ, er, z⟩ => z.here er.s .nil
theorem kd_cons {nm : Option Str} {kpos : Pos} {kws : List Keyword} (ha : PE X e (tE P F0 H0 W fa)) (hr : PK X kws (tL P F0 H0 W fs)) : PK X (⟨nm, e, kpos⟩ :: kws) (tL P F0 H0 W (fun ρ => do let x ← fa ρ; let xs ← fs ρ; .ok (x :: xs))) := PK.imp (pk_cons ha hr) fun σ H Q ⟨F, ρ, er, z⟩ => by
  refine ⟨F, ρ, er, (PostG.bind (rel := rIs P) z).imp ?_⟩
  rintro v H1 ⟨F1, d, g, i, q⟩
  refine ⟨F1, ρ, er.grow g, (PostG.bind (rel := rLs P) q).imp ?_⟩
  rintro vs H2 ⟨F2, ds, g2, i2, q2⟩
  exact q2.here g2.s (.cons (i.mono g2.f d) i2)
theorem pd_mkk {cn : Nat} {ks : List Str} {pr : {α : Type} → List α → List α} {kws : List Keyword} (c : MkDk X.prog X.w X.K X.mg X.base P k x cn n ks pr GI) (hr : Room (k + 1) X.A) (hkw : PK X kws (tL P F0 H0 W fs)) (hg : Gl X x := by rfl)
    (hall : (backToKw pos (keywordEach kws X.env)).all (·.1.isSome) = true := by rfl) (hks : (backToKw pos (keywordEach kws X.env)).filterMap (·.1) = ks := by rfl) (hdb : (x == ("__debug__" : Str)) = false := by decide)
    (hpl : ((backTo pos (starEach [] X.env)).any (·.1) || (backToKw pos (keywordEach kws X.env)).any (·.1.isNone)) = false := by rfl) :
    PE X (.Call (.Name x p) [] kws pos) (tE P F0 H0 W (fMkk cn n ks.length pr GI fs)) := by
  obtain ⟨f, fd, ps, h0, h1, h2, h3⟩ := c.ex
  refine (pe_makeK0 (p := p) h0 h1 hr hg h2 h3 (passL (X := X)) hkw hall hks hdb hpl).imp fun σ H Q ⟨F, ρ, er, z⟩ => ?_
  show tL P F0 H0 W fs σ H _
  refine ⟨F, ρ, er, (PostG.bind (rel := rLs P) z).imp ?_⟩
  rintro zs H1 ⟨F1, ds, g, i, q⟩
  by_cases hl : ds.length = ks.length
  · rw [if_pos hl] at q
    refine ⟨rfl, by rw [← i.length]; exact hl, fun x dx hx hdx hne => ?_⟩
    have q' : PostG P (WE0 fun cls d H' => (fun _ _ _ _ => False : WX) cls d [] H') (rIs P) (mkG cn n GI (pr ds ++ [])) F1 [] H1 Q := by
      rw [List.append_nil]
      exact PostG.noErr q
    have := mkG_of (W := fun _ _ _ _ => False) (σ := []) (dvs := []) (dds := []) Dfl.nil g.s (c.rel i) q' x dx hx hdx hne
    simpa only [List.append_nil, List.cons_append, List.nil_append] using this
  · rw [if_neg hl] at q
    exact q.elim
/-- two keywords, turned -/
theorem rev_rel {F : Hp} : ∀ {ds : List D} {vs : List V}, IsL P F ds vs → IsL P F ds.reverse vs.reverse
  | [], _, h => by
    obtain rfl := h.unnil
    exact .nil
  | d :: ds, _, h => by
    obtain ⟨v, r, rfl, h1, h2⟩ := h.uncons
    rw [List.reverse_cons, List.reverse_cons]
    exact (rev_rel h2).append (.cons h1 .nil)
theorem vals_rev : ∀ {vs : List V} {us : List Value}, Vals vs us → Vals vs.reverse us.reverse
  | _, _, .nil => .nil
  | _, _, .cons r t => by
    rw [List.reverse_cons, List.reverse_cons]
    exact (vals_rev t).append (.cons r .nil)
theorem kb_rev {K : PySem.W.Frag} {x qual : Str} {params : Arguments} {body : List Stmt} {scope : Scope} {dvs : List V} {kws : List (Str × V)} {f : Addr} {fd : FuncData} {ps ks : List Str} (F : FunD K x qual params body scope dvs kws f fd) (hd : dvs ≠ [])
    (h : ∀ (T : Addr) (kV doc pm : Value) (an : Option Addr) (cdv ct : Value) (us its ws : List Value), us.length = 1 → its.length = dvs.length → ws.length = ks.length →
      ∃ k, bindArgs (PySem.W.fnOf x qual params body scope (.ref T) kV doc pm an cdv ct) ⟨us, ks.zip ws⟩ = seqItems? (.ref T) >>= k ∧ k (some its.toArray) = pure (ps.zip (us ++ ws.reverse))) :
    KBn K fd ps 1 ks (fun us ws => us ++ ws.reverse) (fun us ws => us ++ ws.reverse) := by
  obtain ⟨oc, od, dV, kV, doc, pm, an, cdv, ct, osl, rfl, lk, hcd, hD, hK⟩ := F.ex
  rcases hD with ⟨e, _⟩ | ⟨_, T, o, its, m, rfl, lT, oT, rT⟩
  · exact absurd e hd
  · refine ⟨fun s us ws X' l1 l2 => ?_, fun r1 r2 => r1.append (vals_rev r2)⟩
    obtain ⟨k, e1, e2⟩ := h T kV doc pm an cdv ct us its ws l1 rT.length.symm l2
    refine BindsTo.of_looks fun M => ?_
    rw [e1]
    exact looks_items X' lT oT (.of_pure e2)
/-- a def whose code object stands at c -/
theorem fndC {prog : Program} {w : World} {K : PySem.W.Frag} {mg : Str → Option Value} {base : Heap} {x qual : Str} {st : Stmt} {f cA : Addr} {oc kV doc pm ct : Value} {od an : Option Addr} {osl : Array (Option Value)} {N ps : List Str} {k : Nat} {g : Env → RS}
    (lk : K.lookup f = some ⟨oc, od, .func (PySem.W.fnOf x qual (defArgs st) (defBody st) (defScope st) .none kV doc pm an (.ref cA) ct), osl⟩) (hcd : PySem.W.codeIn K (.ref cA) qual = true) (S : FnScope N ps (defScope st))
    (hbody : ∀ (A : Around) (outer : List PySem.Env) (s : Shared) (H F0 : Hp) (E : XK), Room k (A.deeper (PyProof.Rows.envOfC qual (defScope st) s.heap.objs.size f (.ref cA))) →
      PSs (cxOf (L2.CX prog w) prog w K mg base N qual (defScope st) f (.ref cA) A outer s H E) (defBody st) (tS P ⟨F0, none⟩ H (WE0 E) g)) :
    FnOk prog w K mg base (L2.CX prog w) (k + 1) f (PySem.W.fnOf x qual (defArgs st) (defBody st) (defScope st) .none kV doc pm an (.ref cA) ct) ps (spD P ps.length (runB g N.length)) := by
  refine fn_of lk hcd S (fun vs H Q E ⟨F, ds, _, i, hl, _⟩ => by rw [← i.length]; exact hl) fun A outer s H vs Q E hr h => ?_
  obtain ⟨F, ds, sx, i, hl, z⟩ := h
  refine ⟨_, hbody A outer s H F E hr, F, env0 N.length ds, er_start sx i, ?_⟩
  unfold runB at z
  cases hg : g (env0 N.length ds) with
  | nx ρ =>
    rw [hg] at z
    exact fun σ F' H' er _ => z .non F' H' er.g is_non
  | rt d =>
    rw [hg] at z
    exact fun v F' H' gr _ i' => z v F' H' gr i'
  | bk ρ =>
    rw [hg] at z
    exact z.elim
  | ct ρ =>
    rw [hg] at z
    exact z.elim
  | err e p ρ =>
    rw [hg] at z
    exact fun σ F' H' y er _ q => z F' H' y er.g q
  | bad =>
    rw [hg] at z
    exact z.elim
end
end DL
namespace DL
open PySem L2
theorem units65 {k : Nat} {A : Around} (r : Room k A) : A.units + 65 < cLine := by
  have := r.un
  omega
/-- the left one is an instance of class 0 -/
def opL (G : List D → Res D) : D → D → Res D
  | .obj 0 xs, .int j => fnG 2 G [.obj 0 xs, .int j]
  | .obj 0 xs, .obj 0 ys => fnG 2 G [.obj 0 xs, .obj 0 ys]
  | _, _ => .bad
section
variable {X : Cx} {P : Pm} {F0 : Fz} {H0 : Hp} {W : WX} {a b : Expr} {fa fb : Env → Res D} {pos : Pos} {σ : L2.St} {H F : Hp} {k kr : Nat} {op : Operator} {m mr : Str} {G : List D → Res D}
theorem pd_opL (hd : PySem.dunder op.info.2 = m) (hdr : PySem.dunderR op.info.2 = mr) (N : NumC X.K (P.C 0) m mr) (hR : ∃ fr, PySem.W.findIn X.K (.ref (P.C 0)) mr = some (some (.ref fr)))
    (c : OwnD X.prog X.w X.K X.mg X.base P k m 0 2 G) (hr : Room k X.A) (tk : Takes X W) (ha : PE X a (tE P F0 H0 W fa)) (hb : PE X b (tE P F0 H0 W fb)) :
    PE X (.BinOp a op b pos) (tE P F0 H0 W (fN (opL G) fa fb)) := by
  obtain ⟨f, fd, ps, c1, c2, c3⟩ := c.ex
  obtain ⟨fr, d2⟩ := hR
  obtain ⟨fo, hfo⟩ := N.a1
  obtain ⟨ro, hro⟩ := N.a2
  refine ⟨fun pins s σ H Q I h => ?_⟩
  refine wpAny_BinOp (binT ha hb I (two_ofE h) fun v u s2 x y H2 I2 rx ry ⟨F, dx, dy, e, i1, i2, q⟩ => ?_)
  unfold opL at q
  split at q
  · obtain ⟨ad, dd, vs, rfl, h1, h2, h3⟩ := obj_of i1
    obtain rfl : v = Value.ref ad := rx
    obtain ⟨ox, od, J, _⟩ := ins_data I2 (e.ex _ _ h1)
    obtain ⟨mm, Fr⟩ := I2.fr
    obtain rfl := un_int i2
    obtain ⟨t, rfl⟩ := ry
    refine PySem.W.ksp_binT Fr I2.ok.mod.kin J (T := "int") rfl N.sf (by rw [hd]; exact c2.at_) c2.fn (by rw [hdr]; exact d2) (.inr ⟨fr, rfl⟩) (by rw [hd]; exact hfo) (by rw [hdr]; exact hro) N.s1 ?_
    exact wpAny_mono (run_at (vs := [.ref ad, .int _]) (ds := [_, _]) c1 (sub_here hr) c3 tk I2 (.cons rfl (.cons ⟨t, rfl⟩ .nil)) e (.cons i1 (.cons i2 .nil)) q) (fun _ _ z => CmpBack_of z) fun _ _ z => z
  · obtain ⟨ad, dd, vs, rfl, h1, h2, h3⟩ := obj_of i1
    obtain ⟨bd, dd', vs', rfl, h1', h2', h3'⟩ := obj_of i2
    obtain rfl : v = Value.ref ad := rx
    obtain rfl : u = Value.ref bd := ry
    obtain ⟨ox, od, J, _⟩ := ins_data I2 (e.ex _ _ h1)
    obtain ⟨ox', od', J', _⟩ := ins_data I2 (e.ex _ _ h1')
    obtain ⟨mm, Fr⟩ := I2.fr
    refine PySem.W.binop_K Fr I2.ok.mod.kin J J'.type N.sf (by rw [hd]; exact c2.at_) c2.fn ?_
    exact wpAny_mono (run_at (vs := [.ref ad, .ref bd]) (ds := [_, _]) c1 (sub_here hr) c3 tk I2 (.cons rfl (.cons rfl .nil)) e (.cons i1 (.cons i2 .nil)) q) (fun _ _ z => CmpBack_of z) fun _ _ z => z
  · exact q.elim
end
@[simp] abbrev tIfx (c a b : Env → Res Bool) : Env → Res Bool := fun ρ => do let k ← c ρ; if k = true then a ρ else b ρ
@[simp] abbrev fRz (cz : Nat) (f : Env → Res D) : Env → Res D := fun ρ => rzD cz (f ρ)
@[simp] abbrev sPar3 (i j l : Nat) (f : Env → Res (List D)) : Env → RS := fun ρ => bindS (f ρ) ρ (par3 i j l ρ)
@[simp] abbrev sRaiseB (c : Nat) : Env → RS := fun ρ => .err c none ρ
@[simp] abbrev iZip (f : Env → Res (List D)) : Env → Res (List D) := fun ρ => f ρ >>= zipD
@[simp] abbrev iEnu (f : Env → Res (List D)) : Env → Res (List D) := fun ρ => f ρ >>= enuD
end DL
namespace DL
open PySem L2

/-! ### keys of dicts -/
def keyA : D → Option Key
  | .int i => some (.inl i)
  | .str s => some (.inr s)
  | _ => none
def keysA : List D → Option (List Key)
  | [] => some []
  | d :: ds => (keyA d).bind fun k => (keysA ds).map (k :: ·)
def keyT : D → Option (List Key)
  | .tup ds => keysA ds
  | _ => none
def kD : Key → D
  | .inl i => .int i
  | .inr s => .str s
def ktD (k : List Key) : D := .tup (k.map kD)
section
variable {P : Pm} {F H : Hp}
theorem keyA_is {d : D} {v : V} {k : Key} (i : Is P F d v) (h : keyA d = some k) : v = kV k := by
  cases d with
  | int j =>
    cases h
    rw [Is] at i
    exact i
  | str j =>
    cases h
    rw [Is] at i
    exact i
  | _ => cases h
theorem keysA_is : ∀ {ds : List D} {vs : List V} {ks : List Key}, IsL P F ds vs → keysA ds = some ks → vs = ks.map kV
  | [], _, _, i, h => by
    cases h
    exact i.unnil
  | d :: ds, _, _, i, h => by
    obtain ⟨v, r, rfl, i1, i2⟩ := i.uncons
    unfold keysA at h
    cases h1 : keyA d with
    | none =>
      rw [h1] at h
      cases h
    | some k =>
      rw [h1] at h
      cases h2 : keysA ds with
      | none =>
        rw [h2] at h
        cases h
      | some ks' =>
        rw [h2] at h
        cases h
        rw [keyA_is i1 h1, keysA_is i2 h2]
        rfl
theorem keyT_is {d : D} {v : V} {k : List Key} (i : Is P F d v) (h : keyT d = some k) : ∃ b, v = .ref b ∧ F b = some (.tup (k.map kV)) := by
  cases d with
  | tup ds =>
    rw [Is] at i
    obtain ⟨a, vs, h1, h2, h3⟩ := i
    rw [keysA_is h3 h] at h2
    exact ⟨a, h1, h2⟩
  | _ => cases h
theorem is_kD (k : Key) : Is P F (kD k) (kV k) := by
  cases k with
  | inl i => exact is_int
  | inr s => exact is_str
theorem isL_kD : ∀ (k : List Key), IsL P F (k.map kD) (k.map kV)
  | [] => .nil
  | k :: r => .cons (is_kD k) (isL_kD r)
theorem is_ktD {k : List Key} {b : Addr} (h : F b = some (.tup (k.map kV))) : Is P F (ktD k) (.ref b) := by
  unfold ktD
  rw [Is]
  exact ⟨b, _, rfl, h, isL_kD k⟩
/-! ### look up and store -/
section
variable {κ : Type} [DecidableEq κ]
def valD (ks : List κ) (xs : List D) (k : κ) : Option D := ((ks.zip xs).find? fun p => decide (p.1 = k)).map (·.2)
theorem valD_is {k : κ} : ∀ {ks : List κ} {xs : List D} {vs : List V}, IsL P F xs vs → (∀ d, valD ks xs k = some d → ∃ v, valV (ks.zip vs) k = some v ∧ Is P F d v) ∧ (valD ks xs k = none → valV (ks.zip vs) k = none)
  | [], _, _, _ => ⟨fun d h => (by cases h), fun _ => rfl⟩
  | k' :: ks, [], _, i => by
    obtain rfl := i.unnil
    exact ⟨fun d h => (by cases h), fun _ => rfl⟩
  | k' :: ks, x :: xs, _, i => by
    obtain ⟨v, r, rfl, i1, i2⟩ := i.uncons
    by_cases hk : k' = k
    · have e1 : valD (k' :: ks) (x :: xs) k = some x := by simp [valD, List.find?_cons, hk]
      have e2 : valV ((k' :: ks).zip (v :: r)) k = some v := valV_pos hk
      exact ⟨fun d h => by rw [e1] at h; cases h; exact ⟨v, e2, i1⟩, fun h => by rw [e1] at h; cases h⟩
    · have e1 : valD (k' :: ks) (x :: xs) k = valD ks xs k := by simp [valD, List.find?_cons, hk]
      have e2 : valV ((k' :: ks).zip (v :: r)) k = valV (ks.zip r) k := valV_neg hk
      rw [e1, e2]
      exact valD_is i2
def repX {α : Type} : List κ → List α → κ → α → List α
  | k' :: ks, x :: xs, k, d => (if k' = k then d else x) :: repX ks xs k d
  | _, _, _, _ => []
theorem repX_cons {α : Type} (k' : κ) (ks : List κ) (x : α) (xs : List α) (k : κ) (d : α) : repX (k' :: ks) (x :: xs) k d = (if k' = k then d else x) :: repX ks xs k d := rfl
def putKs (ks : List κ) (k : κ) : List κ := if k ∈ ks then ks else ks ++ [k]
def putXs {α : Type} (ks : List κ) (xs : List α) (k : κ) (d : α) : List α := if k ∈ ks then repX ks xs k d else xs ++ [d]
theorem rep_is {k : κ} {d : D} {v : V} (hd : Is P F d v) : ∀ {ks : List κ} {xs : List D} {vs : List V}, ks.length = vs.length → IsL P F xs vs → IsL P F (repX ks xs k d) (repX ks vs k v)
  | [], _, _, _, _ => .nil
  | k' :: ks, [], _, l, i => by
    obtain rfl := i.unnil
    simp at l
  | k' :: ks, x :: xs, _, l, i => by
    obtain ⟨w, r, rfl, i1, i2⟩ := i.uncons
    have ih := rep_is (k := k) hd (ks := ks) (by simpa using l) i2
    unfold repX
    by_cases hk : k' = k
    · rw [if_pos hk, if_pos hk]
      exact .cons hd ih
    · rw [if_neg hk, if_neg hk]
      exact .cons i1 ih
theorem rep_zip {k : κ} {v : V} : ∀ {ks : List κ} {vs : List V}, ks.length = vs.length → (ks.zip vs).map (fun kv => if kv.1 = k then (kv.1, v) else kv) = ks.zip (repX ks vs k v)
  | [], [], _ => rfl
  | k' :: ks, w :: vs, l => by
    rw [List.zip_cons_cons, List.map_cons, rep_zip (by simpa using l), repX_cons, List.zip_cons_cons]
    by_cases hk : k' = k
    · simp [hk]
    · simp [hk]
  | [], _ :: _, l => by simp at l
  | _ :: _, [], l => by simp at l
theorem rep_len {α : Type} {k : κ} {v : α} : ∀ {ks : List κ} {vs : List α}, ks.length = vs.length → (repX ks vs k v).length = ks.length
  | [], [], _ => rfl
  | k' :: ks, w :: vs, l => by
    unfold repX
    simp [rep_len (k := k) (v := v) (ks := ks) (vs := vs) (by simpa using l)]
  | [], _ :: _, l => by simp at l
  | _ :: _, [], l => by simp at l
theorem any_mem {k : κ} : ∀ {ks : List κ} {vs : List V}, ks.length = vs.length → ((ks.zip vs).any fun kv => decide (kv.1 = k)) = decide (k ∈ ks)
  | [], [], _ => rfl
  | k' :: ks, w :: vs, l => by
    rw [List.zip_cons_cons, List.any_cons, any_mem (by simpa using l)]
    by_cases hk : k' = k
    · simp [hk]
    · simp [hk, Ne.symm hk]
  | [], _ :: _, l => by simp at l
  | _ :: _, [], l => by simp at l
theorem put_is {k : κ} {d : D} {v : V} {ks : List κ} {xs : List D} {vs : List V} (hd : Is P F d v) (l : ks.length = vs.length) (i : IsL P F xs vs) :
    putK (ks.zip vs) k v = (putKs ks k).zip (putXs ks vs k v) ∧ (putKs ks k).length = (putXs ks vs k v).length ∧ IsL P F (putXs ks xs k d) (putXs ks vs k v) := by
  unfold putK putKs putXs
  rw [any_mem l]
  by_cases hk : k ∈ ks
  · rw [if_pos (decide_eq_true hk), if_pos hk, if_pos hk, if_pos hk]
    exact ⟨rep_zip l, (rep_len l).symm, rep_is hd l i⟩
  · rw [if_neg (by simpa using hk), if_neg hk, if_neg hk, if_neg hk]
    refine ⟨?_, by simp [l], i.append (.cons hd .nil)⟩
    rw [List.zip_append l]
    rfl
end
end
def dgetD : D → D → Option D
  | .dT ks xs, y => (keyT y).bind (valD ks xs)
  | .dK ks xs, y => (keyA y).bind (valD ks xs)
  | _, _ => none
/-- is it a dict that knows this key, and what it has there -/
def dlookD : D → D → Option (Option D)
  | .dT ks xs, y => (keyT y).map (valD ks xs)
  | .dK ks xs, y => (keyA y).map (valD ks xs)
  | _, _ => none
section
variable {X : Cx} {P : Pm} {F0 : Fz} {H0 : Hp} {W : WX} {a b c e o : Expr} {es : List Expr} {fa fb fc : Env → Res D} {fs : Env → Res (List D)} {pos p apos cpos : Pos} {σ : St} {H F : Hp}
theorem look_get {x y : D} {vx vy : V} {r : Option D} (s : Sb P F H) (ix : Vw P F H x vx) (iy : Is P F y vy) (h : dlookD x y = some r) : ∃ a o, vx = .ref a ∧ DGet H a vy o ∧ (∀ d, r = some d → ∃ v, o = some v ∧ Is P F d v) ∧ (r = none → o = none) := by
  cases x with
  | dT ks xs =>
    obtain ⟨a, vs, rfl, h1, h2, h3⟩ := ix
    have h : (keyT y).map (valD ks xs) = some r := h
    cases hk : keyT y with
    | none =>
      rw [hk] at h
      cases h
    | some k =>
      rw [hk] at h
      have hr : valD ks xs k = r := Option.some.inj h
      obtain ⟨b, rfl, hb⟩ := keyT_is iy hk
      obtain ⟨q1, q2⟩ := valD_is (k := k) (ks := ks) h3
      refine ⟨a, valV (ks.zip vs) k, rfl, .inr ⟨_, k, b, h1, rfl, s.ex _ _ hb, rfl⟩, fun d hd => ?_, fun hn => q2 (hr.trans hn)⟩
      obtain ⟨v, e1, e2⟩ := q1 d (hr.trans hd)
      exact ⟨v, e1, e2⟩
  | dK ks xs =>
    obtain ⟨a, vs, rfl, h1, h2, h3⟩ := ix
    have h : (keyA y).map (valD ks xs) = some r := h
    cases hk : keyA y with
    | none =>
      rw [hk] at h
      cases h
    | some k =>
      rw [hk] at h
      have hr : valD ks xs k = r := Option.some.inj h
      have ev := keyA_is iy hk
      obtain ⟨q1, q2⟩ := valD_is (k := k) (ks := ks) h3
      refine ⟨a, valV (ks.zip vs) k, rfl, .inl ⟨_, k, h1, ev, rfl⟩, fun d hd => ?_, fun hn => q2 (hr.trans hn)⟩
      obtain ⟨v, e1, e2⟩ := q1 d (hr.trans hd)
      exact ⟨v, e1, e2⟩
  | _ => cases h
def dgetR (x y : D) : Res D := match dlookD x y with
  | some (some d) => .ok d
  | _ => .bad
/-- d[k] -/
theorem pd_dget (hu : X.A.units + 1 < cLine) (ha : PE X a (tV P F0 H0 W fa)) (hb : PE X b (tE P F0 H0 W fb)) (hs : NoSl b) : PE X (.Subscript a b pos) (tE P F0 H0 W (fN dgetR fa fb)) := (pe_dget hu ha hb hs).imp fun σ H Q ⟨F, ρ, er, z⟩ => by
  refine ⟨F, ρ, er, (PostG.bind (rel := rVw P) z).imp ?_⟩
  rintro x H1 ⟨F1, dx, g1, i1, z1⟩
  refine ⟨F1, ρ, er.grow g1, (PostG.bind (rel := rIs P) z1).imp ?_⟩
  rintro y H2 ⟨F2, dy, g2, i2, z2⟩
  unfold dgetR at z2
  split at z2
  · rename_i d hd
    obtain ⟨ad, ov, rfl, h1, h2, _⟩ := look_get g2.s (i1.mono g2.f g2.h dx) i2 hd
    obtain ⟨v, rfl, iv⟩ := h2 d rfl
    exact ⟨ad, v, rfl, h1, z2.here g2.s iv⟩
  · exact z2.elim
def dinR (y x : D) : Res D := match dlookD x y with
  | some r => .ok (.bl r.isSome)
  | _ => .bad
def dnotR (y x : D) : Res D := match dlookD x y with
  | some r => .ok (.bl (!r.isSome))
  | _ => .bad
/-- k in d -/
theorem pc_dinD (hu : X.A.units + 1 < cLine) (ha : PE X a (tE P F0 H0 W fa)) (hb : PE X b (tV P F0 H0 W fb)) : PC X .In a b (tE P F0 H0 W (fN dinR fa fb)) := ⟨fun pins s σ H Q I ⟨F, ρ, er, z⟩ => (pc_din hu ha hb).run pins s σ H Q I (by
  refine ⟨F, ρ, er, (PostG.bind (rel := rIs P) z).imp ?_⟩
  rintro y H1 ⟨F1, dy, g1, i1, z1⟩
  refine ⟨F1, ρ, er.grow g1, (PostG.bind (rel := rVw P) z1).imp ?_⟩
  rintro x H2 ⟨F2, dx, g2, i2, z2⟩
  unfold dinR at z2
  split at z2
  · rename_i r hd
    obtain ⟨ad, ov, rfl, h1, h2, h3⟩ := look_get g2.s i2 (i1.mono g2.f dy) hd
    have e : ov.isSome = r.isSome := by
      cases r with
      | none =>
        rw [h3 rfl]
        rfl
      | some d =>
        obtain ⟨v, rfl, _⟩ := h2 d rfl
        rfl
    exact ⟨ad, ov, rfl, h1, by rw [e]; exact z2.here g2.s is_bl⟩
  · exact z2.elim)⟩
theorem pc_dnotD (hu : X.A.units + 1 < cLine) (ha : PE X a (tE P F0 H0 W fa)) (hb : PE X b (tV P F0 H0 W fb)) : PC X .NotIn a b (tE P F0 H0 W (fN dnotR fa fb)) := ⟨fun pins s σ H Q I ⟨F, ρ, er, z⟩ => (pc_dnotin hu ha hb).run pins s σ H Q I (by
  refine ⟨F, ρ, er, (PostG.bind (rel := rIs P) z).imp ?_⟩
  rintro y H1 ⟨F1, dy, g1, i1, z1⟩
  refine ⟨F1, ρ, er.grow g1, (PostG.bind (rel := rVw P) z1).imp ?_⟩
  rintro x H2 ⟨F2, dx, g2, i2, z2⟩
  unfold dnotR at z2
  split at z2
  · rename_i r hd
    obtain ⟨ad, ov, rfl, h1, h2, h3⟩ := look_get g2.s i2 (i1.mono g2.f dy) hd
    have e : ov.isSome = r.isSome := by
      cases r with
      | none =>
        rw [h3 rfl]
        rfl
      | some d =>
        obtain ⟨v, rfl, _⟩ := h2 d rfl
        rfl
    exact ⟨ad, ov, rfl, h1, by rw [e]; exact z2.here g2.s is_bl⟩
  · exact z2.elim)⟩
/-- {} -/
theorem nd_dnT : PE X (.Dict [] [] pos) (tN P F0 H0 W (fun _ => .ok (.dT [] []))) := pe_dnewT.imp fun σ H Q ⟨F, ρ, er, z⟩ => fun p hp =>
  z _ F _ (.junk er.s (.new hp)) ⟨p, rfl, .of hp, er.s.back hp, [], upd_same, rfl, .nil⟩
theorem nd_dnK : PE X (.Dict [] [] pos) (tN P F0 H0 W (fun _ => .ok (.dK [] []))) := pe_dnewK.imp fun σ H Q ⟨F, ρ, er, z⟩ => fun p hp =>
  z _ F _ (.junk er.s (.new hp)) ⟨p, rfl, .of hp, er.s.back hp, [], upd_same, rfl, .nil⟩
/-! ### x[k] = v, x a name whose dict is one's own -/
def putE (i : Nat) (ρ : Env) (y d : D) : RS := match ρ[i]? with
  | some (some (.ow (.dT ks xs))) => (match keyT y with
    | some k => if small (ks.length + 1) = true then .nx (ρ.set i (some (.ow (.dT (putKs ks k) (putXs ks xs k d))))) else .bad
    | none => .bad)
  | some (some (.ow (.dK ks xs))) => (match keyA y with
    | some k => if small (ks.length + 1) = true then .nx (ρ.set i (some (.ow (.dK (putKs ks k) (putXs ks xs k d))))) else .bad
    | none => .bad)
  | _ => .bad
def isOwD (i : Nat) (ρ : Env) : Res Unit := match ρ[i]? with
  | some (some (.ow (.dT _ _))) => .ok ()
  | some (some (.ow (.dK _ _))) => .ok ()
  | _ => .bad
theorem isOwD_cases (i : Nat) (ρ : Env) : (isOwD i ρ = .bad) ∨ ∃ dd, isOwD i ρ = .ok () ∧ ρ[i]? = some (some (.ow dd)) := by
  unfold isOwD
  split
  · rename_i q
    exact .inr ⟨_, rfl, q⟩
  · rename_i q
    exact .inr ⟨_, rfl, q⟩
  · exact .inl rfl
abbrev sDput (i : Nat) (fk fv : Env → Res D) : Env → RS := fun ρ => bindS (fv ρ) ρ fun d => bindS (isOwD i ρ) ρ fun _ => bindS (fk ρ) ρ fun y => putE i ρ y d
theorem sd_dput (i : Nat) {x : Str} {p1 pos' : Pos} (hu : X.A.units + 1 < cLine) (hk : PE X b (tE P F0 H0 W fb)) (hv : PE X c (tE P F0 H0 W fc)) (hN : X.N[i]? = some x := by rfl) (hvi : Vis X.env.scope x := by first | exact Or.inl rfl | exact Or.inr (Or.inl rfl) | exact Or.inr (Or.inr rfl)) (hd : (x == ("__debug__" : Str)) = false := by decide)
    (hcd : (x == ("__classdict__" : Str)) = false := by decide) (hs : swapsWith c (some (.Subscript (.Name x p1) b pos')) pos.line X.env = pure false := by rfl) :
    PS X (.Assign [.Subscript (.Name x p1) b pos'] c pos) (tS P F0 H0 W (sDput i fb fc)) := (ps_dput hu (pe_var hN hvi hd hcd) hk hv hs).imp fun N σ H ⟨F, ρ, er, z⟩ => by
  refine ⟨F, ρ, er, (PostS.bind (rel := rIs P) er z).imp ?_⟩
  rintro v H1 ⟨F1, d, g1, i1, z1⟩
  have er1 := er.grow g1
  rcases isOwD_cases i ρ with hb | ⟨dd, hb, hρ⟩
  · rw [hb] at z1
    exact z1.elim
  · rw [hb] at z1
    replace z1 : PostS P F0 H0 W F1 (bindS (fb ρ) ρ fun y => putE i ρ y d) N := z1
    obtain ⟨ad, hσ, _⟩ := er1.ow i dd hρ
    show ∃ w, σ[i]? = some (some w) ∧ tE P F0 H0 W fb σ H1 fun y H3 => ∃ a H4, w = .ref a ∧ DPut H3 a y v H4 ∧ N.nx σ H4
    exact (by
      refine ⟨.ref ad, hσ, F1, ρ, er1, (PostS.bind (rel := rIs P) er1 z1).imp ?_⟩
      rintro y H3 ⟨F3, dy, g3, i3, z3⟩
      have er3 := er1.grow g3
      obtain ⟨ad', h1, h2, h3, h4⟩ := er3.ow i dd hρ
      rw [hσ] at h1
      cases h1
      unfold putE at z3
      rw [hρ] at z3
      cases dd with
      | dT ks xs =>
        obtain ⟨vs, k1, k2, k3⟩ := h4
        dsimp only at z3
        cases hky : keyT dy with
        | none =>
          rw [hky] at z3
          exact z3.elim
        | some k =>
          rw [hky] at z3
          dsimp only at z3
          by_cases hz : small (ks.length + 1) = true
          · rw [if_pos hz] at z3
            obtain ⟨bb, rfl, hb⟩ := keyT_is i3 hky
            obtain ⟨e1, e2, e3⟩ := put_is (k := k) (i1.mono g3.f d) k2 k3
            refine ⟨ad, _, rfl, .inr ⟨_, k, bb, k1, rfl, er3.s.ex _ _ hb, ?_, rfl⟩, z3 σ F3 _ (er3.mut hρ hσ ⟨_, by rw [upd_same, e1], e2, e3⟩) (.refl F3)⟩
            have := small_lt hz
            simp [List.length_zip, ← k2]
            omega
          · rw [if_neg hz] at z3
            exact z3.elim
      | dK ks xs =>
        obtain ⟨vs, k1, k2, k3⟩ := h4
        dsimp only at z3
        cases hky : keyA dy with
        | none =>
          rw [hky] at z3
          exact z3.elim
        | some k =>
          rw [hky] at z3
          dsimp only at z3
          by_cases hz : small (ks.length + 1) = true
          · rw [if_pos hz] at z3
            have ey := keyA_is i3 hky
            obtain ⟨e1, e2, e3⟩ := put_is (k := k) (i1.mono g3.f d) k2 k3
            refine ⟨ad, _, rfl, .inl ⟨_, k, k1, ey, ?_, rfl⟩, z3 σ F3 _ (er3.mut hρ hσ ⟨_, by rw [upd_same, e1], e2, e3⟩) (.refl F3)⟩
            have := small_lt hz
            simp [List.length_zip, ← k2]
            omega
          · rw [if_neg hz] at z3
            exact z3.elim
      | _ => exact z3.elim)
end
end DL
namespace DL
open PySem L2

/-! ### walks over dicts -/
section
variable {P : Pm} {F H : Hp}
/-- a tuple that stands is data -/
theorem tup_in {q : Addr} {vs : List V} (s : Sb P F H) (h : H q = some (.tup vs)) : ∃ F2, Grow P F H F2 H ∧ F2 q = some (.tup vs) := by
  cases e : F q with
  | some o =>
    have := s.ex _ _ e
    rw [h] at this
    cases this
    exact ⟨F, .refl s, e⟩
  | none => exact ⟨upd F q (.tup vs), ⟨.new e, .refl H, s.keep e h rfl, fun a o ho => by
      by_cases z : a = q
      · subst z
        rw [upd_same] at ho
        cases ho
        exact .inr (.inr ⟨_, rfl⟩)
      · rw [upd_ne z] at ho
        exact .inl ho⟩, upd_same⟩
theorem keys_in : ∀ {ks : List (List Key)} {vs : List V} {bs : List Addr} {F : Hp}, Sb P F H → ks.length = vs.length → IsKeys H (ks.zip vs) bs → ∃ F2, Grow P F H F2 H ∧ IsL P F2 (ks.map ktD) (bs.map V.ref)
  | [], vs, bs, F, s, l, h => by
    cases h
    exact ⟨F, .refl s, .nil⟩
  | k :: ks, [], bs, F, s, l, h => by simp at l
  | k :: ks, v :: vs, bs, F, s, l, h => by
    cases h with
    | @cons _ b _ bs' h1 h2 =>
      obtain ⟨F1, g1, e1⟩ := tup_in s h1
      obtain ⟨F2, g2, i2⟩ := keys_in (vs := vs) g1.s (by simpa using l) h2
      exact ⟨F2, g1.trans g2, .cons (is_ktD (g2.f _ _ e1)) i2⟩
def keysD : D → Res (List D)
  | .dT ks _ => .ok (ks.map ktD)
  | .dK ks _ => .ok (ks.map kD)
  | _ => .bad
theorem zip_get {α β : Type} : ∀ {ks : List α} {vs : List β} {i : Nat} {k : α}, ks.length = vs.length → ks[i]? = some k → ∃ v, (ks.zip vs)[i]? = some (k, v)
  | ks, vs, i, k, l, h => by
    have hi := lt_of_get h
    refine ⟨vs[i]'(by omega), ?_⟩
    rw [List.getElem?_zip_eq_some]
    exact ⟨h, List.getElem?_eq_getElem (by omega)⟩
theorem itkt_D {d : Addr} {o : Obj} {ks : List (List Key)} {vs : List V} (l : ks.length = vs.length) (h : F d = some (.frz o (.dT (ks.zip vs)))) : ItD P F H (ks.map ktD) (Itkt d o (ks.zip vs)) := fun j F1 H1 e1 e2 => by
  have hd : H1 d = some (.frz o (.dT (ks.zip vs))) := e2.ex _ _ (e1 _ _ h)
  have hl : (ks.zip vs).length = ks.length := by simp [List.length_zip, ← l]
  refine ⟨fun x hx => ?_, fun hn => ⟨hd, by rw [hl]; simpa using hn⟩⟩
  rw [List.getElem?_map] at hx
  cases hk : ks[j]? with
  | none =>
    rw [hk] at hx
    cases hx
  | some k =>
    rw [hk] at hx
    cases hx
    refine ⟨⟨hd, by rw [hl]; exact lt_of_get hk⟩, ?_⟩
    rintro v H2 ⟨rfl, k', w, q, h1, rfl, h2⟩
    obtain ⟨w', h3⟩ := zip_get l hk
    rw [h3] at h1
    cases h1
    obtain ⟨F2, g2, e3⟩ := tup_in e2 h2
    exact ⟨F2, g2, is_ktD e3⟩
theorem itk_D {d : Addr} {o : Obj} {ks : List Key} {vs : List V} (l : ks.length = vs.length) (h : F d = some (.frz o (.dK (ks.zip vs)))) : ItD P F H (ks.map kD) (Itk d o (ks.zip vs)) := fun j F1 H1 e1 e2 => by
  have hd : H1 d = some (.frz o (.dK (ks.zip vs))) := e2.ex _ _ (e1 _ _ h)
  have hl : (ks.zip vs).length = ks.length := by simp [List.length_zip, ← l]
  refine ⟨fun x hx => ?_, fun hn => ⟨hd, by rw [hl]; simpa using hn⟩⟩
  rw [List.getElem?_map] at hx
  cases hk : ks[j]? with
  | none =>
    rw [hk] at hx
    cases hx
  | some k =>
    rw [hk] at hx
    cases hx
    refine ⟨⟨hd, by rw [hl]; exact lt_of_get hk⟩, ?_⟩
    rintro v H2 ⟨rfl, k', w, h1, rfl⟩
    obtain ⟨w', h3⟩ := zip_get l hk
    rw [h3] at h1
    cases h1
    exact ⟨F1, .refl e2, is_kD k⟩
end
section
variable {X : Cx} {P : Pm} {F0 : Fz} {H0 : Hp} {W : WX} {a b c e l o tg : Expr} {es : List Expr} {fa fb fc : Env → Res D} {fs : Env → Res (List D)} {pos p apos cpos : Pos} {σ : St} {H F : Hp}
theorem un_dT {ks : List (List Key)} {xs : List D} {v : V} (h : Is P F (.dT ks xs) v) : ∃ a o vs, v = .ref a ∧ F a = some (.frz o (.dT (ks.zip vs))) ∧ ks.length = vs.length ∧ IsL P F xs vs := by
  rw [Is] at h
  exact h
theorem un_dK {ks : List Key} {xs : List D} {v : V} (h : Is P F (.dK ks xs) v) : ∃ a o vs, v = .ref a ∧ F a = some (.frz o (.dK (ks.zip vs))) ∧ ks.length = vs.length ∧ IsL P F xs vs := by
  rw [Is] at h
  exact h
abbrev iKs (f : Env → Res D) : Env → Res (List D) := fun ρ => f ρ >>= keysD
/-- for k in d -/
theorem id_keys (h : PE X l (tE P F0 H0 W fa)) : PI X tg l (tI P F0 H0 W (iKs fa)) := (pi_keys h).imp fun σ H R ⟨F, ρ, er, z⟩ => by
  refine ⟨F, ρ, er, (PostG.bind (rel := rIs P) z).imp ?_⟩
  rintro v H1 ⟨F1, d, g, i, q⟩
  unfold keysD at q
  split at q
  · obtain ⟨ad, od, vs, rfl, h1, h2, h3⟩ := un_dT i
    exact ⟨ad, od, rfl, .inr ⟨_, g.s.ex _ _ h1, q.here g.s (itkt_D h2 h1)⟩⟩
  · obtain ⟨ad, od, vs, rfl, h1, h2, h3⟩ := un_dK i
    exact ⟨ad, od, rfl, .inl ⟨_, g.s.ex _ _ h1, q.here g.s (itk_D h2 h1)⟩⟩
  · exact q.elim
/-! ### list(d) -/
def cListT : List D → Option D
  | [.dT ks _] => some (.lst (ks.map ktD))
  | _ => none
theorem ic_listT (hc : X.calm = true) : CallR X (.type "list") (rcO P cListT) := fun pins s σ H xs us Q I rx ⟨F, ds, d, e, i, hd, q⟩ => by
  unfold cListT at hd
  split at hd
  · cases hd
    obtain ⟨v, r, rfl, i1, i⟩ := i.uncons
    obtain rfl := i.unnil
    obtain ⟨ad, vs, rfl, h1, h2, h3⟩ := i1
    refine call_list_dT hc pins s σ H _ us Q I rx ⟨ad, _, rfl, h1, fun p bs hp hk => ?_⟩
    obtain ⟨F2, g2, i2⟩ := keys_in e h2 hk
    exact q _ (upd F2 p (.lst (bs.map V.ref))) _ (g2.trans (.new g2.s hp)) (by rw [Is]; exact ⟨p, _, rfl, .inl upd_same, i2.mono (.new (g2.s.back hp)) _⟩)
  · cases hd
/-! ### d.get(k, x) -/
def isDc (x : D) : Res Unit := match x with
  | .dT _ _ => .ok ()
  | .dK _ _ => .ok ()
  | _ => .bad
def dgetO (x y z : D) : Res D := match dlookD x y with
  | some (some d) => .ok d
  | some none => .ok z
  | none => .bad
abbrev fDget (fa fb fc : Env → Res D) : Env → Res D := fun ρ => do let x ← fa ρ; let _ ← isDc x; let y ← fb ρ; let z ← fc ρ; dgetO x y z
theorem isDc_of {x : D} {v : V} (i : Vw P F H x v) (h : isDc x = .ok ()) : ∃ a, v = .ref a ∧ IsD H a := by
  unfold isDc at h
  split at h
  · obtain ⟨a, vs, h1, h2, _⟩ := i
    exact ⟨a, h1, .inr ⟨_, h2⟩⟩
  · obtain ⟨a, vs, h1, h2, _⟩ := i
    exact ⟨a, h1, .inl ⟨_, h2⟩⟩
  · cases h
theorem isDc_cases (x : D) : isDc x = .ok () ∨ isDc x = .bad := by
  unfold isDc
  split
  · exact .inl rfl
  · exact .inl rfl
  · exact .inr rfl
theorem pd_dgetO (hu : X.A.units + 1 < cLine) (ho : PE X o (tV P F0 H0 W fa)) (hk : PE X b (tE P F0 H0 W fb)) (hx : PE X c (tE P F0 H0 W fc)) (m : M2 X o "get" apos b c cpos := by exact ⟨rfl, rfl, rfl, rfl⟩) : PE X (.Call (.Attribute o "get" apos) [b, c] [] cpos) (tE P F0 H0 W (fDget fa fb fc)) :=
  (pe_dget2 hu ho hk hx m).imp fun σ H Q ⟨F, ρ, er, z⟩ => by
  refine ⟨F, ρ, er, (PostG.bind (rel := rVw P) z).imp ?_⟩
  rintro x H1 ⟨F1, dx, g1, i1, z1⟩
  rcases isDc_cases dx with hd | hd
  · replace z1 : PostG P W (rIs P) (isDc dx >>= fun _ => do let y ← fb ρ; let z ← fc ρ; dgetO dx y z) F1 σ H1 Q := z1
    rw [hd] at z1
    replace z1 : PostG P W (rIs P) (do let y ← fb ρ; let z ← fc ρ; dgetO dx y z) F1 σ H1 Q := z1
    obtain ⟨ad, rfl, hD⟩ := isDc_of i1 hd
    refine ⟨ad, rfl, hD, F1, ρ, er.grow g1, (PostG.bind (rel := rIs P) z1).imp ?_⟩
    rintro y H2 ⟨F2, dy, g2, i2, z2⟩
    refine ⟨F2, ρ, (er.grow g1).grow g2, (PostG.bind (rel := rIs P) z2).imp ?_⟩
    rintro w H3 ⟨F3, dz, g3, i3, z3⟩
    unfold dgetO at z3
    split at z3
    · rename_i d hl
      obtain ⟨ad', ov, ea, h1, h2, _⟩ := look_get g3.s ((i1.mono g2.f g2.h dx).mono g3.f g3.h dx) (i2.mono g3.f dy) hl
      cases ea
      obtain ⟨v, rfl, iv⟩ := h2 d rfl
      exact ⟨_, h1, z3.here g3.s iv⟩
    · rename_i hl
      obtain ⟨ad', ov, ea, h1, _, h3⟩ := look_get g3.s ((i1.mono g2.f g2.h dx).mono g3.f g3.h dx) (i2.mono g3.f dy) hl
      cases ea
      have := h3 rfl
      subst this
      exact ⟨_, h1, z3.here g3.s i3⟩
    · exact z3.elim
  · replace z1 : PostG P W (rIs P) (isDc dx >>= fun _ => do let y ← fb ρ; let z ← fc ρ; dgetO dx y z) F1 σ H1 Q := z1
    rw [hd] at z1
    exact z1.elim
end
end DL
namespace DL
open PySem L2

/-! ### dict(a list of pairs), the keys tuples -/
def mergeT (kvs more : List (List Key × V)) : List (List Key × V) := more.foldl (fun acc kv => putK acc kv.1 kv.2) kvs
/-- a pair of the list: its own address, key, the key's address, value -/
structure Pq where
  a : Addr
  k : List Key
  b : Addr
  v : V
section
variable {X : Cx} {pins : List (Addr × Obj)} {σ : St} {H : Hp} {s : Shared}
theorem refs_vals : ∀ {as : List Addr} {us : List Value}, Vals (as.map V.ref) us → us = as.map Value.ref
  | [], _, .nil => rfl
  | a :: r, _, .cons (b := u) h t => by
    cases (show u = Value.ref a from h)
    rw [refs_vals t]
    rfl
/-- the pairs' values, as they stand -/
theorem pq_vals (I : Inv X pins σ H s) : ∀ {L : List Pq}, (∀ q ∈ L, H q.a = some (.tup [.ref q.b, q.v]) ∧ H q.b = some (.tup (q.k.map kV))) →
    ∃ us : List Value, us.length = L.length ∧ ∀ (j : Nat) (q : Pq) (u : Value), L[j]? = some q → us[j]? = some u → RelV q.v u ∧ s.heap.IsTuple q.a #[.ref q.b, u]
  | [], _ => ⟨[], rfl, fun j q u h => by simp at h⟩
  | q :: L, h => by
    obtain ⟨us, h1, h2⟩ := pq_vals I (L := L) fun x hx => h x (List.mem_cons_of_mem _ hx)
    obtain ⟨h3, h4⟩ := h q List.mem_cons_self
    obtain ⟨_, its, rv, it⟩ := (show ObjOk X.prog X.w H s.heap q.a (.tup [.ref q.b, q.v]) from I.hok _ _ h3)
    cases rv with
    | cons r1 t1 =>
      cases t1 with
      | cons r2 t2 =>
        cases t2
        rename_i u1 u2
        cases (show u1 = Value.ref q.b from r1)
        refine ⟨u2 :: us, by simp [h1], fun j x u hj hu => ?_⟩
        cases j with
        | zero =>
          simp at hj hu
          subst hj hu
          exact ⟨r2, it⟩
        | succ j =>
          simp at hj hu
          exact h2 j x u hj hu
theorem kt_merge : ∀ {L : List Pq} {us : List Value} {kvs : List (List Key × V)} {xs : List (List Key × Addr × Value)}, us.length = L.length → (∀ q ∈ L, H q.b = some (.tup (q.k.map kV))) → (∀ (j : Nat) (q : Pq) (u : Value), L[j]? = some q → us[j]? = some u → RelV q.v u) → KT H kvs xs →
    KT H (mergeT kvs (L.map fun q => (q.k, q.v))) (storedAllH xs ((L.zip us).map fun p => (p.1.k, p.1.b, p.2)))
  | [], us, kvs, xs, l, _, _, r => by
    cases us with
    | nil => exact r
    | cons _ _ => simp at l
  | q :: L, [], kvs, xs, l, _, _, r => by simp at l
  | q :: L, u :: us, kvs, xs, l, hb, hv, r => by
    have r1 := r.put q.k (hb q List.mem_cons_self) (hv 0 q u rfl rfl)
    exact kt_merge (L := L) (us := us) (by simpa using l) (fun x hx => hb x (List.mem_cons_of_mem _ hx)) (fun j x w h1 h2 => hv (j + 1) x w (by simpa using h1) (by simpa using h2)) r1
theorem merge_len : ∀ (L : List (List Key × V)) (kvs : List (List Key × V)), (mergeT kvs L).length ≤ kvs.length + L.length
  | [], kvs => by simp [mergeT]
  | q :: L, kvs => by
    have h1 := length_putK kvs q.1 q.2
    have h2 := merge_len L (putK kvs q.1 q.2)
    have e : mergeT kvs (q :: L) = mergeT (putK kvs q.1 q.2) L := rfl
    rw [e]
    simp
    omega
end
section
variable {X : Cx}
theorem call_dictT (hcalm : X.calm = true) (hu : X.A.units + 8 < cLine) : CallR X (.type "dict") (fun xs H Q => ∃ (a : Addr) (L : List Pq), xs = [.ref a] ∧ Rd H a (.lst (L.map fun q => V.ref q.a)) ∧ (∀ q ∈ L, H q.a = some (.tup [.ref q.b, q.v]) ∧ H q.b = some (.tup (q.k.map kV))) ∧ L.length ≤ 1000000 ∧
    ∀ p, H p = none → Q (.ref p) (upd H p (.dT (mergeT [] (L.map fun q => (q.k, q.v)))))) := by
  intro pins s σ H xs us Q I r ⟨a, L, ex, hq, hp, hl, q⟩
  subst ex
  obtain ⟨u, eu, rx⟩ := r.one
  subst eu
  cases rx
  obtain ⟨hz, its, n, rv, hls⟩ := Inv.rdl I hq
  have ei : its = (L.map (·.a)).map Value.ref := refs_vals (by rw [List.map_map]; exact rv)
  obtain ⟨ws, w1, w2⟩ := pq_vals I hp
  have ok1 : PlainSeq "list" s.heap a its.toArray := ⟨_, n, hls, rfl, rfl, rfl⟩
  have hps : ∀ (j : Nat) (k v : Value), ((L.zip ws).map fun p => ((Value.ref p.1.b), p.2))[j]? = some (k, v) → ∃ q, L[j]? = some q ∧ ws[j]? = some v ∧ k = .ref q.b := by
    intro j k v h
    rw [List.getElem?_map] at h
    cases hz : (L.zip ws)[j]? with
    | none =>
      rw [hz] at h
      cases h
    | some p =>
      rw [hz] at h
      cases h
      rw [List.getElem?_zip_eq_some] at hz
      exact ⟨p.1, hz.1, hz.2, rfl⟩
  have ok2 : PairItems s.heap its.toArray (fun j => ((L[j]?).map (·.a)).getD 0) ((L.zip ws).map fun p => ((Value.ref p.1.b), p.2)) := by
    refine ⟨by simp [ei, w1], fun j k v h => ?_⟩
    obtain ⟨q', h1, h2, rfl⟩ := hps j k v h
    refine ⟨by simp [ei, h1], ?_⟩
    simp only [h1]
    exact .inl (w2 j q' v h1 h2).2
  have keyAt : ∀ x ∈ ((L.zip ws).map fun p => (p.1.k, p.1.b, p.2)), (tupleKind (mixKind X.prog X.w)).is s.heap x.1 x.2.1 := by
    intro x hx
    obtain ⟨p, hp', rfl⟩ := List.mem_map.mp hx
    exact key_of I.hok (hp p.1 (List.of_mem_zip hp').1).2
  refine call_dict_pairsH (knd := tupleKind (mixKind X.prog X.w)) (ps := (L.zip ws).map fun p => (p.1.k, p.1.b, p.2)) (PairArg.list a its.toArray _ _) (I.ok.hd hcalm) (by show X.A.units + 1 + 1 < cLine; omega) ⟨ok1, ok2⟩ ⟨by simp, fun i k v h => ?_⟩ (fun h' hk x hx => ?_) (by simp [w1]; exact Nat.le_trans hl (by decide)) fun h' tk hd' hk => ?_
  · obtain ⟨q', h1, h2, rfl⟩ := hps i k v h
    refine ⟨q'.k, q'.b, ?_, rfl⟩
    have e : (L.zip ws)[i]? = some (q', v) := List.getElem?_zip_eq_some.mpr ⟨h1, h2⟩
    rw [List.getElem?_map, e]
    rfl
  · exact tupleKind_stays.stays (fun b o vs n e _ => hk b o (Nat.ne_of_lt (Heap.lt_size e)) (by simp) e) (keyAt x hx)
  · have hm : (s.heap.objs.size == sysModules) = false := beq_eq_false_iff_ne.mpr (Nat.ne_of_gt I.big)
    have kt := kt_merge (kvs := []) (xs := []) w1 (fun q hq => (hp q hq).2) (fun j q u h1 h2 => (w2 j q u h1 h2).1) Paired.nil
    obtain ⟨o, es, ep, d1, d2, d3, d4, d5, d6⟩ := hd'
    have nS : H s.heap.objs.size = none := I.hok.fresh (Nat.le_refl _)
    refine ⟨.ref s.heap.objs.size, upd H s.heap.objs.size (.dT (mergeT [] (L.map fun q => (q.k, q.v)))), I.laid (t' := tk) (fun b o e => hk b o (by simp) e) (Nat.le_refl _) (show ObjOk X.prog X.w _ _ _ (.dT _) from ⟨?_, hm, _, kt.keeps fun b ys e => ?_, o, es, ep, d1, d2, d3, d4, d6⟩), rfl, q _ nS⟩
    · have := merge_len (L.map fun q => (q.k, q.v)) []
      simp at this
      exact Nat.le_trans this (Nat.le_trans hl (by decide))
    · rw [upd_ne (ne_of_none e nS)]
      exact e
/-! ### as data -/
def pairsT : List D → Option (List (List Key × D))
  | [] => some []
  | .tup [k, v] :: r => (keyT k).bind fun k => (pairsT r).map ((k, v) :: ·)
  | _ :: _ => none
def mergeD (acc : List (List Key) × List D) (l : List (List Key × D)) : List (List Key) × List D := l.foldl (fun acc p => (putKs acc.1 p.1, putXs acc.1 acc.2 p.1 p.2)) acc
def cDictT : List D → Option D
  | [.lst ps] => if small ps.length = true then (pairsT ps).map fun l => .dT (mergeD ([], []) l).1 (mergeD ([], []) l).2 else none
  | _ => none
section
variable {P : Pm} {F H : Hp}
theorem pairsT_is : ∀ {ps : List D} {vs : List V} {l : List (List Key × D)}, IsL P F ps vs → pairsT ps = some l → ∃ L : List Pq, vs = (L.map fun q => V.ref q.a) ∧ L.length = ps.length ∧ (∀ q ∈ L, F q.a = some (.tup [.ref q.b, q.v]) ∧ F q.b = some (.tup (q.k.map kV))) ∧ (L.map fun q => q.k) = l.map (·.1) ∧ IsL P F (l.map (·.2)) (L.map fun q => q.v)
  | [], _, _, i, h => by
    cases h
    obtain rfl := i.unnil
    exact ⟨[], rfl, rfl, fun q hq => by simp at hq, rfl, .nil⟩
  | p :: ps, _, l, i, h => by
    obtain ⟨v, r, rfl, i1, i2⟩ := i.uncons
    unfold pairsT at h
    split at h
    · rename_i h0
      cases h0
    · rename_i k d r' h0
      cases h0
      cases hk : keyT k with
      | none =>
        rw [hk] at h
        cases h
      | some kk =>
        rw [hk] at h
        cases hr : pairsT ps with
        | none =>
          have h' : (pairsT ps).map ((kk, d) :: ·) = some l := h
          rw [hr] at h'
          cases h'
        | some l' =>
          have h' : (pairsT ps).map ((kk, d) :: ·) = some l := h
          rw [hr] at h'
          cases h'
          obtain ⟨L, e1, e2, e3, e4, e5⟩ := pairsT_is i2 hr
          rw [Is] at i1
          obtain ⟨a, ws, rfl, h1, j⟩ := i1
          obtain ⟨w1, r1, rfl, j1, j⟩ := j.uncons
          obtain ⟨w2, r2, rfl, j2, j⟩ := j.uncons
          obtain rfl := j.unnil
          obtain ⟨b, rfl, hb⟩ := keyT_is j1 hk
          refine ⟨⟨a, kk, b, w2⟩ :: L, by simp [e1], by simp [e2], fun q hq => ?_, by simp [e4], .cons j2 e5⟩
          rcases List.mem_cons.mp hq with rfl | hq
          · exact ⟨h1, hb⟩
          · exact e3 q hq
    · cases h
theorem mergeD_is : ∀ {L : List Pq} {l : List (List Key × D)} {ks : List (List Key)} {xs : List D} {vs : List V}, (L.map fun q => q.k) = l.map (·.1) → IsL P F (l.map (·.2)) (L.map fun q => q.v) → ks.length = vs.length → IsL P F xs vs →
    ∃ vs', mergeT (ks.zip vs) (L.map fun q => (q.k, q.v)) = (mergeD (ks, xs) l).1.zip vs' ∧ (mergeD (ks, xs) l).1.length = vs'.length ∧ IsL P F (mergeD (ks, xs) l).2 vs'
  | [], [], ks, xs, vs, _, _, hl, i => ⟨vs, rfl, hl, i⟩
  | [], _ :: _, _, _, _, e, _, _, _ => by cases e
  | _ :: _, [], _, _, _, e, _, _, _ => by cases e
  | q :: L, p :: l, ks, xs, vs, e, j, hl, i => by
    rw [List.map_cons, List.map_cons] at e j
    have e1 : q.k = p.1 := (List.cons.inj e).1
    obtain ⟨v0, r0, ev, j1, j2⟩ := j.uncons
    cases ev
    obtain ⟨k1, k2, k3⟩ := put_is (k := q.k) j1 hl i
    obtain ⟨vs', m1, m2, m3⟩ := mergeD_is (L := L) (l := l) (ks := putKs ks q.k) (xs := putXs ks xs q.k p.2) (vs := putXs ks vs q.k q.v) (List.cons.inj e).2 j2 k2 k3
    have e2 : mergeD (ks, xs) (p :: l) = mergeD (putKs ks q.k, putXs ks xs q.k p.2) l := by
      rw [e1]
      rfl
    rw [e2]
    refine ⟨vs', ?_, m2, m3⟩
    rw [← m1, ← k1]
    rfl
end
section
variable {X : Cx} {P : Pm}
/-- dict(pairs): a new dict -/
theorem nd_dictT {F0 : Fz} {H0 : Hp} {W : WX} {e : Expr} {fa : Env → Res D} {p pos : Pos} (hcalm : X.calm = true) (hu : X.A.units + 8 < cLine) (hm : X.mg "dict" = none) (ha : PE X e (tV P F0 H0 W fa)) (hg : Gl X "dict" := by rfl)
    (he : starEach [e] X.env = (false, eval e X.env) :: starEach [] X.env := by rfl) (hpl : (backTo pos (starEach [] X.env)).any (·.1) = false := by rfl) :
    PE X (.Call (.Name "dict" p) [e] [] pos) (tN P F0 H0 W (fun ρ => do let x ← fa ρ; opt (cDictT [x]))) :=
  (pe_callTy (call_dictT hcalm hu) hg hm (by decide +kernel) (pa_cons ha pa_nil he) (by decide) (by decide) he hpl).imp fun σ H Q ⟨F, ρ, er, z⟩ => by
  show tV P F0 H0 W fa σ H _
  refine ⟨F, ρ, er, (PostG.bind (rel := rVw P) z).imp ?_⟩
  rintro v H1 ⟨F1, d, g, i, q⟩
  obtain ⟨d', hd, q'⟩ := opt_of q
  unfold cDictT at hd
  split at hd
  · rename_i ps hps
    cases hps
    obtain ⟨a, vs, rfl, h1, h2⟩ := i
    split at hd
    · rename_i hz
      cases hl : pairsT ps with
      | none =>
        rw [hl] at hd
        cases hd
      | some l =>
        rw [hl] at hd
        cases hd
        obtain ⟨L, e1, e2, e3, e4, e5⟩ := pairsT_is h2 hl
        obtain ⟨vs', m1, m2, m3⟩ := mergeD_is (ks := []) (xs := []) (vs := []) e4 e5 rfl .nil
        refine ⟨a, L, rfl, e1 ▸ h1, fun q hq => ⟨g.s.ex _ _ (e3 q hq).1, g.s.ex _ _ (e3 q hq).2⟩, by rw [e2]; exact of_decide_eq_true hz, fun p hp => ?_⟩
        have m1' : mergeT [] (L.map fun q => (q.k, q.v)) = (mergeD ([], []) l).1.zip vs' := m1
        rw [m1']
        exact q' _ F1 _ (.junk g.s (.new hp)) ⟨p, rfl, g.h.back hp, g.s.back hp, vs', upd_same, m2, m3⟩
    · cases hd
  · cases hd
end
end
end DL
namespace DL
open PySem L2
open PyProof.Rows (seqObj)

/-! ### sorted(d, reverse=b), the keys tuples of integers -/
def kI : Key → Int
  | .inl i => i
  | .inr _ => 0
def isInl : Key → Bool
  | .inl _ => true
  | .inr _ => false
def encT (k : List Key) : PyData := .tuple ((k.map kI).map .int)
def okSort (ks : List (List Key)) : Bool := ks.all (fun k => k.all isInl) && (decide (ks.length < 2) || ks.all (fun k => !k.isEmpty))
section
variable {prog : Program} {w : World} {A : Around} {E : Value → Shared → Prop} {s : Shared} {β : Type} {vs : List Value} {bs : List β} {enc : β → PyData} {R : Value → β → Prop}
theorem no_swo : SrtO.Swo (fun _ _ : Value => false) := ⟨fun _ _ h => (by cases h), fun _ _ _ _ _ => rfl⟩
theorem list_sort_any {a : Addr} {n : Nat} {b : Bool} {P : PySem.Fin → Shared → Prop} (ho : s.heap.get? a = some (seqObj "list" vs.toArray n)) (e : PySem.W.EachIs R vs bs) (er : PySem.W.EachIs (fun v b => ∃ as, Reads s.heap v (enc b) as ∧ a ∉ as) vs bs) (hal : PySem.W.AllAlike (bs.map enc))
    (hk : bs.length < 2 ∨ PySem.W.Sortable (bs.map enc)) (hL : bs.length ≤ sizeLine) (hu : ∀ b, b ∈ bs → A.units + (enc b).depth < cLine)
    (h : ∀ out, PySem.W.EachIs R out (bs.mergeSort (PySem.W.dataLe b enc)) → P (.done (.ret .none)) { s with heap := PyProof.Rows.sortedHeap s.heap a vs (List.toArray out) }) :
    wpAny (model prog w) A (Builtin.«list.sort» ⟨[.ref a], [(Str.ofString "reverse", .bool b)]⟩) P E s := by
  have hl : vs.length = bs.length := e.length
  rcases hk with hk | hk
  · refine SrtR.list_sort_ordR no_swo ho (by omega) (fun h2 => absurd h2 (by omega)) fun out h1 h2 => ?_
    have eo : (if b = true then out.toArray.reverse else out.toArray) = vs.toArray := by
      have h3 : out.Perm vs := by
        have := h2.perm
        split at this
        · exact this.trans (List.reverse_perm _)
        · exact this
      have h4 : out = vs := by
        match vs, h3, (by omega : vs.length < 2) with
        | [], h3, _ => exact List.perm_nil.mp h3
        | [x], h3, _ => exact List.perm_singleton.mp h3
      subst h4
      split
      · match out, (by omega : out.length < 2) with
        | [], _ => rfl
        | [x], _ => rfl
      · rfl
    rw [eo]
    refine h vs ?_
    have : bs.mergeSort (PySem.W.dataLe b enc) = bs := by
      match bs, hk with
      | [], _ => simp
      | [x], _ => simp
    rw [this]
    exact e
  · have er' : PySem.W.EachIs (fun v b => ∃ as, Reads (PySem.W.sortingHeap s.heap a vs) v (enc b) as) vs bs := PySem.W.each_keepBut (h' := PySem.W.sortingHeap s.heap a vs) (fun _ _ hb q => PySem.W.sortingHeap_old hb q) (fun o q => by rw [ho] at q; rw [← Option.some.inj q]) hal er
    refine PySem.W.list_sort_rev_vals (κ := PySem.W.dataKind (PySem.W.sortingHeap s.heap a vs) (bs.map enc)) ho (PySem.W.SortsAt.data (s := { s with heap := PySem.W.sortingHeap s.heap a vs }) (PySem.W.each_map (R := fun v d => ∃ as, Reads (PySem.W.sortingHeap s.heap a vs) v d as) enc er') hal hk (PySem.W.bound_map hu)) (by omega) ?_
    exact h _ (PySem.W.sortVals_data b e er' hal)
end
section
variable {X : Cx} {pins : List (Addr × Obj)} {σ : St} {H : Hp} {s : Shared}
theorem reads_ints {h : Heap} : ∀ {k : List Key} {us : List Value}, k.all isInl = true → Vals (k.map kV) us → ReadsAll h us ((k.map kI).map .int) []
  | [], _, _, .nil => .nil
  | .inl i :: k, _, hk, .cons (b := u) r t => by
    obtain ⟨t', rfl⟩ := (show ∃ t, u = Value.int i t from r)
    have := ReadsAll.cons (h := h) (Reads.int i t') (reads_ints (h := h) (k := k) (by simpa [isInl] using hk) t)
    simpa [kI] using this
  | .inr x :: k, _, hk, _ => by simp [isInl] at hk
theorem reads_key {h : Heap} (I : Inv X pins σ H s) (kp : ∀ b o, s.heap.get? b = some o → h.get? b = some o) {k : List Key} {b : Addr} (hk : k.all isInl = true) (hb : H b = some (.tup (k.map kV))) : Reads h (.ref b) (encT k) [] := by
  obtain ⟨_, its, rv, o, h1, h2, n, h3⟩ := (show ObjOk X.prog X.w H s.heap b (.tup (k.map kV)) from I.hok _ _ hb)
  exact .tuple (kp _ _ h1) h2 h3 (by simpa using reads_ints hk rv)
theorem alike_encT (k k' : List Key) : PySem.W.alike (encT k) (encT k') = true := by
  unfold encT
  rw [PySem.W.alike]
  exact PySem.W.alike_ints _ _
theorem depth_encT (k : List Key) : (encT k).depth ≤ 1 := by
  unfold encT
  rw [PyData.depth, PySem.W.depth_ints]
  omega
theorem each_keys_of {h : Heap} (I : Inv X pins σ H s) (kp : ∀ b o, s.heap.get? b = some o → h.get? b = some o) : ∀ {kvs : List (List Key × V)} {bs : List Addr}, IsKeys H kvs bs → (kvs.map (·.1)).all (fun k => k.all isInl) = true →
    PySem.W.EachIs (fun v (p : List Key × Addr) => v = .ref p.2 ∧ H p.2 = some (.tup (p.1.map kV))) (bs.map Value.ref) ((kvs.map (·.1)).zip bs) ∧ PySem.W.EachIs (fun v (p : List Key × Addr) => ∃ as, Reads h v (encT p.1) as ∧ h.objs.size ∉ as) (bs.map Value.ref) ((kvs.map (·.1)).zip bs)
  | [], _, .nil, _ => ⟨.nil, .nil⟩
  | kv :: kvs, _, .cons h1 h2, hk => by
    simp only [List.map_cons, List.all_cons, Bool.and_eq_true] at hk
    obtain ⟨e1, e2⟩ := each_keys_of I kp h2 hk.2
    exact ⟨.cons ⟨rfl, h1⟩ e1, .cons ⟨[], reads_key I kp hk.1 h1, by simp⟩ e2⟩
theorem each_out : ∀ {out : List Value} {L : List (List Key × Addr)}, PySem.W.EachIs (fun v (p : List Key × Addr) => v = .ref p.2 ∧ H p.2 = some (.tup (p.1.map kV))) out L → out = (L.map (·.2)).map Value.ref ∧ ∀ p ∈ L, H p.2 = some (.tup (p.1.map kV))
  | _, _, .nil => ⟨rfl, fun p hp => by simp at hp⟩
  | _, _, .cons ⟨h1, h2⟩ t => by
    obtain ⟨e1, e2⟩ := each_out t
    subst h1
    refine ⟨by rw [e1]; rfl, fun p hp => ?_⟩
    rcases List.mem_cons.mp hp with rfl | hp
    · exact h2
    · exact e2 p hp
theorem keys_zip {kvs : List (List Key × V)} {bs : List Addr} (h : IsKeys H kvs bs) : ((kvs.map (·.1)).zip bs).map (·.1) = kvs.map (·.1) := by
  have l : kvs.length = bs.length := Paired.length h
  rw [List.map_fst_zip]
  simp [l]
end
section
variable {X : Cx}
theorem call_sortedT (hcalm : X.calm = true) (hu : X.A.units + 8 < cLine) : CallRK X (.builtin "sorted") [Str.ofString "reverse"] (fun xs zs H Q => ∃ (a : Addr) (kvs : List (List Key × V)) (b : Bool), xs = [.ref a] ∧ zs = [.bl b] ∧ Rd H a (.dT kvs) ∧ okSort (kvs.map (·.1)) = true ∧
    ∀ (p : Addr) (L : List (List Key × Addr)), H p = none → L.map (·.1) = (kvs.map (·.1)).mergeSort (PySem.W.dataLe b encT) → (∀ q ∈ L, H q.2 = some (.tup (q.1.map kV))) → Q (.ref p) (upd H p (.lst (L.map fun q => V.ref q.2)))) := by
  intro pins s σ H xs zs us ws Q I r rz ⟨d, kvs, b, ex, ez, hd, hok, q⟩
  subst ex ez
  obtain ⟨u, rfl, rx⟩ := r.one
  cases rx
  obtain ⟨u, rfl, rx⟩ := rz.one
  cases rx
  simp only [okSort, Bool.and_eq_true, Bool.or_eq_true, decide_eq_true_eq] at hok
  obtain ⟨hk1, hk2⟩ := hok
  obtain ⟨z, hs, ks, pr, o, es, ep, ho, hx, hdt, he, hn⟩ := (show ObjOk X.prog X.w H s.heap d (.dT kvs) from hd.ok I.hok)
  have l1 : es.size = ks.length := size_of_entries he
  have l2 : kvs.length = ks.length := Paired.length pr
  have hkeys := isKeys_of pr
  show wpAny _ _ (call (.builtin "sorted") [Value.ref d] [(Str.ofString "reverse", Value.bool b)]) _ _ _
  refine PyProof.Rows.call_function_entry_kw PyProof.Rows.kind_sorted PyProof.Rows.plain_sorted PyProof.Rows.entry_sorted (PyProof.Rows.args_sorted_rev _ _) ?_
  unfold Builtin.«sorted»
  refine wpAny_bind (m := checkCount "sorted" 1 1 _) (wpAny_pure ?_)
  refine wpAny_bind (PySem.W.kdu_collect (A := X.A.in1) (kdl_raw hs hx hdt) (I.ok.hd hcalm) ho (by omega) fun h' tk acc' kp it => ?_)
  have ea : acc'.toList = (ks.map fun x => x.2.1).map Value.ref := by
    have hl : acc'.toList.length = ks.length := by rw [Array.length_toList, it.1]; exact l1
    apply List.ext_getElem?
    intro j
    rw [List.map_map, List.getElem?_map]
    cases hj : acc'.toList[j]? with
    | none =>
      have h1 := List.getElem?_eq_none_iff.mp hj
      rw [List.getElem?_eq_none (by omega)]
      all_goals rfl
    | some v =>
      obtain ⟨en, hen, hv⟩ := it.2 j v (by rw [← Array.getElem?_toList]; exact hj)
      have qe := entry_at he j
      rw [hen] at qe
      cases hb : ks[j]? with
      | none =>
        rw [hb] at qe
        exact nomatch (show some en = none from qe)
      | some b =>
        rw [hb] at qe
        have e2 : en = entryOfKey (tupleKind (mixKind X.prog X.w)) b := Option.some.inj qe
        rw [hv, e2]
        all_goals rfl
  have I1 : Inv X pins σ H { s with heap := h', toks := tk } := I.kept kp
  have hal : acc'.toList.length ≤ sizeLine := by rw [ea, List.length_map, List.length_map]; omega
  refine wpAny_bind (wpAny_newList ?_ hal)
  have hoL : (h'.push (seqObj "list" acc'.toList.toArray 0)).get? h'.objs.size = some (seqObj "list" acc'.toList.toArray 0) := Heap.get?_push_size _ rfl
  have hol : ∀ b o, h'.get? b = some o → (h'.push (seqObj "list" acc'.toList.toArray 0)).get? b = some o := fun b o e => Heap.get?_push_of_some _ e
  show wpAny _ _ _ _ _ { s with heap := h'.push (seqObj "list" acc'.toList.toArray 0), toks := tk }
  obtain ⟨ee, _⟩ := each_keys_of (h := h') I1 (fun b o e => e) hkeys hk1
  rw [← ea] at ee
  have er : PySem.W.EachIs (fun v (p : List Key × Addr) => ∃ as, Reads (h'.push (seqObj "list" acc'.toList.toArray 0)) v (encT p.1) as ∧ h'.objs.size ∉ as) (acc'.toList) ((kvs.map (·.1)).zip (ks.map fun x => x.2.1)) := by
    refine (PySem.W.each_mem ee).mono fun v p ⟨⟨e1, e2⟩, hm⟩ => ?_
    have hin : p.1 ∈ kvs.map (·.1) := (List.of_mem_zip hm).1
    exact ⟨[], e1 ▸ reads_key I1 hol (List.all_eq_true.mp hk1 _ hin) e2, by simp⟩
  refine wpAny_bind (wpAny_holding (PyProof.Rows.wpAny_call_entry_kw PyProof.Rows.slot_list_sort ⟨_, hoL, rfl⟩ PyProof.Rows.entry_list_sort ?_ (PyProof.Rows.args_list_sort_rev _ _)))
  have lz : ((kvs.map (·.1)).zip (ks.map fun x => x.2.1)).length = kvs.length := by simp [l2]
  refine list_sort_any (s := { s with heap := h'.push (seqObj "list" acc'.toList.toArray 0), toks := tk }) (enc := fun p => encT p.1) hoL ee er (PySem.W.AllAlike.of fun p p' => alike_encT _ _) ?_ (by rw [lz]; omega) (fun p hp => ?_) fun out hout => ⟨_, rfl, ?_⟩
  · rcases hk2 with h2 | h2
    · left
      rw [lz]
      simpa using h2
    · right
      left
      intro d' hd'
      obtain ⟨p, hp, rfl⟩ := List.mem_map.mp hd'
      have := List.all_eq_true.mp h2 _ (List.of_mem_zip hp).1
      unfold encT
      cases hp1 : p.1 with
      | nil =>
        rw [hp1] at this
        simp at this
      | cons x r => exact ⟨_, _, rfl⟩
  · have := depth_encT p.1
    show X.A.units + 1 + 1 + (encT p.1).depth < cLine
    omega
  · obtain ⟨eo, hL⟩ := each_out hout
    obtain ⟨e', he'⟩ := PyProof.Rows.sortedHeap_at (vs := acc'.toList) (out := out.toArray) hoL
    have hm1 : (((kvs.map (·.1)).zip (ks.map fun x => x.2.1)).mergeSort (PySem.W.dataLe b fun p => encT p.1)).map (·.1) = (kvs.map (·.1)).mergeSort (PySem.W.dataLe b encT) := by
      have := PySem.W.sort_maps (r := PySem.W.dataLe b fun p : List Key × Addr => encT p.1) (s := PySem.W.dataLe b encT) (fun p : List Key × Addr => p.1) (l := (kvs.map (·.1)).zip (ks.map fun x => x.2.1)) (fun _ _ _ _ => rfl)
      rw [this, keys_zip hkeys]
    have hlen : ((((kvs.map (·.1)).zip (ks.map fun x => x.2.1)).mergeSort (PySem.W.dataLe b fun p => encT p.1)).map fun q => V.ref q.2).length ≤ sizeLine := by
      rw [List.length_map, List.length_mergeSort, lz]
      omega
    have rv : Vals ((((kvs.map (·.1)).zip (ks.map fun x => x.2.1)).mergeSort (PySem.W.dataLe b fun p => encT p.1)).map fun q => V.ref q.2) out := by
      rw [eo]
      have := vals_refs ((((kvs.map (·.1)).zip (ks.map fun x => x.2.1)).mergeSort (PySem.W.dataLe b fun p => encT p.1)).map (·.2))
      rw [List.map_map] at this
      exact this
    refine wpAny_pure ⟨_, rfl, .ref h'.objs.size, upd H h'.objs.size (.lst _), I1.laid (t' := tk) (fun b u e => ?_) (Nat.le_refl _)
      (show ObjOk X.prog X.w _ _ _ (.lst _) from ⟨hlen, out, e', rv, he'⟩), rfl, q _ _ (I1.hok.fresh (Nat.le_refl _)) hm1 hL⟩
    have hb : b < h'.objs.size := Heap.lt_size e
    rw [PyProof.Rows.sortedHeap_old (Nat.ne_of_lt hb) (by rw [PyProof.Rows.size_push']; exact Nat.lt_succ_of_lt hb)]
    exact Heap.get?_push_of_some _ e
end
/-! ### as data -/
def cSortT : D → D → Option D
  | .dT ks xs, .bl b => if okSort ks = true then some (.lst ((ks.mergeSort (PySem.W.dataLe b encT)).map ktD)) else none
  | _, _ => none
section
variable {P : Pm} {F H : Hp}
theorem tups_in : ∀ {L : List (List Key × Addr)} {F : Hp}, Sb P F H → (∀ q ∈ L, H q.2 = some (.tup (q.1.map kV))) → ∃ F2, Grow P F H F2 H ∧ IsL P F2 ((L.map (·.1)).map ktD) (L.map fun q => V.ref q.2)
  | [], F, s, h => ⟨F, .refl s, .nil⟩
  | q :: L, F, s, h => by
    obtain ⟨F1, g1, e1⟩ := tup_in s (h q List.mem_cons_self)
    obtain ⟨F2, g2, i2⟩ := tups_in (L := L) g1.s fun x hx => h x (List.mem_cons_of_mem _ hx)
    exact ⟨F2, g1.trans g2, .cons (is_ktD (g2.f _ _ e1)) i2⟩
end
section
variable {X : Cx} {P : Pm}
theorem pd_sortT {F0 : Fz} {H0 : Hp} {W : WX} {e b : Expr} {fa fb : Env → Res D} {p pos kpos : Pos} (hcalm : X.calm = true) (hu : X.A.units + 8 < cLine) (hm : X.mg "sorted" = none) (ha : PE X e (tV P F0 H0 W fa)) (hb : PE X b (tE P F0 H0 W fb)) (hg : Gl X "sorted" := by rfl)
    (hs : starEach [e] X.env = (false, eval e X.env) :: starEach [] X.env := by rfl) (he : backTo pos (starEach [e] X.env) = (false, eval e X.env) :: backTo pos (starEach [] X.env) := by rfl) (hpl : (backTo pos (starEach [e] X.env)).any (·.1) = false := by rfl)
    (hall : (backToKw pos (keywordEach [⟨some "reverse", b, kpos⟩] X.env)).all (·.1.isSome) = true := by rfl) (hnone : (backToKw pos (keywordEach [⟨some "reverse", b, kpos⟩] X.env)).any (·.1.isNone) = false := by rfl) (hks : (backToKw pos (keywordEach [⟨some "reverse", b, kpos⟩] X.env)).filterMap (·.1) = [Str.ofString "reverse"] := by rfl) :
    PE X (.Call (.Name "sorted" p) [e] [⟨some "reverse", b, kpos⟩] pos) (tE P F0 H0 W (fun ρ => do let x ← fa ρ; let y ← fb ρ; opt (cSortT x y))) :=
  (pe_callBK (call_sortedT hcalm hu) hg hm (by decide +kernel) (pa_cons ha pa_nil hs) (pk_cons hb pk_nil) (by decide) (by decide) he hpl hall hnone hks).imp fun σ H Q ⟨F, ρ, er, z⟩ => by
  show tV P F0 H0 W fa σ H _
  refine ⟨F, ρ, er, (PostG.bind (rel := rVw P) z).imp ?_⟩
  rintro v H1 ⟨F1, d, g, i, z⟩
  show tE P F0 H0 W fb σ H1 _
  refine ⟨F1, ρ, er.grow g, (PostG.bind (rel := rIs P) z).imp ?_⟩
  rintro y H2 ⟨F2, dy, g2, i2, q⟩
  obtain ⟨d', hd, q'⟩ := opt_of q
  have iv := i.mono g2.f g2.h d
  unfold cSortT at hd
  split at hd
  · rename_i ks xs b'
    split at hd
    · rename_i hk
      cases hd
      obtain ⟨a, vs, rfl, h1, h2, h3⟩ := iv
      have e1 : (ks.zip vs).map (·.1) = ks := by
        rw [List.map_fst_zip]
        omega
      cases (show y = .bl b' from i2)
      refine ⟨a, _, b', rfl, rfl, h1, by rw [e1]; exact hk, fun p L hp hL hq => ?_⟩
      rw [e1] at hL
      obtain ⟨F3, g3, i3⟩ := tups_in g2.s hq
      rw [hL] at i3
      exact q' _ (upd F3 p (.lst (L.map fun q => V.ref q.2))) _ (g3.trans (.new g3.s hp)) (by rw [rIs, Is]; exact ⟨p, _, rfl, .inl upd_same, i3.mono (.new (g3.s.back hp)) _⟩)
    · cases hd
  · cases hd
end
end DL
namespace DL
open PySem L2 PySem.ErrX

/-! ### x(lambda: e), where x is: try: a() / except T as n: return n.f / return None -/
abbrev rcBody (a e n f : Str) (j2 : Nat) (p1 p2 p3 p4 p5 p6 p7 p8 p9 p10 p11 : Pos) : List Stmt := [.Try [.Expr (.Call (.Name a p1) [] [] p2) p3] [.ExceptHandler (some (.Name e p4)) (some n) [.Return (some (.Attribute (.Name n p5) f p6)) p7] p8] [] [] p9, .Return (some (.Constant .none j2 p10)) p11]
def TTc (K : PySem.W.Frag) (cv : Value) (C : Addr) (f : Str) : (XK → Hp → VK → Prop) → Hp → VK → Prop := fun tl H Q => tl (fun cls d H' => PySem.W.exmOne K cls cv = some true ∧ cls = .ref C ∧ ∃ (dd : Addr) (v : V), d = some dd ∧ H' dd = some (.xd [(f, v)]) ∧ Q v H') H (fun _ H' => Q .non H')
section
variable {X : Cx}
theorem count_gives {x a e n f q : Str} {sg : Scope} {g C fI : Addr} {cdg cv : Value} {j2 : Nat} {p1 p2 p3 p4 p5 p6 p7 p8 p9 p10 p11 : Pos} (T : ErrTxt X.prog X.K X.mg e f C fI) (hge : sg.names.lookup e = some .globalImplicit) (hme : X.mg e = some cv ∨ (X.mg e = none ∧ bootBuiltins e = some cv ∧ e ≠ "__name__")) (hde : (e == ("__debug__" : Str)) = false)
    (hN : ([a, n] : List Str).Nodup) (hln : sg.names.lookup n = some .local) (hd : (n == ("__debug__" : Str)) = false) (hcd : (n == ("__classdict__" : Str)) = false) :
    LamX.GivesTo X [a, n] x sg g cdg (rcBody a e n f j2 p1 p2 p3 p4 p5 p6 p7 p8 p9 p10 p11) a q (TTc X.K cv C f) := by
  intro fa c' s H Q tl act hc h
  refine ⟨_, pss_cons (ps_try_as (X := (cxOf C8.CX0 X.prog X.w X.K X.mg X.base [a, n] x sg g cdg X.A X.stack s H C8.E0).nox) (c := cv) (i := 1) (n := n)
      (tb := fun W D σ H => ∃ Ech : XK, (∀ cls d σ' H', σ'.length = 2 → Ech cls d H' → W cls d σ' H') ∧ σ[0]? = some (some (.ref fa)) ∧ H c' = some (LamX.CodeO c' q) ∧ tl Ech H (fun _ H1 => D.nx σ H1))
      rfl rfl hN rfl hln ⟨hge, hde, hme⟩ LamX.takes0 (fun W pn xe tk _ => ?_) (fun ad oe cls d pn hz hf => pss_one (ps_ret (pe_fe (X := (cxOf C8.CX0 X.prog X.w X.K X.mg X.base [a, n] x sg g cdg X.A X.stack s H C8.E0).nox) T hz hf (pe_var (i := 1) rfl (.inl hln) hd hcd) rfl)))) (pss_one (ps_ret pe_non)), ?_⟩
  · refine ⟨fun pins s' σ H' D I h' => ?_⟩
    obtain ⟨Ech, hW, h1, h2, h3⟩ := h'
    have tk' : Takes ((cxOf C8.CX0 X.prog X.w X.K X.mg X.base [a, n] x sg g cdg X.A X.stack s H C8.E0).tr pn xe) (fun cls d σ' H' => σ'.length = 2 → W cls d σ' H') := by
      rintro u s2 ⟨a', B, sI, pins', σ', H2, cls, d, e, J, nb, up, sky, na, os, ag, w⟩
      exact tk u s2 ⟨a', B, sI, pins', σ', H2, cls, d, e, J, nb, up, sky, na, os, ag, w J.len⟩
    exact (pss_one (ps_expr (act _ pn xe Ech p1 p2 tk' (fun cls d σ' H' z hl => hW cls d σ' H' hl z)))).run pins s' σ H' D I ⟨h1, h2, h3⟩
  · refine ⟨fun cls d H' => PySem.W.exmOne X.K cls cv = some true ∧ cls = .ref C ∧ ∃ (dd : Addr) (v : V), d = some dd ∧ H' dd = some (.xd [(f, v)]) ∧ Q v H', fun cls d σ' H' hl ⟨z1, z2, dd, v, z3, z4, z5⟩ => ⟨true, z1, fun _ ad ha => ?_, fun w => by cases w⟩, rfl, hc, h⟩
    refine ⟨.ref ad, ?_, rfl, z2, dd, v, z3, z4, z5⟩
    exact get_set_self (by omega)
end
def rcD (cz : Nat) : Res D → Res D
  | .ok _ => .ok .non
  | .err c p => if c = cz then payD p else .bad
  | .bad => .bad
/-- the def that takes the lambda -/
structure RcD (prog : Program) (K : PySem.W.Frag) (mg : Str → Option Value) (x a e n f : Str) (C fI : Addr) : Prop where
  ex : ∃ (st : Stmt) (g : Addr) (fd : FuncData) (j2 : Nat) (p1 p2 p3 p4 p5 p6 p7 p8 p9 p10 p11 : Pos), Fun K x x st g fd ∧ mg x = some (.ref g) ∧ Binds K fd [a] [] ∧ FnScope [a, n] [a] (defScope st) ∧ Vis (defScope st) a ∧
    defBody st = rcBody a e n f j2 p1 p2 p3 p4 p5 p6 p7 p8 p9 p10 p11 ∧ (defScope st).names.lookup e = some .globalImplicit ∧ (defScope st).names.lookup n = some .local
  et : ErrTxt prog K mg e f C fI
  nd : (e == ("__debug__" : Str)) = false
  nn : (n == ("__debug__" : Str)) = false
  nc : (n == ("__classdict__" : Str)) = false
section
variable {X : Cx} {P : Pm} {F0 : Fz} {H0 : Hp} {W : WX}
theorem pd_count {x a e n f' : Str} {cz k : Nat} {c t C fI : Addr} {params : Arguments} {body : Expr} {scope : Scope} {p lpos pos : Pos} {fb : Env → Res D} (R : RcD X.prog X.K X.mg x a e n f' C fI) (hxc : P.xc cz = .ref C) (hxf : P.xf cz = f') (hex : PySem.W.exmOne X.K (.ref C) (.ref C) = some true) (TA : TabAt P X.base X.mg c t (X.env.qual ++ "<lambda>")) (hcode : X.env.code = .ref c)
    (hr : Room (k + 2) X.A) (L : LamX.LamS X.env.scope scope) (hdef : defaultsOf params X.env = ([], []))
    (hbind : ∀ (q : Str) (cl : List (Str × Addr)) (pm cv ctv : Value), bindArgs (PySem.W.kla_fn "<lambda>" q params body scope cl pm cv ctv) ⟨[], []⟩ = pure [])
    (hbody : ∀ (A : Around) (outer : List PySem.Env) (s : Shared) (H : Hp) (E : XK) (f c' : Addr), Room k (A.deeper (LamX.lamEnv X scope s.heap.objs.size f c')) → Takes (LamX.lamCx X A outer s H E scope f c') (WE0 E) → PE (LamX.lamCx X A outer s H E scope f c') body (tE P F0 H0 (WE0 E) fb))
    (hg : Gl X x := by rfl) (hdb : (x == ("__debug__" : Str)) = false := by decide) (hd : (a == ("__debug__" : Str)) = false := by decide) (hcd : (a == ("__classdict__" : Str)) = false := by decide) :
    PE X (.Call (.Name x p) [.Lambda params body scope lpos] [] pos) (tE P F0 H0 W (fun ρ => rcD cz (fb ρ))) := by
  obtain ⟨st, g, fd, j2, p1, p2, p3, p4, p5, p6, p7, p8, p9, p10, p11, Fu, hm, hb, Sg, hva, hbg, hge, hln⟩ := R.ex
  obtain ⟨oc, od, kV, doc, pm, an, cdv, ct, osl, rfl, lk, hcd'⟩ := Fu.ex
  have hG : LamX.GivesTo X [a, n] x (defScope st) g cdv (defBody st) a (X.env.qual ++ "<lambda>") (TTc X.K (.ref C) C f') := by
    rw [hbg]
    exact count_gives R.et hge (.inl R.et.gC) R.nd Sg.nd hln R.nn R.nc
  refine (LamX.pe_lamcall (T := P.T) (t := fun E => tE P F0 H0 (WE0 E) fb) hg hm Fu.kp lk hcd' hb Sg rfl hva hG TA.tb hcode TA.mem TA.one hr L hdef hbind (fun A outer s H E f c' hr' => hbody A outer s H E f c' hr' (takes_of rfl rfl rfl rfl)) hdb hd hcd).imp fun σ H Q ⟨F, ρ, er, z⟩ => ?_
  replace z : PostG P W (rIs P) (rcD cz (fb ρ)) F σ H Q := z
  refine ⟨er.s.tabs, fun H1 e1 t1 => ?_⟩
  have eT : ExT H H1 := ⟨fun a o h n => e1 a o h fun ps hp => by
    subst hp
    cases n⟩
  have g1 : Grow P F H F H1 := ⟨.refl F, eT, er.s.ext' eT t1, fun _ _ e => .inl e⟩
  refine ⟨F, ρ, er.grow g1, ?_⟩
  cases hf : fb ρ with
  | ok d =>
    rw [hf] at z
    exact fun v F' H' g i => z .non F' H' (g1.trans g) is_non
  | err c p =>
    rw [hf] at z
    by_cases hz : c = cz
    · have e2 : rcD cz (.err c p) = payD p := if_pos hz
      rw [e2] at z
      cases p with
      | none => exact z.elim
      | some d =>
        subst hz
        refine fun F' H' y g q => ?_
        obtain ⟨a1, v, h1, h2, h3⟩ := q
        rw [hxf] at h2
        exact ⟨by rw [hxc]; exact hex, hxc, a1, v, h1, h2, z v F' H' (g1.trans g) h3⟩
    · have e2 : rcD cz (.err c p) = .bad := if_neg hz
      rw [e2] at z
      exact z.elim
  | bad =>
    rw [hf] at z
    exact z.elim
end
end DL
namespace DL
open PySem L2

/-! ### an operator on two instances of one class -/
def opO (cn : Nat) (G : List D → Res D) : D → D → Res D
  | .obj c xs, .obj c' ys => if c = cn ∧ c' = cn then fnG 2 G [.obj c xs, .obj c' ys] else .bad
  | _, _ => .bad
section
variable {X : Cx} {P : Pm} {F0 : Fz} {H0 : Hp} {W : WX} {a b c : Expr} {fa fb fc : Env → Res D} {pos : Pos} {σ : L2.St} {H F : Hp} {k cn : Nat} {op : Operator} {m : Str} {G : List D → Res D}
theorem pd_opO (hd : PySem.dunder op.info.2 = m) (hsf : PySem.W.selfFirst X.K (P.C cn) = true)
    (c : OwnD X.prog X.w X.K X.mg X.base P k m cn 2 G) (hr : Room k X.A) (tk : Takes X W) (ha : PE X a (tE P F0 H0 W fa)) (hb : PE X b (tE P F0 H0 W fb)) :
    PE X (.BinOp a op b pos) (tE P F0 H0 W (fN (opO cn G) fa fb)) := by
  obtain ⟨f, fd, ps, c1, c2, c3⟩ := c.ex
  refine ⟨fun pins s σ H Q I h => ?_⟩
  refine wpAny_BinOp (binT ha hb I (two_ofE h) fun v u s2 x y H2 I2 rx ry ⟨F, dx, dy, e, i1, i2, q⟩ => ?_)
  unfold opO at q
  split at q
  · split at q
    · rename_i hc
      obtain ⟨rfl, h'⟩ := hc
      subst h'
      obtain ⟨ad, dd, vs, rfl, h1, h2, h3⟩ := obj_of i1
      obtain ⟨bd, dd', vs', rfl, h1', h2', h3'⟩ := obj_of i2
      obtain rfl : v = Value.ref ad := rx
      obtain rfl : u = Value.ref bd := ry
      obtain ⟨ox, od, J, _⟩ := ins_data I2 (e.ex _ _ h1)
      obtain ⟨ox', od', J', _⟩ := ins_data I2 (e.ex _ _ h1')
      obtain ⟨mm, Fr⟩ := I2.fr
      refine PySem.W.binop_K Fr I2.ok.mod.kin J J'.type hsf (by rw [hd]; exact c2.at_) c2.fn ?_
      exact wpAny_mono (run_at (vs := [.ref ad, .ref bd]) (ds := [_, _]) c1 (sub_here hr) c3 tk I2 (.cons rfl (.cons rfl .nil)) e (.cons i1 (.cons i2 .nil)) q) (fun _ _ z => CmpBack_of z) fun _ _ z => z
    · exact q.elim
  · exact q.elim
/-! ### a list times an int -/
def repD : D → D → Option D
  | .lst xs, .int k => if 0 ≤ k ∧ k < 1000 ∧ xs.length ≤ 1000 then some (.lst (List.replicate k.toNat xs).flatten) else none
  | _, _ => none
theorem op_repR : OpR X (binaryOp .Mult) (fun x y H Q => ∃ l k xs, x = .ref l ∧ y = .int k ∧ Rd H l (.lst xs) ∧ -(2 ^ 63) ≤ k ∧ k < 2 ^ 63 ∧ xs.length * k.toNat ≤ sizeLine ∧ ∀ p, H p = none → Q (.ref p) (upd H p (.lst (List.replicate k.toNat xs).flatten))) := by
  intro pins s σ H x y v u Q I rx ry h
  obtain ⟨l, k, xs, rfl, rfl, hH, h1, h2, hz, q⟩ := h
  cases rx
  obtain ⟨t, rfl⟩ := ry
  obtain ⟨z, its, n, r, e⟩ := Inv.rdl I hH
  have hl : xs.length = its.length := r.length
  have hlen : its.toArray.size * k.toNat ≤ sizeLine := by rw [List.size_toArray, ← hl]; exact hz
  have hcap : ¬ its.toArray.size * k.toNat > (2 ^ 63 - 1) / 8 := by
    have : (sizeLine : Nat) ≤ (2 ^ 63 - 1) / 8 := by decide
    omega
  have hfit : ¬ (!Builtin.List.listFitsIndex k) = true := by
    rw [fitsIndex_both h1 h2]
    exact Bool.false_ne_true
  have hlong : ¬ Builtin.List.listTooLong (its.toArray.size * k.toNat) = true := by
    rw [notLongL hlen]
    exact Bool.false_ne_true
  have hnew : List.foldl (fun x1 x2 => x1 ++ x2) #[] (List.replicate (if its.toArray.isEmpty = true then 0 else k.toNat) its.toArray) = (List.replicate k.toNat its).flatten.toArray := by
    have f0 : ∀ m : Nat, List.foldl (fun x1 x2 => x1 ++ x2) #[] (List.replicate m its.toArray) = (List.replicate m its).flatten.toArray := fun m => by
      have := foldl_rep its m []
      rw [List.nil_append] at this
      exact this
    rw [f0]
    cases its with
    | nil => simp
    | cons a r' => rw [if_neg (by simp)]
  refine wpAny_binaryOp_repeat_ref (T := "list") (U := "int") (by decide) ⟨_, e, rfl⟩ (fun s' => typeIs_int s' k t) noFill_list_mul F.fills_int_mul F.slot_int_rmul repeat_list F.slot_int_index.lookup
    (call_meets F.slot_int_rmul (typeIs_int s k t) F.entry_int_rmul (F.args_int_rmul_2 _ _) (int___rmul___int_list k t l its.toArray n)
      ⟨e, rfl, ⟨_, e, rfl⟩, call_meets F.slot_list_mul ⟨_, e, rfl⟩ F.entry_list_mul (F.args_list_mul_2 _ _) (AutoListH.list___mul___list_int_3 l its.toArray n k t hfit hcap hlong) ⟨e, ?_⟩⟩)
  rw [hnew]
  exact ⟨.ref _, _, I.lnew (t' := s.toks) (r.rep k.toNat) (by rw [PyProof.Rows.lm_len_rep_flat, Nat.mul_comm]; exact hz), rfl, q _ I.fresh⟩
theorem isL_rep {ds : List D} {vs : List V} (h : IsL P F ds vs) : ∀ n : Nat, IsL P F (List.replicate n ds).flatten (List.replicate n vs).flatten
  | 0 => .nil
  | n + 1 => by
    rw [List.replicate_succ, List.replicate_succ, List.flatten_cons, List.flatten_cons]
    exact h.append (isL_rep h n)
theorem io_rep : OpR X (binaryOp .Mult) (r2O P repD) := fun pins s σ H x y u v Q I rx ry h => by
  obtain ⟨F, dx, dy, d, e, i1, i2, hd, q⟩ := h
  unfold repD at hd
  split at hd
  · rename_i xs k
    split at hd
    · rename_i hk
      cases hd
      obtain ⟨l, vs, rfl, h1, h2⟩ := i1
      cases (show y = .int k from i2)
      refine op_repR pins s σ H _ _ u v Q I rx ry ⟨l, k, vs, rfl, rfl, h1, by omega, by omega, ?_, fun p hp => ?_⟩
      · rw [← h2.length]
        have a1 : xs.length * k.toNat ≤ 1000 * 1000 := Nat.mul_le_mul hk.2.2 (by omega)
        exact Nat.le_trans a1 (by decide)
      · exact q _ (upd F p (.lst (List.replicate k.toNat vs).flatten)) _ (.new e hp) (by rw [Is]; exact ⟨p, _, rfl, .inl upd_same, (isL_rep h2 _).mono (.new (e.back hp)) _⟩)
    · cases hd
  · cases hd
/-! ### a op b op c -/
def chainK (k : Res D) : D → Res D
  | .bl true => k
  | .bl false => .ok (.bl false)
  | _ => .bad
abbrev fChain (r r' : D → D → Option D) (fa fb fc : Env → Res D) : Env → Res D := fun ρ => do let x ← fa ρ; let y ← fb ρ; let z ← opt (r x y); chainK (do let w ← fc ρ; opt (r' y w)) z
theorem chain_of {r r' : D → D → Option D} {Q : VK} (h : tE P F0 H0 W (fChain r r' fa fb fc) σ H Q) : tChain (r2O P r) (r2O P r') (tE P F0 H0 W fa) (tE P F0 H0 W fb) (tE P F0 H0 W fc) σ H Q := by
  obtain ⟨F, ρ, er, z⟩ := h
  refine ⟨F, ρ, er, (PostG.bind (rel := rIs P) z).imp ?_⟩
  rintro x H1 ⟨F1, dx, g1, i1, z1⟩
  refine ⟨F1, ρ, er.grow g1, (PostG.bind (rel := rIs P) z1).imp ?_⟩
  rintro y H2 ⟨F2, dy, g2, i2, z2⟩
  have er2 := (er.grow g1).grow g2
  replace z2 := PostG.bind (rel := rIs P) z2
  obtain ⟨d, hd, q⟩ := opt_of z2
  refine ⟨F2, dx, dy, d, g2.s, (i1.mono g2.f dx).vw g2.s dx, i2.vw g2.s dy, hd, ?_⟩
  rintro z F3 H3 g3 i3
  obtain ⟨F4, d4, g4, i4, q4⟩ := q z F3 H3 g3 i3
  unfold chainK at q4
  split at q4
  · cases (show z = .bl true from i4)
    refine ⟨true, rfl, ?_⟩
    rw [if_pos rfl]
    refine ⟨F4, ρ, er2.grow g4, (PostG.bind (rel := rIs P) q4).imp ?_⟩
    rintro w H5 ⟨F5, dw, g5, i5, q5⟩
    obtain ⟨d6, h6, q6⟩ := opt_of q5
    exact ⟨F5, dy, dw, d6, g5.s, ((i2.mono g4.f dy).mono g5.f dy).vw g5.s dy, i5.vw g5.s dw, h6, q6⟩
  · cases (show z = .bl false from i4)
    refine ⟨false, rfl, ?_⟩
    rw [if_neg (by decide)]
    exact q4.here g4.s is_bl
  · exact q4.elim
theorem pd_chain {o o' : CmpOp} {r r' : D → D → Option D} (ho : OpR X (compareOp o) (r2O P r)) (ho' : OpR X (compareOp o') (r2O P r')) (ha : PE X a (tE P F0 H0 W fa)) (hb : PE X b (tE P F0 H0 W fb)) (hc : PE X c (tE P F0 H0 W fc)) (hm : lastMarks [o, o'] [b, c] = false := by with_unfolding_all rfl) :
    PE X (.Compare a [o, o'] [b, c] pos) (tE P F0 H0 W (fChain r r' fa fb fc)) := (pe_chain ho ho' ha hb hc hm).imp fun σ H Q h => chain_of h
theorem td_chain {o o' : CmpOp} {r r' : D → D → Option D} (ho : OpR X (compareOp o) (r2O P r)) (ho' : OpR X (compareOp o') (r2O P r')) (ha : PE X a (tE P F0 H0 W fa)) (hb : PE X b (tE P F0 H0 W fb)) (hc : PE X c (tE P F0 H0 W fc)) (hm : lastMarks [o, o'] [b, c] = false := by with_unfolding_all rfl) :
    PT X (.Compare a [o, o'] [b, c] pos) (tT P F0 H0 W (tB' (fChain r r' fa fb fc))) := (pt_chain ho ho' ha hb hc hm).imp fun σ H Q h => by
  have := tB_of h
  exact chain_of this
end
end DL
namespace DL
open PySem L2

/-! ### zip of lists and tuples, mixed -/
def SqK (k : Bool) (K : PySem.W.Frag) (H : Hp) (a : Addr) (xs : List V) : Prop := match k with
  | true => SqL K H a xs
  | false => SqT K H a xs
def HpK (k : Bool) (h : Heap) (a : Addr) (items : Array Value) : Prop := match k with
  | true => h.IsList a items
  | false => h.IsTuple a items
def ItK (k : Bool) (h : Heap) (it a : Addr) (i : Nat) : Prop := match k with
  | true => h.IsListIter it a i
  | false => h.IsTupleIter it a i
def itO (k : Bool) (a : Addr) : Obj := match k with
  | true => { cls := .type "list_iterator", data := .fields #[.ref a, .int 0 0] }
  | false => { cls := .type "tuple_iterator", data := .fields #[.ref a, .int 0 0] }
section
variable {prog : Program} {w : World} {A : Around}
theorem draws_K (k : Bool) (hh : A.handled = none) (it a : Addr) (hne : a ≠ it) (items : Array Value) : Draws prog w A it [it, a] items.size (fun i v => items[i]? = some v) (fun i h => ItK k h it a i ∧ HpK k h a items) := by
  cases k with
  | true => exact Draws.list hh it a hne items
  | false => exact Draws.tuple hh it a hne items
theorem endK (k : Bool) {it a : Addr} {i : Nat} {items : Array Value} {E : Value → Shared → Prop} {s : Shared} {Q : Value → Shared → Prop} (hh : A.handled = none) (h1 : ItK k s.heap it a i) (h2 : HpK k s.heap a items) (hx : items[i]? = none)
    (hE : ∀ h' e, Heap.ExtBut it s.heap h' → (∃ o, h'.get? e = some o ∧ o.cls = .type "StopIteration") → E (.ref e) { s with heap := h' }) : wpAny (model prog w) A (Builtin.SmallTypes.nextOf (.ref it)) Q E s := by
  cases k with
  | true => exact wpAny_nextOf_list_end hh h1 h2 hx hE
  | false => exact wpAny_nextOf_tuple_end hh h1 h2 hx hE
/-- an iterator at i, whether at its end or not -/
theorem draws_at (k : Bool) (hh : A.handled = none) (it a : Addr) (hne : a ≠ it) (items : Array Value) (i : Nat) {h : Heap} (h1 : ItK k h it a i) (h2 : HpK k h a items) :
    ∃ (n : Nat) (P : Nat → Value → Prop) (St : Nat → Heap → Prop), Draws prog w A it [it, a] n P St ∧ St i h ∧ i ≤ n ∧ (items.size ≤ i → n = i) := by
  by_cases hi : i < items.size
  · exact ⟨_, _, _, draws_K k hh it a hne items, ⟨h1, h2⟩, Nat.le_of_lt hi, fun q => by omega⟩
  · refine ⟨i, fun _ _ => False, fun j h => j = i ∧ ItK k h it a i ∧ HpK k h a items, ⟨fun j h st => ?_, fun j h h' st hk => ?_, fun j s Q E hj st => ?_, fun s Q E st hE => ?_⟩, ⟨rfl, h1, h2⟩, Nat.le_refl _, fun _ => rfl⟩
    · cases k with
      | true =>
        obtain ⟨_, ⟨o, e, _⟩, _⟩ := st
        exact ⟨o, e⟩
      | false =>
        obtain ⟨_, ⟨o, e, _⟩, _⟩ := st
        exact ⟨o, e⟩
    · refine ⟨st.1, ?_⟩
      cases k with
      | true => exact ⟨Heap.IsListIter.at st.2.1 fun o e => hk it (by simp) o e, Heap.IsList.at st.2.2 fun o e => hk a (by simp) o e⟩
      | false => exact ⟨Heap.IsTupleIter.at st.2.1 fun o e => hk it (by simp) o e, Heap.IsTuple.at st.2.2 fun o e => hk a (by simp) o e⟩
    · exact absurd st.1 (by omega)
    · exact endK k hh st.2.1 st.2.2 (by simp; omega) hE
theorem begins_K (k : Bool) (a : Addr) (items : Array Value) : Begins (.ref a) (itO k a) fun h => HpK k h a items := by
  cases k with
  | true => exact begins_list a items
  | false => exact begins_tuple a items
theorem ItK.at {k : Bool} {h h' : Heap} {it a : Addr} {i : Nat} (x : ItK k h it a i) (hk : ∀ o, h.get? it = some o → h'.get? it = some o) : ItK k h' it a i := by
  cases k with
  | true => exact Heap.IsListIter.at x hk
  | false => exact Heap.IsTupleIter.at x hk
theorem ItK.ob {k : Bool} {h : Heap} {it a : Addr} {i : Nat} (x : ItK k h it a i) : ∃ o, h.get? it = some o ∧ ∀ v, o.data ≠ .cell v := by
  cases k with
  | true =>
    obtain ⟨o, e, _, d⟩ := x
    exact ⟨o, e, fun v q => by rw [d] at q; cases q⟩
  | false =>
    obtain ⟨o, e, _, d⟩ := x
    exact ⟨o, e, fun v q => by rw [d] at q; cases q⟩
theorem itK_new {k : Bool} {h : Heap} {it a : Addr} (e : h.get? it = some (itO k a)) : ItK k h it a 0 := by
  cases k with
  | true => exact ⟨_, e, rfl, rfl⟩
  | false => exact ⟨_, e, rfl, rfl⟩
theorem HpK.lt {k : Bool} {h : Heap} {a : Addr} {items : Array Value} (x : HpK k h a items) : a < h.objs.size := by
  cases k with
  | true =>
    obtain ⟨o, e, _⟩ := x
    exact Heap.lt_size e
  | false =>
    obtain ⟨o, e, _⟩ := x
    exact Heap.lt_size e
end
section
variable {X : Cx} {pins : List (Addr × Obj)} {σ : St} {H : Hp} {s : Shared}
theorem seqK (I : Inv X pins σ H s) {k : Bool} {a : Addr} {xs : List V} (h : SqK k X.K H a xs) : ∃ its : List Value, Vals xs its ∧ HpK k s.heap a its.toArray := by
  cases k with
  | true =>
    obtain ⟨its, rv, p, _⟩ := I.list h
    exact ⟨its, rv, p.isList⟩
  | false =>
    obtain ⟨its, rv, p, _⟩ := I.tuple h
    exact ⟨its, rv, p⟩
theorem injK (I : Inv X pins σ H s) {k : Bool} {a : Addr} {xs ys : List V} (h : SqK k X.K H a xs) (h' : SqK k X.K H a ys) : xs = ys := by
  cases k with
  | true => exact I.list_inj h h'
  | false => exact I.tuple_inj h h'
end
def ItzK (kx ky : Bool) (K : PySem.W.Frag) (a b : Addr) : It :=
  ⟨fun i H => ∃ (xs ys : List V) (x y : V), SqK kx K H a xs ∧ SqK ky K H b ys ∧ xs[i]? = some x ∧ ys[i]? = some y,
    fun i H v H' => ∃ T x y, v = .ref T ∧ H T = none ∧ H' = upd H T (.tup [x, y]) ∧ (∀ xs, SqK kx K H a xs → xs[i]? = some x) ∧ ∀ ys, SqK ky K H b ys → ys[i]? = some y,
    fun i H => ∃ xs ys : List V, SqK kx K H a xs ∧ SqK ky K H b ys ∧ (xs.length ≤ i ∨ ys.length ≤ i)⟩
theorem turn_zipK {P : Program} {w : World} {K : PySem.W.Frag} {elts : List Expr} {kk : Nat} {tpos : Pos} {kx ky : Bool} {a b z TI TO i1 i2 : Addr} (D : ZipSep2 z TI TO i1 i2 [i1, a] [i2, b]) (na : a ≠ i1) (nb : b ≠ i2) :
    Turn P w K (.Tuple elts kk tpos) (ItzK kx ky K a b) [z, TI, TO, i1, i2] z (fun i h => IsZip h z TI TO .none ∧ IsTupOf2 h TI (.ref i1) (.ref i2) ∧ (∃ x y, IsTupOf2 h TO x y) ∧ ItK kx h i1 a i ∧ ItK ky h i2 b i) where
  mem := by simp
  obj := fun i h st c hc => by
    obtain ⟨hz, hTI, ⟨x, y, hTO⟩, h1, h2⟩ := st
    simp only [List.mem_cons, List.not_mem_nil, or_false] at hc
    rcases hc with q | q | q | q | q
    · rw [q]; exact ⟨_, hz, fun v q => nomatch q⟩
    · rw [q]; exact ⟨_, hTI, fun v q => nomatch q⟩
    · rw [q]; exact ⟨_, hTO, fun v q => nomatch q⟩
    · rw [q]; exact h1.ob
    · rw [q]; exact h2.ob
  keep := fun i h h' st k => by
    obtain ⟨hz, hTI, ⟨x, y, hTO⟩, h1, h2⟩ := st
    exact ⟨k z (by simp) _ hz, k TI (by simp) _ hTI, ⟨x, y, k TO (by simp) _ hTO⟩, h1.at fun o q => k i1 (by simp) o q, h2.at fun o q => k i2 (by simp) o q⟩
  item := by
    intro X hP hw hK hc i pins s σ H E I hf st hg
    subst hP hw hK
    obtain ⟨hz, hTI, ⟨x0, y0, hTO⟩, h1, h2⟩ := st
    obtain ⟨xs, ys, x, y, hqx, hqy, hx, hy⟩ := hg
    obtain ⟨its, rv, p⟩ := seqK I hqx
    obtain ⟨its2, rv2, p2⟩ := seqK I hqy
    obtain ⟨u, hu, ru⟩ := rv.get hx
    obtain ⟨u2, hu2, ru2⟩ := rv2.get hy
    have hzl : z < s.heap.objs.size := Heap.lt_size hz
    have D1 := draws_K (prog := X.prog) (w := X.w) (A := X.A.in1) kx (I.ok.hd hc) i1 a na its.toArray
    have D2 := draws_K (prog := X.prog) (w := X.w) (A := X.A.in1) ky (I.ok.hd hc) i2 b nb its2.toArray
    refine wpAny_pyNext_zipD2_item D D1 D2 hz hTI hTO ⟨h1, p⟩ ⟨h2, p2⟩ (by simpa using lt_of_get hu) (by simpa using lt_of_get hu2) fun w1 w2 h' tk e1 e2 z' TO' h1' h2' hT hsz hk => ?_
    have e1' : w1 = u := by
      have : its.toArray[i]? = some w1 := e1
      simp [hu] at this
      exact this.symm
    have e2' : w2 = u2 := by
      have : its2.toArray[i]? = some w2 := e2
      simp [hu2] at this
      exact this.symm
    subst e1' e2'
    refine ⟨_, rfl, wpAny_letOwnedTupleGo_zip (s := { s with heap := h', toks := tk }) z' fun h'' z'' sb => ?_⟩
    have hT2 : h''.get? s.heap.objs.size = some { cls := .type "tuple", data := .seq #[w1, w2] } := (sb.2 _ (Nat.ne_of_gt hzl)).trans hT
    have new : ObjOk X.prog X.w (upd H s.heap.objs.size (.tup [x, y])) h'' s.heap.objs.size (.tup [x, y]) :=
      ⟨by show 2 ≤ sizeLine; decide, [w1, w2], .cons ru (.cons ru2 .nil), ⟨_, hT2, rfl, _, rfl⟩⟩
    have I1 : Inv X pins σ (upd H s.heap.objs.size (.tup [x, y])) { s with heap := h'', toks := tk } :=
      I.turnedNew (t' := tk) (ch := [z, TI, TO, i1, i2]) (fun c o hb q => (sb.2 c (fun q' => hb (by simp [q']))).trans (hk c o (fun q' => hb (by simp [q'])) (fun q' => hb (by simp [q'])) (fun q' => hb (by simp [q'])) (fun q' => hb (by simp [q'])) q)) hf (Nat.le_refl _) new
    refine ⟨.ref s.heap.objs.size, _, I1, rfl, ⟨_, x, y, rfl, I.hok.fresh (Nat.le_refl _), rfl, fun l hl => by rw [injK I hl hqx]; exact hx, fun l hl => by rw [injK I hl hqy]; exact hy⟩, ⟨z'', ?_, ⟨w1, w2, ?_⟩, ?_, ?_⟩, fun c hcm => ?_⟩
    · exact (sb.2 _ D.TIz).trans (hk _ _ D.TIz D.TITO D.TIi1 D.TIi2 hTI)
    · exact (sb.2 _ D.TOz).trans TO'
    · exact h1'.1.at fun o q => (sb.2 _ (Ne.symm D.zi1)).trans q
    · exact h2'.1.at fun o q => (sb.2 _ (Ne.symm D.zi2)).trans q
    · obtain ⟨o1, g1, _⟩ := h1.ob
      obtain ⟨o2, g2, _⟩ := h2.ob
      have hlt : c < s.heap.objs.size := by
        simp only [List.mem_cons, List.not_mem_nil, or_false] at hcm
        rcases hcm with q | q | q | q | q
        · rw [q]; exact hzl
        · rw [q]; exact Heap.lt_size hTI
        · rw [q]; exact Heap.lt_size hTO
        · rw [q]; exact Heap.lt_size g1
        · rw [q]; exact Heap.lt_size g2
      rw [upd_ne (Nat.ne_of_lt hlt)]
      exact (hf c hcm).1
  done := by
    intro X hP hw hK hc i pins s σ H E I hf st hg
    subst hP hw hK
    obtain ⟨hz, hTI, ⟨x0, y0, hTO⟩, h1, h2⟩ := st
    obtain ⟨xs, ys, hqx, hqy, hend⟩ := hg
    obtain ⟨its, rv, p⟩ := seqK I hqx
    obtain ⟨its2, rv2, p2⟩ := seqK I hqy
    have l1 := rv.length
    have l2 := rv2.length
    obtain ⟨n1, P1, St1, D1, st1, le1, eq1⟩ := draws_at (prog := X.prog) (w := X.w) (A := X.A.in1) kx (I.ok.hd hc) i1 a na its.toArray i h1 p
    obtain ⟨n2, P2, St2, D2, st2, le2, eq2⟩ := draws_at (prog := X.prog) (w := X.w) (A := X.A.in1) ky (I.ok.hd hc) i2 b nb its2.toArray i h2 p2
    have he : i = n1 ∨ i = n2 := by
      rcases hend with q | q
      · exact .inl (eq1 (by simpa [← l1] using q)).symm
      · exact .inr (eq2 (by simpa [← l2] using q)).symm
    exact wpAny_pyNext_zipD2_end D D1 D2 hz hTI hTO st1 st2 le1 le2 he fun h' tk hk => ⟨rfl, I.turnedL (t' := tk) (ch := [z, TI, TO, i1, i2]) (fun c o hb q =>
      hk c o (fun q' => hb (by simp [q'])) (fun q' => hb (by simp [q'])) (fun q' => hb (by simp [q'])) (fun q' => hb (by simp [q'])) q) hf⟩
  self := fun A i s Q E st h => wpAny_pyIter_zip st.1 h
def iZipK (K : PySem.W.Frag) (ta : TA) : TI := fun σ H R => ta σ H fun vs H1 => ∃ kx ky a b xs ys, vs = [.ref a, .ref b] ∧ SqK kx K H1 a xs ∧ SqK ky K H1 b ys ∧ R (ItzK kx ky K a b) H1
theorem pi_zipK {X : Cx} {e e2 : Expr} {ta : TA} {p pos tpos : Pos} {elts : List Expr} {kk : Nat} (hg : Gl X "zip") (hm : X.mg "zip" = none) (ha : PA X [e, e2] ta)
    (hs : starEach [e, e2] X.env = (false, eval e X.env) :: starEach [e2] X.env := by rfl) (hpl : (backTo pos (starEach [e2] X.env)).any (·.1) = false := by rfl) :
    PI X (.Tuple elts kk tpos) (.Call (.Name "zip" p) [e, e2] [] pos) (iZipK X.K ta) := by
  refine ⟨fun pins s σ H R I h => ?_⟩
  refine PyProof.Rows.Call_ (ld_blt I hg hm PyProof.Rows.boot_zip (PyProof.Rows.callWith_type1 (thn (ha.run pos pins s σ H _ I h) fun us s1 ⟨vs, H1, I1, r1, q1⟩ => ?_) hs hpl))
  obtain ⟨kx, ky, a, b, xs, ys, ex, hqx, hqy, q⟩ := q1
  subst ex
  obtain ⟨u1, u2, rfl, r1, r2⟩ := r1.two
  cases r1
  cases r2
  obtain ⟨its, rv, p1⟩ := seqK I1 hqx
  obtain ⟨its2, rv2, p2⟩ := seqK I1 hqy
  refine zip_begins2 (begins_K kx a its.toArray) (begins_K ky b its2.toArray) p1 p2 fun h' hz hTI hTO h1 h2 hsz hk => wpAny_pyIter_zip hz ?_
  have I2 : Inv X pins σ H1 { s1 with heap := h' } := I1.kept (t' := s1.toks) hk
  refine ⟨s1.heap.objs.size + 4, [s1.heap.objs.size + 4, s1.heap.objs.size + 2, s1.heap.objs.size + 3, s1.heap.objs.size, s1.heap.objs.size + 1], _, _, H1, rfl, I2, turn_zipK (zip_sep2 (fp1 := [a]) (fp2 := [b]) (fun c hc => ?_) (fun c hc => ?_)) (Nat.ne_of_lt p1.lt) (Nat.ne_of_lt (Nat.lt_succ_of_lt p2.lt)), ⟨hz, hTI, ⟨_, _, hTO⟩, itK_new h1, itK_new h2⟩, fun c hcm => ?_, q⟩
  · rw [List.mem_singleton.mp hc]
    exact p1.lt
  · rw [List.mem_singleton.mp hc]
    exact p2.lt
  · have hle : s1.heap.objs.size ≤ c := by
      simp only [List.mem_cons, List.not_mem_nil, or_false] at hcm
      rcases hcm with z | z | z | z | z
      · rw [z]; exact Nat.le_add_right _ _
      · rw [z]; exact Nat.le_add_right _ _
      · rw [z]; exact Nat.le_add_right _ _
      · rw [z]; exact Nat.le_refl _
      · rw [z]; exact Nat.le_add_right _ _
    exact I1.fpOk hle (I1.hok.fresh hle)
/-! as data -/
def seqB : D → Option (Bool × List D)
  | .lst xs => some (true, xs)
  | .tup xs => some (false, xs)
  | _ => none
def zipA : List D → Res (List D)
  | [x, y] => match seqB x, seqB y with
    | some p, some q => .ok (zipL p.2 q.2)
    | _, _ => .bad
  | _ => .bad
section
variable {X : Cx} {P : Pm} {F0 : Fz} {H0 : Hp} {W : WX} {a b : Expr} {fs : Env → Res (List D)} {pos p : Pos} {F H : Hp}
theorem seqB_is {x : D} {v : V} {k : Bool} {xs : List D} (s : Sb P F H) (i : Is P F x v) (h : seqB x = some (k, xs)) : ∃ a vs, v = .ref a ∧ IsL P F xs vs ∧ ∀ K F1 H1, Ex F F1 → Sb P F1 H1 → SqK k K H1 a vs := by
  unfold seqB at h
  split at h
  · cases h
    rw [Is] at i
    obtain ⟨a, vs, rfl, h1, h2⟩ := i
    exact ⟨a, vs, rfl, h2, fun K F1 H1 e1 e2 => .inl ((e2.sub e1).rd h1)⟩
  · cases h
    rw [Is] at i
    obtain ⟨a, vs, rfl, h1, h2⟩ := i
    exact ⟨a, vs, rfl, h2, fun K F1 H1 e1 e2 => .inl (.inl (e2.ex _ _ (e1 _ _ h1)))⟩
  · cases h
theorem id_zipA {elts : List Expr} {kk : Nat} {tpos : Pos} (hg : Gl X "zip") (hm : X.mg "zip" = none) (ha : PA X [a, b] (tL P F0 H0 W fs)) (hs : starEach [a, b] X.env = (false, eval a X.env) :: starEach [b] X.env := by rfl) (hpl : (backTo pos (starEach [b] X.env)).any (·.1) = false := by rfl) :
    PI X (.Tuple elts kk tpos) (.Call (.Name "zip" p) [a, b] [] pos) (tI P F0 H0 W (fun ρ => fs ρ >>= zipA)) := (pi_zipK hg hm ha hs hpl).imp fun σ H R ⟨F, ρ, er, z⟩ => by
  refine ⟨F, ρ, er, (PostG.bind (rel := rLs P) z).imp ?_⟩
  rintro vs H1 ⟨F1, ds, g, i, q⟩
  unfold zipA at q
  split at q
  · rename_i x y
    obtain ⟨v, r, rfl, i1, i⟩ := i.uncons
    obtain ⟨v2, r2, rfl, i2, i⟩ := i.uncons
    obtain rfl := i.unnil
    split at q
    · rename_i p q' hp hq'
      obtain ⟨kx, xs⟩ := p
      obtain ⟨ky, ys⟩ := q'
      obtain ⟨a1, vs1, rfl, j1, k1⟩ := seqB_is g.s i1 hp
      obtain ⟨a2, vs2, rfl, j2, k2⟩ := seqB_is g.s i2 hq'
      refine ⟨kx, ky, a1, a2, vs1, vs2, rfl, k1 _ _ _ (.refl _) g.s, k2 _ _ _ (.refl _) g.s, q.here g.s fun j F2 H2 e1 e2 => ?_⟩
      have hr1 := k1 X.K F2 H2 e1 e2
      have hr2 := k2 X.K F2 H2 e1 e2
      refine ⟨fun d hd => ?_, fun hl => ⟨vs1, vs2, hr1, hr2, ?_⟩⟩
      · obtain ⟨x, y, hx, hy, rfl⟩ := zipL_get hd
        obtain ⟨vx, k1, k2⟩ := j1.get hx
        obtain ⟨vy, l1, l2⟩ := j2.get hy
        refine ⟨⟨vs1, vs2, vx, vy, hr1, hr2, k1, l1⟩, ?_⟩
        rintro v H3 ⟨T, x', y', rfl, hT, rfl, hx', hy'⟩
        have e3 := hx' vs1 hr1
        have e4 := hy' vs2 hr2
        rw [k1] at e3
        rw [l1] at e4
        cases e3
        cases e4
        exact pair_D e2 hT (k2.mono e1 x) (l2.mono e1 y)
      · rw [zipL_len, j1.length, j2.length] at hl
        omega
    · exact q.elim
  · exact q.elim
end
end DL
namespace DL
open PySem L2

/-! ### enumerate of a list or a tuple -/
theorem enum_new1 {v : Value} {o : Obj} {H : Heap → Prop} (B : Begins v o H) :
    Meets (Builtin.«enumerate.__new__» ⟨[.type "enumerate", v], []⟩) (fun _ R s => H s.heap ∧
      R (.ok (.ret (.ref (s.heap.push o).objs.size))) { s with heap := (s.heap.push o).push { cls := .type "enumerate", data := .fields #[.none, .bool false, .ref s.heap.objs.size, rawInt 0, .none, .none] } }) :=
  .of_wp fun prog w A R s h => by
    obtain ⟨hp, g, d, tk, os⟩ := s
    obtain ⟨h1, h⟩ := h
    have hsub := sub_enumerate
    have step : ∀ {A' : Around} {E : Value → Shared → Prop} {Q : Value → Shared → Prop}, Q (.ref hp.objs.size) ⟨hp.push o, g, d, tk, os⟩ → wpAny (model prog w) A' (pyIter v) Q E ⟨hp, g, d, tk, os⟩ :=
      fun q => B.iter prog w _ _ ⟨hp, g, d, tk, os⟩ _ h1 q
    wp_walk using step
    refine wpAny_stack_any fun st => wpAny_pure ?_
    split
    · rename_i c _ _ _ _ _
      cases (c == Value.type "enumerate") <;> (wp_walk using step; exact ⟨_, rfl, h⟩)
    · wp_walk using step
      exact ⟨_, rfl, h⟩
section
variable {prog : Program} {w : World} {A : Around} {E : Value → Shared → Prop} {s : Shared}
theorem enum_made {v : Value} {o : Obj} {H : Heap → Prop} {Q : Value → Shared → Prop} (B : Begins v o H) (h1 : H s.heap)
    (h : ∀ h', IsEnum h' (s.heap.objs.size + 1) s.heap.objs.size 0 .none → h'.get? s.heap.objs.size = some o → (∀ b o, s.heap.get? b = some o → h'.get? b = some o) → Q (.ref (s.heap.objs.size + 1)) { s with heap := h' }) :
    wpAny (model prog w) A (call (.type "enumerate") [v]) Q E s := by
  refine callType_new F.called_enumerate (by decide) (F.typeCall_enumerate_1 _) (F.newCall_enumerate_1 _) (fun obj => F.args_object_init_2 obj _) F.entry_enumerate_new (enum_new1 B) ⟨h1, ?_⟩
  have hz : (s.heap.push o).objs.size = s.heap.objs.size + 1 := Heap.size_push ..
  have he : IsEnum ((s.heap.push o).push { cls := .type "enumerate", data := .fields #[.none, .bool false, .ref s.heap.objs.size, rawInt 0, .none, .none] }) (s.heap.push o).objs.size s.heap.objs.size 0 .none := Heap.get?_push_size _ rfl
  show _ ∧ _
  rw [hz] at he ⊢
  exact ⟨⟨_, he, rfl⟩, h _ he (Heap.get?_push_of_some _ (Heap.get?_push_size _ B.free)) fun b o x => Heap.get?_push_of_some _ (Heap.get?_push_of_some _ x)⟩
end
def IteK (k : Bool) (K : PySem.W.Frag) (a : Addr) : It :=
  ⟨fun i H => ∃ (xs : List V) (x : V), SqK k K H a xs ∧ xs[i]? = some x, fun i H v H' => ∃ T x, v = .ref T ∧ H T = none ∧ H' = upd H T (.tup [.int (i : Nat), x]) ∧ ∀ xs, SqK k K H a xs → xs[i]? = some x, fun i H => ∃ xs : List V, SqK k K H a xs ∧ xs.length ≤ i⟩
theorem turn_enumK {P : Program} {w : World} {K : PySem.W.Frag} {elts : List Expr} {kk : Nat} {tpos : Pos} {k : Bool} {a e it : Addr} (na : a ≠ it) (ne : e ≠ it) (nea : e ≠ a) :
    Turn P w K (.Tuple elts kk tpos) (IteK k K a) [e, it] e (fun i h => (∃ old, IsEnum h e it ((i : Nat) : Int) old) ∧ ItK k h it a i) where
  mem := by simp
  obj := fun i h st c hc => by
    obtain ⟨⟨old, he⟩, hit⟩ := st
    simp only [List.mem_cons, List.not_mem_nil, or_false] at hc
    rcases hc with q | q
    · rw [q]; exact ⟨_, he, fun v q => nomatch q⟩
    · rw [q]; exact hit.ob
  keep := fun i h h' st k => by
    obtain ⟨⟨old, he⟩, hit⟩ := st
    exact ⟨⟨old, k e (by simp) _ he⟩, hit.at fun o q => k it (by simp) o q⟩
  item := by
    intro X hP hw hK hc i pins s σ H E I hf st hg
    subst hP hw hK
    obtain ⟨⟨old, he⟩, hit⟩ := st
    obtain ⟨xs, x, hq, hx⟩ := hg
    obtain ⟨its, rv, p⟩ := seqK I hq
    obtain ⟨u, hu, ru⟩ := rv.get hx
    have hel : e < s.heap.objs.size := Heap.lt_size he
    have D := draws_K (prog := X.prog) (w := X.w) (A := X.A.in1) k (I.ok.hd hc) it a na its.toArray
    refine wpAny_pyNext_enum_itemD D he ⟨hit, p⟩ (by simpa using lt_of_get hu) ne (by simp [ne, nea]) fun w1 h' tk e1 ho hit' hT hsz hk => ?_
    have e1' : w1 = u := by
      have : its.toArray[i]? = some w1 := e1
      simp [hu] at this
      exact this.symm
    subst e1'
    refine ⟨_, rfl, wpAny_letOwnedTupleGo_enum (s := { s with heap := h', toks := tk + 1 }) ho fun h'' he' sb => ?_⟩
    have hT2 : h''.get? s.heap.objs.size = some { cls := .type "tuple", data := .seq #[.int i tk, w1] } := (sb.2 _ (Nat.ne_of_gt hel)).trans hT
    have new : ObjOk X.prog X.w (upd H s.heap.objs.size (.tup [.int (i : Nat), x])) h'' s.heap.objs.size (.tup [.int (i : Nat), x]) :=
      ⟨by show 2 ≤ sizeLine; decide, [.int i tk, w1], .cons ⟨_, rfl⟩ (.cons ru .nil), ⟨_, hT2, rfl, _, rfl⟩⟩
    have I1 : Inv X pins σ (upd H s.heap.objs.size (.tup [.int (i : Nat), x])) { s with heap := h'', toks := tk + 1 } :=
      I.turnedNew (t' := tk + 1) (ch := [e, it]) (fun c o hb q => (sb.2 c (fun q' => hb (by simp [q']))).trans (hk c o (fun q' => hb (by simp [q'])) (fun q' => hb (by simp [q'])) q)) hf (Nat.le_refl _) new
    refine ⟨.ref s.heap.objs.size, _, I1, rfl, ⟨_, x, rfl, I.hok.fresh (Nat.le_refl _), rfl, fun l hl => by rw [injK I hl hq]; exact hx⟩, ⟨⟨w1, ?_⟩, hit'.1.at fun o q => (sb.2 _ (Ne.symm ne)).trans q⟩, fun c hcm => ?_⟩
    · have e1 : ((i + 1 : Nat) : Int) = (i : Int) + 1 := by omega
      rw [e1]
      exact he'
    · obtain ⟨o1, g1, _⟩ := hit.ob
      have hlt : c < s.heap.objs.size := by
        simp only [List.mem_cons, List.not_mem_nil, or_false] at hcm
        rcases hcm with q | q
        · rw [q]; exact hel
        · rw [q]; exact Heap.lt_size g1
      rw [upd_ne (Nat.ne_of_lt hlt)]
      exact (hf c hcm).1
  done := by
    intro X hP hw hK hc i pins s σ H E I hf st hg
    subst hP hw hK
    obtain ⟨⟨old, he⟩, hit⟩ := st
    obtain ⟨xs, hq, hend⟩ := hg
    obtain ⟨its, rv, p⟩ := seqK I hq
    have l1 := rv.length
    obtain ⟨n1, P1, St1, D1, st1, le1, eq1⟩ := draws_at (prog := X.prog) (w := X.w) (A := X.A.in1) k (I.ok.hd hc) it a na its.toArray i hit p
    have en := eq1 (by simpa [← l1] using hend)
    subst en
    refine wpAny_pyNext_enum_endD D1 he st1 fun h' hk => ⟨rfl, I.turnedL (t' := s.toks) (ch := [e, it]) (fun c o hb q => hk c o (fun q' => hb (by simp [q'])) q) hf⟩
  self := fun A i s Q E st h => let ⟨⟨_, he⟩, _⟩ := st; wpAny_pyIter_enum he h
def iEnuK (K : PySem.W.Frag) (ta : TA) : TI := fun σ H R => ta σ H fun vs H1 => ∃ k a xs, vs = [.ref a] ∧ SqK k K H1 a xs ∧ R (IteK k K a) H1
theorem pi_enuK {X : Cx} {e : Expr} {ta : TA} {p pos tpos : Pos} {elts : List Expr} {kk : Nat} (hg : Gl X "enumerate") (hm : X.mg "enumerate" = none) (ha : PA X [e] ta) (hs : starEach [e] X.env = [(false, eval e X.env)] := by rfl) :
    PI X (.Tuple elts kk tpos) (.Call (.Name "enumerate" p) [e] [] pos) (iEnuK X.K ta) := by
  refine ⟨fun pins s σ H R I h => ?_⟩
  refine PyProof.Rows.Call_ (ld_blt I hg hm PyProof.Rows.boot_enumerate (PyProof.Rows.callWith_type1 (thn (ha.run pos pins s σ H _ I h) fun us s1 ⟨vs, H1, I1, r1, q1⟩ => ?_) hs rfl))
  obtain ⟨k, a, xs, ex, hq, q⟩ := q1
  subst ex
  obtain ⟨u1, rfl, r2⟩ := r1.one
  obtain rfl : u1 = Value.ref a := r2
  obtain ⟨its, rv, p1⟩ := seqK I1 hq
  refine enum_made (begins_K k a its.toArray) p1 fun h' he h1 hk => wpAny_pyIter_enum he ?_
  have I2 : Inv X pins σ H1 { s1 with heap := h' } := I1.kept (t' := s1.toks) hk
  refine ⟨s1.heap.objs.size + 1, [s1.heap.objs.size + 1, s1.heap.objs.size], _, _, H1, rfl, I2, turn_enumK (Nat.ne_of_lt p1.lt) (Nat.succ_ne_self _) (Nat.ne_of_gt (Nat.lt_succ_of_lt p1.lt)), ⟨⟨.none, he⟩, itK_new h1⟩, fun c hcm => ?_, q⟩
  have hle : s1.heap.objs.size ≤ c := by
    simp only [List.mem_cons, List.not_mem_nil, or_false] at hcm
    rcases hcm with z | z
    · rw [z]; exact Nat.le_add_right _ _
    · rw [z]; exact Nat.le_refl _
  exact I1.fpOk hle (I1.hok.fresh hle)
/-! as data -/
def enuA : List D → Res (List D)
  | [x] => match seqB x with
    | some p => .ok (enuL p.2)
    | none => .bad
  | _ => .bad
section
variable {X : Cx} {P : Pm} {F0 : Fz} {H0 : Hp} {W : WX} {a b : Expr} {fs : Env → Res (List D)} {pos p : Pos} {F H : Hp}
theorem enuL_get {xs : List D} {j : Nat} {d : D} (h : (enuL xs)[j]? = some d) : ∃ x, xs[j]? = some x ∧ d = .tup [.int (j : Nat), x] := by
  unfold enuL at h
  rw [List.getElem?_map] at h
  cases hz : xs.zipIdx[j]? with
  | none =>
    rw [hz] at h
    cases h
  | some q =>
    rw [hz] at h
    cases h
    rw [List.getElem?_zipIdx] at hz
    cases hx : xs[j]? with
    | none =>
      rw [hx] at hz
      cases hz
    | some x =>
      rw [hx] at hz
      simp at hz
      subst hz
      exact ⟨x, rfl, rfl⟩
theorem id_enuA {elts : List Expr} {kk : Nat} {tpos : Pos} (hg : Gl X "enumerate") (hm : X.mg "enumerate" = none) (ha : PA X [a] (tL P F0 H0 W fs)) (hs : starEach [a] X.env = [(false, eval a X.env)] := by rfl) :
    PI X (.Tuple elts kk tpos) (.Call (.Name "enumerate" p) [a] [] pos) (tI P F0 H0 W (fun ρ => fs ρ >>= enuA)) := (pi_enuK hg hm ha hs).imp fun σ H R ⟨F, ρ, er, z⟩ => by
  refine ⟨F, ρ, er, (PostG.bind (rel := rLs P) z).imp ?_⟩
  rintro vs H1 ⟨F1, ds, g, i, q⟩
  unfold enuA at q
  split at q
  · rename_i x
    obtain ⟨v, r, rfl, i1, i⟩ := i.uncons
    obtain rfl := i.unnil
    split at q
    · rename_i p hp
      obtain ⟨kx, xs⟩ := p
      obtain ⟨a1, vs1, rfl, j1, k1⟩ := seqB_is g.s i1 hp
      refine ⟨kx, a1, vs1, rfl, k1 _ _ _ (.refl _) g.s, q.here g.s fun j F2 H2 e1 e2 => ?_⟩
      have hr1 := k1 X.K F2 H2 e1 e2
      refine ⟨fun d hd => ?_, fun hl => ⟨vs1, hr1, ?_⟩⟩
      · obtain ⟨x, hx, rfl⟩ := enuL_get hd
        obtain ⟨vx, k1, k2⟩ := j1.get hx
        refine ⟨⟨vs1, vx, hr1, k1⟩, ?_⟩
        rintro v H3 ⟨T, x', rfl, hT, rfl, hx'⟩
        have e3 := hx' vs1 hr1
        rw [k1] at e3
        cases e3
        exact pair_D e2 hT is_int (k2.mono e1 x)
      · rw [← j1.length]
        simpa [enuL] using hl
    · exact q.elim
  · exact q.elim
end
end DL
namespace DL
open PySem L2
section
variable {X : Cx} {P : Pm} {F0 : Fz} {H0 : Hp} {W : WX} {a b c e o : Expr} {es : List Expr} {fa fb fc : Env → Res D} {fs : Env → Res (List D)} {pos p apos : Pos} {us : List Nat} {hs : List D → Env → Option Env} {F H : Hp} {σ : L2.St}
/-! ### a, b = a list -/
def hLst (hs : List D → Env → Option Env) : D → Env → Option Env := fun d ρ => match d with
  | .lst ds => hs ds ρ
  | _ => none
theorem gd_lst {k n : Nat} (hc : X.calm = true) (h : PGs X es (tGts P F0 H0 us hs)) (hn : (assignEach es X.env).length = n := by rfl) (hst : (assignEach es X.env).findIdx? (·.1) = none := by rfl) :
    PG X (.Tuple es k pos) (tGt P F0 H0 us (hLst fun ds ρ => if ds.length = n then hs ds ρ else none)) := (pg_unl hc h hn hst).imp fun v σ H Q ⟨F, ρ, d, ρ', er, i1, e, q⟩ => by
  cases d with
  | lst ds =>
    have e' : (if ds.length = n then hs ds ρ else none) = some ρ' := e
    split at e'
    · rename_i hl
      rw [Is] at i1
      obtain ⟨a, vs, rfl, h1, h2⟩ := i1
      exact ⟨a, vs, rfl, .inl (er.s.rd h1), by rw [← h2.length]; exact hl, F, ρ, ds, ρ', er, h2, e', q⟩
    · cases e'
  | _ => cases e
/-! ### a text in a tuple of texts -/
def strsD : List D → Option (List Str)
  | [] => some []
  | .str z :: r => (strsD r).map (z :: ·)
  | _ :: _ => none
theorem strsD_of : ∀ {ds : List D} {vs : List V} {zs : List Str}, strsD ds = some zs → IsL P F ds vs → vs = zs.map V.str
  | [], _, _, h, i => by
    cases h
    obtain rfl := i.unnil
    rfl
  | d :: ds, _, zs, h, i => by
    obtain ⟨v, r, rfl, i1, i2⟩ := i.uncons
    cases d with
    | str z =>
      have h' : (strsD ds).map (z :: ·) = some zs := h
      cases hz : strsD ds with
      | none =>
        rw [hz] at h'
        cases h'
      | some zs' =>
        rw [hz] at h'
        cases h'
        rw [un_str i1, strsD_of hz i2]
        rfl
    | _ => cases h
def inT (x y : D) : Option D := match x, y with
  | .str z, .tup ys => (strsD ys).map fun zs => .bl (zs.any fun w => w == z)
  | _, _ => none
theorem io_inT : OpR X (compareOp .In) (r2O P inT) := fun pins s σ H x y u v Q I rx ry h => by
  obtain ⟨F, dx, dy, d, e, i1, i2, hd, q⟩ := h
  unfold inT at hd
  split at hd
  · rename_i z ys
    cases hz : strsD ys with
    | none =>
      rw [hz] at hd
      cases hd
    | some zs =>
      rw [hz] at hd
      cases hd
      obtain ⟨ad, vs, rfl, h0, h1, h2⟩ := i2
      cases (show x = .str z from i1)
      have ev := strsD_of hz h2
      subst ev
      refine op_in_seq pins s σ H _ _ u v Q I rx ry ⟨ad, _, rfl, .inr (.inl h1), rfl, ?_, ?_⟩
      · rw [List.all_eq_true]
        intro w hw
        obtain ⟨w', _, rfl⟩ := List.mem_map.mp hw
        rfl
      · have : inV (.str z) (zs.map V.str) = zs.any fun w => w == z := by
          unfold inV
          rw [List.any_map]
          rfl
        show Q (.bl (inV (.str z) (zs.map V.str))) H
        rw [this]
        exact q.bl e
  · cases hd
/-! ### max of a list of integers -/
def intsD : List D → Option (List Int)
  | [] => some []
  | .int z :: r => (intsD r).map (z :: ·)
  | _ :: _ => none
theorem intsD_of : ∀ {ds : List D} {vs : List V} {zs : List Int}, intsD ds = some zs → IsL P F ds vs → vs = zs.map V.int
  | [], _, _, h, i => by
    cases h
    obtain rfl := i.unnil
    rfl
  | d :: ds, _, zs, h, i => by
    obtain ⟨v, r, rfl, i1, i2⟩ := i.uncons
    cases d with
    | int z =>
      have h' : (intsD ds).map (z :: ·) = some zs := h
      cases hz : intsD ds with
      | none =>
        rw [hz] at h'
        cases h'
      | some zs' =>
        rw [hz] at h'
        cases h'
        rw [un_int i1, intsD_of hz i2]
        rfl
    | _ => cases h
def maxI (z : Int) (zs : List Int) : Int := zs.foldl max z
theorem maxI_spec : ∀ (zs : List Int) (z : Int), (maxI z zs = z ∨ maxI z zs ∈ zs) ∧ z ≤ maxI z zs ∧ ∀ y ∈ zs, y ≤ maxI z zs
  | [], z => ⟨.inl rfl, Int.le_refl _, fun y hy => by simp at hy⟩
  | x :: zs, z => by
    obtain ⟨h1, h2, h3⟩ := maxI_spec zs (max z x)
    have e : maxI z (x :: zs) = maxI (max z x) zs := rfl
    rw [e]
    refine ⟨?_, by omega, fun y hy => ?_⟩
    · rcases h1 with h1 | h1
      · rcases Int.le_total z x with hz | hz
        · right
          rw [h1, Int.max_eq_right hz]
          exact List.mem_cons_self
        · left
          rw [h1, Int.max_eq_left hz]
      · exact .inr (List.mem_cons_of_mem _ h1)
    · rcases List.mem_cons.mp hy with rfl | hy
      · omega
      · exact h3 y hy
def cMax : List D → Option D
  | [.lst (.int z :: r)] => (intsD r).map fun zs => .int (maxI z zs)
  | _ => none
theorem ic_max (hc : X.calm = true) : CallR X (.builtin "max") (rcO P cMax) := fun pins s σ H xs us Q I rx ⟨F, ds, d, e, i, hd, q⟩ => by
  unfold cMax at hd
  split at hd
  · rename_i z r
    cases hz : intsD r with
    | none =>
      rw [hz] at hd
      cases hd
    | some zs =>
      rw [hz] at hd
      cases hd
      obtain ⟨v, r', rfl, i1, i⟩ := i.uncons
      obtain rfl := i.unnil
      obtain ⟨a, vs, rfl, h1, h2⟩ := i1
      have ev : vs = (z :: zs).map V.int := intsD_of (by show (intsD r).map (z :: ·) = _; rw [hz]; rfl) h2
      subst ev
      refine cr_max hc pins s σ H _ us Q I rx ⟨a, z :: zs, rfl, .inl h1, by simp, fun m hm hm' => ?_⟩
      obtain ⟨k1, k2, k3⟩ := maxI_spec zs z
      have : m = maxI z zs := by
        apply Int.le_antisymm
        · rcases List.mem_cons.mp hm with rfl | hm
          · exact k2
          · exact k3 _ hm
        · rcases k1 with k1 | k1
          · rw [k1]
            exact hm' _ List.mem_cons_self
          · exact hm' _ (List.mem_cons_of_mem _ k1)
      subst this
      exact q.here e is_int
  · cases hd
/-! ### a call as a statement -/
abbrev sDrop (f : Env → Res D) : Env → RS := fun ρ => bindS (f ρ) ρ fun _ => .nx ρ
theorem sd_drop (he : PE X e (tE P F0 H0 W fa)) (hs : swapsWith e none pos.line X.env = pure false := by rfl) : PS X (.Expr e pos) (tS P F0 H0 W (sDrop fa)) := (ps_expr he hs).imp fun N σ H ⟨F, ρ, er, z⟩ => by
  refine ⟨F, ρ, er, (PostS.bind (rel := rIs P) er z).imp ?_⟩
  rintro v H1 ⟨F1, d, g, j, q⟩
  exact q _ F1 H1 (er.grow g) (.refl F1)
/-! ### an integer of the top -/
theorem pd_gli {x : Str} {z : Int} (hg : Gl X x) (hm : ∃ t, X.mg x = some (.int z t)) (hd : (x == ("__debug__" : Str)) = false) : PE X (.Name x pos) (tE P F0 H0 W (fK (.int z))) := by
  obtain ⟨t, ht⟩ := hm
  exact pd_const (pe_glob hg ht (v := .int z) ⟨t, rfl⟩ hd) fun F => by rw [Is]
/-! ### isinstance -/
def ib_tuple : D → Option Bool
  | .tup _ => some true
  | .scr _ => none
  | _ => some false
def ib_str : D → Option Bool
  | .str _ => some true
  | .scr _ => none
  | _ => some false
def ib_list : D → Option Bool
  | .lst _ => some true
  | .scr _ => none
  | _ => some false
def ib_cls (n : Nat) : D → Option Bool
  | .obj c _ => some (c == n)
  | .scr _ => none
  | _ => some false
/-! ### a new list by a slice -/
def slcL (x : D) (l h : Option Int) : Option D := match x with
  | .lst _ => slcD x l h
  | _ => none
theorem nd_slcL {lo hi : Option Expr} {fl fh : Env → Res (Option Int)} {p2 : Pos} (ha : PE X a (tV P F0 H0 W fa)) (hl : PO X lo (tOp' P F0 H0 W fl)) (hh : PO X hi (tOp' P F0 H0 W fh)) :
    PE X (.Subscript a (.Slice lo hi none p2) pos) (tN P F0 H0 W (fun ρ => do let x ← fa ρ; let l ← fl ρ; let h ← fh ρ; opt (slcL x l h))) :=
  (pe_slice sl_list ha hl hh).imp fun σ H Q ⟨F, ρ, er, z⟩ => by
  refine ⟨F, ρ, er, (PostG.bind (rel := rVw P) z).imp ?_⟩
  rintro x H1 ⟨F1, d, g1, i1, z1⟩
  refine ⟨F1, ρ, er.grow g1, (PostG.bind (rel := rOp) z1).imp ?_⟩
  rintro l H2 ⟨F2, l', g2, rfl, z2⟩
  refine ⟨F2, ρ, (er.grow g1).grow g2, (PostG.bind (rel := rOp) z2).imp ?_⟩
  rintro h H3 ⟨F3, h', g3, rfl, z3⟩
  obtain ⟨dr, hd, q⟩ := opt_of z3
  have i3 : Vw P F3 H3 d x := (i1.mono g2.f g2.h d).mono g3.f g3.h d
  cases d with
  | lst ds =>
    cases (show some (D.lst (cutD ds l h)) = some dr from hd)
    obtain ⟨ad, vs, rfl, h1, h2⟩ := i3
    refine ⟨ad, vs, rfl, .inl h1, fun p hp => ?_⟩
    have gg := (g1.trans g2).trans g3
    exact q _ F3 _ (.junk g3.s (.new hp)) ⟨p, rfl, gg.h.back hp, g3.s.back hp, _, upd_same, h2.cut _ _⟩
  | _ => cases hd
/-! ### x[i] = v of an owned list -/
def lputE (i : Nat) (ρ : Env) (y d : D) : RS := match ρ[i]?, y with
  | some (some (.ow (.lst xs))), .int k => match ixN xs.length k with
    | some j => .nx (ρ.set i (some (.ow (.lst (xs.set j d)))))
    | none => .bad
  | _, _ => .bad
abbrev sLput (i : Nat) (fk fv : Env → Res D) : Env → RS := fun ρ => bindS (fv ρ) ρ fun d => bindS (isOw i ρ) ρ fun _ => bindS (fk ρ) ρ fun y => lputE i ρ y d
theorem sd_lput (i : Nat) {x : Str} {p1 pos' : Pos} (hk : PE X b (tE P F0 H0 W fb)) (hv : PE X c (tE P F0 H0 W fc)) (hN : X.N[i]? = some x := by rfl) (hvi : Vis X.env.scope x := by first | exact Or.inl rfl | exact Or.inr (Or.inl rfl) | exact Or.inr (Or.inr rfl)) (hd : (x == ("__debug__" : Str)) = false := by decide)
    (hcd : (x == ("__classdict__" : Str)) = false := by decide)
    (ha : ∀ v, assign (.Subscript (.Name x p1) b pos') X.env v = (do
      let ov ← holding [v] (eval (.Name x p1) X.env)
      let iv ← holding [v, ov] (eval b X.env)
      standAt pos'
      holding [v, ov, iv] (setItem ov iv v)
      release [v, ov, iv] []) := by intro _; rfl)
    (hs : swapsWithSole [.Subscript (.Name x p1) b pos'] c pos.line X.env = pure false := by rfl) (hw : swappedStores [.Subscript (.Name x p1) b pos'] c X.env = pure none := by rfl) :
    PS X (.Assign [.Subscript (.Name x p1) b pos'] c pos) (tS P F0 H0 W (sLput i fb fc)) := (ps_asg hv (pg_sub (pe_var hN hvi hd hcd) hk set_list ha) hs hw).imp fun N σ H ⟨F, ρ, er, z⟩ => by
  refine ⟨F, ρ, er, (PostS.bind (rel := rIs P) er z).imp ?_⟩
  rintro v H1 ⟨F1, d, g1, i1, z1⟩
  have er1 := er.grow g1
  rcases isOw_cases i ρ with hb | ⟨xs, hb, hρ⟩
  · rw [hb] at z1
    exact z1.elim
  · rw [hb] at z1
    replace z1 : PostS P F0 H0 W F1 (bindS (fb ρ) ρ fun y => lputE i ρ y d) N := z1
    obtain ⟨ad, hσ, _⟩ := er1.ow i _ hρ
    refine ⟨.ref ad, hσ, F1, ρ, er1, (PostS.bind (rel := rIs P) er1 z1).imp ?_⟩
    rintro y H3 ⟨F3, dy, g3, i3, z3⟩
    have er3 := er1.grow g3
    obtain ⟨ad', h1, h2, h3, vs, h4, h5⟩ := er3.ow i _ hρ
    rw [hσ] at h1
    cases h1
    unfold lputE at z3
    rw [hρ] at z3
    cases dy with
    | int k =>
      dsimp only at z3
      cases hj : ixN xs.length k with
      | none =>
        rw [hj] at z3
        exact z3.elim
      | some j =>
        rw [hj] at z3
        dsimp only at z3
        obtain rfl := un_int i3
        refine ⟨ad, vs, k, j, rfl, rfl, h4, by rw [← h5.length]; exact hj, z3 σ F3 _ (er3.mut hρ hσ ⟨_, upd_same, ?_⟩) (.refl F3)⟩
        exact IsL.set j h5 (i1.mono g3.f d)
    | _ => exact z3.elim
end
section
variable {K : PySem.W.Frag} {P : Pm} {C : Addr}
theorem kit_tuple (h : ∀ c, PySem.W.kitOne K (.ref (P.C c)) (.type "tuple") = some false) : ∀ d b, ib_tuple d = some b → PySem.W.kitOne K (tyD P d) (.type "tuple") = some b := by
  intro d b hb
  cases d <;> simp only [ib_tuple, Option.some.injEq] at hb <;> (try subst hb) <;> first | exact kit_ty rfl | exact h _ | cases hb
theorem kit_str (h : ∀ c, PySem.W.kitOne K (.ref (P.C c)) (.type "str") = some false) : ∀ d b, ib_str d = some b → PySem.W.kitOne K (tyD P d) (.type "str") = some b := by
  intro d b hb
  cases d <;> simp only [ib_str, Option.some.injEq] at hb <;> (try subst hb) <;> first | exact kit_ty rfl | exact h _ | cases hb
theorem kit_list (h : ∀ c, PySem.W.kitOne K (.ref (P.C c)) (.type "list") = some false) : ∀ d b, ib_list d = some b → PySem.W.kitOne K (tyD P d) (.type "list") = some b := by
  intro d b hb
  cases d <;> simp only [ib_list, Option.some.injEq] at hb <;> (try subst hb) <;> first | exact kit_ty rfl | exact h _ | cases hb
theorem kit_cls {n : Nat} (hC : ∀ c, c ≠ n → PySem.W.kitOne K (.ref (P.C c)) (.ref (P.C n)) = some false) (h : NoB K (P.C n)) : ∀ d b, ib_cls n d = some b → PySem.W.kitOne K (tyD P d) (.ref (P.C n)) = some b := by
  intro d b hb
  cases d <;> simp only [ib_cls, Option.some.injEq] at hb <;> (try subst hb) <;> first | exact h.n1 | exact h.n2 | exact h.n3 | exact h.n4 | exact h.n5 | exact h.n6 | exact h.n7 | cases hb | skip
  rename_i c xs
  show PySem.W.kitOne K (.ref (P.C c)) (.ref (P.C n)) = some (c == n)
  by_cases hc : c = n
  · subst hc
    unfold PySem.W.kitOne
    rw [if_pos (by simp)]
    simp
  · rw [hC c hc]
    simp [hc]
end
end DL
namespace DL
open PySem L2
@[simp] abbrev fDict (f : Env → Res D) : Env → Res D := fun ρ => do let x ← f ρ; opt (cDictT [x])
@[simp] abbrev fSlcL (a : Env → Res D) (l h : Env → Res (Option Int)) : Env → Res D := fun ρ => do let x ← a ρ; let u ← l ρ; let v ← h ρ; opt (slcL x u v)
@[simp] abbrev fSort (a b : Env → Res D) : Env → Res D := fun ρ => do let x ← a ρ; let y ← b ρ; opt (cSortT x y)
@[simp] abbrev fRc (cz : Nat) (f : Env → Res D) : Env → Res D := fun ρ => rcD cz (f ρ)
@[simp] abbrev iZipA (f : Env → Res (List D)) : Env → Res (List D) := fun ρ => f ρ >>= zipA
@[simp] abbrev iEnuA (f : Env → Res (List D)) : Env → Res (List D) := fun ρ => f ρ >>= enuA
/-- of two classes: number 1, or not -/
def ib_c1 : D → Option Bool
  | .obj c _ => some (c == 1)
  | .scr _ => none
  | _ => some false
def ib_c0 : D → Option Bool
  | .obj c _ => some (c != 1)
  | .scr _ => none
  | _ => some false
theorem un1 {k : Nat} {A : Around} (r : Room k A) : A.units + 1 < cLine := by
  have := units65 r
  omega
theorem un8 {k : Nat} {A : Around} (r : Room k A) : A.units + 8 < cLine := by
  have := units65 r
  omega
theorem zip_no {ks : List Str} {f : Str} (h : f ∉ ks) (d : List D) : (ks.zip d).lookup f = (none : Option D) := by
  induction ks generalizing d with
  | nil => rfl
  | cons k ks ih =>
    cases d with
    | nil => rfl
    | cons x d =>
      have h1 : (f == k) = false := beq_eq_false_iff_ne.mpr fun e => h (by rw [e]; exact List.mem_cons_self)
      rw [List.zip_cons_cons, List.lookup_cons, h1]
      exact ih (fun m => h (List.mem_cons_of_mem _ m)) d
end DL
namespace DL.K42
open PySem L2
def nmv : Nat → List Str
  | 1 => ["fields", "parts"]
  | _ => ["top", "bottom"]
def g__law_cell : Env → RS := (sSeq (sIf (tB' (fOp dLt (peek 1) (fB cLenS (lCons (peek 0) lNil))))
  (sRet (fOp itemS (peek 0) (peek 1)))
  .nx)
  (sRet (fK (.int 0))))
def G__law_cell : List D → Res D := runB g__law_cell 2
def fr__law_row_0 : Env → RS := (sFor (iSq (look 1)) (hName 3)
  (sSeq (sApp 2 (fOp (int2 modC) (fB cInt2 (lCons (peek 0) lNil)) (peek 3)))
  (sSet 0 (fOp (int2 fdivC) (peek 0) (peek 3)))))
def fr__law_row_1 : Env → RS := (sFor (iR1 (lCons (fB cLen (lCons (peek 1) lNil)) lNil)) (hName 5)
  (sSeq (sSet 6 (fOp addA (fOp (int2 modC) (fB cInt2 (lCons (fOp (int2 powC) (fOp addA (fOp addA (peek 4) (fOp (int2 mulB) (fK (.int 7919)) (peek 5))) (fK (.int 104729))) (fK (.int 5))) lNil)) (fK (.int 2147483647))) (peek 5)))
  (sApp 2 (fOp (int2 modC) (fB cInt2 (lCons (fOp (int2 modC) (fB cInt2 (lCons (fOp (int2 mulB) (peek 6) (fK (.int 40692))) lNil)) (fK (.int 2147483629))) lNil)) (fOp itemD (peek 1) (peek 5))))))
def g__law_row : Env → RS := (sSeq (sSetO 2 (fLst lNil))
  (sSeq (sIf (tB' (fOp dGe (peek 0) (fOp (int2 powC) (fK (.int 10)) (fK (.int 18)))))
  (sSeq fr__law_row_0
  (sFrz 2 (sRet (look 2))))
  .nx)
  (sSeq (sSet 4 (fOp (int2 modC) (fB cInt2 (lCons (peek 0) lNil)) (fK (.int 2147483647))))
  (sSeq fr__law_row_1
  (sFrz 2 (sRet (look 2)))))))
def G__law_row : List D → Res D := runB g__law_row 7
def g__law_fields : Env → RS := (sRet (fOp itemD (fLst (lCons (fLst (lCons (fK (.str "x")) (lCons (fK (.str "y")) lNil))) (lCons (fLst (lCons (fK (.str "x")) lNil)) (lCons (fLst lNil) (lCons (fLst (lCons (fK (.str "price")) (lCons (fK (.str "many")) lNil))) (lCons (fLst (lCons (fK (.str "b")) (lCons (fK (.str "a")) lNil))) (lCons (fLst (lCons (fK (.str "zz")) lNil)) lNil))))))) (fOp (int2 modC) (peek 0) (fK (.int 6)))))
def G__law_fields : List D → Res D := runB g__law_fields 1
def wh__law_gcd_0 : Env → RS := (whileD (tB' (fOp dGt (peek 1) (fK (.int 0)))) (sPar 0 1 (lCons (look 1) (lCons (fOp (int2 modC) (peek 0) (peek 1)) lNil))) big)
def g__law_gcd : Env → RS := (sSeq (sPar 0 1 (lCons (fB cAbs (lCons (peek 0) lNil)) (lCons (fB cAbs (lCons (peek 1) lNil)) lNil)))
  (sSeq wh__law_gcd_0
  (sRet (look 0))))
def G__law_gcd : List D → Res D := runB g__law_gcd 2
def g__law_low : Env → RS := (sSeq (sAsg (look 0) (hTup fun ds ρ => if ds.length = 2 then (hCons (hName 1) (hCons (hName 2) hNil)) ds ρ else none))
  (sSeq (sSet 3 (fCall 2 G__law_gcd (lCons (look 1) (lCons (look 2) lNil))))
  (sSeq (sIf (tB' (fOp dLt (peek 2) (fK (.int 0))))
  (sSet 3 (fOp dSub (fK (.int 0)) (peek 3)))
  .nx)
  (sRet (fTup (lCons (fOp (int2 fdivC) (peek 1) (peek 3)) (lCons (fOp (int2 fdivC) (peek 2) (peek 3)) lNil)))))))
def G__law_low : List D → Res D := runB g__law_low 4
def fr__law_terms_0 : Env → RS := (sFor (iR1 (lCons (fOp (int2 fdivC) (fB cLen (lCons (peek 0) lNil)) (fK (.int 4))) lNil)) (hName 3)
  (sSeq (sAsg (fSlc (peek 0) (oSo (fOp (int2 mulB) (fK (.int 4)) (peek 3))) (oSo (fOp addA (fOp (int2 mulB) (fK (.int 4)) (peek 3)) (fK (.int 4))))) (hLst fun ds ρ => if ds.length = 4 then (hCons (hName 4) (hCons (hName 5) (hCons (hName 6) (hCons (hName 7) hNil)))) ds ρ else none))
  (sDput 2 (fSlc (fTup (lCons (look 4) (lCons (look 5) lNil))) oNo (oSo (fB cLen (lCons (peek 1) lNil)))) (fCall 1 G__law_low (lCons (fTup (lCons (fOp dSub (peek 6) (fK (.int 9))) (lCons (fOp addA (fK (.int 1)) (peek 7)) lNil))) lNil)))))
def g__law_terms : Env → RS := (sSeq (sSetO 2 (fK (.dT [] [])))
  (sSeq fr__law_terms_0
  (sFrz 2 (sRet (look 2)))))
def G__law_terms : List D → Res D := runB g__law_terms 8
def wh_common_0 : Env → RS := (whileD (tB' (fOp dGt (peek 1) (fK (.int 0)))) (sPar 0 1 (lCons (look 1) (lCons (fOp (int2 modC) (peek 0) (peek 1)) lNil))) big)
def g_common : Env → RS := (sSeq (sPar 0 1 (lCons (fB cAbs (lCons (peek 0) lNil)) (lCons (fB cAbs (lCons (peek 1) lNil)) lNil)))
  (sSeq wh_common_0
  (sRet (look 0))))
def G_common : List D → Res D := runB g_common 2
def g_Ratio___init__ : Env → RS := (sSeq (sIf (tB' (fOp eqD (peek 2) (fK (.int 0))))
  sBad
  .nx)
  (sSeq (sSet 3 (fCall 2 G_common (lCons (look 1) (lCons (look 2) lNil))))
  (sSeq (sIf (tB' (fOp dLt (peek 2) (fK (.int 0))))
  (sSet 3 (fU negC (peek 3)))
  .nx)
  (sSeq (sFld nmv "top" 0 (fOp (int2 fdivC) (peek 1) (peek 3)))
  (sFld nmv "bottom" 0 (fOp (int2 fdivC) (peek 2) (peek 3)))))))
def G_Ratio___init__ : List D → Res (List D) := runI 0 g_Ratio___init__ 4
def g__law_made : Env → RS := (sSeq (sAsg (fCall 1 G__law_low (lCons (look 0) lNil)) (hTup fun ds ρ => if ds.length = 2 then (hCons (hName 2) (hCons (hName 3) hNil)) ds ρ else none))
  (sRet (fIf (tAnd' (tB' (fOp eqD (peek 3) (fK (.int 1)))) (tB' (look 1))) (look 2) (fMk 0 2 G_Ratio___init__ (lCons (look 2) (lCons (look 3) lNil))))))
def G__law_made : List D → Res D := runB g__law_made 4
def lc__law_handed_0 : Env → Res D := (fLc (iKs (look 0)) (hName 2) tYes' (fTup (lCons (look 2) (lCons (fCall 2 G__law_made (lCons (fN dgetR (peek 0) (look 2)) (lCons (look 1) lNil))) lNil))) [2])
def g__law_handed : Env → RS := (sRet (fDict lc__law_handed_0))
def G__law_handed : List D → Res D := runB g__law_handed 3
def lc_is_name_0 : Env → Res D := (fLc (iSq (look 0)) (hName 1) tYes' (fOp inS (peek 1) (fK (.str "abcdefghijklmnopqrstuvwxyz"))) [1])
def g_is_name : Env → RS := (sSeq (sIf (tOr' (tNot' (tB' (fM (isiD ib_str) (peek 0)))) (tNot' (tB' (fChain dLe dLe (fK (.int 1)) (fB cLen (lCons (peek 0) lNil)) (fK (.int 8))))))
  (sRet (fK (.bl false)))
  .nx)
  (sRet (fB cAll (lCons lc_is_name_0 lNil))))
def G_is_name : List D → Res D := runB g_is_name 2
def fr_check_fields_0 : Env → RS := (sFor (iEnuA (lCons (look 0) lNil)) (hTup fun ds ρ => if ds.length = 2 then (hCons (hName 1) (hCons (hName 2) hNil)) ds ρ else none)
  (sIf (tOr' (tNot' (tB' (fCall 1 G_is_name (lCons (look 2) lNil)))) (tB' (fOp inT (peek 2) (fSlc (peek 0) oNo (oSo (look 1))))))
  sBad
  .nx))
def g_check_fields : Env → RS := fr_check_fields_0
def G_check_fields : List D → Res D := runB g_check_fields 3
def g_is_integer : Env → RS := (sRet (vAnd (fM (isiD ib_int) (peek 0)) (vNot (fM (isiD ib_bool) (peek 0)))))
def G_is_integer : List D → Res D := runB g_is_integer 1
def lc_is_powers_0 : Env → Res D := (fLc (iSq (look 0)) (hName 2) tYes' (vAnd (fCall 1 G_is_integer (lCons (look 2) lNil)) (fOp dGe (peek 2) (fK (.int 0)))) [2])
def g_is_powers : Env → RS := (sSeq (sIf (tOr' (tNot' (tB' (fM (isiD ib_tuple) (peek 0)))) (tB' (fOp neD (fB cLen (lCons (peek 0) lNil)) (peek 1))))
  (sRet (fK (.bl false)))
  .nx)
  (sRet (fB cAll (lCons lc_is_powers_0 lNil))))
def G_is_powers : List D → Res D := runB g_is_powers 3
def g_halves_of : Env → RS := (sRet (fIf (tB' (fM (isiD ib_c0) (peek 0))) (fTup (lCons (fU (fldD nmv "top") (peek 0)) (lCons (fU (fldD nmv "bottom") (peek 0)) lNil))) (fTup (lCons (look 0) (lCons (fK (.int 1)) lNil)))))
def G_halves_of : List D → Res D := runB g_halves_of 1
def g_is_number : Env → RS := (sRet (vOr (fCall 1 G_is_integer (lCons (look 0) lNil)) (fM (isiD ib_c0) (peek 0))))
def G_is_number : List D → Res D := runB g_is_number 1
def g_Ratio___eq__ : Env → RS := (sRet (vAnd (fCall 1 G_is_number (lCons (look 1) lNil)) (fOp eqD (fCall 1 G_halves_of (lCons (look 1) lNil)) (fTup (lCons (fU (fldD nmv "top") (peek 0)) (lCons (fU (fldD nmv "bottom") (peek 0)) lNil))))))
def G_Ratio___eq__ : List D → Res D := runB g_Ratio___eq__ 2
def g_plain : Env → RS := (sSeq (sAsg (fCall 1 G_halves_of (lCons (look 0) lNil)) (hTup fun ds ρ => if ds.length = 2 then (hCons (hName 1) (hCons (hName 2) hNil)) ds ρ else none))
  (sRet (fIf (tB' (fOp eqD (peek 2) (fK (.int 1)))) (look 1) (look 0))))
def G_plain : List D → Res D := runB g_plain 3
def fr_one_form_0 : Env → RS := (sFor (iSq (fSort (peek 0) (fK (.bl true)))) (hName 2)
  (sIf (tB' (fN (neN G_Ratio___eq__) (fN dgetR (peek 0) (look 2)) (fK (.int 0))))
  (sDput 1 (look 2) (fCall 1 G_plain (lCons (fN dgetR (peek 0) (look 2)) lNil)))
  .nx))
def g_one_form : Env → RS := (sSeq (sSetO 1 (fK (.dT [] [])))
  (sSeq fr_one_form_0
  (sFrz 1 (sRet (look 1)))))
def G_one_form : List D → Res D := runB g_one_form 3
def fr_Poly___init___0 : Env → RS := (sFor (iKs (look 2)) (hName 3)
  (sIf (tNot' (tB' (fCall 2 G_is_powers (lCons (look 3) (lCons (fB cLen (lCons (fU (fldD nmv "fields") (peek 0)) lNil)) lNil)))))
  sBad
  .nx))
def g_Poly___init__ : Env → RS := (sSeq (sFld nmv "fields" 0 (fB cTup (lCons (peek 1) lNil)))
  (sSeq (sDrop (fCall 1 G_check_fields (lCons (fU (fldD nmv "fields") (peek 0)) lNil)))
  (sSeq fr_Poly___init___0
  (sFld nmv "parts" 0 (fCall 1 G_one_form (lCons (look 2) lNil))))))
def G_Poly___init__ : List D → Res (List D) := runI 1 g_Poly___init__ 4
def g__law_times : Env → RS := (sRet (fCall 1 G__law_low (lCons (fTup (lCons (fOp (int2 mulB) (fOp itemD (peek 0) (fK (.int 0))) (fOp itemD (peek 1) (fK (.int 0)))) (lCons (fOp (int2 mulB) (fOp itemD (peek 0) (fK (.int 1))) (fOp itemD (peek 1) (fK (.int 1)))) lNil))) lNil)))
def G__law_times : List D → Res D := runB g__law_times 2
def fr__law_power_0 : Env → RS := (sFor (iR1 (lCons (look 1) lNil)) (hName 3)
  (sSet 2 (fCall 2 G__law_times (lCons (look 2) (lCons (look 0) lNil)))))
def g__law_power : Env → RS := (sSeq (sSet 2 (fTup (lCons (fK (.int 1)) (lCons (fK (.int 1)) lNil))))
  (sSeq fr__law_power_0
  (sRet (look 2))))
def G__law_power : List D → Res D := runB g__law_power 4
def g__law_add : Env → RS := (sRet (fCall 1 G__law_low (lCons (fTup (lCons (fOp addA (fOp (int2 mulB) (fOp itemD (peek 0) (fK (.int 0))) (fOp itemD (peek 1) (fK (.int 1)))) (fOp (int2 mulB) (fOp itemD (peek 1) (fK (.int 0))) (fOp itemD (peek 0) (fK (.int 1))))) (lCons (fOp (int2 mulB) (fOp itemD (peek 0) (fK (.int 1))) (fOp itemD (peek 1) (fK (.int 1)))) lNil))) lNil)))
def G__law_add : List D → Res D := runB g__law_add 2
def fr__law_value_of_0 : Env → RS := (sFor (iZipA (lCons (look 1) (lCons (look 3) lNil))) (hTup fun ds ρ => if ds.length = 2 then (hCons (hName 5) (hCons (hName 6) hNil)) ds ρ else none)
  (sSet 4 (fCall 2 G__law_times (lCons (look 4) (lCons (fCall 2 G__law_power (lCons (look 5) (lCons (look 6) lNil))) lNil)))))
def fr__law_value_of_1 : Env → RS := (sFor (iKs (look 0)) (hName 3)
  (sSeq (sSet 4 (fN dgetR (peek 0) (look 3)))
  (sSeq fr__law_value_of_0
  (sSet 2 (fCall 2 G__law_add (lCons (look 2) (lCons (look 4) lNil)))))))
def g__law_value_of : Env → RS := (sSeq (sSet 2 (fTup (lCons (fK (.int 0)) (lCons (fK (.int 1)) lNil))))
  (sSeq fr__law_value_of_1
  (sRet (look 2))))
def G__law_value_of : List D → Res D := runB g__law_value_of 7
def g_Ratio___mul__ : Env → RS := (sSeq (sIf (tNot' (tB' (fCall 1 G_is_number (lCons (look 1) lNil))))
  sBad
  .nx)
  (sSeq (sAsg (fCall 1 G_halves_of (lCons (look 1) lNil)) (hTup fun ds ρ => if ds.length = 2 then (hCons (hName 2) (hCons (hName 3) hNil)) ds ρ else none))
  (sRet (fMk 0 2 G_Ratio___init__ (lCons (fOp (int2 mulB) (fU (fldD nmv "top") (peek 0)) (peek 2)) (lCons (fOp (int2 mulB) (fU (fldD nmv "bottom") (peek 0)) (peek 3)) lNil))))))
def G_Ratio___mul__ : List D → Res D := runB g_Ratio___mul__ 4
def g_Ratio___rmul__ : Env → RS := (sRet (fN (opL G_Ratio___mul__) (look 0) (look 1)))
def G_Ratio___rmul__ : List D → Res D := runB g_Ratio___rmul__ 2
def fr_raised_0 : Env → RS := (sFor (iR1 (lCons (look 1) lNil)) (hName 4)
  (sSet 3 (fN (opN mulB G_Ratio___mul__ G_Ratio___rmul__) (look 3) (look 0))))
def g_raised : Env → RS := (sSeq (sSet 3 (look 2))
  (sSeq fr_raised_0
  (sRet (look 3))))
def G_raised : List D → Res D := runB g_raised 5
def g_Ratio___add__ : Env → RS := (sSeq (sIf (tNot' (tB' (fCall 1 G_is_number (lCons (look 1) lNil))))
  sBad
  .nx)
  (sSeq (sAsg (fCall 1 G_halves_of (lCons (look 1) lNil)) (hTup fun ds ρ => if ds.length = 2 then (hCons (hName 2) (hCons (hName 3) hNil)) ds ρ else none))
  (sRet (fMk 0 2 G_Ratio___init__ (lCons (fOp addA (fOp (int2 mulB) (fU (fldD nmv "top") (peek 0)) (peek 3)) (fOp (int2 mulB) (peek 2) (fU (fldD nmv "bottom") (peek 0)))) (lCons (fOp (int2 mulB) (fU (fldD nmv "bottom") (peek 0)) (peek 3)) lNil))))))
def G_Ratio___add__ : List D → Res D := runB g_Ratio___add__ 4
def g_Ratio___radd__ : Env → RS := (sRet (fN (opL G_Ratio___add__) (look 0) (look 1)))
def G_Ratio___radd__ : List D → Res D := runB g_Ratio___radd__ 2
def fr_Poly_at_0 : Env → RS := (sFor (iZipA (lCons (look 1) (lCons (look 3) lNil))) (hTup fun ds ρ => if ds.length = 2 then (hCons (hName 5) (hCons (hName 6) hNil)) ds ρ else none)
  (sSet 4 (fN (opN mulB G_Ratio___mul__ G_Ratio___rmul__) (look 4) (fCall 3 G_raised (lCons (look 5) (lCons (look 6) (lCons (fK (.int 1)) lNil)))))))
def fr_Poly_at_1 : Env → RS := (sFor (iKs (fU (fldD nmv "parts") (peek 0))) (hName 3)
  (sSeq (sSet 4 (fN dgetR (fU (fldD nmv "parts") (peek 0)) (look 3)))
  (sSeq fr_Poly_at_0
  (sSet 2 (fN (opN (fun i j => some (.int (i + j))) G_Ratio___add__ G_Ratio___radd__) (look 2) (look 4))))))
def g_Poly_at : Env → RS := (sSeq (sIf (tB' (fOp neD (fB cLen (lCons (peek 1) lNil)) (fB cLen (lCons (fU (fldD nmv "fields") (peek 0)) lNil))))
  (sRaise 0 (fB cLen (lCons (peek 1) lNil)))
  .nx)
  (sSeq (sSet 2 (fK (.int 0)))
  (sSeq fr_Poly_at_1
  (sRet (fCall 1 G_plain (lCons (look 2) lNil))))))
def G_Poly_at : List D → Res D := runB g_Poly_at 7
def g__law_is_int : Env → RS := (sRet (vAnd (fM (isiD ib_int) (peek 0)) (vNot (fM (isiD ib_bool) (peek 0)))))
def G__law_is_int : List D → Res D := runB g__law_is_int 1
def g__law_is_plain : Env → RS := (sSeq (sAsg (fCall 1 G__law_low (lCons (look 1) lNil)) (hTup fun ds ρ => if ds.length = 2 then (hCons (hName 2) (hCons (hName 3) hNil)) ds ρ else none))
  (sSeq (sIf (tB' (fOp eqD (peek 3) (fK (.int 1))))
  (sRet (vAnd (fCall 1 G__law_is_int (lCons (look 0) lNil)) (fOp eqD (peek 0) (peek 2))))
  .nx)
  (sRet (vAnd (fM (isiD ib_c0) (peek 0)) (vAnd (fOp eqD (fU (fldD nmv "top") (peek 0)) (peek 2)) (fOp eqD (fU (fldD nmv "bottom") (peek 0)) (peek 3)))))))
def G__law_is_plain : List D → Res D := runB g__law_is_plain 4
def g_parts_beside : Env → RS := (sSeq (sIf (tNot' (tB' (fM (isiD ib_c1) (peek 1))))
  sBad
  .nx)
  (sSeq (sIf (tB' (fOp neD (fU (fldD nmv "fields") (peek 1)) (fU (fldD nmv "fields") (peek 0))))
  sBad
  .nx)
  (sRet (fU (fldD nmv "parts") (peek 1)))))
def G_parts_beside : List D → Res D := runB g_parts_beside 2
def lc_multiplied_0 : Env → Res D := (fLc (iZipA (lCons (look 3) (lCons (look 4) lNil))) (hTup fun ds ρ => if ds.length = 2 then (hCons (hName 6) (hCons (hName 7) hNil)) ds ρ else none) tYes' (fOp addA (peek 6) (peek 7)) [6, 7])
def fr_multiplied_1 : Env → RS := (sFor (iKs (look 1)) (hName 4)
  (sSeq (sSet 5 (fB cTup (lCons lc_multiplied_0 lNil)))
  (sDput 2 (look 5) (fN (opN (fun i j => some (.int (i + j))) G_Ratio___add__ G_Ratio___radd__) (fDget (peek 2) (look 5) (fK (.int 0))) (fN (opN mulB G_Ratio___mul__ G_Ratio___rmul__) (fN dgetR (peek 0) (look 3)) (fN dgetR (peek 1) (look 4)))))))
def fr_multiplied_2 : Env → RS := (sFor (iKs (look 0)) (hName 3)
  fr_multiplied_1)
def g_multiplied : Env → RS := (sSeq (sSetO 2 (fK (.dT [] [])))
  (sSeq fr_multiplied_2
  (sFrz 2 (sRet (look 2)))))
def G_multiplied : List D → Res D := runB g_multiplied 8
def g_Poly___mul__ : Env → RS := (sRet (fMk 1 2 G_Poly___init__ (lCons (fU (fldD nmv "fields") (peek 0)) (lCons (fCall 2 G_multiplied (lCons (fU (fldD nmv "parts") (peek 0)) (lCons (fCall 2 G_parts_beside (lCons (look 0) (lCons (look 1) lNil))) lNil))) lNil))))
def G_Poly___mul__ : List D → Res D := runB g_Poly___mul__ 2
def lc__law_kept_0 : Env → Res D := (fLc (iKs (look 0)) (hName 1) (tB' (fOp neD (fOp itemD (fN dgetR (peek 0) (look 1)) (fK (.int 0))) (fK (.int 0)))) (fTup (lCons (look 1) (lCons (fN dgetR (peek 0) (look 1)) lNil))) [1])
def g__law_kept : Env → RS := (sRet (fDict lc__law_kept_0))
def G__law_kept : List D → Res D := runB g__law_kept 2
def lc_Poly_power_0 : Env → Res D := (fLc (iKs (fU (fldD nmv "parts") (peek 0))) (hName 2) tYes' (fB cInt2 (lCons (fOp itemD (peek 2) (peek 1)) lNil)) [2])
def g_Poly_power : Env → RS := (sSeq (sIf (tNot' (tB' (fChain dLe dLt (fK (.int 0)) (look 1) (fB cLen (lCons (fU (fldD nmv "fields") (peek 0)) lNil)))))
  (sRaise 0 (look 1))
  .nx)
  (sRet (fB cMax (lCons (fOp addA (fLst (lCons (fK (.int 0)) lNil)) lc_Poly_power_0) lNil))))
def G_Poly_power : List D → Res D := runB g_Poly_power 3
def lc_law_0 : Env → Res D := (fLc (iSq (look 7)) (hName 9) tYes' (fCall 2 G__law_made (lCons (look 9) (lCons (fOp eqD (fOp itemD (peek 1) (fK (.int 1))) (fK (.int 0))) lNil))) [9])
def lc_law_1 : Env → Res D := (fLc (iKs (fCall 1 G__law_kept (lCons (look 3) lNil))) (hName 14) tYes' (fB cInt2 (lCons (fOp itemD (peek 14) (peek 12)) lNil)) [14])
def fr_law_2 : Env → RS := (sFor (iR1 (lCons (fB cLen (lCons (peek 2) lNil)) lNil)) (hName 12)
  (sSeq (sSet 13 (fB cMax (lCons (fOp addA (fLst (lCons (fK (.int 0)) lNil)) lc_law_1) lNil)))
  (sIf (tOr' (tNot' (tB' (fCall 1 G__law_is_int (lCons (fMet 1 2 G_Poly_power (look 5) (lCons (look 12) lNil)) lNil)))) (tB' (fOp neD (fMet 1 2 G_Poly_power (look 5) (lCons (look 12) lNil)) (peek 13))))
  (sRet (fK (.bl false)))
  .nx)))
def g_law : Env → RS := (sSeq (sSet 1 (fCall 2 G__law_row (lCons (fCall 2 G__law_cell (lCons (look 0) (lCons (fK (.int 0)) lNil))) (lCons (fOp addA (fLst (lCons (fK (.int 6)) (lCons (fK (.int 2)) (lCons (fK (.int 19)) (lCons (fK (.int 5)) (lCons (fK (.int 19)) (lCons (fK (.int 5)) (lCons (fK (.int 5)) (lCons (fK (.int 5)) (lCons (fK (.int 4)) lNil)))))))))) (fOp repD (fLst (lCons (fK (.int 4)) (lCons (fK (.int 4)) (lCons (fK (.int 19)) (lCons (fK (.int 5)) lNil))))) (fK (.int 8)))) lNil))))
  (sSeq (sSet 2 (fCall 1 G__law_fields (lCons (fOp itemD (peek 1) (fK (.int 0))) lNil)))
  (sSeq (sSet 3 (fCall 2 G__law_terms (lCons (fSlc (peek 1) (oSo (fK (.int 9))) (oSo (fOp addA (fK (.int 9)) (fOp (int2 mulB) (fK (.int 4)) (fOp itemD (peek 1) (fK (.int 6))))))) (lCons (look 2) lNil))))
  (sSeq (sSet 4 (fCall 2 G__law_terms (lCons (fSlc (peek 1) (oSo (fK (.int 25))) (oSo (fOp addA (fK (.int 25)) (fOp (int2 mulB) (fK (.int 4)) (fOp itemD (peek 1) (fK (.int 7))))))) (lCons (look 2) lNil))))
  (sSeq (sAsg (fTup (lCons (fMk 1 2 G_Poly___init__ (lCons (look 2) (lCons (fCall 2 G__law_handed (lCons (look 3) (lCons (fK (.bl true)) lNil))) lNil))) (lCons (fMk 1 2 G_Poly___init__ (lCons (look 2) (lCons (fCall 2 G__law_handed (lCons (look 4) (lCons (fK (.bl false)) lNil))) lNil))) lNil))) (hTup fun ds ρ => if ds.length = 2 then (hCons (hName 5) (hCons (hName 6) hNil)) ds ρ else none))
  (sSeq (sSetO 7 (fSlcL (fLst (lCons (fTup (lCons (fOp dSub (fOp itemD (peek 1) (fK (.int 2))) (fK (.int 9))) (lCons (fOp addA (fK (.int 1)) (fOp itemD (peek 1) (fK (.int 3)))) lNil))) (lCons (fTup (lCons (fOp dSub (fOp itemD (peek 1) (fK (.int 4))) (fK (.int 9))) (lCons (fOp addA (fK (.int 1)) (fOp itemD (peek 1) (fK (.int 5)))) lNil))) lNil))) oNo (oSo (fB cLen (lCons (peek 2) lNil)))))
  (sSeq (sIf (tAnd' (tB' (fOp neD (peek 7) (fLst lNil))) (tB' (fOp eqD (fOp itemD (peek 1) (fK (.int 8))) (fK (.int 0)))))
  (sLput 7 (fK (.int 0)) (fTup (lCons (fOp (int2 modC) (fB cInt2 (lCons (fCall 2 G__law_cell (lCons (look 0) (lCons (fK (.int 1)) lNil))) lNil)) (fOp (int2 powC) (fK (.int 10)) (fK (.int 20)))) (lCons (fOp addA (fK (.int 1)) (fOp itemD (peek 1) (fK (.int 3)))) lNil))))
  .nx)
  (sSeq (sFrz 7 (sSet 8 lc_law_0))
  (sSeq (sFrz 7 (sPar 10 11 (lCons (fCall 2 G__law_value_of (lCons (look 3) (lCons (look 7) lNil))) (lCons (fCall 2 G__law_value_of (lCons (look 4) (lCons (look 7) lNil))) lNil))))
  (sSeq (sIf (tOr' (tNot' (tB' (fCall 2 G__law_is_plain (lCons (fMet 1 2 G_Poly_at (look 5) (lCons (look 8) lNil)) (lCons (look 10) lNil))))) (tNot' (tB' (fCall 2 G__law_is_plain (lCons (fMet 1 2 G_Poly_at (look 6) (lCons (fB cTup (lCons (peek 8) lNil)) lNil)) (lCons (look 11) lNil))))))
  (sRet (fK (.bl false)))
  .nx)
  (sSeq (sIf (tNot' (tB' (fCall 2 G__law_is_plain (lCons (fMet 1 2 G_Poly_at (fN (opO 1 G_Poly___mul__) (look 5) (look 6)) (lCons (look 8) lNil)) (lCons (fCall 2 G__law_times (lCons (look 10) (lCons (look 11) lNil))) lNil)))))
  (sRet (fK (.bl false)))
  .nx)
  (sSeq fr_law_2
  (sSeq (sSet 15 (fB cLen (lCons (peek 2) lNil)))
  (sSeq (sSetO 16 (fLst (lCons (fRc 0 (fMet 1 2 G_Poly_at (look 5) (lCons (fOp addA (peek 8) (fLst (lCons (fK (.int 1)) lNil))) lNil))) lNil)))
  (sSeq (sApp 16 (fRc 0 (fMet 1 2 G_Poly_power (look 5) (lCons (look 15) lNil))))
  (sSeq (sApp 16 (fRc 0 (fMet 1 2 G_Poly_power (look 5) (lCons (fU negC (fK (.int 1))) lNil))))
  (sSeq (sIf (tB' (fOp neD (peek 16) (fLst (lCons (fOp addA (peek 15) (fK (.int 1))) (lCons (look 15) (lCons (fU negC (fK (.int 1))) lNil))))))
  (sRet (fK (.bl false)))
  .nx)
  (sRet (vOr (fOp eqD (peek 15) (fK (.int 0))) (fOp eqD (fRc 0 (fMet 1 2 G_Poly_at (look 5) (lCons (fSlc (peek 8) oNo (oSo (fU negC (fK (.int 1))))) lNil))) (fOp dSub (peek 15) (fK (.int 1)))))))))))))))))))))))
def G_law : List D → Res D := runB g_law 17
end DL.K42
namespace DL.K42
open PySem L2
def clv (C C1 : Addr) : Nat → Addr
  | 1 => C1
  | _ => C
abbrev pm (K : PySem.W.Frag) (C C1 E0 : Addr) (TT : List (Addr × Str)) : Pm := ⟨clv C C1, nmv, fun _ => .ref E0, fun _ => "count", K, TT⟩
def top (i : Nat) : Stmt := PySem.Challenge.pw_everylist_k42_values_of_polys.main.body.getD i (.Pass ⟨0, 0, 0, 0⟩)
structure Txt (prog : Program) (K : PySem.W.Frag) (mg : Str → Option Value) (base : Heap) (C C1 E0 fE : Addr) (TT : List (Addr × Str)) : Prop where
  cl : Cls K C
  nT : NoAttr K C "top"
  nB : NoAttr K C "bottom"
  cl1 : Cls K C1
  nF : NoAttr K C1 "fields"
  nP : NoAttr K C1 "parts"
  g_Ratio : mg "Ratio" = some (.ref C)
  g_Poly : mg "Poly" = some (.ref C1)
  ic : IsiC K C
  ic1 : IsiC K C1
  nob : NoB K C
  nob1 : NoB K C1
  ki : PySem.W.kitOne K (.ref C) (.type "int") = some false
  kb : PySem.W.kitOne K (.ref C) (.type "bool") = some false
  kt : PySem.W.kitOne K (.ref C) (.type "tuple") = some false
  ks : PySem.W.kitOne K (.ref C) (.type "str") = some false
  ki1 : PySem.W.kitOne K (.ref C1) (.type "int") = some false
  kb1 : PySem.W.kitOne K (.ref C1) (.type "bool") = some false
  kt1 : PySem.W.kitOne K (.ref C1) (.type "tuple") = some false
  ks1 : PySem.W.kitOne K (.ref C1) (.type "str") = some false
  k01 : PySem.W.kitOne K (.ref C) (.ref C1) = some false
  k10 : PySem.W.kitOne K (.ref C1) (.ref C) = some false
  n_add : NumC K C "__add__" "__radd__"
  n_mul : NumC K C "__mul__" "__rmul__"
  r_add : ∃ fr, PySem.W.findIn K (.ref C) "__radd__" = some (some (.ref fr))
  r_mul : ∃ fr, PySem.W.findIn K (.ref C) "__rmul__" = some (some (.ref fr))
  ec : EqC K (pm K C C1 E0 TT)
  sf_Poly : PySem.W.selfFirst K C1 = true
  e_WrongCount : PySem.ErrX.ErrTxt prog K mg "WrongCount" "count" E0 fE
  rc : RcD prog K mg "_law_count" "_law_way" "WrongCount" "e" "count" E0 fE
  xc : PySem.W.exmOne K (.ref E0) (.ref E0) = some true
  kLETTERS : ∃ t, mg "LETTERS" = some (.str "abcdefghijklmnopqrstuvwxyz" t)
  kMOST_LETTERS : ∃ t, mg "MOST_LETTERS" = some (.int 8 t)
  b_abs : mg "abs" = none
  b_len : mg "len" = none
  b_all : mg "all" = none
  b_int : mg "int" = none
  b_bool : mg "bool" = none
  b_str : mg "str" = none
  b_tuple : mg "tuple" = none
  b_range : mg "range" = none
  b_zip : mg "zip" = none
  b_enumerate : mg "enumerate" = none
  b_isinstance : mg "isinstance" = none
  b_sorted : mg "sorted" = none
  b_dict : mg "dict" = none
  b_max : mg "max" = none
section
variable {prog : Program} {w : World} {K : PySem.W.Frag} {mg : Str → Option Value} {base : Heap} {C C1 E0 fE : Addr} {TT : List (Addr × Str)}
theorem clv_of {p : Addr → Prop} (h0 : p C) (h1 : p C1) : ∀ c, p (clv C C1 c)
  | 1 => h1
  | 0 => h0
  | _ + 2 => h0
theorem fld_of {f : Str} (h0 : f ∈ nmv 0 → Cls K C ∧ NoAttr K C f) (h1 : f ∈ nmv 1 → Cls K C1 ∧ NoAttr K C1 f) : ∀ c : Nat, f ∈ nmv c → Cls K (clv C C1 c) ∧ NoAttr K (clv C C1 c) f
  | 1 => h1
  | 0 => h0
  | _ + 2 => h0
theorem lk_of {f : Str} (h : ∀ c : Nat, f ∈ nmv c → Cls K (clv C C1 c) ∧ NoAttr K (clv C C1 c) f) : ∀ (c : Nat) (d : List D), ((nmv c).zip d).lookup f ≠ (none : Option D) → Cls K (clv C C1 c) ∧ NoAttr K (clv C C1 c) f := fun c d hn => by
  by_cases hm : f ∈ nmv c
  · exact h c hm
  · exact absurd (zip_no hm d) hn
theorem Txt.s_top (T : Txt prog K mg base C C1 E0 fE TT) : ∀ c : Nat, ("top" : Str) ∈ nmv c → Cls K (clv C C1 c) ∧ NoAttr K (clv C C1 c) "top" := fld_of (fun _ => ⟨T.cl, T.nT⟩) fun h => absurd h (by decide +kernel)
theorem Txt.s_bottom (T : Txt prog K mg base C C1 E0 fE TT) : ∀ c : Nat, ("bottom" : Str) ∈ nmv c → Cls K (clv C C1 c) ∧ NoAttr K (clv C C1 c) "bottom" := fld_of (fun _ => ⟨T.cl, T.nB⟩) fun h => absurd h (by decide +kernel)
theorem Txt.s_fields (T : Txt prog K mg base C C1 E0 fE TT) : ∀ c : Nat, ("fields" : Str) ∈ nmv c → Cls K (clv C C1 c) ∧ NoAttr K (clv C C1 c) "fields" := fld_of (fun h => absurd h (by decide +kernel)) fun _ => ⟨T.cl1, T.nF⟩
theorem Txt.s_parts (T : Txt prog K mg base C C1 E0 fE TT) : ∀ c : Nat, ("parts" : Str) ∈ nmv c → Cls K (clv C C1 c) ∧ NoAttr K (clv C C1 c) "parts" := fld_of (fun h => absurd h (by decide +kernel)) fun _ => ⟨T.cl1, T.nP⟩
theorem Txt.f_top (T : Txt prog K mg base C C1 E0 fE TT) : ∀ (c : Nat) (d : List D), ((nmv c).zip d).lookup ("top" : Str) ≠ (none : Option D) → Cls K (clv C C1 c) ∧ NoAttr K (clv C C1 c) "top" := lk_of T.s_top
theorem Txt.f_bottom (T : Txt prog K mg base C C1 E0 fE TT) : ∀ (c : Nat) (d : List D), ((nmv c).zip d).lookup ("bottom" : Str) ≠ (none : Option D) → Cls K (clv C C1 c) ∧ NoAttr K (clv C C1 c) "bottom" := lk_of T.s_bottom
theorem Txt.f_fields (T : Txt prog K mg base C C1 E0 fE TT) : ∀ (c : Nat) (d : List D), ((nmv c).zip d).lookup ("fields" : Str) ≠ (none : Option D) → Cls K (clv C C1 c) ∧ NoAttr K (clv C C1 c) "fields" := lk_of T.s_fields
theorem Txt.f_parts (T : Txt prog K mg base C C1 E0 fE TT) : ∀ (c : Nat) (d : List D), ((nmv c).zip d).lookup ("parts" : Str) ≠ (none : Option D) → Cls K (clv C C1 c) ∧ NoAttr K (clv C C1 c) "parts" := lk_of T.s_parts
theorem Txt.nd (_ : Txt prog K mg base C C1 E0 fE TT) : ∀ c : Nat, ((pm K C C1 E0 TT).nm c).Nodup
  | 1 => by
    show (["fields", "parts"] : List Str).Nodup
    decide +kernel
  | 0 => by
    show (["top", "bottom"] : List Str).Nodup
    decide +kernel
  | _ + 2 => by
    show (["top", "bottom"] : List Str).Nodup
    decide +kernel
theorem Txt.isi (T : Txt prog K mg base C C1 E0 fE TT) : ∀ c : Nat, IsiC K ((pm K C C1 E0 TT).C c) := clv_of (p := fun a => IsiC K a) T.ic T.ic1
theorem Txt.kit_int (T : Txt prog K mg base C C1 E0 fE TT) : ∀ d b, ib_int d = some b → PySem.W.kitOne K (tyD (pm K C C1 E0 TT) d) (.type "int") = some b := DL.kit_int (clv_of (p := fun a => PySem.W.kitOne K (.ref a) (.type "int") = some false) T.ki T.ki1)
theorem Txt.kit_bool (T : Txt prog K mg base C C1 E0 fE TT) : ∀ d b, ib_bool d = some b → PySem.W.kitOne K (tyD (pm K C C1 E0 TT) d) (.type "bool") = some b := DL.kit_bool (clv_of (p := fun a => PySem.W.kitOne K (.ref a) (.type "bool") = some false) T.kb T.kb1)
theorem Txt.kit_tuple (T : Txt prog K mg base C C1 E0 fE TT) : ∀ d b, ib_tuple d = some b → PySem.W.kitOne K (tyD (pm K C C1 E0 TT) d) (.type "tuple") = some b := DL.kit_tuple (clv_of (p := fun a => PySem.W.kitOne K (.ref a) (.type "tuple") = some false) T.kt T.kt1)
theorem Txt.kit_str (T : Txt prog K mg base C C1 E0 fE TT) : ∀ d b, ib_str d = some b → PySem.W.kitOne K (tyD (pm K C C1 E0 TT) d) (.type "str") = some b := DL.kit_str (clv_of (p := fun a => PySem.W.kitOne K (.ref a) (.type "str") = some false) T.ks T.ks1)
theorem Txt.kit_Ratio (T : Txt prog K mg base C C1 E0 fE TT) : ∀ d b, ib_c0 d = some b → PySem.W.kitOne K (tyD (pm K C C1 E0 TT) d) (.ref C) = some b := by
  intro d b hb
  have h := T.nob
  have self : PySem.W.kitOne K (.ref C) (.ref C) = some true := by
    unfold PySem.W.kitOne
    rw [if_pos (by simp)]
  cases d <;> simp only [ib_c0, Option.some.injEq] at hb <;> (try subst hb) <;> first | exact h.n1 | exact h.n2 | exact h.n3 | exact h.n4 | exact h.n5 | exact h.n6 | exact h.n7 | cases hb | skip
  rename_i c xs
  match c with
  | 1 => exact T.k10
  | 0 => exact self
  | _ + 2 => exact self
theorem Txt.kit_Poly (T : Txt prog K mg base C C1 E0 fE TT) : ∀ d b, ib_c1 d = some b → PySem.W.kitOne K (tyD (pm K C C1 E0 TT) d) (.ref C1) = some b := by
  intro d b hb
  have h := T.nob1
  have self : PySem.W.kitOne K (.ref C1) (.ref C1) = some true := by
    unfold PySem.W.kitOne
    rw [if_pos (by simp)]
  cases d <;> simp only [ib_c1, Option.some.injEq] at hb <;> (try subst hb) <;> first | exact h.n1 | exact h.n2 | exact h.n3 | exact h.n4 | exact h.n5 | exact h.n6 | exact h.n7 | cases hb | skip
  rename_i c xs
  match c with
  | 1 => exact self
  | 0 => exact T.k01
  | _ + 2 => exact T.k01
theorem Txt.fo_WrongCount (_ : Txt prog K mg base C C1 E0 fE TT) : PySem.ErrX.FldOk "count" := ⟨by decide, by decide, by decide, by decide⟩
abbrev s__law_cell : Stmt := top 32
theorem sc__law_cell : FnScope ["_law_script", "_law_k"] ["_law_script", "_law_k"] (defScope s__law_cell) := ⟨rfl, rfl, rfl, by decide +kernel, rfl, by decide +kernel, by decide +kernel⟩
theorem b__law_cell (T : Txt prog K mg base C C1 E0 fE TT) (f : Addr) (cdv : Value) (A : Around) (outer : List PySem.Env) (s : Shared) (H : Hp) (F0 : Hp) (e : XK) (hr : Room 0 (A.deeper (PyProof.Rows.envOfC "_law_cell" (defScope s__law_cell) s.heap.objs.size f cdv))) :
    PSs (cxOf (L2.CX prog w) prog w K mg base ["_law_script", "_law_k"] "_law_cell" (defScope s__law_cell) f cdv A outer s H e) (defBody s__law_cell) (tS (pm K C C1 E0 TT) ⟨F0, none⟩ H (WE0 e) g__law_cell) := by
  have sc := sc__law_cell
  have tk : Takes (cxOf (L2.CX prog w) prog w K mg base ["_law_script", "_law_k"] "_law_cell" (defScope s__law_cell) f cdv A outer s H e) (WE0 e) := takes_of rfl rfl rfl rfl
  have h := ((sd_cons (by exact sd_if (by exact td_pc (by exact pd_pc (od_of io_lt) (by exact pd_peek 1) (by exact toV (by exact pd_callB (ic_lenS rfl) rfl T.b_len (by decide +kernel) (by exact av_cons (by exact pd_peek 0) av_nil)))) (nomark _)) (by exact sd_one (by exact sd_ret (by exact pd_ixS rfl (by exact pd_peek 0) (by exact pd_peek 1) (fun _ _ => rfl)))) sd_nil) (by exact sd_one (by exact sd_ret pd_int))) : PSs (cxOf (L2.CX prog w) prog w K mg base ["_law_script", "_law_k"] "_law_cell" (defScope s__law_cell) f cdv A outer s H e) (defBody s__law_cell) (tS (pm K C C1 E0 TT) ⟨F0, none⟩ H (WE0 e) _))
  exact h
abbrev s__law_row : Stmt := top 33
theorem sc__law_row : FnScope ["_law_cell_here", "_law_sizes", "_law_out", "_law_size", "_law_seed", "_law_k", "_law_mixed"] ["_law_cell_here", "_law_sizes"] (defScope s__law_row) := ⟨rfl, rfl, rfl, by decide +kernel, rfl, by decide +kernel, by decide +kernel⟩
theorem b__law_row (T : Txt prog K mg base C C1 E0 fE TT) (f : Addr) (cdv : Value) (A : Around) (outer : List PySem.Env) (s : Shared) (H : Hp) (F0 : Hp) (e : XK) (hr : Room 0 (A.deeper (PyProof.Rows.envOfC "_law_row" (defScope s__law_row) s.heap.objs.size f cdv))) :
    PSs (cxOf (L2.CX prog w) prog w K mg base ["_law_cell_here", "_law_sizes", "_law_out", "_law_size", "_law_seed", "_law_k", "_law_mixed"] "_law_row" (defScope s__law_row) f cdv A outer s H e) (defBody s__law_row) (tS (pm K C C1 E0 TT) ⟨F0, none⟩ H (WE0 e) g__law_row) := by
  have sc := sc__law_row
  have tk : Takes (cxOf (L2.CX prog w) prog w K mg base ["_law_cell_here", "_law_sizes", "_law_out", "_law_size", "_law_seed", "_law_k", "_law_mixed"] "_law_row" (defScope s__law_row) f cdv A outer s H e) (WE0 e) := takes_of rfl rfl rfl rfl
  have h := ((sd_cons (by exact sd_setN (i := 2) sc.nd rfl (by first | exact Or.inl rfl | exact Or.inr rfl) (by exact nd_lst ad_nil)) (sd_cons (by exact sd_if (by exact td_pc (by exact pd_pc (od_of io_ge) (by exact pd_peek 0) (by exact toV (by exact pd_op (od_of io_pow) (by exact toV pd_int) (by exact toV pd_int)))) (nomark _)) (sd_cons (by exact sd_for (passes_of rfl) rfl (by exact id_seq (by exact pd_name 1)) (by exact gd_name (i := 3) (us := [3]) sc.nd rfl (by first | exact Or.inl rfl | exact Or.inr rfl)) (sd_cons (by exact sd_append 2 (by exact pd_op (od_of io_mod) (by exact toV (by exact pd_callTy ic_int2 rfl T.b_int (by decide +kernel) (by exact av_cons (by exact pd_peek 0) av_nil))) (by exact pd_peek 3))) (by exact sd_one (by exact sd_set (i := 0) sc.nd rfl (by first | exact Or.inl rfl | exact Or.inr rfl) (by exact pd_op (od_of io_fdiv) (by exact pd_peek 0) (by exact pd_peek 3)))))) (by exact sd_one (by exact sd_frz1 2 (by exact sd_ret (by exact pd_name 2))))) sd_nil) (sd_cons (by exact sd_set (i := 4) sc.nd rfl (by first | exact Or.inl rfl | exact Or.inr rfl) (by exact pd_op (od_of io_mod) (by exact toV (by exact pd_callTy ic_int2 rfl T.b_int (by decide +kernel) (by exact av_cons (by exact pd_peek 0) av_nil))) (by exact toV pd_int))) (sd_cons (by exact sd_for (passes_of rfl) rfl (by exact id_range1 rfl T.b_range (by exact ad_cons (by exact pd_callB ic_len rfl T.b_len (by decide +kernel) (by exact av_cons (by exact pd_peek 1) av_nil)) ad_nil)) (by exact gd_name (i := 5) (us := [5]) sc.nd rfl (by first | exact Or.inl rfl | exact Or.inr rfl)) (sd_cons (by exact sd_set (i := 6) sc.nd rfl (by first | exact Or.inl rfl | exact Or.inr rfl) (by exact pd_op (od_of io_addA) (by exact toV (by exact pd_op (od_of io_mod) (by exact toV (by exact pd_callTy ic_int2 rfl T.b_int (by decide +kernel) (by exact av_cons (by exact toV (by exact pd_op (od_of io_pow) (by exact toV (by exact pd_op (od_of io_addA) (by exact toV (by exact pd_op (od_of io_addA) (by exact pd_peek 4) (by exact toV (by exact pd_op (od_of io_mulB) (by exact toV pd_int) (by exact pd_peek 5))))) (by exact toV pd_int))) (by exact toV pd_int))) av_nil))) (by exact toV pd_int))) (by exact pd_peek 5))) (by exact sd_one (by exact sd_append 2 (by exact pd_op (od_of io_mod) (by exact toV (by exact pd_callTy ic_int2 rfl T.b_int (by decide +kernel) (by exact av_cons (by exact toV (by exact pd_op (od_of io_mod) (by exact toV (by exact pd_callTy ic_int2 rfl T.b_int (by decide +kernel) (by exact av_cons (by exact toV (by exact pd_op (od_of io_mulB) (by exact pd_peek 6) (by exact toV pd_int))) av_nil))) (by exact toV pd_int))) av_nil))) (by exact toV (by exact pd_ix (by exact pd_peek 1) (by exact pd_peek 5) (fun _ _ => rfl)))))))) (by exact sd_one (by exact sd_frz1 2 (by exact sd_ret (by exact pd_name 2)))))))) : PSs (cxOf (L2.CX prog w) prog w K mg base ["_law_cell_here", "_law_sizes", "_law_out", "_law_size", "_law_seed", "_law_k", "_law_mixed"] "_law_row" (defScope s__law_row) f cdv A outer s H e) (defBody s__law_row) (tS (pm K C C1 E0 TT) ⟨F0, none⟩ H (WE0 e) _))
  exact h
abbrev s__law_fields : Stmt := top 41
theorem sc__law_fields : FnScope ["_law_draw"] ["_law_draw"] (defScope s__law_fields) := ⟨rfl, rfl, rfl, by decide +kernel, rfl, by decide +kernel, by decide +kernel⟩
theorem b__law_fields (T : Txt prog K mg base C C1 E0 fE TT) (f : Addr) (cdv : Value) (A : Around) (outer : List PySem.Env) (s : Shared) (H : Hp) (F0 : Hp) (e : XK) (hr : Room 0 (A.deeper (PyProof.Rows.envOfC "_law_fields" (defScope s__law_fields) s.heap.objs.size f cdv))) :
    PSs (cxOf (L2.CX prog w) prog w K mg base ["_law_draw"] "_law_fields" (defScope s__law_fields) f cdv A outer s H e) (defBody s__law_fields) (tS (pm K C C1 E0 TT) ⟨F0, none⟩ H (WE0 e) g__law_fields) := by
  have sc := sc__law_fields
  have tk : Takes (cxOf (L2.CX prog w) prog w K mg base ["_law_draw"] "_law_fields" (defScope s__law_fields) f cdv A outer s H e) (WE0 e) := takes_of rfl rfl rfl rfl
  have h := ((by exact sd_one (by exact sd_ret (by exact pd_ix (by exact toV (by exact pd_lst (by exact ad_cons (by exact pd_lst (by exact ad_cons pd_str (by exact ad_cons pd_str ad_nil))) (by exact ad_cons (by exact pd_lst (by exact ad_cons pd_str ad_nil)) (by exact ad_cons (by exact pd_lst ad_nil) (by exact ad_cons (by exact pd_lst (by exact ad_cons pd_str (by exact ad_cons pd_str ad_nil))) (by exact ad_cons (by exact pd_lst (by exact ad_cons pd_str (by exact ad_cons pd_str ad_nil))) (by exact ad_cons (by exact pd_lst (by exact ad_cons pd_str ad_nil)) ad_nil)))))))) (by exact toV (by exact pd_op (od_of io_mod) (by exact pd_peek 0) (by exact toV pd_int))) (fun _ _ => rfl)))) : PSs (cxOf (L2.CX prog w) prog w K mg base ["_law_draw"] "_law_fields" (defScope s__law_fields) f cdv A outer s H e) (defBody s__law_fields) (tS (pm K C C1 E0 TT) ⟨F0, none⟩ H (WE0 e) _))
  exact h
abbrev s__law_gcd : Stmt := top 34
theorem sc__law_gcd : FnScope ["_law_a", "_law_b"] ["_law_a", "_law_b"] (defScope s__law_gcd) := ⟨rfl, rfl, rfl, by decide +kernel, rfl, by decide +kernel, by decide +kernel⟩
theorem b__law_gcd (T : Txt prog K mg base C C1 E0 fE TT) (f : Addr) (cdv : Value) (A : Around) (outer : List PySem.Env) (s : Shared) (H : Hp) (F0 : Hp) (e : XK) (hr : Room 0 (A.deeper (PyProof.Rows.envOfC "_law_gcd" (defScope s__law_gcd) s.heap.objs.size f cdv))) :
    PSs (cxOf (L2.CX prog w) prog w K mg base ["_law_a", "_law_b"] "_law_gcd" (defScope s__law_gcd) f cdv A outer s H e) (defBody s__law_gcd) (tS (pm K C C1 E0 TT) ⟨F0, none⟩ H (WE0 e) g__law_gcd) := by
  have sc := sc__law_gcd
  have tk : Takes (cxOf (L2.CX prog w) prog w K mg base ["_law_a", "_law_b"] "_law_gcd" (defScope s__law_gcd) f cdv A outer s H e) (WE0 e) := takes_of rfl rfl rfl rfl
  have h := ((sd_cons (by exact sd_par (i := 0) (j := 1) rfl sc.nd rfl rfl (by decide) rfl rfl (by exact ad_cons (by exact pd_callB ic_abs rfl T.b_abs (by decide +kernel) (by exact av_cons (by exact pd_peek 0) av_nil)) (by exact ad_cons (by exact pd_callB ic_abs rfl T.b_abs (by decide +kernel) (by exact av_cons (by exact pd_peek 1) av_nil)) ad_nil)) rfl) (sd_cons (by exact sd_while big (passes_of rfl) (by exact td_pc (by exact pd_pc (od_of io_gt) (by exact pd_peek 1) (by exact toV pd_int)) (nomark _)) (by exact sd_one (by exact sd_par (i := 0) (j := 1) rfl sc.nd rfl rfl (by decide) rfl rfl (by exact ad_cons (by exact pd_name 1) (by exact ad_cons (by exact pd_op (od_of io_mod) (by exact pd_peek 0) (by exact pd_peek 1)) ad_nil)) rfl))) (by exact sd_one (by exact sd_ret (by exact pd_name 0))))) : PSs (cxOf (L2.CX prog w) prog w K mg base ["_law_a", "_law_b"] "_law_gcd" (defScope s__law_gcd) f cdv A outer s H e) (defBody s__law_gcd) (tS (pm K C C1 E0 TT) ⟨F0, none⟩ H (WE0 e) _))
  exact h
abbrev s__law_low : Stmt := top 35
theorem sc__law_low : FnScope ["_law_pair", "_law_top", "_law_bottom", "_law_by"] ["_law_pair"] (defScope s__law_low) := ⟨rfl, rfl, rfl, by decide +kernel, rfl, by decide +kernel, by decide +kernel⟩
theorem b__law_low (T : Txt prog K mg base C C1 E0 fE TT) (c__law_gcd : CalD prog w K mg base (pm K C C1 E0 TT) 1 "_law_gcd" 2 G__law_gcd) (f : Addr) (cdv : Value) (A : Around) (outer : List PySem.Env) (s : Shared) (H : Hp) (F0 : Hp) (e : XK) (hr : Room 1 (A.deeper (PyProof.Rows.envOfC "_law_low" (defScope s__law_low) s.heap.objs.size f cdv))) :
    PSs (cxOf (L2.CX prog w) prog w K mg base ["_law_pair", "_law_top", "_law_bottom", "_law_by"] "_law_low" (defScope s__law_low) f cdv A outer s H e) (defBody s__law_low) (tS (pm K C C1 E0 TT) ⟨F0, none⟩ H (WE0 e) g__law_low) := by
  have sc := sc__law_low
  have tk : Takes (cxOf (L2.CX prog w) prog w K mg base ["_law_pair", "_law_top", "_law_bottom", "_law_by"] "_law_low" (defScope s__law_low) f cdv A outer s H e) (WE0 e) := takes_of rfl rfl rfl rfl
  have h := ((sd_cons (by exact sd_asg (by exact pd_name 0) (by exact gd_tup (n := 2) rfl (by exact gd_cons (by exact gd_name (i := 1) (us := [1, 2]) sc.nd rfl (by first | exact Or.inl rfl | exact Or.inr rfl)) (by exact gd_cons (by exact gd_name (i := 2) (us := [1, 2]) sc.nd rfl (by first | exact Or.inl rfl | exact Or.inr rfl)) gd_nil)))) (sd_cons (by exact sd_set (i := 3) sc.nd rfl (by first | exact Or.inl rfl | exact Or.inr rfl) (by exact pd_cal c__law_gcd (hr.mono (by decide)) tk (by exact ad_cons (by exact pd_name 1) (by exact ad_cons (by exact pd_name 2) ad_nil)))) (sd_cons (by exact sd_if (by exact td_pc (by exact pd_pc (od_of io_lt) (by exact pd_peek 2) (by exact toV pd_int)) (nomark _)) (by exact sd_one (by exact sd_set (i := 3) sc.nd rfl (by first | exact Or.inl rfl | exact Or.inr rfl) (by exact pd_op (od_of io_sub) (by exact toV pd_int) (by exact pd_peek 3)))) sd_nil) (by exact sd_one (by exact sd_ret (by exact pd_tup (by exact ad_cons (by exact pd_op (od_of io_fdiv) (by exact pd_peek 1) (by exact pd_peek 3)) (by exact ad_cons (by exact pd_op (od_of io_fdiv) (by exact pd_peek 2) (by exact pd_peek 3)) ad_nil)))))))) : PSs (cxOf (L2.CX prog w) prog w K mg base ["_law_pair", "_law_top", "_law_bottom", "_law_by"] "_law_low" (defScope s__law_low) f cdv A outer s H e) (defBody s__law_low) (tS (pm K C C1 E0 TT) ⟨F0, none⟩ H (WE0 e) _))
  exact h
abbrev s__law_terms : Stmt := top 42
theorem sc__law_terms : FnScope ["_law_draws", "_law_fields_here", "_law_out", "_law_k", "_law_one", "_law_two", "_law_top", "_law_bottom"] ["_law_draws", "_law_fields_here"] (defScope s__law_terms) := ⟨rfl, rfl, rfl, by decide +kernel, rfl, by decide +kernel, by decide +kernel⟩
theorem b__law_terms (T : Txt prog K mg base C C1 E0 fE TT) (c__law_low : CalD prog w K mg base (pm K C C1 E0 TT) 2 "_law_low" 1 G__law_low) (f : Addr) (cdv : Value) (A : Around) (outer : List PySem.Env) (s : Shared) (H : Hp) (F0 : Hp) (e : XK) (hr : Room 2 (A.deeper (PyProof.Rows.envOfC "_law_terms" (defScope s__law_terms) s.heap.objs.size f cdv))) :
    PSs (cxOf (L2.CX prog w) prog w K mg base ["_law_draws", "_law_fields_here", "_law_out", "_law_k", "_law_one", "_law_two", "_law_top", "_law_bottom"] "_law_terms" (defScope s__law_terms) f cdv A outer s H e) (defBody s__law_terms) (tS (pm K C C1 E0 TT) ⟨F0, none⟩ H (WE0 e) g__law_terms) := by
  have sc := sc__law_terms
  have tk : Takes (cxOf (L2.CX prog w) prog w K mg base ["_law_draws", "_law_fields_here", "_law_out", "_law_k", "_law_one", "_law_two", "_law_top", "_law_bottom"] "_law_terms" (defScope s__law_terms) f cdv A outer s H e) (WE0 e) := takes_of rfl rfl rfl rfl
  have h := ((sd_cons (by exact sd_setN (i := 2) sc.nd rfl (by first | exact Or.inl rfl | exact Or.inr rfl) nd_dnT) (sd_cons (by exact sd_for (passes_of rfl) rfl (by exact id_range1 rfl T.b_range (by exact ad_cons (by exact pd_op (od_of io_fdiv) (by exact toV (by exact pd_callB ic_len rfl T.b_len (by decide +kernel) (by exact av_cons (by exact pd_peek 0) av_nil))) (by exact toV pd_int)) ad_nil)) (by exact gd_name (i := 3) (us := [3]) sc.nd rfl (by first | exact Or.inl rfl | exact Or.inr rfl)) (sd_cons (by exact sd_asg (by exact pd_slc (by exact pd_peek 0) (by exact po_so (by exact pd_op (od_of io_mulB) (by exact toV pd_int) (by exact pd_peek 3))) (by exact po_so (by exact pd_op (od_of io_addA) (by exact toV (by exact pd_op (od_of io_mulB) (by exact toV pd_int) (by exact pd_peek 3))) (by exact toV pd_int)))) (by exact gd_lst (n := 4) rfl (by exact gd_cons (by exact gd_name (i := 4) (us := [4, 5, 6, 7]) sc.nd rfl (by first | exact Or.inl rfl | exact Or.inr rfl)) (by exact gd_cons (by exact gd_name (i := 5) (us := [4, 5, 6, 7]) sc.nd rfl (by first | exact Or.inl rfl | exact Or.inr rfl)) (by exact gd_cons (by exact gd_name (i := 6) (us := [4, 5, 6, 7]) sc.nd rfl (by first | exact Or.inl rfl | exact Or.inr rfl)) (by exact gd_cons (by exact gd_name (i := 7) (us := [4, 5, 6, 7]) sc.nd rfl (by first | exact Or.inl rfl | exact Or.inr rfl)) gd_nil)))))) (by exact sd_one (by exact sd_dput 2 (un1 hr) (by exact pd_slc (by exact toV (by exact pd_tup (by exact ad_cons (by exact pd_name 4) (by exact ad_cons (by exact pd_name 5) ad_nil)))) po_no (by exact po_so (by exact pd_callB ic_len rfl T.b_len (by decide +kernel) (by exact av_cons (by exact pd_peek 1) av_nil)))) (by exact pd_cal c__law_low (hr.mono (by decide)) tk (by exact ad_cons (by exact pd_tup (by exact ad_cons (by exact pd_op (od_of io_sub) (by exact pd_peek 6) (by exact toV pd_int)) (by exact ad_cons (by exact pd_op (od_of io_addA) (by exact toV pd_int) (by exact pd_peek 7)) ad_nil))) ad_nil)))))) (by exact sd_one (by exact sd_frz1 2 (by exact sd_ret (by exact pd_name 2)))))) : PSs (cxOf (L2.CX prog w) prog w K mg base ["_law_draws", "_law_fields_here", "_law_out", "_law_k", "_law_one", "_law_two", "_law_top", "_law_bottom"] "_law_terms" (defScope s__law_terms) f cdv A outer s H e) (defBody s__law_terms) (tS (pm K C C1 E0 TT) ⟨F0, none⟩ H (WE0 e) _))
  exact h
abbrev s_common : Stmt := top 8
theorem sc_common : FnScope ["one", "two"] ["one", "two"] (defScope s_common) := ⟨rfl, rfl, rfl, by decide +kernel, rfl, by decide +kernel, by decide +kernel⟩
theorem b_common (T : Txt prog K mg base C C1 E0 fE TT) (f : Addr) (cdv : Value) (A : Around) (outer : List PySem.Env) (s : Shared) (H : Hp) (F0 : Hp) (e : XK) (hr : Room 0 (A.deeper (PyProof.Rows.envOfC "common" (defScope s_common) s.heap.objs.size f cdv))) :
    PSs (cxOf (L2.CX prog w) prog w K mg base ["one", "two"] "common" (defScope s_common) f cdv A outer s H e) (defBody s_common) (tS (pm K C C1 E0 TT) ⟨F0, none⟩ H (WE0 e) g_common) := by
  have sc := sc_common
  have tk : Takes (cxOf (L2.CX prog w) prog w K mg base ["one", "two"] "common" (defScope s_common) f cdv A outer s H e) (WE0 e) := takes_of rfl rfl rfl rfl
  have h := ((sd_cons (by exact sd_par (i := 0) (j := 1) rfl sc.nd rfl rfl (by decide) rfl rfl (by exact ad_cons (by exact pd_callB ic_abs rfl T.b_abs (by decide +kernel) (by exact av_cons (by exact pd_peek 0) av_nil)) (by exact ad_cons (by exact pd_callB ic_abs rfl T.b_abs (by decide +kernel) (by exact av_cons (by exact pd_peek 1) av_nil)) ad_nil)) rfl) (sd_cons (by exact sd_while big (passes_of rfl) (by exact td_pc (by exact pd_pc (od_of io_gt) (by exact pd_peek 1) (by exact toV pd_int)) (nomark _)) (by exact sd_one (by exact sd_par (i := 0) (j := 1) rfl sc.nd rfl rfl (by decide) rfl rfl (by exact ad_cons (by exact pd_name 1) (by exact ad_cons (by exact pd_op (od_of io_mod) (by exact pd_peek 0) (by exact pd_peek 1)) ad_nil)) rfl))) (by exact sd_one (by exact sd_ret (by exact pd_name 0))))) : PSs (cxOf (L2.CX prog w) prog w K mg base ["one", "two"] "common" (defScope s_common) f cdv A outer s H e) (defBody s_common) (tS (pm K C C1 E0 TT) ⟨F0, none⟩ H (WE0 e) _))
  exact h
abbrev s_Ratio___init__ : Stmt := inClass (top 14) 0
theorem sc_Ratio___init__ : FnScope ["self", "top", "bottom", "share"] ["self", "top", "bottom"] (defScope s_Ratio___init__) := ⟨rfl, rfl, rfl, by decide +kernel, rfl, by decide +kernel, by decide +kernel⟩
theorem b_Ratio___init__ (T : Txt prog K mg base C C1 E0 fE TT) (c_common : CalD prog w K mg base (pm K C C1 E0 TT) 1 "common" 2 G_common) (f : Addr) (cdv : Value) (A : Around) (outer : List PySem.Env) (s : Shared) (H : Hp) (F0 H0 : Hp) (x : Addr) (e : XK) (hr : Room 1 (A.deeper (PyProof.Rows.envOfC "Ratio.__init__" (defScope s_Ratio___init__) s.heap.objs.size f cdv))) :
    PSs (cxOf (L2.CX prog w) prog w K mg base ["self", "top", "bottom", "share"] "Ratio.__init__" (defScope s_Ratio___init__) f cdv A outer s H e) (defBody s_Ratio___init__) (tS (pm K C C1 E0 TT) ⟨F0, some x⟩ H0 (WE0 e) g_Ratio___init__) := by
  have sc := sc_Ratio___init__
  have tk : Takes (cxOf (L2.CX prog w) prog w K mg base ["self", "top", "bottom", "share"] "Ratio.__init__" (defScope s_Ratio___init__) f cdv A outer s H e) (WE0 e) := takes_of rfl rfl rfl rfl
  have h := ((sd_cons (by exact sd_if (by exact td_pc (by exact pd_pc (od_of (io_eq hr.units)) (by exact pd_peek 2) (by exact toV pd_int)) (nomark _)) (by exact sd_one sd_never) sd_nil) (sd_cons (by exact sd_set (i := 3) sc.nd rfl (by first | exact Or.inl rfl | exact Or.inr rfl) (by exact pd_cal c_common (hr.mono (by decide)) tk (by exact ad_cons (by exact pd_name 1) (by exact ad_cons (by exact pd_name 2) ad_nil)))) (sd_cons (by exact sd_if (by exact td_pc (by exact pd_pc (od_of io_lt) (by exact pd_peek 2) (by exact toV pd_int)) (nomark _)) (by exact sd_one (by exact sd_set (i := 3) sc.nd rfl (by first | exact Or.inl rfl | exact Or.inr rfl) (by exact pd_un (ud_of io_neg) (by exact pd_peek 3)))) sd_nil) (sd_cons (by exact sd_fld (i := 0) T.s_top T.nd (by exact pd_op (od_of io_fdiv) (by exact pd_peek 1) (by exact pd_peek 3))) (by exact sd_one (by exact sd_fld (i := 0) T.s_bottom T.nd (by exact pd_op (od_of io_fdiv) (by exact pd_peek 2) (by exact pd_peek 3)))))))) : PSs (cxOf (L2.CX prog w) prog w K mg base ["self", "top", "bottom", "share"] "Ratio.__init__" (defScope s_Ratio___init__) f cdv A outer s H e) (defBody s_Ratio___init__) (tS (pm K C C1 E0 TT) ⟨F0, some x⟩ H0 (WE0 e) _))
  exact h
abbrev s__law_made : Stmt := top 40
theorem sc__law_made : FnScope ["_law_pair", "_law_is_bare", "_law_top", "_law_bottom"] ["_law_pair", "_law_is_bare"] (defScope s__law_made) := ⟨rfl, rfl, rfl, by decide +kernel, rfl, by decide +kernel, by decide +kernel⟩
theorem b__law_made (T : Txt prog K mg base C C1 E0 fE TT) (c__law_low : CalD prog w K mg base (pm K C C1 E0 TT) 2 "_law_low" 1 G__law_low) (c_Ratio : MkD prog w K mg base (pm K C C1 E0 TT) 2 "Ratio" 0 2 G_Ratio___init__) (f : Addr) (cdv : Value) (A : Around) (outer : List PySem.Env) (s : Shared) (H : Hp) (F0 : Hp) (e : XK) (hr : Room 3 (A.deeper (PyProof.Rows.envOfC "_law_made" (defScope s__law_made) s.heap.objs.size f cdv))) :
    PSs (cxOf (L2.CX prog w) prog w K mg base ["_law_pair", "_law_is_bare", "_law_top", "_law_bottom"] "_law_made" (defScope s__law_made) f cdv A outer s H e) (defBody s__law_made) (tS (pm K C C1 E0 TT) ⟨F0, none⟩ H (WE0 e) g__law_made) := by
  have sc := sc__law_made
  have tk : Takes (cxOf (L2.CX prog w) prog w K mg base ["_law_pair", "_law_is_bare", "_law_top", "_law_bottom"] "_law_made" (defScope s__law_made) f cdv A outer s H e) (WE0 e) := takes_of rfl rfl rfl rfl
  have h := ((sd_cons (by exact sd_asg (by exact pd_cal c__law_low (hr.mono (by decide)) tk (by exact ad_cons (by exact pd_name 0) ad_nil)) (by exact gd_tup (n := 2) rfl (by exact gd_cons (by exact gd_name (i := 2) (us := [2, 3]) sc.nd rfl (by first | exact Or.inl rfl | exact Or.inr rfl)) (by exact gd_cons (by exact gd_name (i := 3) (us := [2, 3]) sc.nd rfl (by first | exact Or.inl rfl | exact Or.inr rfl)) gd_nil)))) (by exact sd_one (by exact sd_ret (by exact pd_if (by exact PW.pt (by exact td_and (by exact td_pc (by exact pd_pc (od_of (io_eq hr.units)) (by exact pd_peek 3) (by exact toV pd_int)) (nomark _)) (by exact td_and1 (by exact td_val (by exact pd_name 1))))) (by exact pd_name 2) (by exact pd_mk c_Ratio (hr.mono (by decide)) tk (by exact ad_cons (by exact pd_name 2) (by exact ad_cons (by exact pd_name 3) ad_nil))))))) : PSs (cxOf (L2.CX prog w) prog w K mg base ["_law_pair", "_law_is_bare", "_law_top", "_law_bottom"] "_law_made" (defScope s__law_made) f cdv A outer s H e) (defBody s__law_made) (tS (pm K C C1 E0 TT) ⟨F0, none⟩ H (WE0 e) _))
  exact h
abbrev s__law_handed : Stmt := top 44
theorem sc__law_handed : FnScope ["_law_terms_here", "_law_is_bare", "_law_powers"] ["_law_terms_here", "_law_is_bare"] (defScope s__law_handed) := ⟨rfl, rfl, rfl, by decide +kernel, rfl, by decide +kernel, by decide +kernel⟩
theorem b__law_handed (T : Txt prog K mg base C C1 E0 fE TT) (c__law_made : CalD prog w K mg base (pm K C C1 E0 TT) 4 "_law_made" 2 G__law_made) (f : Addr) (cdv : Value) (A : Around) (outer : List PySem.Env) (s : Shared) (H : Hp) (F0 : Hp) (e : XK) (hr : Room 4 (A.deeper (PyProof.Rows.envOfC "_law_handed" (defScope s__law_handed) s.heap.objs.size f cdv))) :
    PSs (cxOf (L2.CX prog w) prog w K mg base ["_law_terms_here", "_law_is_bare", "_law_powers"] "_law_handed" (defScope s__law_handed) f cdv A outer s H e) (defBody s__law_handed) (tS (pm K C C1 E0 TT) ⟨F0, none⟩ H (WE0 e) g__law_handed) := by
  have sc := sc__law_handed
  have tk : Takes (cxOf (L2.CX prog w) prog w K mg base ["_law_terms_here", "_law_is_bare", "_law_powers"] "_law_handed" (defScope s__law_handed) f cdv A outer s H e) (WE0 e) := takes_of rfl rfl rfl rfl
  have h := ((by exact sd_one (by exact sd_ret (by exact n2e (by exact nd_dictT rfl (un8 hr) T.b_dict (by exact toV (by exact n2e (by exact nd_lc (own := [("_law_powers", 2)]) (us := [2]) rfl sc.nd (by exact id_keys (by exact pd_name 0)) (by show BlkOk ["_law_terms_here", "_law_is_bare", "_law_powers"] (defScope s__law_handed) _ [("_law_powers", 2)]; exact ⟨rfl, by decide +kernel, by decide +kernel, by decide +kernel, by decide +kernel⟩) rfl (fun _ _ _ _ _ => (by exact gd_name (i := 2) (us := [2]) sc.nd rfl (by first | exact Or.inl rfl | exact Or.inr rfl))) (fun _ _ _ _ _ => td_yes) (fun _ _ _ _ _ => (by exact pd_tup (by exact ad_cons (by exact pd_name 2) (by exact ad_cons (by exact pd_cal c__law_made (hr.mono (by decide)) takes0 (by exact ad_cons (by exact pd_dget (un1 hr) (by exact pd_peek 0) (by exact pd_name 2) (fun _ _ => rfl)) (by exact ad_cons (by exact pd_name 1) ad_nil))) ad_nil))))))))))) : PSs (cxOf (L2.CX prog w) prog w K mg base ["_law_terms_here", "_law_is_bare", "_law_powers"] "_law_handed" (defScope s__law_handed) f cdv A outer s H e) (defBody s__law_handed) (tS (pm K C C1 E0 TT) ⟨F0, none⟩ H (WE0 e) _))
  exact h
abbrev s_is_name : Stmt := top 18
theorem sc_is_name : FnScope ["thing", "letter"] ["thing"] (defScope s_is_name) := ⟨rfl, rfl, rfl, by decide +kernel, rfl, by decide +kernel, by decide +kernel⟩
theorem b_is_name (T : Txt prog K mg base C C1 E0 fE TT) (f : Addr) (cdv : Value) (A : Around) (outer : List PySem.Env) (s : Shared) (H : Hp) (F0 : Hp) (e : XK) (hr : Room 0 (A.deeper (PyProof.Rows.envOfC "is_name" (defScope s_is_name) s.heap.objs.size f cdv))) :
    PSs (cxOf (L2.CX prog w) prog w K mg base ["thing", "letter"] "is_name" (defScope s_is_name) f cdv A outer s H e) (defBody s_is_name) (tS (pm K C C1 E0 TT) ⟨F0, none⟩ H (WE0 e) g_is_name) := by
  have sc := sc_is_name
  have tk : Takes (cxOf (L2.CX prog w) prog w K mg base ["thing", "letter"] "is_name" (defScope s_is_name) f cdv A outer s H e) (WE0 e) := takes_of rfl rfl rfl rfl
  have h := ((sd_cons (by exact sd_if (by exact PW.pt (by exact td_or (by exact td_not (by exact td_val (by exact pd_isi T.isi T.kit_str (.ty "str") (pe_bltn rfl T.b_str (by decide +kernel) rfl) (by exact pd_peek 0) rfl T.b_isinstance))) (by exact td_or1 (by exact td_not (by exact td_chain io_le io_le pd_int (by exact pd_callB ic_len rfl T.b_len (by decide +kernel) (by exact av_cons (by exact pd_peek 0) av_nil)) (by exact pd_gli rfl T.kMOST_LETTERS (by decide))))))) (by exact sd_one (by exact sd_ret pd_bl)) sd_nil) (by exact sd_one (by exact sd_ret (by exact pd_callB (ic_all rfl) rfl T.b_all (by decide +kernel) (by exact av_cons (by exact toV (by exact n2e (by exact nd_lc (own := [("letter", 1)]) (us := [1]) rfl sc.nd (by exact id_seq (by exact pd_name 0)) (by show BlkOk ["thing", "letter"] (defScope s_is_name) _ [("letter", 1)]; exact ⟨rfl, by decide +kernel, by decide +kernel, by decide +kernel, by decide +kernel⟩) rfl (fun _ _ _ _ _ => (by exact gd_name (i := 1) (us := [1]) sc.nd rfl (by first | exact Or.inl rfl | exact Or.inr rfl))) (fun _ _ _ _ _ => td_yes) (fun _ _ _ _ _ => (by exact pd_pcv (by exact pd_pc (od_of io_inS) (by exact pd_peek 1) (by exact toV (by exact pd_gl rfl T.kLETTERS (by decide)))) rfl))))) av_nil))))) : PSs (cxOf (L2.CX prog w) prog w K mg base ["thing", "letter"] "is_name" (defScope s_is_name) f cdv A outer s H e) (defBody s_is_name) (tS (pm K C C1 E0 TT) ⟨F0, none⟩ H (WE0 e) _))
  exact h
abbrev s_check_fields : Stmt := top 20
theorem sc_check_fields : FnScope ["fields", "k", "name"] ["fields"] (defScope s_check_fields) := ⟨rfl, rfl, rfl, by decide +kernel, rfl, by decide +kernel, by decide +kernel⟩
theorem b_check_fields (T : Txt prog K mg base C C1 E0 fE TT) (c_is_name : CalD prog w K mg base (pm K C C1 E0 TT) 1 "is_name" 1 G_is_name) (f : Addr) (cdv : Value) (A : Around) (outer : List PySem.Env) (s : Shared) (H : Hp) (F0 : Hp) (e : XK) (hr : Room 1 (A.deeper (PyProof.Rows.envOfC "check_fields" (defScope s_check_fields) s.heap.objs.size f cdv))) :
    PSs (cxOf (L2.CX prog w) prog w K mg base ["fields", "k", "name"] "check_fields" (defScope s_check_fields) f cdv A outer s H e) (defBody s_check_fields) (tS (pm K C C1 E0 TT) ⟨F0, none⟩ H (WE0 e) g_check_fields) := by
  have sc := sc_check_fields
  have tk : Takes (cxOf (L2.CX prog w) prog w K mg base ["fields", "k", "name"] "check_fields" (defScope s_check_fields) f cdv A outer s H e) (WE0 e) := takes_of rfl rfl rfl rfl
  have h := ((by exact sd_one (by exact sd_for (passes_of rfl) rfl (by exact id_enuA rfl T.b_enumerate (by exact ad_cons (by exact pd_name 0) ad_nil)) (by exact gd_tup (n := 2) rfl (by exact gd_cons (by exact gd_name (i := 1) (us := [1, 2]) sc.nd rfl (by first | exact Or.inl rfl | exact Or.inr rfl)) (by exact gd_cons (by exact gd_name (i := 2) (us := [1, 2]) sc.nd rfl (by first | exact Or.inl rfl | exact Or.inr rfl)) gd_nil))) (by exact sd_one (by exact sd_if (by exact PW.pt (by exact td_or (by exact td_not (by exact td_val (by exact pd_cal c_is_name (hr.mono (by decide)) tk (by exact ad_cons (by exact pd_name 2) ad_nil)))) (by exact td_or1 (by exact td_pc (by exact pd_pc (od_of io_inT) (by exact pd_peek 2) (by exact toV (by exact pd_slc (by exact pd_peek 0) po_no (by exact po_so (by exact pd_name 1))))) rfl)))) (by exact sd_one sd_never) sd_nil)))) : PSs (cxOf (L2.CX prog w) prog w K mg base ["fields", "k", "name"] "check_fields" (defScope s_check_fields) f cdv A outer s H e) (defBody s_check_fields) (tS (pm K C C1 E0 TT) ⟨F0, none⟩ H (WE0 e) _))
  exact h
abbrev s_is_integer : Stmt := top 9
theorem sc_is_integer : FnScope ["thing"] ["thing"] (defScope s_is_integer) := ⟨rfl, rfl, rfl, by decide +kernel, rfl, by decide +kernel, by decide +kernel⟩
theorem b_is_integer (T : Txt prog K mg base C C1 E0 fE TT) (f : Addr) (cdv : Value) (A : Around) (outer : List PySem.Env) (s : Shared) (H : Hp) (F0 : Hp) (e : XK) (hr : Room 0 (A.deeper (PyProof.Rows.envOfC "is_integer" (defScope s_is_integer) s.heap.objs.size f cdv))) :
    PSs (cxOf (L2.CX prog w) prog w K mg base ["thing"] "is_integer" (defScope s_is_integer) f cdv A outer s H e) (defBody s_is_integer) (tS (pm K C C1 E0 TT) ⟨F0, none⟩ H (WE0 e) g_is_integer) := by
  have sc := sc_is_integer
  have tk : Takes (cxOf (L2.CX prog w) prog w K mg base ["thing"] "is_integer" (defScope s_is_integer) f cdv A outer s H e) (WE0 e) := takes_of rfl rfl rfl rfl
  have h := ((by exact sd_one (by exact sd_ret (by exact pd_and (by exact pd_isi T.isi T.kit_int (.ty "int") (pe_bltn rfl T.b_int (by decide +kernel) rfl) (by exact pd_peek 0) rfl T.b_isinstance) (by exact pd_one (by exact pd_not (by exact pd_isi T.isi T.kit_bool (.ty "bool") (pe_bltn rfl T.b_bool (by decide +kernel) rfl) (by exact pd_peek 0) rfl T.b_isinstance)))))) : PSs (cxOf (L2.CX prog w) prog w K mg base ["thing"] "is_integer" (defScope s_is_integer) f cdv A outer s H e) (defBody s_is_integer) (tS (pm K C C1 E0 TT) ⟨F0, none⟩ H (WE0 e) _))
  exact h
abbrev s_is_powers : Stmt := top 21
theorem sc_is_powers : FnScope ["thing", "many", "power"] ["thing", "many"] (defScope s_is_powers) := ⟨rfl, rfl, rfl, by decide +kernel, rfl, by decide +kernel, by decide +kernel⟩
theorem b_is_powers (T : Txt prog K mg base C C1 E0 fE TT) (c_is_integer : CalD prog w K mg base (pm K C C1 E0 TT) 1 "is_integer" 1 G_is_integer) (f : Addr) (cdv : Value) (A : Around) (outer : List PySem.Env) (s : Shared) (H : Hp) (F0 : Hp) (e : XK) (hr : Room 1 (A.deeper (PyProof.Rows.envOfC "is_powers" (defScope s_is_powers) s.heap.objs.size f cdv))) :
    PSs (cxOf (L2.CX prog w) prog w K mg base ["thing", "many", "power"] "is_powers" (defScope s_is_powers) f cdv A outer s H e) (defBody s_is_powers) (tS (pm K C C1 E0 TT) ⟨F0, none⟩ H (WE0 e) g_is_powers) := by
  have sc := sc_is_powers
  have tk : Takes (cxOf (L2.CX prog w) prog w K mg base ["thing", "many", "power"] "is_powers" (defScope s_is_powers) f cdv A outer s H e) (WE0 e) := takes_of rfl rfl rfl rfl
  have h := ((sd_cons (by exact sd_if (by exact PW.pt (by exact td_or (by exact td_not (by exact td_val (by exact pd_isi T.isi T.kit_tuple (.ty "tuple") (pe_bltn rfl T.b_tuple (by decide +kernel) rfl) (by exact pd_peek 0) rfl T.b_isinstance))) (by exact td_or1 (by exact td_pc (by exact pd_pc (od_of (io_ne hr.units)) (by exact toV (by exact pd_callB ic_len rfl T.b_len (by decide +kernel) (by exact av_cons (by exact pd_peek 0) av_nil))) (by exact pd_peek 1)) (nomark _))))) (by exact sd_one (by exact sd_ret pd_bl)) sd_nil) (by exact sd_one (by exact sd_ret (by exact pd_callB (ic_all rfl) rfl T.b_all (by decide +kernel) (by exact av_cons (by exact toV (by exact n2e (by exact nd_lc (own := [("power", 2)]) (us := [2]) rfl sc.nd (by exact id_seq (by exact pd_name 0)) (by show BlkOk ["thing", "many", "power"] (defScope s_is_powers) _ [("power", 2)]; exact ⟨rfl, by decide +kernel, by decide +kernel, by decide +kernel, by decide +kernel⟩) rfl (fun _ _ _ _ _ => (by exact gd_name (i := 2) (us := [2]) sc.nd rfl (by first | exact Or.inl rfl | exact Or.inr rfl))) (fun _ _ _ _ _ => td_yes) (fun _ _ _ _ _ => (by exact pd_and (by exact pd_cal c_is_integer (hr.mono (by decide)) takes0 (by exact ad_cons (by exact pd_name 2) ad_nil)) (by exact pd_one (by exact pd_pcv (by exact pd_pc (od_of io_ge) (by exact pd_peek 2) (by exact toV pd_int)) (nomark _)))))))) av_nil))))) : PSs (cxOf (L2.CX prog w) prog w K mg base ["thing", "many", "power"] "is_powers" (defScope s_is_powers) f cdv A outer s H e) (defBody s_is_powers) (tS (pm K C C1 E0 TT) ⟨F0, none⟩ H (WE0 e) _))
  exact h
abbrev s_halves_of : Stmt := top 11
theorem sc_halves_of : FnScope ["number"] ["number"] (defScope s_halves_of) := ⟨rfl, rfl, rfl, by decide +kernel, rfl, by decide +kernel, by decide +kernel⟩
theorem b_halves_of (T : Txt prog K mg base C C1 E0 fE TT) (f : Addr) (cdv : Value) (A : Around) (outer : List PySem.Env) (s : Shared) (H : Hp) (F0 : Hp) (e : XK) (hr : Room 0 (A.deeper (PyProof.Rows.envOfC "halves_of" (defScope s_halves_of) s.heap.objs.size f cdv))) :
    PSs (cxOf (L2.CX prog w) prog w K mg base ["number"] "halves_of" (defScope s_halves_of) f cdv A outer s H e) (defBody s_halves_of) (tS (pm K C C1 E0 TT) ⟨F0, none⟩ H (WE0 e) g_halves_of) := by
  have sc := sc_halves_of
  have tk : Takes (cxOf (L2.CX prog w) prog w K mg base ["number"] "halves_of" (defScope s_halves_of) f cdv A outer s H e) (WE0 e) := takes_of rfl rfl rfl rfl
  have h := ((by exact sd_one (by exact sd_ret (by exact pd_if (by exact td_val (by exact pd_isi T.isi T.kit_Ratio (.own _) (pe_glob rfl T.g_Ratio rfl) (by exact pd_peek 0) rfl T.b_isinstance)) (by exact pd_tup (by exact ad_cons (by exact pd_fld (by exact pd_peek 0) T.f_top) (by exact ad_cons (by exact pd_fld (by exact pd_peek 0) T.f_bottom) ad_nil))) (by exact pd_tup (by exact ad_cons (by exact pd_name 0) (by exact ad_cons pd_int ad_nil)))))) : PSs (cxOf (L2.CX prog w) prog w K mg base ["number"] "halves_of" (defScope s_halves_of) f cdv A outer s H e) (defBody s_halves_of) (tS (pm K C C1 E0 TT) ⟨F0, none⟩ H (WE0 e) _))
  exact h
abbrev s_is_number : Stmt := top 10
theorem sc_is_number : FnScope ["thing"] ["thing"] (defScope s_is_number) := ⟨rfl, rfl, rfl, by decide +kernel, rfl, by decide +kernel, by decide +kernel⟩
theorem b_is_number (T : Txt prog K mg base C C1 E0 fE TT) (c_is_integer : CalD prog w K mg base (pm K C C1 E0 TT) 1 "is_integer" 1 G_is_integer) (f : Addr) (cdv : Value) (A : Around) (outer : List PySem.Env) (s : Shared) (H : Hp) (F0 : Hp) (e : XK) (hr : Room 1 (A.deeper (PyProof.Rows.envOfC "is_number" (defScope s_is_number) s.heap.objs.size f cdv))) :
    PSs (cxOf (L2.CX prog w) prog w K mg base ["thing"] "is_number" (defScope s_is_number) f cdv A outer s H e) (defBody s_is_number) (tS (pm K C C1 E0 TT) ⟨F0, none⟩ H (WE0 e) g_is_number) := by
  have sc := sc_is_number
  have tk : Takes (cxOf (L2.CX prog w) prog w K mg base ["thing"] "is_number" (defScope s_is_number) f cdv A outer s H e) (WE0 e) := takes_of rfl rfl rfl rfl
  have h := ((by exact sd_one (by exact sd_ret (by exact pd_or (by exact pd_cal c_is_integer (hr.mono (by decide)) tk (by exact ad_cons (by exact pd_name 0) ad_nil)) (by exact pd_one (by exact pd_isi T.isi T.kit_Ratio (.own _) (pe_glob rfl T.g_Ratio rfl) (by exact pd_peek 0) rfl T.b_isinstance))))) : PSs (cxOf (L2.CX prog w) prog w K mg base ["thing"] "is_number" (defScope s_is_number) f cdv A outer s H e) (defBody s_is_number) (tS (pm K C C1 E0 TT) ⟨F0, none⟩ H (WE0 e) _))
  exact h
abbrev s_Ratio___eq__ : Stmt := inClass (top 14) 9
theorem sc_Ratio___eq__ : FnScope ["self", "other"] ["self", "other"] (defScope s_Ratio___eq__) := ⟨rfl, rfl, rfl, by decide +kernel, rfl, by decide +kernel, by decide +kernel⟩
theorem b_Ratio___eq__ (T : Txt prog K mg base C C1 E0 fE TT) (c_halves_of : CalD prog w K mg base (pm K C C1 E0 TT) 1 "halves_of" 1 G_halves_of) (c_is_number : CalD prog w K mg base (pm K C C1 E0 TT) 2 "is_number" 1 G_is_number) (f : Addr) (cdv : Value) (A : Around) (outer : List PySem.Env) (s : Shared) (H : Hp) (F0 : Hp) (e : XK) (hr : Room 2 (A.deeper (PyProof.Rows.envOfC "Ratio.__eq__" (defScope s_Ratio___eq__) s.heap.objs.size f cdv))) :
    PSs (cxOf (L2.CX prog w) prog w K mg base ["self", "other"] "Ratio.__eq__" (defScope s_Ratio___eq__) f cdv A outer s H e) (defBody s_Ratio___eq__) (tS (pm K C C1 E0 TT) ⟨F0, none⟩ H (WE0 e) g_Ratio___eq__) := by
  have sc := sc_Ratio___eq__
  have tk : Takes (cxOf (L2.CX prog w) prog w K mg base ["self", "other"] "Ratio.__eq__" (defScope s_Ratio___eq__) f cdv A outer s H e) (WE0 e) := takes_of rfl rfl rfl rfl
  have h := ((by exact sd_one (by exact sd_ret (by exact pd_and (by exact pd_cal c_is_number (hr.mono (by decide)) tk (by exact ad_cons (by exact pd_name 1) ad_nil)) (by exact pd_one (by exact pd_pcv (by exact pd_pc (od_of (io_eq hr.units)) (by exact toV (by exact pd_cal c_halves_of (hr.mono (by decide)) tk (by exact ad_cons (by exact pd_name 1) ad_nil))) (by exact toV (by exact pd_tup (by exact ad_cons (by exact pd_fld (by exact pd_peek 0) T.f_top) (by exact ad_cons (by exact pd_fld (by exact pd_peek 0) T.f_bottom) ad_nil))))) (nomark _)))))) : PSs (cxOf (L2.CX prog w) prog w K mg base ["self", "other"] "Ratio.__eq__" (defScope s_Ratio___eq__) f cdv A outer s H e) (defBody s_Ratio___eq__) (tS (pm K C C1 E0 TT) ⟨F0, none⟩ H (WE0 e) _))
  exact h
abbrev s_plain : Stmt := top 12
theorem sc_plain : FnScope ["number", "top", "bottom"] ["number"] (defScope s_plain) := ⟨rfl, rfl, rfl, by decide +kernel, rfl, by decide +kernel, by decide +kernel⟩
theorem b_plain (T : Txt prog K mg base C C1 E0 fE TT) (c_halves_of : CalD prog w K mg base (pm K C C1 E0 TT) 1 "halves_of" 1 G_halves_of) (f : Addr) (cdv : Value) (A : Around) (outer : List PySem.Env) (s : Shared) (H : Hp) (F0 : Hp) (e : XK) (hr : Room 1 (A.deeper (PyProof.Rows.envOfC "plain" (defScope s_plain) s.heap.objs.size f cdv))) :
    PSs (cxOf (L2.CX prog w) prog w K mg base ["number", "top", "bottom"] "plain" (defScope s_plain) f cdv A outer s H e) (defBody s_plain) (tS (pm K C C1 E0 TT) ⟨F0, none⟩ H (WE0 e) g_plain) := by
  have sc := sc_plain
  have tk : Takes (cxOf (L2.CX prog w) prog w K mg base ["number", "top", "bottom"] "plain" (defScope s_plain) f cdv A outer s H e) (WE0 e) := takes_of rfl rfl rfl rfl
  have h := ((sd_cons (by exact sd_asg (by exact pd_cal c_halves_of (hr.mono (by decide)) tk (by exact ad_cons (by exact pd_name 0) ad_nil)) (by exact gd_tup (n := 2) rfl (by exact gd_cons (by exact gd_name (i := 1) (us := [1, 2]) sc.nd rfl (by first | exact Or.inl rfl | exact Or.inr rfl)) (by exact gd_cons (by exact gd_name (i := 2) (us := [1, 2]) sc.nd rfl (by first | exact Or.inl rfl | exact Or.inr rfl)) gd_nil)))) (by exact sd_one (by exact sd_ret (by exact pd_if (by exact td_pc (by exact pd_pc (od_of (io_eq hr.units)) (by exact pd_peek 2) (by exact toV pd_int)) (nomark _)) (by exact pd_name 1) (by exact pd_name 0))))) : PSs (cxOf (L2.CX prog w) prog w K mg base ["number", "top", "bottom"] "plain" (defScope s_plain) f cdv A outer s H e) (defBody s_plain) (tS (pm K C C1 E0 TT) ⟨F0, none⟩ H (WE0 e) _))
  exact h
abbrev s_one_form : Stmt := top 22
theorem sc_one_form : FnScope ["terms", "found", "powers"] ["terms"] (defScope s_one_form) := ⟨rfl, rfl, rfl, by decide +kernel, rfl, by decide +kernel, by decide +kernel⟩
theorem b_one_form (T : Txt prog K mg base C C1 E0 fE TT) (c___eq__ : OwnD prog w K mg base (pm K C C1 E0 TT) 3 "__eq__" 0 2 G_Ratio___eq__) (c_plain : CalD prog w K mg base (pm K C C1 E0 TT) 2 "plain" 1 G_plain) (f : Addr) (cdv : Value) (A : Around) (outer : List PySem.Env) (s : Shared) (H : Hp) (F0 : Hp) (e : XK) (hr : Room 4 (A.deeper (PyProof.Rows.envOfC "one_form" (defScope s_one_form) s.heap.objs.size f cdv))) :
    PSs (cxOf (L2.CX prog w) prog w K mg base ["terms", "found", "powers"] "one_form" (defScope s_one_form) f cdv A outer s H e) (defBody s_one_form) (tS (pm K C C1 E0 TT) ⟨F0, none⟩ H (WE0 e) g_one_form) := by
  have sc := sc_one_form
  have tk : Takes (cxOf (L2.CX prog w) prog w K mg base ["terms", "found", "powers"] "one_form" (defScope s_one_form) f cdv A outer s H e) (WE0 e) := takes_of rfl rfl rfl rfl
  have h := ((sd_cons (by exact sd_setN (i := 1) sc.nd rfl (by first | exact Or.inl rfl | exact Or.inr rfl) nd_dnT) (sd_cons (by exact sd_for (passes_of rfl) rfl (by exact id_seq (by exact pd_sortT rfl (un8 hr) T.b_sorted (by exact pd_peek 0) pd_bl)) (by exact gd_name (i := 2) (us := [2]) sc.nd rfl (by first | exact Or.inl rfl | exact Or.inr rfl)) (by exact sd_one (by exact sd_if (by exact td_pc (by exact pc_neN T.ec c___eq__ (hr.mono (by decide)) tk (by exact pd_dget (un1 hr) (by exact pd_peek 0) (by exact pd_name 2) (fun _ _ => rfl)) pd_int) (nomark _)) (by exact sd_one (by exact sd_dput 1 (un1 hr) (by exact pd_name 2) (by exact pd_cal c_plain (hr.mono (by decide)) tk (by exact ad_cons (by exact pd_dget (un1 hr) (by exact pd_peek 0) (by exact pd_name 2) (fun _ _ => rfl)) ad_nil)))) sd_nil))) (by exact sd_one (by exact sd_frz1 1 (by exact sd_ret (by exact pd_name 1)))))) : PSs (cxOf (L2.CX prog w) prog w K mg base ["terms", "found", "powers"] "one_form" (defScope s_one_form) f cdv A outer s H e) (defBody s_one_form) (tS (pm K C C1 E0 TT) ⟨F0, none⟩ H (WE0 e) _))
  exact h
abbrev s_Poly___init__ : Stmt := inClass (top 30) 0
theorem sc_Poly___init__ : FnScope ["self", "fields", "terms", "powers"] ["self", "fields", "terms"] (defScope s_Poly___init__) := ⟨rfl, rfl, rfl, by decide +kernel, rfl, by decide +kernel, by decide +kernel⟩
theorem b_Poly___init__ (T : Txt prog K mg base C C1 E0 fE TT) (c_check_fields : CalD prog w K mg base (pm K C C1 E0 TT) 2 "check_fields" 1 G_check_fields) (c_is_powers : CalD prog w K mg base (pm K C C1 E0 TT) 2 "is_powers" 2 G_is_powers) (c_one_form : CalD prog w K mg base (pm K C C1 E0 TT) 5 "one_form" 1 G_one_form) (f : Addr) (cdv : Value) (A : Around) (outer : List PySem.Env) (s : Shared) (H : Hp) (F0 H0 : Hp) (x : Addr) (e : XK) (hr : Room 5 (A.deeper (PyProof.Rows.envOfC "Poly.__init__" (defScope s_Poly___init__) s.heap.objs.size f cdv))) :
    PSs (cxOf (L2.CX prog w) prog w K mg base ["self", "fields", "terms", "powers"] "Poly.__init__" (defScope s_Poly___init__) f cdv A outer s H e) (defBody s_Poly___init__) (tS (pm K C C1 E0 TT) ⟨F0, some x⟩ H0 (WE0 e) g_Poly___init__) := by
  have sc := sc_Poly___init__
  have tk : Takes (cxOf (L2.CX prog w) prog w K mg base ["self", "fields", "terms", "powers"] "Poly.__init__" (defScope s_Poly___init__) f cdv A outer s H e) (WE0 e) := takes_of rfl rfl rfl rfl
  have h := ((sd_cons (by exact sd_fld (i := 0) T.s_fields T.nd (by exact pd_callTy ic_tup rfl T.b_tuple (by decide +kernel) (by exact av_cons (by exact pd_peek 1) av_nil))) (sd_cons (by exact sd_drop (by exact pd_cal c_check_fields (hr.mono (by decide)) tk (by exact ad_cons (by exact pd_fld (by exact pd_peek 0) T.f_fields) ad_nil))) (sd_cons (by exact sd_for (passes_of rfl) rfl (by exact id_keys (by exact pd_name 2)) (by exact gd_name (i := 3) (us := [3]) sc.nd rfl (by first | exact Or.inl rfl | exact Or.inr rfl)) (by exact sd_one (by exact sd_if (by exact td_not (by exact td_val (by exact pd_cal c_is_powers (hr.mono (by decide)) tk (by exact ad_cons (by exact pd_name 3) (by exact ad_cons (by exact pd_callB ic_len rfl T.b_len (by decide +kernel) (by exact av_cons (by exact toV (by exact pd_fld (by exact pd_peek 0) T.f_fields)) av_nil)) ad_nil))))) (by exact sd_one sd_never) sd_nil))) (by exact sd_one (by exact sd_fld (i := 0) T.s_parts T.nd (by exact pd_cal c_one_form (hr.mono (by decide)) tk (by exact ad_cons (by exact pd_name 2) ad_nil))))))) : PSs (cxOf (L2.CX prog w) prog w K mg base ["self", "fields", "terms", "powers"] "Poly.__init__" (defScope s_Poly___init__) f cdv A outer s H e) (defBody s_Poly___init__) (tS (pm K C C1 E0 TT) ⟨F0, some x⟩ H0 (WE0 e) _))
  exact h
abbrev s__law_times : Stmt := top 37
theorem sc__law_times : FnScope ["_law_one", "_law_two"] ["_law_one", "_law_two"] (defScope s__law_times) := ⟨rfl, rfl, rfl, by decide +kernel, rfl, by decide +kernel, by decide +kernel⟩
theorem b__law_times (T : Txt prog K mg base C C1 E0 fE TT) (c__law_low : CalD prog w K mg base (pm K C C1 E0 TT) 2 "_law_low" 1 G__law_low) (f : Addr) (cdv : Value) (A : Around) (outer : List PySem.Env) (s : Shared) (H : Hp) (F0 : Hp) (e : XK) (hr : Room 2 (A.deeper (PyProof.Rows.envOfC "_law_times" (defScope s__law_times) s.heap.objs.size f cdv))) :
    PSs (cxOf (L2.CX prog w) prog w K mg base ["_law_one", "_law_two"] "_law_times" (defScope s__law_times) f cdv A outer s H e) (defBody s__law_times) (tS (pm K C C1 E0 TT) ⟨F0, none⟩ H (WE0 e) g__law_times) := by
  have sc := sc__law_times
  have tk : Takes (cxOf (L2.CX prog w) prog w K mg base ["_law_one", "_law_two"] "_law_times" (defScope s__law_times) f cdv A outer s H e) (WE0 e) := takes_of rfl rfl rfl rfl
  have h := ((by exact sd_one (by exact sd_ret (by exact pd_cal c__law_low (hr.mono (by decide)) tk (by exact ad_cons (by exact pd_tup (by exact ad_cons (by exact pd_op (od_of io_mulB) (by exact toV (by exact pd_ix (by exact pd_peek 0) (by exact toV pd_int) (fun _ _ => rfl))) (by exact toV (by exact pd_ix (by exact pd_peek 1) (by exact toV pd_int) (fun _ _ => rfl)))) (by exact ad_cons (by exact pd_op (od_of io_mulB) (by exact toV (by exact pd_ix (by exact pd_peek 0) (by exact toV pd_int) (fun _ _ => rfl))) (by exact toV (by exact pd_ix (by exact pd_peek 1) (by exact toV pd_int) (fun _ _ => rfl)))) ad_nil))) ad_nil)))) : PSs (cxOf (L2.CX prog w) prog w K mg base ["_law_one", "_law_two"] "_law_times" (defScope s__law_times) f cdv A outer s H e) (defBody s__law_times) (tS (pm K C C1 E0 TT) ⟨F0, none⟩ H (WE0 e) _))
  exact h
abbrev s__law_power : Stmt := top 45
theorem sc__law_power : FnScope ["_law_number", "_law_power_here", "_law_out", "_law_k"] ["_law_number", "_law_power_here"] (defScope s__law_power) := ⟨rfl, rfl, rfl, by decide +kernel, rfl, by decide +kernel, by decide +kernel⟩
theorem b__law_power (T : Txt prog K mg base C C1 E0 fE TT) (c__law_times : CalD prog w K mg base (pm K C C1 E0 TT) 3 "_law_times" 2 G__law_times) (f : Addr) (cdv : Value) (A : Around) (outer : List PySem.Env) (s : Shared) (H : Hp) (F0 : Hp) (e : XK) (hr : Room 3 (A.deeper (PyProof.Rows.envOfC "_law_power" (defScope s__law_power) s.heap.objs.size f cdv))) :
    PSs (cxOf (L2.CX prog w) prog w K mg base ["_law_number", "_law_power_here", "_law_out", "_law_k"] "_law_power" (defScope s__law_power) f cdv A outer s H e) (defBody s__law_power) (tS (pm K C C1 E0 TT) ⟨F0, none⟩ H (WE0 e) g__law_power) := by
  have sc := sc__law_power
  have tk : Takes (cxOf (L2.CX prog w) prog w K mg base ["_law_number", "_law_power_here", "_law_out", "_law_k"] "_law_power" (defScope s__law_power) f cdv A outer s H e) (WE0 e) := takes_of rfl rfl rfl rfl
  have h := ((sd_cons (by exact sd_set (i := 2) sc.nd rfl (by first | exact Or.inl rfl | exact Or.inr rfl) (by exact pd_tup (by exact ad_cons pd_int (by exact ad_cons pd_int ad_nil)))) (sd_cons (by exact sd_for (passes_of rfl) rfl (by exact id_range1 rfl T.b_range (by exact ad_cons (by exact pd_name 1) ad_nil)) (by exact gd_name (i := 3) (us := [3]) sc.nd rfl (by first | exact Or.inl rfl | exact Or.inr rfl)) (by exact sd_one (by exact sd_set (i := 2) sc.nd rfl (by first | exact Or.inl rfl | exact Or.inr rfl) (by exact pd_cal c__law_times (hr.mono (by decide)) tk (by exact ad_cons (by exact pd_name 2) (by exact ad_cons (by exact pd_name 0) ad_nil)))))) (by exact sd_one (by exact sd_ret (by exact pd_name 2))))) : PSs (cxOf (L2.CX prog w) prog w K mg base ["_law_number", "_law_power_here", "_law_out", "_law_k"] "_law_power" (defScope s__law_power) f cdv A outer s H e) (defBody s__law_power) (tS (pm K C C1 E0 TT) ⟨F0, none⟩ H (WE0 e) _))
  exact h
abbrev s__law_add : Stmt := top 36
theorem sc__law_add : FnScope ["_law_one", "_law_two"] ["_law_one", "_law_two"] (defScope s__law_add) := ⟨rfl, rfl, rfl, by decide +kernel, rfl, by decide +kernel, by decide +kernel⟩
theorem b__law_add (T : Txt prog K mg base C C1 E0 fE TT) (c__law_low : CalD prog w K mg base (pm K C C1 E0 TT) 2 "_law_low" 1 G__law_low) (f : Addr) (cdv : Value) (A : Around) (outer : List PySem.Env) (s : Shared) (H : Hp) (F0 : Hp) (e : XK) (hr : Room 2 (A.deeper (PyProof.Rows.envOfC "_law_add" (defScope s__law_add) s.heap.objs.size f cdv))) :
    PSs (cxOf (L2.CX prog w) prog w K mg base ["_law_one", "_law_two"] "_law_add" (defScope s__law_add) f cdv A outer s H e) (defBody s__law_add) (tS (pm K C C1 E0 TT) ⟨F0, none⟩ H (WE0 e) g__law_add) := by
  have sc := sc__law_add
  have tk : Takes (cxOf (L2.CX prog w) prog w K mg base ["_law_one", "_law_two"] "_law_add" (defScope s__law_add) f cdv A outer s H e) (WE0 e) := takes_of rfl rfl rfl rfl
  have h := ((by exact sd_one (by exact sd_ret (by exact pd_cal c__law_low (hr.mono (by decide)) tk (by exact ad_cons (by exact pd_tup (by exact ad_cons (by exact pd_op (od_of io_addA) (by exact toV (by exact pd_op (od_of io_mulB) (by exact toV (by exact pd_ix (by exact pd_peek 0) (by exact toV pd_int) (fun _ _ => rfl))) (by exact toV (by exact pd_ix (by exact pd_peek 1) (by exact toV pd_int) (fun _ _ => rfl))))) (by exact toV (by exact pd_op (od_of io_mulB) (by exact toV (by exact pd_ix (by exact pd_peek 1) (by exact toV pd_int) (fun _ _ => rfl))) (by exact toV (by exact pd_ix (by exact pd_peek 0) (by exact toV pd_int) (fun _ _ => rfl)))))) (by exact ad_cons (by exact pd_op (od_of io_mulB) (by exact toV (by exact pd_ix (by exact pd_peek 0) (by exact toV pd_int) (fun _ _ => rfl))) (by exact toV (by exact pd_ix (by exact pd_peek 1) (by exact toV pd_int) (fun _ _ => rfl)))) ad_nil))) ad_nil)))) : PSs (cxOf (L2.CX prog w) prog w K mg base ["_law_one", "_law_two"] "_law_add" (defScope s__law_add) f cdv A outer s H e) (defBody s__law_add) (tS (pm K C C1 E0 TT) ⟨F0, none⟩ H (WE0 e) _))
  exact h
abbrev s__law_value_of : Stmt := top 46
theorem sc__law_value_of : FnScope ["_law_terms_here", "_law_numbers", "_law_total", "_law_powers", "_law_value", "_law_number", "_law_power_here"] ["_law_terms_here", "_law_numbers"] (defScope s__law_value_of) := ⟨rfl, rfl, rfl, by decide +kernel, rfl, by decide +kernel, by decide +kernel⟩
theorem b__law_value_of (T : Txt prog K mg base C C1 E0 fE TT) (c__law_power : CalD prog w K mg base (pm K C C1 E0 TT) 4 "_law_power" 2 G__law_power) (c__law_times : CalD prog w K mg base (pm K C C1 E0 TT) 3 "_law_times" 2 G__law_times) (c__law_add : CalD prog w K mg base (pm K C C1 E0 TT) 3 "_law_add" 2 G__law_add) (f : Addr) (cdv : Value) (A : Around) (outer : List PySem.Env) (s : Shared) (H : Hp) (F0 : Hp) (e : XK) (hr : Room 4 (A.deeper (PyProof.Rows.envOfC "_law_value_of" (defScope s__law_value_of) s.heap.objs.size f cdv))) :
    PSs (cxOf (L2.CX prog w) prog w K mg base ["_law_terms_here", "_law_numbers", "_law_total", "_law_powers", "_law_value", "_law_number", "_law_power_here"] "_law_value_of" (defScope s__law_value_of) f cdv A outer s H e) (defBody s__law_value_of) (tS (pm K C C1 E0 TT) ⟨F0, none⟩ H (WE0 e) g__law_value_of) := by
  have sc := sc__law_value_of
  have tk : Takes (cxOf (L2.CX prog w) prog w K mg base ["_law_terms_here", "_law_numbers", "_law_total", "_law_powers", "_law_value", "_law_number", "_law_power_here"] "_law_value_of" (defScope s__law_value_of) f cdv A outer s H e) (WE0 e) := takes_of rfl rfl rfl rfl
  have h := ((sd_cons (by exact sd_set (i := 2) sc.nd rfl (by first | exact Or.inl rfl | exact Or.inr rfl) (by exact pd_tup (by exact ad_cons pd_int (by exact ad_cons pd_int ad_nil)))) (sd_cons (by exact sd_for (passes_of rfl) rfl (by exact id_keys (by exact pd_name 0)) (by exact gd_name (i := 3) (us := [3]) sc.nd rfl (by first | exact Or.inl rfl | exact Or.inr rfl)) (sd_cons (by exact sd_set (i := 4) sc.nd rfl (by first | exact Or.inl rfl | exact Or.inr rfl) (by exact pd_dget (un1 hr) (by exact pd_peek 0) (by exact pd_name 3) (fun _ _ => rfl))) (sd_cons (by exact sd_for (passes_of rfl) rfl (by exact id_zipA rfl T.b_zip (by exact ad_cons (by exact pd_name 1) (by exact ad_cons (by exact pd_name 3) ad_nil))) (by exact gd_tup (n := 2) rfl (by exact gd_cons (by exact gd_name (i := 5) (us := [5, 6]) sc.nd rfl (by first | exact Or.inl rfl | exact Or.inr rfl)) (by exact gd_cons (by exact gd_name (i := 6) (us := [5, 6]) sc.nd rfl (by first | exact Or.inl rfl | exact Or.inr rfl)) gd_nil))) (by exact sd_one (by exact sd_set (i := 4) sc.nd rfl (by first | exact Or.inl rfl | exact Or.inr rfl) (by exact pd_cal c__law_times (hr.mono (by decide)) tk (by exact ad_cons (by exact pd_name 4) (by exact ad_cons (by exact pd_cal c__law_power (hr.mono (by decide)) tk (by exact ad_cons (by exact pd_name 5) (by exact ad_cons (by exact pd_name 6) ad_nil))) ad_nil)))))) (by exact sd_one (by exact sd_set (i := 2) sc.nd rfl (by first | exact Or.inl rfl | exact Or.inr rfl) (by exact pd_cal c__law_add (hr.mono (by decide)) tk (by exact ad_cons (by exact pd_name 2) (by exact ad_cons (by exact pd_name 4) ad_nil)))))))) (by exact sd_one (by exact sd_ret (by exact pd_name 2))))) : PSs (cxOf (L2.CX prog w) prog w K mg base ["_law_terms_here", "_law_numbers", "_law_total", "_law_powers", "_law_value", "_law_number", "_law_power_here"] "_law_value_of" (defScope s__law_value_of) f cdv A outer s H e) (defBody s__law_value_of) (tS (pm K C C1 E0 TT) ⟨F0, none⟩ H (WE0 e) _))
  exact h
abbrev s_Ratio___mul__ : Stmt := inClass (top 14) 6
theorem sc_Ratio___mul__ : FnScope ["self", "other", "top", "bottom"] ["self", "other"] (defScope s_Ratio___mul__) := ⟨rfl, rfl, rfl, by decide +kernel, rfl, by decide +kernel, by decide +kernel⟩
theorem b_Ratio___mul__ (T : Txt prog K mg base C C1 E0 fE TT) (c_is_number : CalD prog w K mg base (pm K C C1 E0 TT) 2 "is_number" 1 G_is_number) (c_halves_of : CalD prog w K mg base (pm K C C1 E0 TT) 1 "halves_of" 1 G_halves_of) (c_Ratio : MkD prog w K mg base (pm K C C1 E0 TT) 2 "Ratio" 0 2 G_Ratio___init__) (f : Addr) (cdv : Value) (A : Around) (outer : List PySem.Env) (s : Shared) (H : Hp) (F0 : Hp) (e : XK) (hr : Room 3 (A.deeper (PyProof.Rows.envOfC "Ratio.__mul__" (defScope s_Ratio___mul__) s.heap.objs.size f cdv))) :
    PSs (cxOf (L2.CX prog w) prog w K mg base ["self", "other", "top", "bottom"] "Ratio.__mul__" (defScope s_Ratio___mul__) f cdv A outer s H e) (defBody s_Ratio___mul__) (tS (pm K C C1 E0 TT) ⟨F0, none⟩ H (WE0 e) g_Ratio___mul__) := by
  have sc := sc_Ratio___mul__
  have tk : Takes (cxOf (L2.CX prog w) prog w K mg base ["self", "other", "top", "bottom"] "Ratio.__mul__" (defScope s_Ratio___mul__) f cdv A outer s H e) (WE0 e) := takes_of rfl rfl rfl rfl
  have h := ((sd_cons (by exact sd_if (by exact td_not (by exact td_val (by exact pd_cal c_is_number (hr.mono (by decide)) tk (by exact ad_cons (by exact pd_name 1) ad_nil)))) (by exact sd_one sd_never) sd_nil) (sd_cons (by exact sd_asg (by exact pd_cal c_halves_of (hr.mono (by decide)) tk (by exact ad_cons (by exact pd_name 1) ad_nil)) (by exact gd_tup (n := 2) rfl (by exact gd_cons (by exact gd_name (i := 2) (us := [2, 3]) sc.nd rfl (by first | exact Or.inl rfl | exact Or.inr rfl)) (by exact gd_cons (by exact gd_name (i := 3) (us := [2, 3]) sc.nd rfl (by first | exact Or.inl rfl | exact Or.inr rfl)) gd_nil)))) (by exact sd_one (by exact sd_ret (by exact pd_mk c_Ratio (hr.mono (by decide)) tk (by exact ad_cons (by exact pd_op (od_of io_mulB) (by exact toV (by exact pd_fld (by exact pd_peek 0) T.f_top)) (by exact pd_peek 2)) (by exact ad_cons (by exact pd_op (od_of io_mulB) (by exact toV (by exact pd_fld (by exact pd_peek 0) T.f_bottom)) (by exact pd_peek 3)) ad_nil))))))) : PSs (cxOf (L2.CX prog w) prog w K mg base ["self", "other", "top", "bottom"] "Ratio.__mul__" (defScope s_Ratio___mul__) f cdv A outer s H e) (defBody s_Ratio___mul__) (tS (pm K C C1 E0 TT) ⟨F0, none⟩ H (WE0 e) _))
  exact h
abbrev s_Ratio___rmul__ : Stmt := inClass (top 14) 7
theorem sc_Ratio___rmul__ : FnScope ["self", "other"] ["self", "other"] (defScope s_Ratio___rmul__) := ⟨rfl, rfl, rfl, by decide +kernel, rfl, by decide +kernel, by decide +kernel⟩
theorem b_Ratio___rmul__ (T : Txt prog K mg base C C1 E0 fE TT) (c___mul__ : OwnD prog w K mg base (pm K C C1 E0 TT) 4 "__mul__" 0 2 G_Ratio___mul__) (f : Addr) (cdv : Value) (A : Around) (outer : List PySem.Env) (s : Shared) (H : Hp) (F0 : Hp) (e : XK) (hr : Room 4 (A.deeper (PyProof.Rows.envOfC "Ratio.__rmul__" (defScope s_Ratio___rmul__) s.heap.objs.size f cdv))) :
    PSs (cxOf (L2.CX prog w) prog w K mg base ["self", "other"] "Ratio.__rmul__" (defScope s_Ratio___rmul__) f cdv A outer s H e) (defBody s_Ratio___rmul__) (tS (pm K C C1 E0 TT) ⟨F0, none⟩ H (WE0 e) g_Ratio___rmul__) := by
  have sc := sc_Ratio___rmul__
  have tk : Takes (cxOf (L2.CX prog w) prog w K mg base ["self", "other"] "Ratio.__rmul__" (defScope s_Ratio___rmul__) f cdv A outer s H e) (WE0 e) := takes_of rfl rfl rfl rfl
  have h := ((by exact sd_one (by exact sd_ret (by exact pd_opL (by decide) (by decide) T.n_mul T.r_mul c___mul__ (hr.mono (by decide)) tk (by exact pd_name 0) (by exact pd_name 1)))) : PSs (cxOf (L2.CX prog w) prog w K mg base ["self", "other"] "Ratio.__rmul__" (defScope s_Ratio___rmul__) f cdv A outer s H e) (defBody s_Ratio___rmul__) (tS (pm K C C1 E0 TT) ⟨F0, none⟩ H (WE0 e) _))
  exact h
abbrev s_raised : Stmt := top 25
theorem sc_raised : FnScope ["thing", "power", "one", "found", "k"] ["thing", "power", "one"] (defScope s_raised) := ⟨rfl, rfl, rfl, by decide +kernel, rfl, by decide +kernel, by decide +kernel⟩
theorem b_raised (T : Txt prog K mg base C C1 E0 fE TT) (c___mul__ : OwnD prog w K mg base (pm K C C1 E0 TT) 4 "__mul__" 0 2 G_Ratio___mul__) (c___rmul__ : OwnD prog w K mg base (pm K C C1 E0 TT) 5 "__rmul__" 0 2 G_Ratio___rmul__) (f : Addr) (cdv : Value) (A : Around) (outer : List PySem.Env) (s : Shared) (H : Hp) (F0 : Hp) (e : XK) (hr : Room 5 (A.deeper (PyProof.Rows.envOfC "raised" (defScope s_raised) s.heap.objs.size f cdv))) :
    PSs (cxOf (L2.CX prog w) prog w K mg base ["thing", "power", "one", "found", "k"] "raised" (defScope s_raised) f cdv A outer s H e) (defBody s_raised) (tS (pm K C C1 E0 TT) ⟨F0, none⟩ H (WE0 e) g_raised) := by
  have sc := sc_raised
  have tk : Takes (cxOf (L2.CX prog w) prog w K mg base ["thing", "power", "one", "found", "k"] "raised" (defScope s_raised) f cdv A outer s H e) (WE0 e) := takes_of rfl rfl rfl rfl
  have h := ((sd_cons (by exact sd_set (i := 3) sc.nd rfl (by first | exact Or.inl rfl | exact Or.inr rfl) (by exact pd_name 2)) (sd_cons (by exact sd_for (passes_of rfl) rfl (by exact id_range1 rfl T.b_range (by exact ad_cons (by exact pd_name 1) ad_nil)) (by exact gd_name (i := 4) (us := [4]) sc.nd rfl (by first | exact Or.inl rfl | exact Or.inr rfl)) (by exact sd_one (by exact sd_set (i := 3) sc.nd rfl (by first | exact Or.inl rfl | exact Or.inr rfl) (by exact pd_opN rb_mul (by decide) (by decide) T.n_mul io_mulB c___mul__ c___rmul__ (hr.mono (by decide)) (hr.mono (by decide)) tk (by exact pd_name 3) (by exact pd_name 0))))) (by exact sd_one (by exact sd_ret (by exact pd_name 3))))) : PSs (cxOf (L2.CX prog w) prog w K mg base ["thing", "power", "one", "found", "k"] "raised" (defScope s_raised) f cdv A outer s H e) (defBody s_raised) (tS (pm K C C1 E0 TT) ⟨F0, none⟩ H (WE0 e) _))
  exact h
abbrev s_Ratio___add__ : Stmt := inClass (top 14) 1
theorem sc_Ratio___add__ : FnScope ["self", "other", "top", "bottom"] ["self", "other"] (defScope s_Ratio___add__) := ⟨rfl, rfl, rfl, by decide +kernel, rfl, by decide +kernel, by decide +kernel⟩
theorem b_Ratio___add__ (T : Txt prog K mg base C C1 E0 fE TT) (c_is_number : CalD prog w K mg base (pm K C C1 E0 TT) 2 "is_number" 1 G_is_number) (c_halves_of : CalD prog w K mg base (pm K C C1 E0 TT) 1 "halves_of" 1 G_halves_of) (c_Ratio : MkD prog w K mg base (pm K C C1 E0 TT) 2 "Ratio" 0 2 G_Ratio___init__) (f : Addr) (cdv : Value) (A : Around) (outer : List PySem.Env) (s : Shared) (H : Hp) (F0 : Hp) (e : XK) (hr : Room 3 (A.deeper (PyProof.Rows.envOfC "Ratio.__add__" (defScope s_Ratio___add__) s.heap.objs.size f cdv))) :
    PSs (cxOf (L2.CX prog w) prog w K mg base ["self", "other", "top", "bottom"] "Ratio.__add__" (defScope s_Ratio___add__) f cdv A outer s H e) (defBody s_Ratio___add__) (tS (pm K C C1 E0 TT) ⟨F0, none⟩ H (WE0 e) g_Ratio___add__) := by
  have sc := sc_Ratio___add__
  have tk : Takes (cxOf (L2.CX prog w) prog w K mg base ["self", "other", "top", "bottom"] "Ratio.__add__" (defScope s_Ratio___add__) f cdv A outer s H e) (WE0 e) := takes_of rfl rfl rfl rfl
  have h := ((sd_cons (by exact sd_if (by exact td_not (by exact td_val (by exact pd_cal c_is_number (hr.mono (by decide)) tk (by exact ad_cons (by exact pd_name 1) ad_nil)))) (by exact sd_one sd_never) sd_nil) (sd_cons (by exact sd_asg (by exact pd_cal c_halves_of (hr.mono (by decide)) tk (by exact ad_cons (by exact pd_name 1) ad_nil)) (by exact gd_tup (n := 2) rfl (by exact gd_cons (by exact gd_name (i := 2) (us := [2, 3]) sc.nd rfl (by first | exact Or.inl rfl | exact Or.inr rfl)) (by exact gd_cons (by exact gd_name (i := 3) (us := [2, 3]) sc.nd rfl (by first | exact Or.inl rfl | exact Or.inr rfl)) gd_nil)))) (by exact sd_one (by exact sd_ret (by exact pd_mk c_Ratio (hr.mono (by decide)) tk (by exact ad_cons (by exact pd_op (od_of io_addA) (by exact toV (by exact pd_op (od_of io_mulB) (by exact toV (by exact pd_fld (by exact pd_peek 0) T.f_top)) (by exact pd_peek 3))) (by exact toV (by exact pd_op (od_of io_mulB) (by exact pd_peek 2) (by exact toV (by exact pd_fld (by exact pd_peek 0) T.f_bottom))))) (by exact ad_cons (by exact pd_op (od_of io_mulB) (by exact toV (by exact pd_fld (by exact pd_peek 0) T.f_bottom)) (by exact pd_peek 3)) ad_nil))))))) : PSs (cxOf (L2.CX prog w) prog w K mg base ["self", "other", "top", "bottom"] "Ratio.__add__" (defScope s_Ratio___add__) f cdv A outer s H e) (defBody s_Ratio___add__) (tS (pm K C C1 E0 TT) ⟨F0, none⟩ H (WE0 e) _))
  exact h
abbrev s_Ratio___radd__ : Stmt := inClass (top 14) 2
theorem sc_Ratio___radd__ : FnScope ["self", "other"] ["self", "other"] (defScope s_Ratio___radd__) := ⟨rfl, rfl, rfl, by decide +kernel, rfl, by decide +kernel, by decide +kernel⟩
theorem b_Ratio___radd__ (T : Txt prog K mg base C C1 E0 fE TT) (c___add__ : OwnD prog w K mg base (pm K C C1 E0 TT) 4 "__add__" 0 2 G_Ratio___add__) (f : Addr) (cdv : Value) (A : Around) (outer : List PySem.Env) (s : Shared) (H : Hp) (F0 : Hp) (e : XK) (hr : Room 4 (A.deeper (PyProof.Rows.envOfC "Ratio.__radd__" (defScope s_Ratio___radd__) s.heap.objs.size f cdv))) :
    PSs (cxOf (L2.CX prog w) prog w K mg base ["self", "other"] "Ratio.__radd__" (defScope s_Ratio___radd__) f cdv A outer s H e) (defBody s_Ratio___radd__) (tS (pm K C C1 E0 TT) ⟨F0, none⟩ H (WE0 e) g_Ratio___radd__) := by
  have sc := sc_Ratio___radd__
  have tk : Takes (cxOf (L2.CX prog w) prog w K mg base ["self", "other"] "Ratio.__radd__" (defScope s_Ratio___radd__) f cdv A outer s H e) (WE0 e) := takes_of rfl rfl rfl rfl
  have h := ((by exact sd_one (by exact sd_ret (by exact pd_opL (by decide) (by decide) T.n_add T.r_add c___add__ (hr.mono (by decide)) tk (by exact pd_name 0) (by exact pd_name 1)))) : PSs (cxOf (L2.CX prog w) prog w K mg base ["self", "other"] "Ratio.__radd__" (defScope s_Ratio___radd__) f cdv A outer s H e) (defBody s_Ratio___radd__) (tS (pm K C C1 E0 TT) ⟨F0, none⟩ H (WE0 e) _))
  exact h
abbrev s_Poly_at : Stmt := inClass (top 30) 10
theorem sc_Poly_at : FnScope ["self", "numbers", "found", "powers", "value", "number", "power"] ["self", "numbers"] (defScope s_Poly_at) := ⟨rfl, rfl, rfl, by decide +kernel, rfl, by decide +kernel, by decide +kernel⟩
theorem b_Poly_at (T : Txt prog K mg base C C1 E0 fE TT) (c_raised : CalD prog w K mg base (pm K C C1 E0 TT) 6 "raised" 3 G_raised) (c___mul__ : OwnD prog w K mg base (pm K C C1 E0 TT) 4 "__mul__" 0 2 G_Ratio___mul__) (c___rmul__ : OwnD prog w K mg base (pm K C C1 E0 TT) 5 "__rmul__" 0 2 G_Ratio___rmul__) (c___add__ : OwnD prog w K mg base (pm K C C1 E0 TT) 4 "__add__" 0 2 G_Ratio___add__) (c___radd__ : OwnD prog w K mg base (pm K C C1 E0 TT) 5 "__radd__" 0 2 G_Ratio___radd__) (c_plain : CalD prog w K mg base (pm K C C1 E0 TT) 2 "plain" 1 G_plain) (f : Addr) (cdv : Value) (A : Around) (outer : List PySem.Env) (s : Shared) (H : Hp) (F0 : Hp) (e : XK) (hr : Room 6 (A.deeper (PyProof.Rows.envOfC "Poly.at" (defScope s_Poly_at) s.heap.objs.size f cdv))) :
    PSs (cxOf (L2.CX prog w) prog w K mg base ["self", "numbers", "found", "powers", "value", "number", "power"] "Poly.at" (defScope s_Poly_at) f cdv A outer s H e) (defBody s_Poly_at) (tS (pm K C C1 E0 TT) ⟨F0, none⟩ H (WE0 e) g_Poly_at) := by
  have sc := sc_Poly_at
  have tk : Takes (cxOf (L2.CX prog w) prog w K mg base ["self", "numbers", "found", "powers", "value", "number", "power"] "Poly.at" (defScope s_Poly_at) f cdv A outer s H e) (WE0 e) := takes_of rfl rfl rfl rfl
  have h := ((sd_cons (by exact sd_if (by exact td_pc (by exact pd_pc (od_of (io_ne hr.units)) (by exact toV (by exact pd_callB ic_len rfl T.b_len (by decide +kernel) (by exact av_cons (by exact pd_peek 1) av_nil))) (by exact toV (by exact pd_callB ic_len rfl T.b_len (by decide +kernel) (by exact av_cons (by exact toV (by exact pd_fld (by exact pd_peek 0) T.f_fields)) av_nil)))) (nomark _)) (by exact sd_one (by exact sd_raise (cn := 0) (k := 1) rfl tk T.e_WrongCount rfl rfl T.fo_WrongCount (hr.mono (by decide)) (by exact pd_callB ic_len rfl T.b_len (by decide +kernel) (by exact av_cons (by exact pd_peek 1) av_nil)) rfl (by decide))) sd_nil) (sd_cons (by exact sd_set (i := 2) sc.nd rfl (by first | exact Or.inl rfl | exact Or.inr rfl) pd_int) (sd_cons (by exact sd_for (passes_of rfl) rfl (by exact id_keys (by exact pd_fld (by exact pd_peek 0) T.f_parts)) (by exact gd_name (i := 3) (us := [3]) sc.nd rfl (by first | exact Or.inl rfl | exact Or.inr rfl)) (sd_cons (by exact sd_set (i := 4) sc.nd rfl (by first | exact Or.inl rfl | exact Or.inr rfl) (by exact pd_dget (un1 hr) (by exact toV (by exact pd_fld (by exact pd_peek 0) T.f_parts)) (by exact pd_name 3) (fun _ _ => rfl))) (sd_cons (by exact sd_for (passes_of rfl) rfl (by exact id_zipA rfl T.b_zip (by exact ad_cons (by exact pd_name 1) (by exact ad_cons (by exact pd_name 3) ad_nil))) (by exact gd_tup (n := 2) rfl (by exact gd_cons (by exact gd_name (i := 5) (us := [5, 6]) sc.nd rfl (by first | exact Or.inl rfl | exact Or.inr rfl)) (by exact gd_cons (by exact gd_name (i := 6) (us := [5, 6]) sc.nd rfl (by first | exact Or.inl rfl | exact Or.inr rfl)) gd_nil))) (by exact sd_one (by exact sd_set (i := 4) sc.nd rfl (by first | exact Or.inl rfl | exact Or.inr rfl) (by exact pd_opN rb_mul (by decide) (by decide) T.n_mul io_mulB c___mul__ c___rmul__ (hr.mono (by decide)) (hr.mono (by decide)) tk (by exact pd_name 4) (by exact pd_cal c_raised (hr.mono (by decide)) tk (by exact ad_cons (by exact pd_name 5) (by exact ad_cons (by exact pd_name 6) (by exact ad_cons pd_int ad_nil)))))))) (by exact sd_one (by exact sd_set (i := 2) sc.nd rfl (by first | exact Or.inl rfl | exact Or.inr rfl) (by exact pd_opN rb_add (by decide) (by decide) T.n_add io_add c___add__ c___radd__ (hr.mono (by decide)) (hr.mono (by decide)) tk (by exact pd_name 2) (by exact pd_name 4))))))) (by exact sd_one (by exact sd_ret (by exact pd_cal c_plain (hr.mono (by decide)) tk (by exact ad_cons (by exact pd_name 2) ad_nil))))))) : PSs (cxOf (L2.CX prog w) prog w K mg base ["self", "numbers", "found", "powers", "value", "number", "power"] "Poly.at" (defScope s_Poly_at) f cdv A outer s H e) (defBody s_Poly_at) (tS (pm K C C1 E0 TT) ⟨F0, none⟩ H (WE0 e) _))
  exact h
abbrev s__law_is_int : Stmt := top 38
theorem sc__law_is_int : FnScope ["_law_thing"] ["_law_thing"] (defScope s__law_is_int) := ⟨rfl, rfl, rfl, by decide +kernel, rfl, by decide +kernel, by decide +kernel⟩
theorem b__law_is_int (T : Txt prog K mg base C C1 E0 fE TT) (f : Addr) (cdv : Value) (A : Around) (outer : List PySem.Env) (s : Shared) (H : Hp) (F0 : Hp) (e : XK) (hr : Room 0 (A.deeper (PyProof.Rows.envOfC "_law_is_int" (defScope s__law_is_int) s.heap.objs.size f cdv))) :
    PSs (cxOf (L2.CX prog w) prog w K mg base ["_law_thing"] "_law_is_int" (defScope s__law_is_int) f cdv A outer s H e) (defBody s__law_is_int) (tS (pm K C C1 E0 TT) ⟨F0, none⟩ H (WE0 e) g__law_is_int) := by
  have sc := sc__law_is_int
  have tk : Takes (cxOf (L2.CX prog w) prog w K mg base ["_law_thing"] "_law_is_int" (defScope s__law_is_int) f cdv A outer s H e) (WE0 e) := takes_of rfl rfl rfl rfl
  have h := ((by exact sd_one (by exact sd_ret (by exact pd_and (by exact pd_isi T.isi T.kit_int (.ty "int") (pe_bltn rfl T.b_int (by decide +kernel) rfl) (by exact pd_peek 0) rfl T.b_isinstance) (by exact pd_one (by exact pd_not (by exact pd_isi T.isi T.kit_bool (.ty "bool") (pe_bltn rfl T.b_bool (by decide +kernel) rfl) (by exact pd_peek 0) rfl T.b_isinstance)))))) : PSs (cxOf (L2.CX prog w) prog w K mg base ["_law_thing"] "_law_is_int" (defScope s__law_is_int) f cdv A outer s H e) (defBody s__law_is_int) (tS (pm K C C1 E0 TT) ⟨F0, none⟩ H (WE0 e) _))
  exact h
abbrev s__law_is_plain : Stmt := top 39
theorem sc__law_is_plain : FnScope ["_law_thing", "_law_due", "_law_top", "_law_bottom"] ["_law_thing", "_law_due"] (defScope s__law_is_plain) := ⟨rfl, rfl, rfl, by decide +kernel, rfl, by decide +kernel, by decide +kernel⟩
theorem b__law_is_plain (T : Txt prog K mg base C C1 E0 fE TT) (c__law_low : CalD prog w K mg base (pm K C C1 E0 TT) 2 "_law_low" 1 G__law_low) (c__law_is_int : CalD prog w K mg base (pm K C C1 E0 TT) 1 "_law_is_int" 1 G__law_is_int) (f : Addr) (cdv : Value) (A : Around) (outer : List PySem.Env) (s : Shared) (H : Hp) (F0 : Hp) (e : XK) (hr : Room 2 (A.deeper (PyProof.Rows.envOfC "_law_is_plain" (defScope s__law_is_plain) s.heap.objs.size f cdv))) :
    PSs (cxOf (L2.CX prog w) prog w K mg base ["_law_thing", "_law_due", "_law_top", "_law_bottom"] "_law_is_plain" (defScope s__law_is_plain) f cdv A outer s H e) (defBody s__law_is_plain) (tS (pm K C C1 E0 TT) ⟨F0, none⟩ H (WE0 e) g__law_is_plain) := by
  have sc := sc__law_is_plain
  have tk : Takes (cxOf (L2.CX prog w) prog w K mg base ["_law_thing", "_law_due", "_law_top", "_law_bottom"] "_law_is_plain" (defScope s__law_is_plain) f cdv A outer s H e) (WE0 e) := takes_of rfl rfl rfl rfl
  have h := ((sd_cons (by exact sd_asg (by exact pd_cal c__law_low (hr.mono (by decide)) tk (by exact ad_cons (by exact pd_name 1) ad_nil)) (by exact gd_tup (n := 2) rfl (by exact gd_cons (by exact gd_name (i := 2) (us := [2, 3]) sc.nd rfl (by first | exact Or.inl rfl | exact Or.inr rfl)) (by exact gd_cons (by exact gd_name (i := 3) (us := [2, 3]) sc.nd rfl (by first | exact Or.inl rfl | exact Or.inr rfl)) gd_nil)))) (sd_cons (by exact sd_if (by exact td_pc (by exact pd_pc (od_of (io_eq hr.units)) (by exact pd_peek 3) (by exact toV pd_int)) (nomark _)) (by exact sd_one (by exact sd_ret (by exact pd_and (by exact pd_cal c__law_is_int (hr.mono (by decide)) tk (by exact ad_cons (by exact pd_name 0) ad_nil)) (by exact pd_one (by exact pd_pcv (by exact pd_pc (od_of (io_eq hr.units)) (by exact pd_peek 0) (by exact pd_peek 2)) (nomark _)))))) sd_nil) (by exact sd_one (by exact sd_ret (by exact pd_and (by exact pd_isi T.isi T.kit_Ratio (.own _) (pe_glob rfl T.g_Ratio rfl) (by exact pd_peek 0) rfl T.b_isinstance) (by exact pd_and (by exact pd_pcv (by exact pd_pc (od_of (io_eq hr.units)) (by exact toV (by exact pd_fld (by exact pd_peek 0) T.f_top)) (by exact pd_peek 2)) (nomark _)) (by exact pd_one (by exact pd_pcv (by exact pd_pc (od_of (io_eq hr.units)) (by exact toV (by exact pd_fld (by exact pd_peek 0) T.f_bottom)) (by exact pd_peek 3)) (nomark _))))))))) : PSs (cxOf (L2.CX prog w) prog w K mg base ["_law_thing", "_law_due", "_law_top", "_law_bottom"] "_law_is_plain" (defScope s__law_is_plain) f cdv A outer s H e) (defBody s__law_is_plain) (tS (pm K C C1 E0 TT) ⟨F0, none⟩ H (WE0 e) _))
  exact h
abbrev s_parts_beside : Stmt := top 29
theorem sc_parts_beside : FnScope ["poly", "thing"] ["poly", "thing"] (defScope s_parts_beside) := ⟨rfl, rfl, rfl, by decide +kernel, rfl, by decide +kernel, by decide +kernel⟩
theorem b_parts_beside (T : Txt prog K mg base C C1 E0 fE TT) (f : Addr) (cdv : Value) (A : Around) (outer : List PySem.Env) (s : Shared) (H : Hp) (F0 : Hp) (e : XK) (hr : Room 0 (A.deeper (PyProof.Rows.envOfC "parts_beside" (defScope s_parts_beside) s.heap.objs.size f cdv))) :
    PSs (cxOf (L2.CX prog w) prog w K mg base ["poly", "thing"] "parts_beside" (defScope s_parts_beside) f cdv A outer s H e) (defBody s_parts_beside) (tS (pm K C C1 E0 TT) ⟨F0, none⟩ H (WE0 e) g_parts_beside) := by
  have sc := sc_parts_beside
  have tk : Takes (cxOf (L2.CX prog w) prog w K mg base ["poly", "thing"] "parts_beside" (defScope s_parts_beside) f cdv A outer s H e) (WE0 e) := takes_of rfl rfl rfl rfl
  have h := ((sd_cons (by exact sd_if (by exact td_not (by exact td_val (by exact pd_isi T.isi T.kit_Poly (.own _) (pe_glob rfl T.g_Poly rfl) (by exact pd_peek 1) rfl T.b_isinstance))) (by exact sd_one sd_never) sd_nil) (sd_cons (by exact sd_if (by exact td_pc (by exact pd_pc (od_of (io_ne hr.units)) (by exact toV (by exact pd_fld (by exact pd_peek 1) T.f_fields)) (by exact toV (by exact pd_fld (by exact pd_peek 0) T.f_fields))) (nomark _)) (by exact sd_one sd_never) sd_nil) (by exact sd_one (by exact sd_ret (by exact pd_fld (by exact pd_peek 1) T.f_parts))))) : PSs (cxOf (L2.CX prog w) prog w K mg base ["poly", "thing"] "parts_beside" (defScope s_parts_beside) f cdv A outer s H e) (defBody s_parts_beside) (tS (pm K C C1 E0 TT) ⟨F0, none⟩ H (WE0 e) _))
  exact h
abbrev s_multiplied : Stmt := top 24
theorem sc_multiplied : FnScope ["one", "other", "found", "first", "second", "powers", "here", "there"] ["one", "other"] (defScope s_multiplied) := ⟨rfl, rfl, rfl, by decide +kernel, rfl, by decide +kernel, by decide +kernel⟩
theorem b_multiplied (T : Txt prog K mg base C C1 E0 fE TT) (c___mul__ : OwnD prog w K mg base (pm K C C1 E0 TT) 4 "__mul__" 0 2 G_Ratio___mul__) (c___rmul__ : OwnD prog w K mg base (pm K C C1 E0 TT) 5 "__rmul__" 0 2 G_Ratio___rmul__) (c___add__ : OwnD prog w K mg base (pm K C C1 E0 TT) 4 "__add__" 0 2 G_Ratio___add__) (c___radd__ : OwnD prog w K mg base (pm K C C1 E0 TT) 5 "__radd__" 0 2 G_Ratio___radd__) (f : Addr) (cdv : Value) (A : Around) (outer : List PySem.Env) (s : Shared) (H : Hp) (F0 : Hp) (e : XK) (hr : Room 5 (A.deeper (PyProof.Rows.envOfC "multiplied" (defScope s_multiplied) s.heap.objs.size f cdv))) :
    PSs (cxOf (L2.CX prog w) prog w K mg base ["one", "other", "found", "first", "second", "powers", "here", "there"] "multiplied" (defScope s_multiplied) f cdv A outer s H e) (defBody s_multiplied) (tS (pm K C C1 E0 TT) ⟨F0, none⟩ H (WE0 e) g_multiplied) := by
  have sc := sc_multiplied
  have tk : Takes (cxOf (L2.CX prog w) prog w K mg base ["one", "other", "found", "first", "second", "powers", "here", "there"] "multiplied" (defScope s_multiplied) f cdv A outer s H e) (WE0 e) := takes_of rfl rfl rfl rfl
  have h := ((sd_cons (by exact sd_setN (i := 2) sc.nd rfl (by first | exact Or.inl rfl | exact Or.inr rfl) nd_dnT) (sd_cons (by exact sd_for (passes_of rfl) rfl (by exact id_keys (by exact pd_name 0)) (by exact gd_name (i := 3) (us := [3]) sc.nd rfl (by first | exact Or.inl rfl | exact Or.inr rfl)) (by exact sd_one (by exact sd_for (passes_of rfl) rfl (by exact id_keys (by exact pd_name 1)) (by exact gd_name (i := 4) (us := [4]) sc.nd rfl (by first | exact Or.inl rfl | exact Or.inr rfl)) (sd_cons (by exact sd_set (i := 5) sc.nd rfl (by first | exact Or.inl rfl | exact Or.inr rfl) (by exact pd_callTy ic_tup rfl T.b_tuple (by decide +kernel) (by exact av_cons (by exact toV (by exact n2e (by exact nd_lc (own := [("here", 6), ("there", 7)]) (us := [6, 7]) rfl sc.nd (by exact id_zipA rfl T.b_zip (by exact ad_cons (by exact pd_name 3) (by exact ad_cons (by exact pd_name 4) ad_nil))) (by show BlkOk ["one", "other", "found", "first", "second", "powers", "here", "there"] (defScope s_multiplied) _ [("here", 6), ("there", 7)]; exact ⟨rfl, by decide +kernel, by decide +kernel, by decide +kernel, by decide +kernel⟩) rfl (fun _ _ _ _ _ => (by exact gd_tup (n := 2) rfl (by exact gd_cons (by exact gd_name (i := 6) (us := [6, 7]) sc.nd rfl (by first | exact Or.inl rfl | exact Or.inr rfl)) (by exact gd_cons (by exact gd_name (i := 7) (us := [6, 7]) sc.nd rfl (by first | exact Or.inl rfl | exact Or.inr rfl)) gd_nil)))) (fun _ _ _ _ _ => td_yes) (fun _ _ _ _ _ => (by exact pd_op (od_of io_addA) (by exact pd_peek 6) (by exact pd_peek 7)))))) av_nil))) (by exact sd_one (by exact sd_dput 2 (un1 hr) (by exact pd_name 5) (by exact pd_opN rb_add (by decide) (by decide) T.n_add io_add c___add__ c___radd__ (hr.mono (by decide)) (hr.mono (by decide)) tk (by exact pd_dgetO (un1 hr) (by exact pd_peek 2) (by exact pd_name 5) pd_int) (by exact pd_opN rb_mul (by decide) (by decide) T.n_mul io_mulB c___mul__ c___rmul__ (hr.mono (by decide)) (hr.mono (by decide)) tk (by exact pd_dget (un1 hr) (by exact pd_peek 0) (by exact pd_name 3) (fun _ _ => rfl)) (by exact pd_dget (un1 hr) (by exact pd_peek 1) (by exact pd_name 4) (fun _ _ => rfl)))))))))) (by exact sd_one (by exact sd_frz1 2 (by exact sd_ret (by exact pd_name 2)))))) : PSs (cxOf (L2.CX prog w) prog w K mg base ["one", "other", "found", "first", "second", "powers", "here", "there"] "multiplied" (defScope s_multiplied) f cdv A outer s H e) (defBody s_multiplied) (tS (pm K C C1 E0 TT) ⟨F0, none⟩ H (WE0 e) _))
  exact h
abbrev s_Poly___mul__ : Stmt := inClass (top 30) 6
theorem sc_Poly___mul__ : FnScope ["self", "other"] ["self", "other"] (defScope s_Poly___mul__) := ⟨rfl, rfl, rfl, by decide +kernel, rfl, by decide +kernel, by decide +kernel⟩
theorem b_Poly___mul__ (T : Txt prog K mg base C C1 E0 fE TT) (c_parts_beside : CalD prog w K mg base (pm K C C1 E0 TT) 1 "parts_beside" 2 G_parts_beside) (c_multiplied : CalD prog w K mg base (pm K C C1 E0 TT) 6 "multiplied" 2 G_multiplied) (c_Poly : MkD prog w K mg base (pm K C C1 E0 TT) 6 "Poly" 1 2 G_Poly___init__) (f : Addr) (cdv : Value) (A : Around) (outer : List PySem.Env) (s : Shared) (H : Hp) (F0 : Hp) (e : XK) (hr : Room 7 (A.deeper (PyProof.Rows.envOfC "Poly.__mul__" (defScope s_Poly___mul__) s.heap.objs.size f cdv))) :
    PSs (cxOf (L2.CX prog w) prog w K mg base ["self", "other"] "Poly.__mul__" (defScope s_Poly___mul__) f cdv A outer s H e) (defBody s_Poly___mul__) (tS (pm K C C1 E0 TT) ⟨F0, none⟩ H (WE0 e) g_Poly___mul__) := by
  have sc := sc_Poly___mul__
  have tk : Takes (cxOf (L2.CX prog w) prog w K mg base ["self", "other"] "Poly.__mul__" (defScope s_Poly___mul__) f cdv A outer s H e) (WE0 e) := takes_of rfl rfl rfl rfl
  have h := ((by exact sd_one (by exact sd_ret (by exact pd_mk c_Poly (hr.mono (by decide)) tk (by exact ad_cons (by exact pd_fld (by exact pd_peek 0) T.f_fields) (by exact ad_cons (by exact pd_cal c_multiplied (hr.mono (by decide)) tk (by exact ad_cons (by exact pd_fld (by exact pd_peek 0) T.f_parts) (by exact ad_cons (by exact pd_cal c_parts_beside (hr.mono (by decide)) tk (by exact ad_cons (by exact pd_name 0) (by exact ad_cons (by exact pd_name 1) ad_nil))) ad_nil))) ad_nil))))) : PSs (cxOf (L2.CX prog w) prog w K mg base ["self", "other"] "Poly.__mul__" (defScope s_Poly___mul__) f cdv A outer s H e) (defBody s_Poly___mul__) (tS (pm K C C1 E0 TT) ⟨F0, none⟩ H (WE0 e) _))
  exact h
abbrev s__law_kept : Stmt := top 43
theorem sc__law_kept : FnScope ["_law_terms_here", "_law_powers"] ["_law_terms_here"] (defScope s__law_kept) := ⟨rfl, rfl, rfl, by decide +kernel, rfl, by decide +kernel, by decide +kernel⟩
theorem b__law_kept (T : Txt prog K mg base C C1 E0 fE TT) (f : Addr) (cdv : Value) (A : Around) (outer : List PySem.Env) (s : Shared) (H : Hp) (F0 : Hp) (e : XK) (hr : Room 0 (A.deeper (PyProof.Rows.envOfC "_law_kept" (defScope s__law_kept) s.heap.objs.size f cdv))) :
    PSs (cxOf (L2.CX prog w) prog w K mg base ["_law_terms_here", "_law_powers"] "_law_kept" (defScope s__law_kept) f cdv A outer s H e) (defBody s__law_kept) (tS (pm K C C1 E0 TT) ⟨F0, none⟩ H (WE0 e) g__law_kept) := by
  have sc := sc__law_kept
  have tk : Takes (cxOf (L2.CX prog w) prog w K mg base ["_law_terms_here", "_law_powers"] "_law_kept" (defScope s__law_kept) f cdv A outer s H e) (WE0 e) := takes_of rfl rfl rfl rfl
  have h := ((by exact sd_one (by exact sd_ret (by exact n2e (by exact nd_dictT rfl (un8 hr) T.b_dict (by exact toV (by exact n2e (by exact nd_lc (own := [("_law_powers", 1)]) (us := [1]) rfl sc.nd (by exact id_keys (by exact pd_name 0)) (by show BlkOk ["_law_terms_here", "_law_powers"] (defScope s__law_kept) _ [("_law_powers", 1)]; exact ⟨rfl, by decide +kernel, by decide +kernel, by decide +kernel, by decide +kernel⟩) rfl (fun _ _ _ _ _ => (by exact gd_name (i := 1) (us := [1]) sc.nd rfl (by first | exact Or.inl rfl | exact Or.inr rfl))) (fun _ _ _ _ _ => (by exact pts_one (by exact td_pc (by exact pd_pc (od_of (io_ne hr.units)) (by exact toV (by exact pd_ix (by exact toV (by exact pd_dget (un1 hr) (by exact pd_peek 0) (by exact pd_name 1) (fun _ _ => rfl))) (by exact toV pd_int) (fun _ _ => rfl))) (by exact toV pd_int)) (nomark _)))) (fun _ _ _ _ _ => (by exact pd_tup (by exact ad_cons (by exact pd_name 1) (by exact ad_cons (by exact pd_dget (un1 hr) (by exact pd_peek 0) (by exact pd_name 1) (fun _ _ => rfl)) ad_nil))))))))))) : PSs (cxOf (L2.CX prog w) prog w K mg base ["_law_terms_here", "_law_powers"] "_law_kept" (defScope s__law_kept) f cdv A outer s H e) (defBody s__law_kept) (tS (pm K C C1 E0 TT) ⟨F0, none⟩ H (WE0 e) _))
  exact h
abbrev s_Poly_power : Stmt := inClass (top 30) 11
theorem sc_Poly_power : FnScope ["self", "k", "powers"] ["self", "k"] (defScope s_Poly_power) := ⟨rfl, rfl, rfl, by decide +kernel, rfl, by decide +kernel, by decide +kernel⟩
theorem b_Poly_power (T : Txt prog K mg base C C1 E0 fE TT) (f : Addr) (cdv : Value) (A : Around) (outer : List PySem.Env) (s : Shared) (H : Hp) (F0 : Hp) (e : XK) (hr : Room 1 (A.deeper (PyProof.Rows.envOfC "Poly.power" (defScope s_Poly_power) s.heap.objs.size f cdv))) :
    PSs (cxOf (L2.CX prog w) prog w K mg base ["self", "k", "powers"] "Poly.power" (defScope s_Poly_power) f cdv A outer s H e) (defBody s_Poly_power) (tS (pm K C C1 E0 TT) ⟨F0, none⟩ H (WE0 e) g_Poly_power) := by
  have sc := sc_Poly_power
  have tk : Takes (cxOf (L2.CX prog w) prog w K mg base ["self", "k", "powers"] "Poly.power" (defScope s_Poly_power) f cdv A outer s H e) (WE0 e) := takes_of rfl rfl rfl rfl
  have h := ((sd_cons (by exact sd_if (by exact td_not (by exact td_chain io_le io_lt pd_int (by exact pd_name 1) (by exact pd_callB ic_len rfl T.b_len (by decide +kernel) (by exact av_cons (by exact toV (by exact pd_fld (by exact pd_peek 0) T.f_fields)) av_nil)))) (by exact sd_one (by exact sd_raise (cn := 0) (k := 1) rfl tk T.e_WrongCount rfl rfl T.fo_WrongCount (hr.mono (by decide)) (by exact pd_name 1) rfl (by decide))) sd_nil) (by exact sd_one (by exact sd_ret (by exact pd_callB (ic_max rfl) rfl T.b_max (by decide +kernel) (by exact av_cons (by exact toV (by exact pd_op (od_of io_addA) (by exact toV (by exact pd_lst (by exact ad_cons pd_int ad_nil))) (by exact toV (by exact n2e (by exact nd_lc (own := [("powers", 2)]) (us := [2]) rfl sc.nd (by exact id_keys (by exact pd_fld (by exact pd_peek 0) T.f_parts)) (by show BlkOk ["self", "k", "powers"] (defScope s_Poly_power) _ [("powers", 2)]; exact ⟨rfl, by decide +kernel, by decide +kernel, by decide +kernel, by decide +kernel⟩) rfl (fun _ _ _ _ _ => (by exact gd_name (i := 2) (us := [2]) sc.nd rfl (by first | exact Or.inl rfl | exact Or.inr rfl))) (fun _ _ _ _ _ => td_yes) (fun _ _ _ _ _ => (by exact pd_callTy ic_int2 rfl T.b_int (by decide +kernel) (by exact av_cons (by exact toV (by exact pd_ix (by exact pd_peek 2) (by exact pd_peek 1) (fun _ _ => rfl))) av_nil)))))))) av_nil))))) : PSs (cxOf (L2.CX prog w) prog w K mg base ["self", "k", "powers"] "Poly.power" (defScope s_Poly_power) f cdv A outer s H e) (defBody s_Poly_power) (tS (pm K C C1 E0 TT) ⟨F0, none⟩ H (WE0 e) _))
  exact h
abbrev s_law : Stmt := top 48
theorem sc_law : FnScope ["_law_script", "_law_row_here", "_law_fields_here", "_law_one", "_law_two", "_law_p", "_law_q", "_law_pairs", "_law_numbers", "_law_pair", "_law_first", "_law_second", "_law_k", "_law_due", "_law_powers", "_law_many", "_law_counts"] ["_law_script"] (defScope s_law) := ⟨rfl, rfl, rfl, by decide +kernel, rfl, by decide +kernel, by decide +kernel⟩
theorem b_law (T : Txt prog K mg base C C1 E0 fE TT) (c__law_cell : CalD prog w K mg base (pm K C C1 E0 TT) 1 "_law_cell" 2 G__law_cell) (c__law_row : CalD prog w K mg base (pm K C C1 E0 TT) 1 "_law_row" 2 G__law_row) (c__law_fields : CalD prog w K mg base (pm K C C1 E0 TT) 1 "_law_fields" 1 G__law_fields) (c__law_terms : CalD prog w K mg base (pm K C C1 E0 TT) 3 "_law_terms" 2 G__law_terms) (c__law_handed : CalD prog w K mg base (pm K C C1 E0 TT) 5 "_law_handed" 2 G__law_handed) (c_Poly : MkD prog w K mg base (pm K C C1 E0 TT) 6 "Poly" 1 2 G_Poly___init__) (c__law_made : CalD prog w K mg base (pm K C C1 E0 TT) 4 "_law_made" 2 G__law_made) (c__law_value_of : CalD prog w K mg base (pm K C C1 E0 TT) 5 "_law_value_of" 2 G__law_value_of) (m_Poly_at : MetD prog w K mg base (pm K C C1 E0 TT) 7 "at" 1 2 G_Poly_at) (c__law_is_plain : CalD prog w K mg base (pm K C C1 E0 TT) 3 "_law_is_plain" 2 G__law_is_plain) (c__law_times : CalD prog w K mg base (pm K C C1 E0 TT) 3 "_law_times" 2 G__law_times) (c_Poly___mul__ : OwnD prog w K mg base (pm K C C1 E0 TT) 8 "__mul__" 1 2 G_Poly___mul__) (c__law_kept : CalD prog w K mg base (pm K C C1 E0 TT) 1 "_law_kept" 1 G__law_kept) (m_Poly_power : MetD prog w K mg base (pm K C C1 E0 TT) 2 "power" 1 2 G_Poly_power) (c__law_is_int : CalD prog w K mg base (pm K C C1 E0 TT) 1 "_law_is_int" 1 G__law_is_int) (cA tA : Addr) (TA : TabAt (pm K C C1 E0 TT) base mg cA tA ("law" ++ ".<locals>." ++ "<lambda>")) (f : Addr)  (A : Around) (outer : List PySem.Env) (s : Shared) (H : Hp) (F0 : Hp) (e : XK) (hr : Room 9 (A.deeper (PyProof.Rows.envOfC "law" (defScope s_law) s.heap.objs.size f (.ref cA)))) :
    PSs (cxOf (L2.CX prog w) prog w K mg base ["_law_script", "_law_row_here", "_law_fields_here", "_law_one", "_law_two", "_law_p", "_law_q", "_law_pairs", "_law_numbers", "_law_pair", "_law_first", "_law_second", "_law_k", "_law_due", "_law_powers", "_law_many", "_law_counts"] "law" (defScope s_law) f (.ref cA) A outer s H e) (defBody s_law) (tS (pm K C C1 E0 TT) ⟨F0, none⟩ H (WE0 e) g_law) := by
  have sc := sc_law
  have tk : Takes (cxOf (L2.CX prog w) prog w K mg base ["_law_script", "_law_row_here", "_law_fields_here", "_law_one", "_law_two", "_law_p", "_law_q", "_law_pairs", "_law_numbers", "_law_pair", "_law_first", "_law_second", "_law_k", "_law_due", "_law_powers", "_law_many", "_law_counts"] "law" (defScope s_law) f (.ref cA) A outer s H e) (WE0 e) := takes_of rfl rfl rfl rfl
  have h := ((sd_cons (by exact sd_set (i := 1) sc.nd rfl (by first | exact Or.inl rfl | exact Or.inr rfl) (by exact pd_cal c__law_row (hr.mono (by decide)) tk (by exact ad_cons (by exact pd_cal c__law_cell (hr.mono (by decide)) tk (by exact ad_cons (by exact pd_name 0) (by exact ad_cons pd_int ad_nil))) (by exact ad_cons (by exact pd_op (od_of io_addA) (by exact toV (by exact pd_lst (by exact ad_cons pd_int (by exact ad_cons pd_int (by exact ad_cons pd_int (by exact ad_cons pd_int (by exact ad_cons pd_int (by exact ad_cons pd_int (by exact ad_cons pd_int (by exact ad_cons pd_int (by exact ad_cons pd_int ad_nil))))))))))) (by exact toV (by exact pd_op (od_of io_rep) (by exact toV (by exact pd_lst (by exact ad_cons pd_int (by exact ad_cons pd_int (by exact ad_cons pd_int (by exact ad_cons pd_int ad_nil)))))) (by exact toV pd_int)))) ad_nil)))) (sd_cons (by exact sd_set (i := 2) sc.nd rfl (by first | exact Or.inl rfl | exact Or.inr rfl) (by exact pd_cal c__law_fields (hr.mono (by decide)) tk (by exact ad_cons (by exact pd_ix (by exact pd_peek 1) (by exact toV pd_int) (fun _ _ => rfl)) ad_nil))) (sd_cons (by exact sd_set (i := 3) sc.nd rfl (by first | exact Or.inl rfl | exact Or.inr rfl) (by exact pd_cal c__law_terms (hr.mono (by decide)) tk (by exact ad_cons (by exact pd_slc (by exact pd_peek 1) (by exact po_so pd_int) (by exact po_so (by exact pd_op (od_of io_addA) (by exact toV pd_int) (by exact toV (by exact pd_op (od_of io_mulB) (by exact toV pd_int) (by exact toV (by exact pd_ix (by exact pd_peek 1) (by exact toV pd_int) (fun _ _ => rfl)))))))) (by exact ad_cons (by exact pd_name 2) ad_nil)))) (sd_cons (by exact sd_set (i := 4) sc.nd rfl (by first | exact Or.inl rfl | exact Or.inr rfl) (by exact pd_cal c__law_terms (hr.mono (by decide)) tk (by exact ad_cons (by exact pd_slc (by exact pd_peek 1) (by exact po_so pd_int) (by exact po_so (by exact pd_op (od_of io_addA) (by exact toV pd_int) (by exact toV (by exact pd_op (od_of io_mulB) (by exact toV pd_int) (by exact toV (by exact pd_ix (by exact pd_peek 1) (by exact toV pd_int) (fun _ _ => rfl)))))))) (by exact ad_cons (by exact pd_name 2) ad_nil)))) (sd_cons (by exact sd_asg (by exact pd_tup (by exact ad_cons (by exact pd_mk c_Poly (hr.mono (by decide)) tk (by exact ad_cons (by exact pd_name 2) (by exact ad_cons (by exact pd_cal c__law_handed (hr.mono (by decide)) tk (by exact ad_cons (by exact pd_name 3) (by exact ad_cons pd_bl ad_nil))) ad_nil))) (by exact ad_cons (by exact pd_mk c_Poly (hr.mono (by decide)) tk (by exact ad_cons (by exact pd_name 2) (by exact ad_cons (by exact pd_cal c__law_handed (hr.mono (by decide)) tk (by exact ad_cons (by exact pd_name 4) (by exact ad_cons pd_bl ad_nil))) ad_nil))) ad_nil))) (by exact gd_tup (n := 2) rfl (by exact gd_cons (by exact gd_name (i := 5) (us := [5, 6]) sc.nd rfl (by first | exact Or.inl rfl | exact Or.inr rfl)) (by exact gd_cons (by exact gd_name (i := 6) (us := [5, 6]) sc.nd rfl (by first | exact Or.inl rfl | exact Or.inr rfl)) gd_nil)))) (sd_cons (by exact sd_setN (i := 7) sc.nd rfl (by first | exact Or.inl rfl | exact Or.inr rfl) (by exact nd_slcL (by exact toV (by exact pd_lst (by exact ad_cons (by exact pd_tup (by exact ad_cons (by exact pd_op (od_of io_sub) (by exact toV (by exact pd_ix (by exact pd_peek 1) (by exact toV pd_int) (fun _ _ => rfl))) (by exact toV pd_int)) (by exact ad_cons (by exact pd_op (od_of io_addA) (by exact toV pd_int) (by exact toV (by exact pd_ix (by exact pd_peek 1) (by exact toV pd_int) (fun _ _ => rfl)))) ad_nil))) (by exact ad_cons (by exact pd_tup (by exact ad_cons (by exact pd_op (od_of io_sub) (by exact toV (by exact pd_ix (by exact pd_peek 1) (by exact toV pd_int) (fun _ _ => rfl))) (by exact toV pd_int)) (by exact ad_cons (by exact pd_op (od_of io_addA) (by exact toV pd_int) (by exact toV (by exact pd_ix (by exact pd_peek 1) (by exact toV pd_int) (fun _ _ => rfl)))) ad_nil))) ad_nil)))) po_no (by exact po_so (by exact pd_callB ic_len rfl T.b_len (by decide +kernel) (by exact av_cons (by exact pd_peek 2) av_nil))))) (sd_cons (by exact sd_if (by exact PW.pt (by exact td_and (by exact td_pc (by exact pd_pc (od_of (io_ne hr.units)) (by exact pd_peek 7) (by exact toV (by exact pd_lst ad_nil))) (nomark _)) (by exact td_and1 (by exact td_pc (by exact pd_pc (od_of (io_eq hr.units)) (by exact toV (by exact pd_ix (by exact pd_peek 1) (by exact toV pd_int) (fun _ _ => rfl))) (by exact toV pd_int)) (nomark _))))) (by exact sd_one (by exact sd_lput 7 pd_int (by exact pd_tup (by exact ad_cons (by exact pd_op (od_of io_mod) (by exact toV (by exact pd_callTy ic_int2 rfl T.b_int (by decide +kernel) (by exact av_cons (by exact toV (by exact pd_cal c__law_cell (hr.mono (by decide)) tk (by exact ad_cons (by exact pd_name 0) (by exact ad_cons pd_int ad_nil)))) av_nil))) (by exact toV (by exact pd_op (od_of io_pow) (by exact toV pd_int) (by exact toV pd_int)))) (by exact ad_cons (by exact pd_op (od_of io_addA) (by exact toV pd_int) (by exact toV (by exact pd_ix (by exact pd_peek 1) (by exact toV pd_int) (fun _ _ => rfl)))) ad_nil))))) sd_nil) (sd_cons (by exact sd_frz1 7 (by exact sd_set (i := 8) sc.nd rfl (by first | exact Or.inl rfl | exact Or.inr rfl) (by exact n2e (by exact nd_lc (own := [("_law_pair", 9)]) (us := [9]) rfl sc.nd (by exact id_seq (by exact pd_name 7)) (by show BlkOk ["_law_script", "_law_row_here", "_law_fields_here", "_law_one", "_law_two", "_law_p", "_law_q", "_law_pairs", "_law_numbers", "_law_pair", "_law_first", "_law_second", "_law_k", "_law_due", "_law_powers", "_law_many", "_law_counts"] (defScope s_law) _ [("_law_pair", 9)]; exact ⟨rfl, by decide +kernel, by decide +kernel, by decide +kernel, by decide +kernel⟩) rfl (fun _ _ _ _ _ => (by exact gd_name (i := 9) (us := [9]) sc.nd rfl (by first | exact Or.inl rfl | exact Or.inr rfl))) (fun _ _ _ _ _ => td_yes) (fun _ _ _ _ _ => (by exact pd_cal c__law_made (hr.mono (by decide)) takes0 (by exact ad_cons (by exact pd_name 9) (by exact ad_cons (by exact pd_pcv (by exact pd_pc (od_of (io_eq hr.units)) (by exact toV (by exact pd_ix (by exact pd_peek 1) (by exact toV pd_int) (fun _ _ => rfl))) (by exact toV pd_int)) (nomark _)) ad_nil)))))))) (sd_cons (by exact sd_frz1 7 (by exact sd_par (i := 10) (j := 11) rfl sc.nd rfl rfl (by decide) rfl rfl (by exact ad_cons (by exact pd_cal c__law_value_of (hr.mono (by decide)) tk (by exact ad_cons (by exact pd_name 3) (by exact ad_cons (by exact pd_name 7) ad_nil))) (by exact ad_cons (by exact pd_cal c__law_value_of (hr.mono (by decide)) tk (by exact ad_cons (by exact pd_name 4) (by exact ad_cons (by exact pd_name 7) ad_nil))) ad_nil)) rfl)) (sd_cons (by exact sd_if (by exact PW.pt (by exact td_or (by exact td_not (by exact td_val (by exact pd_cal c__law_is_plain (hr.mono (by decide)) tk (by exact ad_cons (by exact pd_met m_Poly_at (hr.mono (by decide)) tk (by exact pd_name 5) (by exact ad_cons (by exact pd_name 8) ad_nil)) (by exact ad_cons (by exact pd_name 10) ad_nil))))) (by exact td_or1 (by exact td_not (by exact td_val (by exact pd_cal c__law_is_plain (hr.mono (by decide)) tk (by exact ad_cons (by exact pd_met m_Poly_at (hr.mono (by decide)) tk (by exact pd_name 6) (by exact ad_cons (by exact pd_callTy ic_tup rfl T.b_tuple (by decide +kernel) (by exact av_cons (by exact pd_peek 8) av_nil)) ad_nil)) (by exact ad_cons (by exact pd_name 11) ad_nil)))))))) (by exact sd_one (by exact sd_ret pd_bl)) sd_nil) (sd_cons (by exact sd_if (by exact td_not (by exact td_val (by exact pd_cal c__law_is_plain (hr.mono (by decide)) tk (by exact ad_cons (by exact pd_met m_Poly_at (hr.mono (by decide)) tk (by exact pd_opO (cn := 1) (by decide) T.sf_Poly c_Poly___mul__ (hr.mono (by decide)) tk (by exact pd_name 5) (by exact pd_name 6)) (by exact ad_cons (by exact pd_name 8) ad_nil)) (by exact ad_cons (by exact pd_cal c__law_times (hr.mono (by decide)) tk (by exact ad_cons (by exact pd_name 10) (by exact ad_cons (by exact pd_name 11) ad_nil))) ad_nil))))) (by exact sd_one (by exact sd_ret pd_bl)) sd_nil) (sd_cons (by exact sd_for (passes_of rfl) rfl (by exact id_range1 rfl T.b_range (by exact ad_cons (by exact pd_callB ic_len rfl T.b_len (by decide +kernel) (by exact av_cons (by exact pd_peek 2) av_nil)) ad_nil)) (by exact gd_name (i := 12) (us := [12]) sc.nd rfl (by first | exact Or.inl rfl | exact Or.inr rfl)) (sd_cons (by exact sd_set (i := 13) sc.nd rfl (by first | exact Or.inl rfl | exact Or.inr rfl) (by exact pd_callB (ic_max rfl) rfl T.b_max (by decide +kernel) (by exact av_cons (by exact toV (by exact pd_op (od_of io_addA) (by exact toV (by exact pd_lst (by exact ad_cons pd_int ad_nil))) (by exact toV (by exact n2e (by exact nd_lc (own := [("_law_powers", 14)]) (us := [14]) rfl sc.nd (by exact id_keys (by exact pd_cal c__law_kept (hr.mono (by decide)) tk (by exact ad_cons (by exact pd_name 3) ad_nil))) (by show BlkOk ["_law_script", "_law_row_here", "_law_fields_here", "_law_one", "_law_two", "_law_p", "_law_q", "_law_pairs", "_law_numbers", "_law_pair", "_law_first", "_law_second", "_law_k", "_law_due", "_law_powers", "_law_many", "_law_counts"] (defScope s_law) _ [("_law_powers", 14)]; exact ⟨rfl, by decide +kernel, by decide +kernel, by decide +kernel, by decide +kernel⟩) rfl (fun _ _ _ _ _ => (by exact gd_name (i := 14) (us := [14]) sc.nd rfl (by first | exact Or.inl rfl | exact Or.inr rfl))) (fun _ _ _ _ _ => td_yes) (fun _ _ _ _ _ => (by exact pd_callTy ic_int2 rfl T.b_int (by decide +kernel) (by exact av_cons (by exact toV (by exact pd_ix (by exact pd_peek 14) (by exact pd_peek 12) (fun _ _ => rfl))) av_nil)))))))) av_nil))) (by exact sd_one (by exact sd_if (by exact PW.pt (by exact td_or (by exact td_not (by exact td_val (by exact pd_cal c__law_is_int (hr.mono (by decide)) tk (by exact ad_cons (by exact pd_met m_Poly_power (hr.mono (by decide)) tk (by exact pd_name 5) (by exact ad_cons (by exact pd_name 12) ad_nil)) ad_nil)))) (by exact td_or1 (by exact td_pc (by exact pd_pc (od_of (io_ne hr.units)) (by exact toV (by exact pd_met m_Poly_power (hr.mono (by decide)) tk (by exact pd_name 5) (by exact ad_cons (by exact pd_name 12) ad_nil))) (by exact pd_peek 13)) (nomark _))))) (by exact sd_one (by exact sd_ret pd_bl)) sd_nil)))) (sd_cons (by exact sd_set (i := 15) sc.nd rfl (by first | exact Or.inl rfl | exact Or.inr rfl) (by exact pd_callB ic_len rfl T.b_len (by decide +kernel) (by exact av_cons (by exact pd_peek 2) av_nil))) (sd_cons (by exact sd_setN (i := 16) sc.nd rfl (by first | exact Or.inl rfl | exact Or.inr rfl) (by exact nd_lst (by exact ad_cons (by exact pd_count (cz := 0) (k := 7) T.rc rfl rfl T.xc TA rfl (hr.mono (by decide)) (LamX.lamS_by (by show LamX.lamSB (defScope s_law) _ = true; decide +kernel)) rfl (fun _ _ _ _ _ => rfl) (fun _ _ _ _ _ _ _ hrl tkl => (by exact pd_met m_Poly_at (hrl.mono (by decide)) tkl (by exact pd_name 5) (by exact ad_cons (by exact pd_op (od_of io_addA) (by exact pd_peek 8) (by exact toV (by exact pd_lst (by exact ad_cons pd_int ad_nil)))) ad_nil)))) ad_nil))) (sd_cons (by exact sd_append 16 (by exact pd_count (cz := 0) (k := 2) T.rc rfl rfl T.xc TA rfl (hr.mono (by decide)) (LamX.lamS_by (by show LamX.lamSB (defScope s_law) _ = true; decide +kernel)) rfl (fun _ _ _ _ _ => rfl) (fun _ _ _ _ _ _ _ hrl tkl => (by exact pd_met m_Poly_power (hrl.mono (by decide)) tkl (by exact pd_name 5) (by exact ad_cons (by exact pd_name 15) ad_nil))))) (sd_cons (by exact sd_append 16 (by exact pd_count (cz := 0) (k := 2) T.rc rfl rfl T.xc TA rfl (hr.mono (by decide)) (LamX.lamS_by (by show LamX.lamSB (defScope s_law) _ = true; decide +kernel)) rfl (fun _ _ _ _ _ => rfl) (fun _ _ _ _ _ _ _ hrl tkl => (by exact pd_met m_Poly_power (hrl.mono (by decide)) tkl (by exact pd_name 5) (by exact ad_cons (by exact pd_un (ud_of io_neg) (by exact toV pd_int)) ad_nil))))) (sd_cons (by exact sd_if (by exact td_pc (by exact pd_pc (od_of (io_ne hr.units)) (by exact pd_peek 16) (by exact toV (by exact pd_lst (by exact ad_cons (by exact pd_op (od_of io_addA) (by exact pd_peek 15) (by exact toV pd_int)) (by exact ad_cons (by exact pd_name 15) (by exact ad_cons (by exact pd_un (ud_of io_neg) (by exact toV pd_int)) ad_nil)))))) (nomark _)) (by exact sd_one (by exact sd_ret pd_bl)) sd_nil) (by exact sd_one (by exact sd_ret (by exact pd_or (by exact pd_pcv (by exact pd_pc (od_of (io_eq hr.units)) (by exact pd_peek 15) (by exact toV pd_int)) (nomark _)) (by exact pd_one (by exact pd_pcv (by exact pd_pc (od_of (io_eq hr.units)) (by exact toV (by exact pd_count (cz := 0) (k := 7) T.rc rfl rfl T.xc TA rfl (hr.mono (by decide)) (LamX.lamS_by (by show LamX.lamSB (defScope s_law) _ = true; decide +kernel)) rfl (fun _ _ _ _ _ => rfl) (fun _ _ _ _ _ _ _ hrl tkl => (by exact pd_met m_Poly_at (hrl.mono (by decide)) tkl (by exact pd_name 5) (by exact ad_cons (by exact pd_slc (by exact pd_peek 8) po_no (by exact po_so (by exact pd_un (ud_of io_neg) (by exact toV pd_int)))) ad_nil))))) (by exact toV (by exact pd_op (od_of io_sub) (by exact pd_peek 15) (by exact toV pd_int)))) (nomark _))))))))))))))))))))))) : PSs (cxOf (L2.CX prog w) prog w K mg base ["_law_script", "_law_row_here", "_law_fields_here", "_law_one", "_law_two", "_law_p", "_law_q", "_law_pairs", "_law_numbers", "_law_pair", "_law_first", "_law_second", "_law_k", "_law_due", "_law_powers", "_law_many", "_law_counts"] "law" (defScope s_law) f (.ref cA) A outer s H e) (defBody s_law) (tS (pm K C C1 E0 TT) ⟨F0, none⟩ H (WE0 e) _))
  exact h
end
end DL.K42
namespace DL
open PySem L2
theorem seq_nx (ρ : Env) (g : Env → RS) : seqS (.nx ρ) g = g ρ := rfl
theorem seq_rt (d : D) (g : Env → RS) : seqS (.rt d) g = .rt d := rfl
theorem seq_err (c : Nat) (p : Option D) (ρ : Env) (g : Env → RS) : seqS (.err c p ρ) g = .err c p ρ := rfl
theorem bnd_ok {α : Type} (d : α) (ρ : Env) (k : α → RS) : bindS (.ok d) ρ k = k d := rfl
theorem bnd_err {α : Type} (c : Nat) (p : Option D) (ρ : Env) (k : α → RS) : bindS (Res.err c p : Res α) ρ k = .err c p ρ := rfl
theorem loop_nx (ρ : Env) (g : Env → RS) : loopK (.nx ρ) g = g ρ := rfl
theorem loop_rt (d : D) (g : Env → RS) : loopK (.rt d) g = .rt d := rfl
theorem for_nil (h : D → Env → Option Env) (g : Env → RS) (ρ : Env) : forD h g [] ρ = .nx ρ := rfl
theorem for_cons (h : D → Env → Option Env) (g : Env → RS) (d : D) (r : List D) (ρ : Env) : forD h g (d :: r) ρ = match h d ρ with | none => .bad | some ρ1 => loopK (g ρ1) (forD h g r) := rfl
theorem int_i (i : Int) : cInt2 [.int i] = some (.int i) := rfl
theorem mod_ok {i j : Int} (h : j ≠ 0) : modC i j = some (.int (i.fmod j)) := if_neg h
theorem fdiv_ok {i j : Int} (h : j ≠ 0) (h2 : j.natAbs.log2 < 9000) : fdivC i j = some (.int (i.fdiv j)) := if_pos ⟨h, h2⟩
theorem mul_ok {i j : Int} (h : i.natAbs.log2 + j.natAbs.log2 < 1000000) : mulC i j = some (.int (i * j)) := if_pos h
theorem log2_lt {n k : Nat} (h : n < 2 ^ k) (hk : 0 < k) : n.log2 < k := by
  by_cases h0 : n = 0
  · subst h0
    simpa using hk
  · exact (Nat.log2_lt h0).mpr h
/-- the greatest common divisor by rests -/
theorem gcd_loop (body : Env → RS) (hb : ∀ a b : Nat, b ≠ 0 → body [some (.sh (.int a)), some (.sh (.int b))] = .nx [some (.sh (.int b)), some (.sh (.int ((a % b : Nat) : Int)))]) :
    ∀ (n a b : Nat), b < n → whileD (tB' (fOp dGt (peek 1) (fK (.int 0)))) body n [some (.sh (.int a)), some (.sh (.int b))] = .nx [some (.sh (.int (Nat.gcd a b))), some (.sh (.int 0))]
  | 0, a, b, h => by omega
  | n + 1, a, b, h => by
    by_cases hz : b = 0
    · subst hz
      rw [Nat.gcd_zero_right]
      rfl
    · have hlt : a % b < b := Nat.mod_lt _ (by omega)
      have ih := gcd_loop body hb n b (a % b) (by omega)
      rw [Nat.gcd_comm b, ← Nat.gcd_rec, Nat.gcd_comm b] at ih
      have hd : decide ((0 : Int) < (b : Int)) = true := by simp; omega
      rw [← ih, whileD]
      simp only [tB', fOp, peek, fK, List.getElem?_cons_succ, List.getElem?_cons_zero, Res.bind_ok, dGt, int2, opt, bo, bnd_ok, hd, if_true, hb a b hz, loop_nx]
end DL
namespace DL
open PySem L2 PySem.PyData
theorem beq_s (x y : Str) : (x == y) = decide (x = y) := by
  by_cases h : x = y
  · subst h
    simp
  · rw [decide_eq_false h]
    exact beq_eq_false_iff_ne.mpr h
theorem beq_i (x y : Int) : (x == y) = decide (x = y) := by
  by_cases h : x = y
  · subst h
    simp
  · rw [decide_eq_false h]
    exact beq_eq_false_iff_ne.mpr h
theorem eq_ii (i j : Int) : eqD (.int i) (.int j) = some (.bl (decide (i = j))) := by
  simp [eqD, eqP, toPD, SeqAt.shaped, PyData.canLay0, PyData.depth, PyData.eqv, beq_i]
theorem ne_ii (i j : Int) : neD (.int i) (.int j) = some (.bl (!decide (i = j))) := by
  simp [neD, eqP, toPD, SeqAt.shaped, PyData.canLay0, PyData.depth, PyData.eqv, beq_i]
theorem eq_ss {x y : Str} (hx : strOk x = true) (hy : strOk y = true) : eqD (.str x) (.str y) = some (.bl (decide (x = y))) := by
  simp [eqD, eqP, toPD, SeqAt.shaped, PyData.canLay0, PyData.depth, PyData.eqv, hx, hy, beq_s]
theorem ne_ss {x y : Str} (hx : strOk x = true) (hy : strOk y = true) : neD (.str x) (.str y) = some (.bl (!decide (x = y))) := by
  simp [neD, eqP, toPD, SeqAt.shaped, PyData.canLay0, PyData.depth, PyData.eqv, hx, hy, beq_s]
theorem toPDs_str (xs : List Str) : toPDs (xs.map .str) = some (xs.map .str) := by
  induction xs with
  | nil => rfl
  | cons a r ih => simp [toPDs, toPD, ih]
theorem canLay_strs : ∀ (xs : List Str), (∀ x ∈ xs, strOk x = true) → PyData.canLayAll0 (xs.map .str) = true
  | [], _ => rfl
  | x :: r, h => by
    simp [PyData.canLayAll0, PyData.canLay0, h x List.mem_cons_self, canLay_strs r fun y hy => h y (List.mem_cons_of_mem _ hy)]
theorem depth_strs : ∀ (xs : List Str), PyData.depthAll (xs.map .str) ≤ 1
  | [] => by simp [PyData.depthAll]
  | x :: r => by
    have := depth_strs r
    simp [PyData.depthAll, PyData.depth]
    omega
theorem eqvAll_strs : ∀ (xs ys : List Str), PyData.eqvAll (xs.map .str) (ys.map .str) = decide (xs = ys)
  | [], [] => rfl
  | [], _ :: _ => rfl
  | _ :: _, [] => rfl
  | x :: r, y :: q => by
    simp [PyData.eqvAll, PyData.eqv, eqvAll_strs r q, beq_s]
theorem eqP_strs {xs ys : List Str} (hx : ∀ x ∈ xs, strOk x = true) (hy : ∀ x ∈ ys, strOk x = true) : eqP (.lst (xs.map .str)) (.lst (ys.map .str)) = some (decide (xs = ys)) := by
  have h1 := depth_strs xs
  have h2 := depth_strs ys
  simp only [eqP, toPD, toPDs_str, Option.map_some, Option.bind_some]
  have s1 : SeqAt.shaped (.list (xs.map .str)) = true := by
    simp [SeqAt.shaped, PyData.canLay0, PyData.depth, canLay_strs xs hx]
    omega
  have s2 : SeqAt.shaped (.list (ys.map .str)) = true := by
    simp [SeqAt.shaped, PyData.canLay0, PyData.depth, canLay_strs ys hy]
    omega
  rw [if_pos ⟨s1, s2⟩, PyData.eqv, eqvAll_strs]
end DL
namespace DL.K42
open PySem L2
theorem abs_e (a : Int) : (if a < 0 then -a else a) = ((a.natAbs : Nat) : Int) := by
  split <;> omega
theorem fmod_n (a b : Nat) : ((a : Int).fmod (b : Int)) = ((a % b : Nat) : Int) := by
  rw [Int.fmod_eq_emod_of_nonneg _ (Int.natCast_nonneg b)]
  exact (Int.natCast_emod a b).symm
theorem gcd_body : ∀ a b : Nat, b ≠ 0 → (sPar 0 1 (lCons (look 1) (lCons (fOp (int2 modC) (peek 0) (peek 1)) lNil))) [some (.sh (.int a)), some (.sh (.int b))] = .nx [some (.sh (.int b)), some (.sh (.int ((a % b : Nat) : Int)))] := by
  intro a b hb
  have e := mod_ok (i := (a : Int)) (j := (b : Int)) (by omega)
  rw [fmod_n] at e
  simp [fK, fOp, fU, fM, fIsN, fNotN, tB', tNot', tAnd', tOr', vAnd, vOr, vNot, fIf, lNil, lCons, fLst, fTup, fCall, fMk, fB, fSlc, oNo, oSo, fSplit, fLc, iSq, iR1, tYes', zF, zS, fF1, fF3, sSeq, sRet, sIf, sSet, sSetO, sFor, sApp, sPar, sAsg, sRaise, sFld, sFrz, sBad, sTryAs, fN, fRz, tIfx, sPar3, sRaiseB, iZip, iEnu, fMet, fMkd, fMkk, fDict, fSlcL, fSort, fRc, iZipA, iEnuA, iKs, sDrop, sDput, sLput, fDget, fChain, chainK, hLst, look, peek, bo, opt, mkL, mkT, small, fnG, mkG, int2, negC, seqD, hName, hCons, hNil, hTup, par2, appD, isOw, frz, setF, ptI, isiD, notScr, env0, env0I, selfF, runB, runI, cAbs, cLen, isNone, strD, payD, tryD, noErr, cLenS, itemS, dSub, dLt, dLe, dGt, dGe, notB, isO, zipD, zipL, par3, rzD, rcD, zipA, seqB, enuA, keysD, dgetR, dlookD, isOwD, cMax, cTup, Res.bind_ok, Res.bind_err, Res.bind_bad, seq_nx, seq_rt, seq_err, bnd_ok, bnd_err, loop_nx, loop_rt, for_nil, for_cons, int_i, e]
theorem gcd_run (a b : Int) (h : b.natAbs < big) : runB (sSeq (whileD (tB' (fOp dGt (peek 1) (fK (.int 0)))) (sPar 0 1 (lCons (look 1) (lCons (fOp (int2 modC) (peek 0) (peek 1)) lNil))) big) (sRet (look 0))) 2 [.int a.natAbs, .int b.natAbs] = .ok (.int (Nat.gcd a.natAbs b.natAbs)) := by
  have w := gcd_loop _ gcd_body big a.natAbs b.natAbs h
  show (match seqS (whileD _ _ big [some (.sh (.int a.natAbs)), some (.sh (.int b.natAbs))]) _ with
    | .rt d => Res.ok d
    | .nx _ => .ok .non
    | .err c p _ => .err c p
    | _ => .bad) = _
  rw [w]
  rfl
theorem gcd_eq (a b : Int) (h : b.natAbs < big) : G__law_gcd [.int a, .int b] = .ok (.int (Nat.gcd a.natAbs b.natAbs)) := by
  rw [← gcd_run a b h, ← abs_e a, ← abs_e b]
  rfl
theorem common_eq (a b : Int) (h : b.natAbs < big) : G_common [.int a, .int b] = .ok (.int (Nat.gcd a.natAbs b.natAbs)) := by
  rw [← gcd_run a b h, ← abs_e a, ← abs_e b]
  rfl
theorem lg {a : Int} {d : Nat} (hd : 0 < d) (h : d < big) : ((Nat.gcd a.natAbs d : Nat) : Int).natAbs.log2 < 9000 := by
  have hl := Nat.gcd_le_right a.natAbs hd
  exact log2_lt (by
    have : big < 2 ^ 9000 := by decide +kernel
    omega) (by decide)
theorem num_e (a : Int) {d : Nat} (hd : 0 < d) : a.fdiv (Nat.gcd a.natAbs d : Int) = (mkRat a d).num := by
  rw [Rat.num_mkRat, if_neg (by omega), Nat.gcd_comm, Int.fdiv_eq_ediv_of_nonneg _ (by omega)]
theorem den_e (a : Int) {d : Nat} (hd : 0 < d) : (d : Int).fdiv (Nat.gcd a.natAbs d : Int) = ((mkRat a d).den : Int) := by
  rw [Rat.den_mkRat, if_neg (by omega), Nat.gcd_comm, Int.fdiv_eq_ediv_of_nonneg _ (by omega), Int.natCast_ediv]
abbrev fr (q : Rat) : D := .tup [.int q.num, .int (q.den : Nat)]
abbrev rt (q : Rat) : D := .obj 0 [.int q.num, .int (q.den : Nat)]
theorem low_eq (a : Int) (d : Nat) (hd : 0 < d) (h : d < big) : G__law_low [.tup [.int a, .int (d : Nat)]] = .ok (fr (mkRat a d)) := by
  have hs := gcd_eq a d (by simpa using h)
  have hp : Nat.gcd a.natAbs d ≠ 0 := by
    have := Nat.gcd_pos_of_pos_right a.natAbs hd
    omega
  rw [Int.natAbs_natCast] at hs
  have hn : ¬ ((d : Nat) : Int) < 0 := by omega
  have d1 := fdiv_ok (i := a) (j := (Nat.gcd a.natAbs d : Int)) (by omega) (lg hd h)
  have d2 := fdiv_ok (i := (d : Int)) (j := (Nat.gcd a.natAbs d : Int)) (by omega) (lg hd h)
  rw [num_e a hd] at d1
  rw [den_e a hd] at d2
  unfold G__law_low g__law_low
  simp [fK, fOp, fU, fM, fIsN, fNotN, tB', tNot', tAnd', tOr', vAnd, vOr, vNot, fIf, lNil, lCons, fLst, fTup, fCall, fMk, fB, fSlc, oNo, oSo, fSplit, fLc, iSq, iR1, tYes', zF, zS, fF1, fF3, sSeq, sRet, sIf, sSet, sSetO, sFor, sApp, sPar, sAsg, sRaise, sFld, sFrz, sBad, sTryAs, fN, fRz, tIfx, sPar3, sRaiseB, iZip, iEnu, fMet, fMkd, fMkk, fDict, fSlcL, fSort, fRc, iZipA, iEnuA, iKs, sDrop, sDput, sLput, fDget, fChain, chainK, hLst, look, peek, bo, opt, mkL, mkT, small, fnG, mkG, int2, negC, seqD, hName, hCons, hNil, hTup, par2, appD, isOw, frz, setF, ptI, isiD, notScr, env0, env0I, selfF, runB, runI, cAbs, cLen, isNone, strD, payD, tryD, noErr, cLenS, itemS, dSub, dLt, dLe, dGt, dGe, notB, isO, zipD, zipL, par3, rzD, rcD, zipA, seqB, enuA, keysD, dgetR, dlookD, isOwD, cMax, cTup, Res.bind_ok, Res.bind_err, Res.bind_bad, seq_nx, seq_rt, seq_err, bnd_ok, bnd_err, loop_nx, loop_rt, for_nil, for_cons, int_i, hs, hn, d1, d2]
theorem init_eq (a : Int) (d : Nat) (hd : 0 < d) (h : d < big) : G_Ratio___init__ [.int a, .int (d : Nat)] = .ok [.int (mkRat a d).num, .int ((mkRat a d).den : Nat)] := by
  have hs := common_eq a d (by simpa using h)
  have hp : Nat.gcd a.natAbs d ≠ 0 := by
    have := Nat.gcd_pos_of_pos_right a.natAbs hd
    omega
  rw [Int.natAbs_natCast] at hs
  have h0 : eqD (.int (d : Nat)) (.int 0) = some (.bl false) := by
    rw [eq_ii, decide_eq_false (by omega)]
  have hn : ¬ ((d : Nat) : Int) < 0 := by omega
  have d1 := fdiv_ok (i := a) (j := (Nat.gcd a.natAbs d : Int)) (by omega) (lg hd h)
  have d2 := fdiv_ok (i := (d : Int)) (j := (Nat.gcd a.natAbs d : Int)) (by omega) (lg hd h)
  rw [num_e a hd] at d1
  rw [den_e a hd] at d2
  unfold G_Ratio___init__ g_Ratio___init__
  simp [fK, fOp, fU, fM, fIsN, fNotN, tB', tNot', tAnd', tOr', vAnd, vOr, vNot, fIf, lNil, lCons, fLst, fTup, fCall, fMk, fB, fSlc, oNo, oSo, fSplit, fLc, iSq, iR1, tYes', zF, zS, fF1, fF3, sSeq, sRet, sIf, sSet, sSetO, sFor, sApp, sPar, sAsg, sRaise, sFld, sFrz, sBad, sTryAs, fN, fRz, tIfx, sPar3, sRaiseB, iZip, iEnu, fMet, fMkd, fMkk, fDict, fSlcL, fSort, fRc, iZipA, iEnuA, iKs, sDrop, sDput, sLput, fDget, fChain, chainK, hLst, look, peek, bo, opt, mkL, mkT, small, fnG, mkG, int2, negC, seqD, hName, hCons, hNil, hTup, par2, appD, isOw, frz, setF, ptI, isiD, notScr, env0, env0I, selfF, runB, runI, cAbs, cLen, isNone, strD, payD, tryD, noErr, cLenS, itemS, dSub, dLt, dLe, dGt, dGe, notB, isO, zipD, zipL, par3, rzD, rcD, zipA, seqB, enuA, keysD, dgetR, dlookD, isOwD, cMax, cTup, Res.bind_ok, Res.bind_err, Res.bind_bad, seq_nx, seq_rt, seq_err, bnd_ok, bnd_err, loop_nx, loop_rt, for_nil, for_cons, int_i, hs, hn, d1, d2, h0, nmv]
/-! ### sizes -/
structure Sz (m k : Nat) (q : Rat) : Prop where
  n : q.num.natAbs < 2 ^ m
  d : q.den ∣ 60 ^ k
theorem mk_le (a : Int) {d : Nat} (hd : d ≠ 0) : (mkRat a d).num.natAbs ≤ a.natAbs ∧ (mkRat a d).den ∣ d := by
  constructor
  · rw [Rat.num_mkRat, if_neg hd]
    exact Int.natAbs_ediv_le_natAbs _ _
  · rw [Rat.den_mkRat, if_neg hd]
    exact Nat.div_dvd_of_dvd (Nat.gcd_dvd_left _ _)
theorem Sz.mono {m k m' k' : Nat} {q : Rat} (h : Sz m k q) (hm : m ≤ m') (hk : k ≤ k') : Sz m' k' q :=
  ⟨Nat.lt_of_lt_of_le h.n (Nat.pow_le_pow_right (by decide) hm), Nat.dvd_trans h.d (Nat.pow_dvd_pow 60 hk)⟩
theorem Sz.mul {m k m' k' : Nat} {p q : Rat} (h : Sz m k p) (h' : Sz m' k' q) : Sz (m + m') (k + k') (p * q) := by
  rw [Rat.mul_def']
  have hz : p.den * q.den ≠ 0 := Nat.mul_ne_zero p.den_nz q.den_nz
  obtain ⟨h1, h2⟩ := mk_le (p.num * q.num) hz
  refine ⟨?_, ?_⟩
  · rw [Int.natAbs_mul] at h1
    rw [Nat.pow_add]
    exact Nat.lt_of_le_of_lt h1 (Nat.mul_lt_mul'' h.n h'.n)
  · rw [Nat.pow_add]
    exact Nat.dvd_trans h2 (Nat.mul_dvd_mul h.d h'.d)
theorem p58 (k : Nat) : 60 ^ k ≤ 2 ^ (6 * k) := by
  rw [Nat.pow_mul]
  exact Nat.pow_le_pow_left (by decide) k
theorem Sz.den_le {m k : Nat} {q : Rat} (h : Sz m k q) : q.den ≤ 60 ^ k := Nat.le_of_dvd (Nat.pow_pos (by decide)) h.d
theorem add_den {k : Nat} {p q : Rat} (hp : p.den ∣ 60 ^ k) (hq : q.den ∣ 60 ^ k) : (p + q).den ∣ 60 ^ k := by
  obtain ⟨u, hu⟩ := hp
  obtain ⟨v, hv⟩ := hq
  have hN : 60 ^ k ≠ 0 := Nat.ne_of_gt (Nat.pow_pos (by decide))
  generalize 60 ^ k = N at *
  have hu0 : u ≠ 0 := fun z => hN (by rw [hu, z, Nat.mul_zero])
  have hv0 : v ≠ 0 := fun z => hN (by rw [hv, z, Nat.mul_zero])
  have e1 : p = mkRat (p.num * u) N := by
    rw [hu, Rat.mkRat_mul_right hu0, Rat.mkRat_self]
  have e2 : q = mkRat (q.num * v) N := by
    rw [hv, Rat.mkRat_mul_right hv0, Rat.mkRat_self]
  have e3 : p + q = mkRat (p.num * u + q.num * v) N := by
    rw [e1, e2, Rat.mkRat_add_mkRat _ _ hN hN, ← Int.add_mul, Rat.mkRat_mul_right hN, ← e1, ← e2]
  rw [e3]
  exact (mk_le _ hN).2
theorem Sz.add {m k m' k' : Nat} {p q : Rat} (h : Sz m k p) (h' : Sz m' k' q) : Sz (m + m' + 6 * (k + k') + 1) (k + k') (p + q) := by
  refine ⟨?_, add_den (Nat.dvd_trans h.d (Nat.pow_dvd_pow 60 (by omega))) (Nat.dvd_trans h'.d (Nat.pow_dvd_pow 60 (by omega)))⟩
  rw [Rat.add_def']
  have hz : p.den * q.den ≠ 0 := Nat.mul_ne_zero p.den_nz q.den_nz
  obtain ⟨h1, h2⟩ := mk_le (p.num * q.den + q.num * p.den) hz
  have e1 : (p.num * (q.den : Int) + q.num * (p.den : Int)).natAbs ≤ p.num.natAbs * q.den + q.num.natAbs * p.den := by
    have := Int.natAbs_add_le (p.num * (q.den : Int)) (q.num * (p.den : Int))
    rw [Int.natAbs_mul, Int.natAbs_mul, Int.natAbs_natCast, Int.natAbs_natCast] at this
    exact this
  have b1 : p.num.natAbs * q.den < 2 ^ (m + m' + 6 * (k + k')) := by
    have : p.num.natAbs * q.den < 2 ^ m * 2 ^ (6 * k') := Nat.mul_lt_mul_of_lt_of_le h.n (Nat.le_trans h'.den_le (p58 k')) (Nat.pow_pos (by decide))
    rw [← Nat.pow_add] at this
    exact Nat.lt_of_lt_of_le this (Nat.pow_le_pow_right (by decide) (by omega))
  have b2 : q.num.natAbs * p.den < 2 ^ (m + m' + 6 * (k + k')) := by
    have : q.num.natAbs * p.den < 2 ^ m' * 2 ^ (6 * k) := Nat.mul_lt_mul_of_lt_of_le h'.n (Nat.le_trans h.den_le (p58 k)) (Nat.pow_pos (by decide))
    rw [← Nat.pow_add] at this
    exact Nat.lt_of_lt_of_le this (Nat.pow_le_pow_right (by decide) (by omega))
  rw [Nat.pow_succ]
  omega
theorem Sz.addM {m k m' : Nat} {p q : Rat} (h : Sz m k p) (h' : Sz m' k q) : Sz (m + m' + 6 * (k + k) + 1) k (p + q) := ⟨(h.add h').n, add_den h.d h'.d⟩
/-- a pair of the law, not in lowest terms -/
structure SzP (m k : Nat) (a : Int) (d : Nat) : Prop where
  n : a.natAbs < 2 ^ m
  d : d ∣ 60 ^ k
theorem SzP.pos {m k : Nat} {a : Int} {d : Nat} (h : SzP m k a d) : 0 < d := Nat.pos_of_dvd_of_pos h.d (Nat.pow_pos (by decide))
theorem SzP.le {m k : Nat} {a : Int} {d : Nat} (h : SzP m k a d) : d ≤ 60 ^ k := Nat.le_of_dvd (Nat.pow_pos (by decide)) h.d
theorem SzP.sz {m k : Nat} {a : Int} {d : Nat} (h : SzP m k a d) : Sz m k (mkRat a d) := by
  obtain ⟨h1, h2⟩ := mk_le a (Nat.ne_of_gt h.pos)
  exact ⟨Nat.lt_of_le_of_lt h1 h.n, Nat.dvd_trans h2 h.d⟩
theorem Sz.pair {m k : Nat} {q : Rat} (h : Sz m k q) : SzP m k q.num q.den := ⟨h.n, h.d⟩
end DL.K42
namespace DL.K42
open PySem L2
theorem it0 (a b : D) : itemD (.tup [a, b]) (.int 0) = some a := rfl
theorem it1 (a b : D) : itemD (.tup [a, b]) (.int 1) = some b := rfl
theorem mulB_ok {i j : Int} {m m' : Nat} (hi : i.natAbs < 2 ^ m) (hj : j.natAbs < 2 ^ m') (h : m + m' < 900000) : mulB i j = some (.int (i * j)) := by
  have h1 := log2_lt (n := i.natAbs) (k := m + 1) (Nat.lt_of_lt_of_le hi (Nat.pow_le_pow_right (by decide) (by omega))) (by omega)
  have h2 := log2_lt (n := j.natAbs) (k := m' + 1) (Nat.lt_of_lt_of_le hj (Nat.pow_le_pow_right (by decide) (by omega))) (by omega)
  exact if_pos (.inl (by omega))
theorem denP_lt {m k : Nat} {a : Int} {d : Nat} (h : SzP m k a d) : ((d : Nat) : Int).natAbs < 2 ^ (6 * k + 1) := by
  rw [Int.natAbs_natCast, Nat.pow_succ]
  have h1 := Nat.le_trans h.le (p58 k)
  have h2 : 0 < 2 ^ (6 * k) := Nat.pow_pos (by decide)
  omega
theorem den_lt {m k : Nat} {q : Rat} (h : Sz m k q) : ((q.den : Nat) : Int).natAbs < 2 ^ (6 * k + 1) := denP_lt h.pair
set_option exponentiation.threshold 600 in
theorem p500 : 60 ^ 220 < big := by decide +kernel
theorem denP_big {m k m' k' : Nat} {p : Rat} {a : Int} {d : Nat} (h : Sz m k p) (h' : SzP m' k' a d) (hk : k + k' ≤ 220) : p.den * d < big := by
  have h1 : p.den * d ≤ 60 ^ (k + k') := by
    rw [Nat.pow_add]
    exact Nat.mul_le_mul h.den_le h'.le
  have h2 : 60 ^ (k + k') ≤ 60 ^ 220 := Nat.pow_le_pow_right (by decide) hk
  have h3 : 60 ^ 220 < big := p500
  omega
theorem den_big {m k m' k' : Nat} {p q : Rat} (h : Sz m k p) (h' : Sz m' k' q) (hk : k + k' ≤ 220) : p.den * q.den < big := denP_big h h'.pair hk
/-- both are within the lines -/
def lm : Nat := 400000
def lk : Nat := 220
structure Ok2 (m k m' k' : Nat) : Prop where
  m : m + m' ≤ lm
  k : k + k' ≤ lk
abbrev pr (a : Int) (d : Nat) : D := .tup [.int a, .int (d : Nat)]
theorem timesP_eq {m k m' k' : Nat} {p : Rat} {a : Int} {d : Nat} (h : Sz m k p) (h' : SzP m' k' a d) (o : Ok2 m k m' k') : G__law_times [fr p, pr a d] = .ok (fr (p * mkRat a d)) := by
  have om : _ ≤ 400000 := o.m
  have ok : _ ≤ 220 := o.k
  have m1 := mulB_ok h.n h'.n (by omega)
  have m2 := mulB_ok (den_lt h) (denP_lt h') (by omega)
  have hl := low_eq (p.num * a) (p.den * d) (Nat.mul_pos p.den_pos h'.pos) (denP_big h h' o.k)
  have e : mkRat (p.num * a) (p.den * d) = p * mkRat a d := by
    have := Rat.mkRat_mul_mkRat p.num a p.den d
    rw [Rat.mkRat_self] at this
    exact this.symm
  rw [e, Int.natCast_mul] at hl
  unfold G__law_times g__law_times
  simp [fK, fOp, fU, fM, fIsN, fNotN, tB', tNot', tAnd', tOr', vAnd, vOr, vNot, fIf, lNil, lCons, fLst, fTup, fCall, fMk, fB, fSlc, oNo, oSo, fSplit, fLc, iSq, iR1, tYes', zF, zS, fF1, fF3, sSeq, sRet, sIf, sSet, sSetO, sFor, sApp, sPar, sAsg, sRaise, sFld, sFrz, sBad, sTryAs, fN, fRz, tIfx, sPar3, sRaiseB, iZip, iEnu, fMet, fMkd, fMkk, fDict, fSlcL, fSort, fRc, iZipA, iEnuA, iKs, sDrop, sDput, sLput, fDget, fChain, chainK, hLst, look, peek, bo, opt, mkL, mkT, small, fnG, mkG, int2, negC, seqD, hName, hCons, hNil, hTup, par2, appD, isOw, frz, setF, ptI, isiD, notScr, env0, env0I, selfF, runB, runI, cAbs, cLen, isNone, strD, payD, tryD, noErr, cLenS, itemS, dSub, dLt, dLe, dGt, dGe, notB, isO, zipD, zipL, par3, rzD, rcD, zipA, seqB, enuA, keysD, dgetR, dlookD, isOwD, cMax, cTup, Res.bind_ok, Res.bind_err, Res.bind_bad, seq_nx, seq_rt, seq_err, bnd_ok, bnd_err, loop_nx, loop_rt, for_nil, for_cons, int_i, it0, it1, m1, m2, hl]
theorem times_eq {m k m' k' : Nat} {p q : Rat} (h : Sz m k p) (h' : Sz m' k' q) (o : Ok2 m k m' k') : G__law_times [fr p, fr q] = .ok (fr (p * q)) := by
  have := timesP_eq h h'.pair o
  rw [Rat.mkRat_self] at this
  exact this
theorem add_eq {m k m' k' : Nat} {p q : Rat} (h : Sz m k p) (h' : Sz m' k' q) (o : Ok2 m k m' k') : G__law_add [fr p, fr q] = .ok (fr (p + q)) := by
  have om : _ ≤ 400000 := o.m
  have ok : _ ≤ 220 := o.k
  have m1 := mulB_ok h.n (den_lt h') (by omega)
  have m2 := mulB_ok h'.n (den_lt h) (by omega)
  have m3 := mulB_ok (den_lt h) (den_lt h') (by omega)
  have hl := low_eq (p.num * q.den + q.num * p.den) (p.den * q.den) (Nat.mul_pos p.den_pos q.den_pos) (den_big h h' o.k)
  rw [← Rat.add_def', Int.natCast_mul] at hl
  unfold G__law_add g__law_add
  simp [fK, fOp, fU, fM, fIsN, fNotN, tB', tNot', tAnd', tOr', vAnd, vOr, vNot, fIf, lNil, lCons, fLst, fTup, fCall, fMk, fB, fSlc, oNo, oSo, fSplit, fLc, iSq, iR1, tYes', zF, zS, fF1, fF3, sSeq, sRet, sIf, sSet, sSetO, sFor, sApp, sPar, sAsg, sRaise, sFld, sFrz, sBad, sTryAs, fN, fRz, tIfx, sPar3, sRaiseB, iZip, iEnu, fMet, fMkd, fMkk, fDict, fSlcL, fSort, fRc, iZipA, iEnuA, iKs, sDrop, sDput, sLput, fDget, fChain, chainK, hLst, look, peek, bo, opt, mkL, mkT, small, fnG, mkG, int2, negC, seqD, hName, hCons, hNil, hTup, par2, appD, isOw, frz, setF, ptI, isiD, notScr, env0, env0I, selfF, runB, runI, cAbs, cLen, isNone, strD, payD, tryD, noErr, cLenS, itemS, dSub, dLt, dLe, dGt, dGe, notB, isO, zipD, zipL, par3, rzD, rcD, zipA, seqB, enuA, keysD, dgetR, dlookD, isOwD, cMax, cTup, Res.bind_ok, Res.bind_err, Res.bind_bad, seq_nx, seq_rt, seq_err, bnd_ok, bnd_err, loop_nx, loop_rt, for_nil, for_cons, int_i, it0, it1, m1, m2, m3, addA, hl]
/-! ### numbers of the package -/
def Nu (d : D) (q : Rat) : Prop := d = rt q ∨ ∃ i : Int, d = .int i ∧ q = (i : Rat)
theorem fldT (a b : D) : fldD nmv "top" (.obj 0 [a, b]) = some a := rfl
theorem fldB (a b : D) : fldD nmv "bottom" (.obj 0 [a, b]) = some b := rfl
theorem halves_n {d : D} {q : Rat} (h : Nu d q) : G_halves_of [d] = .ok (fr q) := by
  rcases h with rfl | ⟨i, rfl, rfl⟩
  · rfl
  · rfl
theorem num_n {d : D} {q : Rat} (h : Nu d q) : G_is_number [d] = .ok (.bl true) := by
  rcases h with rfl | ⟨i, rfl, rfl⟩
  · rfl
  · rfl
theorem radd_eq {m k m' k' : Nat} {p q : Rat} {d : D} (h : Sz m k p) (hd : Nu d q) (h' : Sz m' k' q) (o : Ok2 m k m' k') : G_Ratio___add__ [rt p, d] = .ok (rt (p + q)) := by
  have om : _ ≤ 400000 := o.m
  have ok : _ ≤ 220 := o.k
  have n1 := num_n hd
  have n2 := halves_n hd
  have m1 := mulB_ok h.n (den_lt h') (by omega)
  have m2 := mulB_ok h'.n (den_lt h) (by omega)
  have m3 := mulB_ok (den_lt h) (den_lt h') (by omega)
  have hl := init_eq (p.num * q.den + q.num * p.den) (p.den * q.den) (Nat.mul_pos p.den_pos q.den_pos) (den_big h h' o.k)
  rw [← Rat.add_def', Int.natCast_mul] at hl
  unfold G_Ratio___add__ g_Ratio___add__
  simp [fK, fOp, fU, fM, fIsN, fNotN, tB', tNot', tAnd', tOr', vAnd, vOr, vNot, fIf, lNil, lCons, fLst, fTup, fCall, fMk, fB, fSlc, oNo, oSo, fSplit, fLc, iSq, iR1, tYes', zF, zS, fF1, fF3, sSeq, sRet, sIf, sSet, sSetO, sFor, sApp, sPar, sAsg, sRaise, sFld, sFrz, sBad, sTryAs, fN, fRz, tIfx, sPar3, sRaiseB, iZip, iEnu, fMet, fMkd, fMkk, fDict, fSlcL, fSort, fRc, iZipA, iEnuA, iKs, sDrop, sDput, sLput, fDget, fChain, chainK, hLst, look, peek, bo, opt, mkL, mkT, small, fnG, mkG, int2, negC, seqD, hName, hCons, hNil, hTup, par2, appD, isOw, frz, setF, ptI, isiD, notScr, env0, env0I, selfF, runB, runI, cAbs, cLen, isNone, strD, payD, tryD, noErr, cLenS, itemS, dSub, dLt, dLe, dGt, dGe, notB, isO, zipD, zipL, par3, rzD, rcD, zipA, seqB, enuA, keysD, dgetR, dlookD, isOwD, cMax, cTup, Res.bind_ok, Res.bind_err, Res.bind_bad, seq_nx, seq_rt, seq_err, bnd_ok, bnd_err, loop_nx, loop_rt, for_nil, for_cons, int_i, fldT, fldB, n1, n2, m1, m2, m3, addA, hl]
theorem rmul_eq {m k m' k' : Nat} {p q : Rat} {d : D} (h : Sz m k p) (hd : Nu d q) (h' : Sz m' k' q) (o : Ok2 m k m' k') : G_Ratio___mul__ [rt p, d] = .ok (rt (p * q)) := by
  have om : _ ≤ 400000 := o.m
  have ok : _ ≤ 220 := o.k
  have n1 := num_n hd
  have n2 := halves_n hd
  have m1 := mulB_ok h.n h'.n (by omega)
  have m3 := mulB_ok (den_lt h) (den_lt h') (by omega)
  have hl := init_eq (p.num * q.num) (p.den * q.den) (Nat.mul_pos p.den_pos q.den_pos) (den_big h h' o.k)
  rw [← Rat.mul_def', Int.natCast_mul] at hl
  unfold G_Ratio___mul__ g_Ratio___mul__
  simp [fK, fOp, fU, fM, fIsN, fNotN, tB', tNot', tAnd', tOr', vAnd, vOr, vNot, fIf, lNil, lCons, fLst, fTup, fCall, fMk, fB, fSlc, oNo, oSo, fSplit, fLc, iSq, iR1, tYes', zF, zS, fF1, fF3, sSeq, sRet, sIf, sSet, sSetO, sFor, sApp, sPar, sAsg, sRaise, sFld, sFrz, sBad, sTryAs, fN, fRz, tIfx, sPar3, sRaiseB, iZip, iEnu, fMet, fMkd, fMkk, fDict, fSlcL, fSort, fRc, iZipA, iEnuA, iKs, sDrop, sDput, sLput, fDget, fChain, chainK, hLst, look, peek, bo, opt, mkL, mkT, small, fnG, mkG, int2, negC, seqD, hName, hCons, hNil, hTup, par2, appD, isOw, frz, setF, ptI, isiD, notScr, env0, env0I, selfF, runB, runI, cAbs, cLen, isNone, strD, payD, tryD, noErr, cLenS, itemS, dSub, dLt, dLe, dGt, dGe, notB, isO, zipD, zipL, par3, rzD, rcD, zipA, seqB, enuA, keysD, dgetR, dlookD, isOwD, cMax, cTup, Res.bind_ok, Res.bind_err, Res.bind_bad, seq_nx, seq_rt, seq_err, bnd_ok, bnd_err, loop_nx, loop_rt, for_nil, for_cons, int_i, fldT, fldB, n1, n2, m1, m3, hl]
abbrev nAdd : D → D → Res D := opN (fun i j => some (.int (i + j))) G_Ratio___add__ G_Ratio___radd__
abbrev nMul : D → D → Res D := opN mulB G_Ratio___mul__ G_Ratio___rmul__
theorem Ok2.symm {m k m' k' : Nat} (o : Ok2 m k m' k') : Ok2 m' k' m k := ⟨by have := o.m; omega, by have := o.k; omega⟩
theorem nAdd_eq {m k m' k' : Nat} {p q : Rat} {x y : D} (hx : Nu x p) (h : Sz m k p) (hy : Nu y q) (h' : Sz m' k' q) (o : Ok2 m k m' k') : ∃ d, nAdd x y = .ok d ∧ Nu d (p + q) := by
  rcases hx with rfl | ⟨i, rfl, rfl⟩
  · have e := radd_eq h hy h' o
    refine ⟨_, ?_, .inl rfl⟩
    rw [← e]
    rcases hy with rfl | ⟨j, rfl, rfl⟩
    · rfl
    · rfl
  · rcases hy with rfl | ⟨j, rfl, rfl⟩
    · have e := radd_eq h' (.inr ⟨i, rfl, rfl⟩) h o.symm
      refine ⟨_, ?_, .inl rfl⟩
      rw [Rat.add_comm, ← e]
      have : nAdd (.int i) (rt q) = G_Ratio___radd__ [rt q, .int i] := rfl
      rw [this]
      unfold G_Ratio___radd__ g_Ratio___radd__
      simp [fK, fOp, fU, fM, fIsN, fNotN, tB', tNot', tAnd', tOr', vAnd, vOr, vNot, fIf, lNil, lCons, fLst, fTup, fCall, fMk, fB, fSlc, oNo, oSo, fSplit, fLc, iSq, iR1, tYes', zF, zS, fF1, fF3, sSeq, sRet, sIf, sSet, sSetO, sFor, sApp, sPar, sAsg, sRaise, sFld, sFrz, sBad, sTryAs, fN, fRz, tIfx, sPar3, sRaiseB, iZip, iEnu, fMet, fMkd, fMkk, fDict, fSlcL, fSort, fRc, iZipA, iEnuA, iKs, sDrop, sDput, sLput, fDget, fChain, chainK, hLst, look, peek, bo, opt, mkL, mkT, small, fnG, mkG, int2, negC, seqD, hName, hCons, hNil, hTup, par2, appD, isOw, frz, setF, ptI, isiD, notScr, env0, env0I, selfF, runB, runI, cAbs, cLen, isNone, strD, payD, tryD, noErr, cLenS, itemS, dSub, dLt, dLe, dGt, dGe, notB, isO, zipD, zipL, par3, rzD, rcD, zipA, seqB, enuA, keysD, dgetR, dlookD, isOwD, cMax, cTup, Res.bind_ok, Res.bind_err, Res.bind_bad, seq_nx, seq_rt, seq_err, bnd_ok, bnd_err, loop_nx, loop_rt, for_nil, for_cons, int_i, opL, e]
    · exact ⟨.int (i + j), rfl, .inr ⟨_, rfl, (Rat.intCast_add i j).symm⟩⟩
theorem nMul_eq {m k m' k' : Nat} {p q : Rat} {x y : D} (hx : Nu x p) (h : Sz m k p) (hy : Nu y q) (h' : Sz m' k' q) (o : Ok2 m k m' k') : ∃ d, nMul x y = .ok d ∧ Nu d (p * q) := by
  rcases hx with rfl | ⟨i, rfl, rfl⟩
  · have e := rmul_eq h hy h' o
    refine ⟨_, ?_, .inl rfl⟩
    rw [← e]
    rcases hy with rfl | ⟨j, rfl, rfl⟩
    · rfl
    · rfl
  · rcases hy with rfl | ⟨j, rfl, rfl⟩
    · have e := rmul_eq h' (.inr ⟨i, rfl, rfl⟩) h o.symm
      refine ⟨_, ?_, .inl rfl⟩
      rw [Rat.mul_comm, ← e]
      have : nMul (.int i) (rt q) = G_Ratio___rmul__ [rt q, .int i] := rfl
      rw [this]
      unfold G_Ratio___rmul__ g_Ratio___rmul__
      simp [fK, fOp, fU, fM, fIsN, fNotN, tB', tNot', tAnd', tOr', vAnd, vOr, vNot, fIf, lNil, lCons, fLst, fTup, fCall, fMk, fB, fSlc, oNo, oSo, fSplit, fLc, iSq, iR1, tYes', zF, zS, fF1, fF3, sSeq, sRet, sIf, sSet, sSetO, sFor, sApp, sPar, sAsg, sRaise, sFld, sFrz, sBad, sTryAs, fN, fRz, tIfx, sPar3, sRaiseB, iZip, iEnu, fMet, fMkd, fMkk, fDict, fSlcL, fSort, fRc, iZipA, iEnuA, iKs, sDrop, sDput, sLput, fDget, fChain, chainK, hLst, look, peek, bo, opt, mkL, mkT, small, fnG, mkG, int2, negC, seqD, hName, hCons, hNil, hTup, par2, appD, isOw, frz, setF, ptI, isiD, notScr, env0, env0I, selfF, runB, runI, cAbs, cLen, isNone, strD, payD, tryD, noErr, cLenS, itemS, dSub, dLt, dLe, dGt, dGe, notB, isO, zipD, zipL, par3, rzD, rcD, zipA, seqB, enuA, keysD, dgetR, dlookD, isOwD, cMax, cTup, Res.bind_ok, Res.bind_err, Res.bind_bad, seq_nx, seq_rt, seq_err, bnd_ok, bnd_err, loop_nx, loop_rt, for_nil, for_cons, int_i, opL, e]
    · have om : _ ≤ 400000 := o.m
      have m1 : mulB i j = some (.int (i * j)) := mulB_ok h.n h'.n (by omega)
      have : nMul (.int i) (.int j) = opt (mulB i j) := rfl
      rw [this, m1]
      exact ⟨.int (i * j), rfl, .inr ⟨_, rfl, (Rat.intCast_mul i j).symm⟩⟩
/-- the plain number -/
def pl (q : Rat) : D := if q.den = 1 then .int q.num else rt q
theorem pl_nu (q : Rat) : Nu (pl q) q := by
  unfold pl
  split
  · rename_i h
    exact .inr ⟨q.num, rfl, Rat.ext (by simp) (by simp [h])⟩
  · exact .inl rfl
theorem plain_eq {d : D} {q : Rat} (h : Nu d q) : G_plain [d] = .ok (pl q) := by
  have n2 := halves_n h
  unfold G_plain g_plain
  by_cases hd : q.den = 1
  · have e : eqD (.int (q.den : Nat)) (.int 1) = some (.bl true) := by rw [eq_ii, decide_eq_true (by omega)]
    have e2 : pl q = .int q.num := if_pos hd
    simp [fK, fOp, fU, fM, fIsN, fNotN, tB', tNot', tAnd', tOr', vAnd, vOr, vNot, fIf, lNil, lCons, fLst, fTup, fCall, fMk, fB, fSlc, oNo, oSo, fSplit, fLc, iSq, iR1, tYes', zF, zS, fF1, fF3, sSeq, sRet, sIf, sSet, sSetO, sFor, sApp, sPar, sAsg, sRaise, sFld, sFrz, sBad, sTryAs, fN, fRz, tIfx, sPar3, sRaiseB, iZip, iEnu, fMet, fMkd, fMkk, fDict, fSlcL, fSort, fRc, iZipA, iEnuA, iKs, sDrop, sDput, sLput, fDget, fChain, chainK, hLst, look, peek, bo, opt, mkL, mkT, small, fnG, mkG, int2, negC, seqD, hName, hCons, hNil, hTup, par2, appD, isOw, frz, setF, ptI, isiD, notScr, env0, env0I, selfF, runB, runI, cAbs, cLen, isNone, strD, payD, tryD, noErr, cLenS, itemS, dSub, dLt, dLe, dGt, dGe, notB, isO, zipD, zipL, par3, rzD, rcD, zipA, seqB, enuA, keysD, dgetR, dlookD, isOwD, cMax, cTup, Res.bind_ok, Res.bind_err, Res.bind_bad, seq_nx, seq_rt, seq_err, bnd_ok, bnd_err, loop_nx, loop_rt, for_nil, for_cons, int_i, n2, e, e2]
  · have e : eqD (.int (q.den : Nat)) (.int 1) = some (.bl false) := by rw [eq_ii, decide_eq_false (by omega)]
    have e2 : pl q = d := by
      rcases h with rfl | ⟨i, rfl, rfl⟩
      · exact if_neg hd
      · exact absurd rfl hd
    simp [fK, fOp, fU, fM, fIsN, fNotN, tB', tNot', tAnd', tOr', vAnd, vOr, vNot, fIf, lNil, lCons, fLst, fTup, fCall, fMk, fB, fSlc, oNo, oSo, fSplit, fLc, iSq, iR1, tYes', zF, zS, fF1, fF3, sSeq, sRet, sIf, sSet, sSetO, sFor, sApp, sPar, sAsg, sRaise, sFld, sFrz, sBad, sTryAs, fN, fRz, tIfx, sPar3, sRaiseB, iZip, iEnu, fMet, fMkd, fMkk, fDict, fSlcL, fSort, fRc, iZipA, iEnuA, iKs, sDrop, sDput, sLput, fDget, fChain, chainK, hLst, look, peek, bo, opt, mkL, mkT, small, fnG, mkG, int2, negC, seqD, hName, hCons, hNil, hTup, par2, appD, isOw, frz, setF, ptI, isiD, notScr, env0, env0I, selfF, runB, runI, cAbs, cLen, isNone, strD, payD, tryD, noErr, cLenS, itemS, dSub, dLt, dLe, dGt, dGe, notB, isO, zipD, zipL, par3, rzD, rcD, zipA, seqB, enuA, keysD, dgetR, dlookD, isOwD, cMax, cTup, Res.bind_ok, Res.bind_err, Res.bind_bad, seq_nx, seq_rt, seq_err, bnd_ok, bnd_err, loop_nx, loop_rt, for_nil, for_cons, int_i, n2, e, e2]
theorem is_plain_eq (q : Rat) (h : q.den < big) : G__law_is_plain [pl q, fr q] = .ok (.bl true) := by
  have hl := low_eq q.num q.den q.den_pos h
  rw [Rat.mkRat_self] at hl
  unfold G__law_is_plain g__law_is_plain
  by_cases hd : q.den = 1
  · have e : eqD (.int (q.den : Nat)) (.int 1) = some (.bl true) := by rw [eq_ii, decide_eq_true (by omega)]
    have e2 : pl q = .int q.num := if_pos hd
    have e3 : eqD (.int q.num) (.int q.num) = some (.bl true) := by rw [eq_ii, decide_eq_true rfl]
    have e4 : G__law_is_int [.int q.num] = .ok (.bl true) := rfl
    rw [e2]
    simp [fK, fOp, fU, fM, fIsN, fNotN, tB', tNot', tAnd', tOr', vAnd, vOr, vNot, fIf, lNil, lCons, fLst, fTup, fCall, fMk, fB, fSlc, oNo, oSo, fSplit, fLc, iSq, iR1, tYes', zF, zS, fF1, fF3, sSeq, sRet, sIf, sSet, sSetO, sFor, sApp, sPar, sAsg, sRaise, sFld, sFrz, sBad, sTryAs, fN, fRz, tIfx, sPar3, sRaiseB, iZip, iEnu, fMet, fMkd, fMkk, fDict, fSlcL, fSort, fRc, iZipA, iEnuA, iKs, sDrop, sDput, sLput, fDget, fChain, chainK, hLst, look, peek, bo, opt, mkL, mkT, small, fnG, mkG, int2, negC, seqD, hName, hCons, hNil, hTup, par2, appD, isOw, frz, setF, ptI, isiD, notScr, env0, env0I, selfF, runB, runI, cAbs, cLen, isNone, strD, payD, tryD, noErr, cLenS, itemS, dSub, dLt, dLe, dGt, dGe, notB, isO, zipD, zipL, par3, rzD, rcD, zipA, seqB, enuA, keysD, dgetR, dlookD, isOwD, cMax, cTup, Res.bind_ok, Res.bind_err, Res.bind_bad, seq_nx, seq_rt, seq_err, bnd_ok, bnd_err, loop_nx, loop_rt, for_nil, for_cons, int_i, hl, e, e3, e4]
  · have e : eqD (.int (q.den : Nat)) (.int 1) = some (.bl false) := by rw [eq_ii, decide_eq_false (by omega)]
    have e2 : pl q = rt q := if_neg hd
    have e3 : eqD (.int q.num) (.int q.num) = some (.bl true) := by rw [eq_ii, decide_eq_true rfl]
    have e4 : eqD (.int (q.den : Nat)) (.int (q.den : Nat)) = some (.bl true) := by rw [eq_ii, decide_eq_true rfl]
    rw [e2]
    simp [fK, fOp, fU, fM, fIsN, fNotN, tB', tNot', tAnd', tOr', vAnd, vOr, vNot, fIf, lNil, lCons, fLst, fTup, fCall, fMk, fB, fSlc, oNo, oSo, fSplit, fLc, iSq, iR1, tYes', zF, zS, fF1, fF3, sSeq, sRet, sIf, sSet, sSetO, sFor, sApp, sPar, sAsg, sRaise, sFld, sFrz, sBad, sTryAs, fN, fRz, tIfx, sPar3, sRaiseB, iZip, iEnu, fMet, fMkd, fMkk, fDict, fSlcL, fSort, fRc, iZipA, iEnuA, iKs, sDrop, sDput, sLput, fDget, fChain, chainK, hLst, look, peek, bo, opt, mkL, mkT, small, fnG, mkG, int2, negC, seqD, hName, hCons, hNil, hTup, par2, appD, isOw, frz, setF, ptI, isiD, notScr, env0, env0I, selfF, runB, runI, cAbs, cLen, isNone, strD, payD, tryD, noErr, cLenS, itemS, dSub, dLt, dLe, dGt, dGe, notB, isO, zipD, zipL, par3, rzD, rcD, zipA, seqB, enuA, keysD, dgetR, dlookD, isOwD, cMax, cTup, Res.bind_ok, Res.bind_err, Res.bind_bad, seq_nx, seq_rt, seq_err, bnd_ok, bnd_err, loop_nx, loop_rt, for_nil, for_cons, int_i, hl, e, e3, e4, fldT, fldB, ib_c0]
end DL.K42
namespace DL.K42
open PySem L2
theorem for_inv {h : D → Env → Option Env} {g : Env → RS} (P : Nat → Env → Prop) : ∀ (items : List D) (i0 : Nat) (ρ : Env), P i0 ρ → (∀ i d ρ, items[i]? = some d → P (i0 + i) ρ → ∃ ρ1 ρ2, h d ρ = some ρ1 ∧ g ρ1 = .nx ρ2 ∧ P (i0 + i + 1) ρ2) →
    ∃ ρ', forD h g items ρ = .nx ρ' ∧ P (i0 + items.length) ρ'
  | [], i0, ρ, p, _ => ⟨ρ, rfl, p⟩
  | d :: r, i0, ρ, p, st => by
    obtain ⟨ρ1, ρ2, e1, e2, p2⟩ := st 0 d ρ rfl p
    obtain ⟨ρ', e3, p3⟩ := for_inv P r (i0 + 1) ρ2 p2 fun i d' ρ hi hp => by
      have := st (i + 1) d' ρ (by simpa using hi) (by rw [show i0 + (i + 1) = i0 + 1 + i by omega]; exact hp)
      rw [show i0 + (i + 1) + 1 = i0 + 1 + i + 1 by omega] at this
      exact this
    refine ⟨ρ', ?_, by rw [List.length_cons, show i0 + (r.length + 1) = i0 + 1 + r.length by omega]; exact p3⟩
    rw [for_cons, e1]
    show loopK (g ρ1) (forD h g r) = _
    rw [e2]
    exact e3
theorem rng1_eq (n : Nat) (h : n ≤ 1000) : rng1 [.int (n : Nat)] = .ok ((List.range n).map fun k => D.int (k : Nat)) := by
  unfold rng1 rngD
  simp
  omega
/-- powers -/
def rp (q : Rat) : Nat → Rat
  | 0 => 1
  | n + 1 => rp q n * q
theorem sz1 : Sz 1 0 (1 : Rat) := ⟨by decide, by decide⟩
theorem Sz.rp {m k : Nat} {q : Rat} (h : Sz m k q) : ∀ n, Sz (m * n + 1) (k * n) (rp q n)
  | 0 => by
    show Sz (m * 0 + 1) (k * 0) 1
    rw [Nat.mul_zero, Nat.mul_zero, Nat.zero_add]
    exact sz1
  | n + 1 => by
    have := (Sz.rp h n).mul h
    exact this.mono (by rw [Nat.mul_succ]; omega) (by rw [Nat.mul_succ]; omega)
theorem run3 (f0 : Env → RS) (d a b x : D) (y : Option B) (h : f0 [some (.sh d), some (.sh a), some (.sh b), some (.sh b), none] = .nx [some (.sh d), some (.sh a), some (.sh b), some (.sh x), y]) : runB (sSeq (sSet 3 (look 2)) (sSeq f0 (sRet (look 3)))) 5 [d, a, b] = .ok x := by
  simp [fK, fOp, fU, fM, fIsN, fNotN, tB', tNot', tAnd', tOr', vAnd, vOr, vNot, fIf, lNil, lCons, fLst, fTup, fCall, fMk, fB, fSlc, oNo, oSo, fSplit, fLc, iSq, iR1, tYes', zF, zS, fF1, fF3, sSeq, sRet, sIf, sSet, sSetO, sFor, sApp, sPar, sAsg, sRaise, sFld, sFrz, sBad, sTryAs, fN, fRz, tIfx, sPar3, sRaiseB, iZip, iEnu, fMet, fMkd, fMkk, fDict, fSlcL, fSort, fRc, iZipA, iEnuA, iKs, sDrop, sDput, sLput, fDget, fChain, chainK, hLst, look, peek, bo, opt, mkL, mkT, small, fnG, mkG, int2, negC, seqD, hName, hCons, hNil, hTup, par2, appD, isOw, frz, setF, ptI, isiD, notScr, env0, env0I, selfF, runB, runI, cAbs, cLen, isNone, strD, payD, tryD, noErr, cLenS, itemS, dSub, dLt, dLe, dGt, dGe, notB, isO, zipD, zipL, par3, rzD, rcD, zipA, seqB, enuA, keysD, dgetR, dlookD, isOwD, cMax, cTup, Res.bind_ok, Res.bind_err, Res.bind_bad, seq_nx, seq_rt, seq_err, bnd_ok, bnd_err, loop_nx, loop_rt, for_nil, for_cons, int_i, h]
theorem run2 (f0 : Env → RS) (d a x : D) (y : Option B) (h : f0 [some (.sh d), some (.sh a), some (.sh (.tup [.int 1, .int 1])), none] = .nx [some (.sh d), some (.sh a), some (.sh x), y]) : runB (sSeq (sSet 2 (fTup (lCons (fK (.int 1)) (lCons (fK (.int 1)) lNil)))) (sSeq f0 (sRet (look 2)))) 4 [d, a] = .ok x := by
  simp [fK, fOp, fU, fM, fIsN, fNotN, tB', tNot', tAnd', tOr', vAnd, vOr, vNot, fIf, lNil, lCons, fLst, fTup, fCall, fMk, fB, fSlc, oNo, oSo, fSplit, fLc, iSq, iR1, tYes', zF, zS, fF1, fF3, sSeq, sRet, sIf, sSet, sSetO, sFor, sApp, sPar, sAsg, sRaise, sFld, sFrz, sBad, sTryAs, fN, fRz, tIfx, sPar3, sRaiseB, iZip, iEnu, fMet, fMkd, fMkk, fDict, fSlcL, fSort, fRc, iZipA, iEnuA, iKs, sDrop, sDput, sLput, fDget, fChain, chainK, hLst, look, peek, bo, opt, mkL, mkT, small, fnG, mkG, int2, negC, seqD, hName, hCons, hNil, hTup, par2, appD, isOw, frz, setF, ptI, isiD, notScr, env0, env0I, selfF, runB, runI, cAbs, cLen, isNone, strD, payD, tryD, noErr, cLenS, itemS, dSub, dLt, dLe, dGt, dGe, notB, isO, zipD, zipL, par3, rzD, rcD, zipA, seqB, enuA, keysD, dgetR, dlookD, isOwD, cMax, cTup, Res.bind_ok, Res.bind_err, Res.bind_bad, seq_nx, seq_rt, seq_err, bnd_ok, bnd_err, loop_nx, loop_rt, for_nil, for_cons, int_i, h]
theorem raised_eq {m k : Nat} {d : D} {q : Rat} (hd : Nu d q) (h : Sz m k q) (n : Nat) (hn : n ≤ 1000) (hm : m * n + 1 + m ≤ lm) (hk : k * n + k ≤ lk) : ∃ e, G_raised [d, .int (n : Nat), .int 1] = .ok e ∧ Nu e (rp q n) := by
  obtain ⟨ρ', e1, x, y, hρ, p⟩ := for_inv (h := hName 4) (g := sSet 3 (fN (opN mulB G_Ratio___mul__ G_Ratio___rmul__) (look 3) (look 0))) (fun i ρ => ∃ e x, ρ = [some (.sh d), some (.sh (.int (n : Nat))), some (.sh (.int 1)), some (.sh e), x] ∧ (i ≤ n → Nu e (rp q i)))
    ((List.range n).map fun k => D.int (k : Nat)) 0 [some (.sh d), some (.sh (.int (n : Nat))), some (.sh (.int 1)), some (.sh (.int 1)), none] ⟨_, _, rfl, fun _ => .inr ⟨1, rfl, rfl⟩⟩ fun i d' ρ hi hp => by
      obtain ⟨e, x, rfl, hp⟩ := hp
      have hin : i < n := by
        have := lt_of_get hi
        simpa using this
      rw [Nat.zero_add] at hp
      have hb : m * i ≤ m * n := Nat.mul_le_mul_left _ (by omega)
      have hb' : k * i ≤ k * n := Nat.mul_le_mul_left _ (by omega)
      obtain ⟨e', h1, h2⟩ := nMul_eq (hp (by omega)) (h.rp i) hd h ⟨by omega, by omega⟩
      refine ⟨_, [some (.sh d), some (.sh (.int (n : Nat))), some (.sh (.int 1)), some (.sh e'), some (.sh d')], rfl, ?_, e', _, rfl, fun _ => by rw [Nat.zero_add]; exact h2⟩
      simp [fK, fOp, fU, fM, fIsN, fNotN, tB', tNot', tAnd', tOr', vAnd, vOr, vNot, fIf, lNil, lCons, fLst, fTup, fCall, fMk, fB, fSlc, oNo, oSo, fSplit, fLc, iSq, iR1, tYes', zF, zS, fF1, fF3, sSeq, sRet, sIf, sSet, sSetO, sFor, sApp, sPar, sAsg, sRaise, sFld, sFrz, sBad, sTryAs, fN, fRz, tIfx, sPar3, sRaiseB, iZip, iEnu, fMet, fMkd, fMkk, fDict, fSlcL, fSort, fRc, iZipA, iEnuA, iKs, sDrop, sDput, sLput, fDget, fChain, chainK, hLst, look, peek, bo, opt, mkL, mkT, small, fnG, mkG, int2, negC, seqD, hName, hCons, hNil, hTup, par2, appD, isOw, frz, setF, ptI, isiD, notScr, env0, env0I, selfF, runB, runI, cAbs, cLen, isNone, strD, payD, tryD, noErr, cLenS, itemS, dSub, dLt, dLe, dGt, dGe, notB, isO, zipD, zipL, par3, rzD, rcD, zipA, seqB, enuA, keysD, dgetR, dlookD, isOwD, cMax, cTup, Res.bind_ok, Res.bind_err, Res.bind_bad, seq_nx, seq_rt, seq_err, bnd_ok, bnd_err, loop_nx, loop_rt, for_nil, for_cons, int_i, h1]
  rw [List.length_map, List.length_range, Nat.zero_add] at p
  refine ⟨x, ?_, p (Nat.le_refl _)⟩
  have e0 : fr_raised_0 [some (.sh d), some (.sh (.int (n : Nat))), some (.sh (.int 1)), some (.sh (.int 1)), none] = .nx ρ' := by
    unfold fr_raised_0
    simp only [sFor, iR1, lCons, lNil, look, List.getElem?_cons_succ, List.getElem?_cons_zero, Res.bind_ok, rng1_eq n hn, bnd_ok]
    exact e1
  subst hρ
  exact run3 fr_raised_0 _ _ _ _ _ e0
theorem power_eq {m k : Nat} {a : Int} {d : Nat} (h : SzP m k a d) (n : Nat) (hn : n ≤ 1000) (hm : m * n + 1 + m ≤ lm) (hk : k * n + k ≤ lk) : G__law_power [pr a d, .int (n : Nat)] = .ok (fr (rp (mkRat a d) n)) := by
  obtain ⟨ρ', e1, x, hρ⟩ := for_inv (h := hName 3) (g := sSet 2 (fCall 2 G__law_times (lCons (look 2) (lCons (look 0) lNil)))) (fun i ρ => ∃ x, ρ = [some (.sh (pr a d)), some (.sh (.int (n : Nat))), some (.sh (fr (rp (mkRat a d) i))), x])
    ((List.range n).map fun k => D.int (k : Nat)) 0 [some (.sh (pr a d)), some (.sh (.int (n : Nat))), some (.sh (.tup [.int 1, .int 1])), none] ⟨_, rfl⟩ fun i d' ρ hi hp => by
      obtain ⟨x, rfl⟩ := hp
      have hin : i < n := by
        have := lt_of_get hi
        simpa using this
      rw [Nat.zero_add]
      have hb : m * i ≤ m * n := Nat.mul_le_mul_left _ (by omega)
      have hb' : k * i ≤ k * n := Nat.mul_le_mul_left _ (by omega)
      have h1 := timesP_eq (h.sz.rp i) h ⟨by omega, by omega⟩
      refine ⟨_, [some (.sh (pr a d)), some (.sh (.int (n : Nat))), some (.sh (fr (rp (mkRat a d) (i + 1)))), some (.sh d')], rfl, ?_, _, rfl⟩
      have h2 : G__law_times [fr (rp (mkRat a d) i), pr a d] = .ok (fr (rp (mkRat a d) (i + 1))) := h1
      simp [fK, fOp, fU, fM, fIsN, fNotN, tB', tNot', tAnd', tOr', vAnd, vOr, vNot, fIf, lNil, lCons, fLst, fTup, fCall, fMk, fB, fSlc, oNo, oSo, fSplit, fLc, iSq, iR1, tYes', zF, zS, fF1, fF3, sSeq, sRet, sIf, sSet, sSetO, sFor, sApp, sPar, sAsg, sRaise, sFld, sFrz, sBad, sTryAs, fN, fRz, tIfx, sPar3, sRaiseB, iZip, iEnu, fMet, fMkd, fMkk, fDict, fSlcL, fSort, fRc, iZipA, iEnuA, iKs, sDrop, sDput, sLput, fDget, fChain, chainK, hLst, look, peek, bo, opt, mkL, mkT, small, fnG, mkG, int2, negC, seqD, hName, hCons, hNil, hTup, par2, appD, isOw, frz, setF, ptI, isiD, notScr, env0, env0I, selfF, runB, runI, cAbs, cLen, isNone, strD, payD, tryD, noErr, cLenS, itemS, dSub, dLt, dLe, dGt, dGe, notB, isO, zipD, zipL, par3, rzD, rcD, zipA, seqB, enuA, keysD, dgetR, dlookD, isOwD, cMax, cTup, Res.bind_ok, Res.bind_err, Res.bind_bad, seq_nx, seq_rt, seq_err, bnd_ok, bnd_err, loop_nx, loop_rt, for_nil, for_cons, int_i, h2]
  rw [List.length_map, List.length_range, Nat.zero_add] at hρ
  have e0 : fr__law_power_0 [some (.sh (pr a d)), some (.sh (.int (n : Nat))), some (.sh (.tup [.int 1, .int 1])), none] = .nx ρ' := by
    unfold fr__law_power_0
    simp only [sFor, iR1, lCons, lNil, look, List.getElem?_cons_succ, List.getElem?_cons_zero, Res.bind_ok, rng1_eq n hn, bnd_ok]
    exact e1
  subst hρ
  exact run2 fr__law_power_0 _ _ _ _ e0
end DL.K42
namespace DL.K42
open PySem L2
def mono (c : Rat) : List Rat → List Nat → Rat
  | v :: vs, p :: ps => mono (c * rp v p) vs ps
  | _, _ => c
def NuS (m k : Nat) : List D → List Rat → Prop
  | [], [] => True
  | d :: ds, q :: qs => (Nu d q ∧ Sz m k q) ∧ NuS m k ds qs
  | _, _ => False
abbrev pI (p : Nat) : D := .int (p : Nat)
abbrev hNP : D → Env → Option Env := hTup fun ds ρ => if ds.length = 2 then (hCons (hName 5) (hCons (hName 6) hNil)) ds ρ else none
def gN (G3 : List D → Res D) (nM : D → D → Res D) : Env → RS := sSet 4 (fN nM (look 4) (fCall 3 G3 (lCons (look 5) (lCons (look 6) (lCons (fK (.int 1)) lNil)))))
theorem stepNP (G3 : List D → Res D) (nM : D → D → Res D) (s n f pw : Option B) (x y d p e : D) (h1 : G3 [d, p, .int 1] = .ok e) (h2 : nM x e = .ok y) :
    gN G3 nM [s, n, f, pw, some (.sh x), some (.sh d), some (.sh p)] = .nx [s, n, f, pw, some (.sh y), some (.sh d), some (.sh p)] := by
  unfold gN
  simp [fK, fOp, fU, fM, fIsN, fNotN, tB', tNot', tAnd', tOr', vAnd, vOr, vNot, fIf, lNil, lCons, fLst, fTup, fCall, fMk, fB, fSlc, oNo, oSo, fSplit, fLc, iSq, iR1, tYes', zF, zS, fF1, fF3, sSeq, sRet, sIf, sSet, sSetO, sFor, sApp, sPar, sAsg, sRaise, sFld, sFrz, sBad, sTryAs, fN, fRz, tIfx, sPar3, sRaiseB, iZip, iEnu, fMet, fMkd, fMkk, fDict, fSlcL, fSort, fRc, iZipA, iEnuA, iKs, sDrop, sDput, sLput, fDget, fChain, chainK, hLst, look, peek, bo, opt, mkL, mkT, small, fnG, mkG, int2, negC, seqD, hName, hCons, hNil, hTup, par2, appD, isOw, frz, setF, ptI, isiD, notScr, env0, env0I, selfF, runB, runI, cAbs, cLen, isNone, strD, payD, tryD, noErr, cLenS, itemS, dSub, dLt, dLe, dGt, dGe, notB, isO, zipD, zipL, par3, rzD, rcD, zipA, seqB, enuA, keysD, dgetR, dlookD, isOwD, cMax, cTup, Res.bind_ok, Res.bind_err, Res.bind_bad, seq_nx, seq_rt, seq_err, bnd_ok, bnd_err, loop_nx, loop_rt, for_nil, for_cons, int_i, h1, h2]
theorem hNP_eq (s n f pw v a b : Option B) (d p : D) : hNP (.tup [d, p]) [s, n, f, pw, v, a, b] = some [s, n, f, pw, v, some (.sh d), some (.sh p)] := rfl
theorem atLoop {m k P : Nat} (hm : m * P + 1 + m ≤ lm) (hk : k * P + k ≤ lk) (hP : P ≤ 1000) (s n f pw : Option B) : ∀ (ds : List D) (vs : List Rat) (ps : List Nat) (x : D) (c : Rat) (M Kc : Nat) (a b : Option B), NuS m k ds vs → ds.length = ps.length → (∀ p ∈ ps, p ≤ P) → Nu x c → Sz M Kc c →
    M + ds.length * (m * P + 1) ≤ lm → Kc + ds.length * (k * P) ≤ lk →
    ∃ x' a' b', forD hNP (gN G_raised nMul) (zipL ds (ps.map pI)) [s, n, f, pw, some (.sh x), a, b] = .nx [s, n, f, pw, some (.sh x'), a', b'] ∧ Nu x' (mono c vs ps) ∧ Sz (M + ds.length * (m * P + 1)) (Kc + ds.length * (k * P)) (mono c vs ps)
  | [], vs, ps, x, c, M, Kc, a, b, hv, hl, hp, hx, hc, _, _ => by
    cases ps with
    | nil =>
      cases vs with
      | nil => exact ⟨x, a, b, rfl, hx, hc.mono (by omega) (by omega)⟩
      | cons _ _ => exact hv.elim
    | cons _ _ => simp at hl
  | d :: ds, vs, ps, x, c, M, Kc, a, b, hv, hl, hp, hx, hc, h1, h2 => by
    cases ps with
    | nil => simp at hl
    | cons p ps =>
      cases vs with
      | nil => exact hv.elim
      | cons v vs =>
        obtain ⟨⟨hd, hz⟩, hv⟩ := hv
        have hpp := hp p List.mem_cons_self
        have b1 : m * p ≤ m * P := Nat.mul_le_mul_left _ hpp
        have b2 : k * p ≤ k * P := Nat.mul_le_mul_left _ hpp
        rw [List.length_cons, Nat.succ_mul] at h1 h2
        obtain ⟨e, e1, e2⟩ := raised_eq hd hz p (by omega) (by omega) (by omega)
        obtain ⟨y, y1, y2⟩ := nMul_eq hx hc e2 (hz.rp p) ⟨by omega, by omega⟩
        have sz := hc.mul (hz.rp p)
        obtain ⟨x', a', b', r1, r2, r3⟩ := atLoop hm hk hP s n f pw ds vs ps y (c * rp v p) (M + (m * P + 1)) (Kc + k * P) (some (.sh d)) (some (.sh (pI p))) hv (by simpa using hl) (fun p' hp' => hp p' (List.mem_cons_of_mem _ hp')) y2 (sz.mono (by omega) (by omega)) (by omega) (by omega)
        refine ⟨x', a', b', ?_, r2, r3.mono (by rw [List.length_cons, Nat.succ_mul]; omega) (by rw [List.length_cons, Nat.succ_mul]; omega)⟩
        have ez : zipL (d :: ds) ((p :: ps).map pI) = .tup [d, pI p] :: zipL ds (ps.map pI) := rfl
        rw [ez, for_cons, hNP_eq]
        show loopK ((gN G_raised nMul) [s, n, f, pw, some (.sh x), some (.sh d), some (.sh (pI p))]) _ = _
        rw [stepNP G_raised nMul s n f pw x y d (pI p) e e1 y1, loop_nx]
        exact r1
def SzS (m k : Nat) : List Rat → Prop
  | [] => True
  | q :: qs => Sz m k q ∧ SzS m k qs
def gV (Gt Gp : List D → Res D) : Env → RS := sSet 4 (fCall 2 Gt (lCons (look 4) (lCons (fCall 2 Gp (lCons (look 5) (lCons (look 6) lNil))) lNil)))
theorem stepV (Gt Gp : List D → Res D) (s n f pw : Option B) (x y d p e : D) (h1 : Gp [d, p] = .ok e) (h2 : Gt [x, e] = .ok y) : gV Gt Gp [s, n, f, pw, some (.sh x), some (.sh d), some (.sh p)] = .nx [s, n, f, pw, some (.sh y), some (.sh d), some (.sh p)] := by
  unfold gV
  simp [fK, fOp, fU, fM, fIsN, fNotN, tB', tNot', tAnd', tOr', vAnd, vOr, vNot, fIf, lNil, lCons, fLst, fTup, fCall, fMk, fB, fSlc, oNo, oSo, fSplit, fLc, iSq, iR1, tYes', zF, zS, fF1, fF3, sSeq, sRet, sIf, sSet, sSetO, sFor, sApp, sPar, sAsg, sRaise, sFld, sFrz, sBad, sTryAs, fN, fRz, tIfx, sPar3, sRaiseB, iZip, iEnu, fMet, fMkd, fMkk, fDict, fSlcL, fSort, fRc, iZipA, iEnuA, iKs, sDrop, sDput, sLput, fDget, fChain, chainK, hLst, look, peek, bo, opt, mkL, mkT, small, fnG, mkG, int2, negC, seqD, hName, hCons, hNil, hTup, par2, appD, isOw, frz, setF, ptI, isiD, notScr, env0, env0I, selfF, runB, runI, cAbs, cLen, isNone, strD, payD, tryD, noErr, cLenS, itemS, dSub, dLt, dLe, dGt, dGe, notB, isO, zipD, zipL, par3, rzD, rcD, zipA, seqB, enuA, keysD, dgetR, dlookD, isOwD, cMax, cTup, Res.bind_ok, Res.bind_err, Res.bind_bad, seq_nx, seq_rt, seq_err, bnd_ok, bnd_err, loop_nx, loop_rt, for_nil, for_cons, int_i, h1, h2]
def PrS (m k : Nat) : List D → List Rat → Prop
  | [], [] => True
  | d :: ds, q :: qs => (∃ a b, d = pr a b ∧ q = mkRat a b ∧ SzP m k a b) ∧ PrS m k ds qs
  | _, _ => False
theorem PrS.len {m k : Nat} : ∀ {ds : List D} {vs : List Rat}, PrS m k ds vs → ds.length = vs.length ∧ SzS m k vs
  | [], [], _ => ⟨rfl, trivial⟩
  | [], _ :: _, h => h.elim
  | _ :: _, [], h => h.elim
  | d :: ds, q :: qs, h => by
    obtain ⟨h1, h2⟩ := PrS.len h.2
    obtain ⟨a, b, e1, e2, e3⟩ := h.1
    exact ⟨by simp [h1], by rw [e2]; exact e3.sz, h2⟩
theorem valLoop {m k P : Nat} (hm : m * P + 1 + m ≤ lm) (hk : k * P + k ≤ lk) (hP : P ≤ 1000) (s n f pw : Option B) : ∀ (ds : List D) (vs : List Rat) (ps : List Nat) (c : Rat) (M Kc : Nat) (a b : Option B), PrS m k ds vs → vs.length = ps.length → (∀ p ∈ ps, p ≤ P) → Sz M Kc c →
    M + vs.length * (m * P + 1) ≤ lm → Kc + vs.length * (k * P) ≤ lk →
    ∃ a' b', forD hNP (gV G__law_times G__law_power) (zipL ds (ps.map pI)) [s, n, f, pw, some (.sh (fr c)), a, b] = .nx [s, n, f, pw, some (.sh (fr (mono c vs ps))), a', b']
  | [], vs, ps, c, M, Kc, a, b, hv, hl, hp, hc, _, _ => by
    cases vs with
    | nil =>
      cases ps with
      | nil => exact ⟨a, b, rfl⟩
      | cons _ _ => simp at hl
    | cons _ _ => exact hv.elim
  | d :: ds, vs, ps, c, M, Kc, a, b, hv, hl, hp, hc, h1, h2 => by
    cases vs with
    | nil => exact hv.elim
    | cons v vs =>
    cases ps with
    | nil => simp at hl
    | cons p ps =>
      obtain ⟨⟨za, zb, rfl, rfl, hz⟩, hv⟩ := hv
      have hpp := hp p List.mem_cons_self
      have b1 : m * p ≤ m * P := Nat.mul_le_mul_left _ hpp
      have b2 : k * p ≤ k * P := Nat.mul_le_mul_left _ hpp
      rw [List.length_cons, Nat.succ_mul] at h1 h2
      have e1 := power_eq hz p (by omega) (by omega) (by omega)
      have y1 := times_eq hc (hz.sz.rp p) ⟨by omega, by omega⟩
      have sz := hc.mul (hz.sz.rp p)
      obtain ⟨a', b', r1⟩ := valLoop hm hk hP s n f pw ds vs ps (c * rp (mkRat za zb) p) (M + (m * P + 1)) (Kc + k * P) (some (.sh (pr za zb))) (some (.sh (pI p))) hv (by simpa using hl) (fun p' hp' => hp p' (List.mem_cons_of_mem _ hp')) (sz.mono (by omega) (by omega)) (by omega) (by omega)
      refine ⟨a', b', ?_⟩
      have ez : zipL (pr za zb :: ds) ((p :: ps).map pI) = .tup [pr za zb, pI p] :: zipL ds (ps.map pI) := rfl
      rw [ez, for_cons, hNP_eq]
      show loopK (gV G__law_times G__law_power [s, n, f, pw, some (.sh (fr c)), some (.sh (pr za zb)), some (.sh (pI p))]) _ = _
      rw [stepV G__law_times G__law_power s n f pw (fr c) (fr (c * rp (mkRat za zb) p)) (pr za zb) (pI p) (fr (rp (mkRat za zb) p)) e1 y1, loop_nx]
      exact r1
end DL.K42
namespace DL.K42
open PySem L2
/-! ### dicts by terms: (powers, what stands there) -/
abbrev kN (p : List Nat) : List Key := p.map fun (n : Nat) => (Sum.inl ((n : Nat) : Int) : Key)
abbrev kT (p : List Nat) : D := .tup (p.map pI)
theorem kt_eq (p : List Nat) : ktD (kN p) = kT p := by
  unfold ktD
  rw [List.map_map]
  rfl
theorem keys_eq : ∀ p : List Nat, keysA (p.map pI) = some (kN p)
  | [] => rfl
  | n :: p => by
    show (keyA (pI n)).bind (fun k => (keysA (p.map pI)).map (k :: ·)) = _
    rw [keys_eq p]
    rfl
theorem keyT_eq (p : List Nat) : keyT (kT p) = some (kN p) := keys_eq p
theorem kN_inj {p q : List Nat} (h : kN p = kN q) : p = q := by
  induction p generalizing q with
  | nil =>
    cases q with
    | nil => rfl
    | cons _ _ => simp at h
  | cons a p ih =>
    cases q with
    | nil => simp at h
    | cons b q =>
      simp only [kN, List.map_cons, List.cons.injEq, Sum.inl.injEq] at h
      rw [ih h.2]
      have := h.1
      congr 1
      omega
/-- a dict of terms -/
abbrev dk {α : Type} (f : α → D) (ts : List (List Nat × α)) : D := .dT (ts.map fun t => kN t.1) (ts.map fun t => f t.2)
theorem val_at {α : Type} (f : α → D) : ∀ {ts : List (List Nat × α)} {p : List Nat} {c : α}, (ts.map (·.1)).Nodup → (p, c) ∈ ts → valD (ts.map fun t => kN t.1) (ts.map fun t => f t.2) (kN p) = some (f c)
  | [], p, c, _, h => by simp at h
  | t :: ts, p, c, hn, h => by
    rw [List.map_cons, List.nodup_cons] at hn
    unfold valD
    rw [List.map_cons, List.map_cons, List.zip_cons_cons, List.find?_cons]
    by_cases hp : t.1 = p
    · have : decide (kN t.1 = kN p) = true := by rw [hp]; simp
      rw [this]
      rcases List.mem_cons.mp h with rfl | h
      · rfl
      · exact absurd (List.mem_map.mpr ⟨_, h, rfl⟩) (by rw [← hp] at *; exact hn.1)
    · have : decide (kN t.1 = kN p) = false := decide_eq_false fun e => hp (kN_inj e)
      rw [this]
      rcases List.mem_cons.mp h with rfl | h
      · exact absurd rfl hp
      · exact val_at f hn.2 h
theorem dget_at {α : Type} (f : α → D) {ts : List (List Nat × α)} {p : List Nat} {c : α} (hn : (ts.map (·.1)).Nodup) (h : (p, c) ∈ ts) : dgetR (dk f ts) (kT p) = .ok (f c) := by
  have e : dlookD (dk f ts) (kT p) = (keyT (kT p)).map (valD (ts.map fun t => kN t.1) (ts.map fun t => f t.2)) := rfl
  unfold dgetR
  rw [e, keyT_eq, Option.map_some, val_at f hn h]
end DL.K42
namespace DL.K42
open PySem L2
/-- the value of terms -/
def evs (vs : List Rat) (a : Rat) : List (List Nat × Rat) → Rat
  | [] => a
  | t :: ts => evs vs (a + mono t.2 vs t.1) ts
def gW (f0 : Env → RS) (Ga : List D → Res D) : Env → RS := sSeq (sSet 4 (fN dgetR (peek 0) (look 3))) (sSeq f0 (sSet 2 (fCall 2 Ga (lCons (look 2) (lCons (look 4) lNil)))))
theorem stepW (f0 : Env → RS) (Ga : List D → Res D) (td nd a k c y z : D) (v5 v6 a' b' v4 : Option B) (h0 : dgetR td k = .ok c) (h1 : f0 [some (.sh td), some (.sh nd), some (.sh a), some (.sh k), some (.sh c), v5, v6] = .nx [some (.sh td), some (.sh nd), some (.sh a), some (.sh k), some (.sh y), a', b']) (h2 : Ga [a, y] = .ok z) :
    gW f0 Ga [some (.sh td), some (.sh nd), some (.sh a), some (.sh k), v4, v5, v6] = .nx [some (.sh td), some (.sh nd), some (.sh z), some (.sh k), some (.sh y), a', b'] := by
  unfold gW
  simp only [sSeq, sSet, fN, peek, look, fCall, lCons, lNil, List.getElem?_cons_zero, List.getElem?_cons_succ, Res.bind_ok, h0, bnd_ok, List.set_cons_succ, List.set_cons_zero, seq_nx, h1, fnG, List.length_cons, List.length_nil, if_true, h2]
theorem vo0_eq (td a c : D) (ds : List D) (p : List Nat) (v5 v6 : Option B) : fr__law_value_of_0 [some (.sh td), some (.sh (.lst ds)), some (.sh a), some (.sh (kT p)), some (.sh c), v5, v6] =
    forD hNP (gV G__law_times G__law_power) (zipL ds (p.map pI)) [some (.sh td), some (.sh (.lst ds)), some (.sh a), some (.sh (kT p)), some (.sh c), v5, v6] := by
  have e : zipA [.lst ds, kT p] = .ok (zipL ds (p.map pI)) := rfl
  unfold fr__law_value_of_0 gV
  simp only [sFor, iZipA, look, lCons, lNil, List.getElem?_cons_zero, List.getElem?_cons_succ, Res.bind_ok, e, bnd_ok]
/-- sizes of a walk over terms: numbers Sz m k, powers up to P, coefficients Sz mc kc -/
structure Room4 (m k P L mc kc A B : Nat) : Prop where
  hm : m * P + 1 + m ≤ lm
  hk : k * P + k ≤ lk
  hP : P ≤ 1000
  hA : mc + L * (m * P + 1) ≤ A
  hB : kc + L * (k * P) ≤ B
theorem monoSz {m k P : Nat} : ∀ (vs : List Rat) (ps : List Nat) (c : Rat) (M Kc : Nat), SzS m k vs → vs.length = ps.length → (∀ p ∈ ps, p ≤ P) → Sz M Kc c → Sz (M + vs.length * (m * P + 1)) (Kc + vs.length * (k * P)) (mono c vs ps)
  | [], ps, c, M, Kc, hv, hl, hp, hc => hc.mono (by omega) (by omega)
  | v :: vs, [], c, M, Kc, hv, hl, hp, hc => by simp at hl
  | v :: vs, p :: ps, c, M, Kc, hv, hl, hp, hc => by
    obtain ⟨hz, hv⟩ := hv
    have hpp := hp p List.mem_cons_self
    have b1 : m * p ≤ m * P := Nat.mul_le_mul_left _ hpp
    have b2 : k * p ≤ k * P := Nat.mul_le_mul_left _ hpp
    have := monoSz vs ps (c * rp v p) (M + (m * P + 1)) (Kc + k * P) hv (by simpa using hl) (fun p' hp' => hp p' (List.mem_cons_of_mem _ hp')) ((hc.mul (hz.rp p)).mono (by omega) (by omega))
    exact this.mono (by rw [List.length_cons, Nat.succ_mul]; omega) (by rw [List.length_cons, Nat.succ_mul]; omega)
theorem valsLoop {m k P mc kc A B0 : Nat} {ds : List D} {vs : List Rat} {ts : List (List Nat × Rat)} (R : Room4 m k P vs.length mc kc A B0) (hv : PrS m k ds vs) (hn : (ts.map (·.1)).Nodup) (ht : ∀ t ∈ ts, t.1.length = vs.length ∧ (∀ p ∈ t.1, p ≤ P) ∧ Sz mc kc t.2) (hb : B0 + B0 ≤ lk) :
    ∀ (us : List (List Nat × Rat)) (a : Rat) (M : Nat) (v3 v4 v5 v6 : Option B), (∀ u ∈ us, u ∈ ts) → Sz M B0 a → M + us.length * (A + 6 * lk + 1) ≤ lm → A + us.length ≤ lm →
      ∃ w3 w4 w5 w6, forD (hName 3) (gW fr__law_value_of_0 G__law_add) (us.map fun t => kT t.1) [some (.sh (dk fr ts)), some (.sh (.lst ds)), some (.sh (fr a)), v3, v4, v5, v6] = .nx [some (.sh (dk fr ts)), some (.sh (.lst ds)), some (.sh (fr (evs vs a us))), w3, w4, w5, w6]
        ∧ Sz (M + us.length * (A + 6 * lk + 1)) B0 (evs vs a us)
  | [], a, M, v3, v4, v5, v6, _, hz, _, _ => ⟨v3, v4, v5, v6, rfl, hz.mono (by omega) (by omega)⟩
  | u :: us, a, M, v3, v4, v5, v6, hu, hz, h1, h3 => by
    have hin := hu u List.mem_cons_self
    obtain ⟨t1, t2, t3⟩ := ht u hin
    rw [List.length_cons, Nat.succ_mul us.length] at h1
    have rA := R.hA
    have rB := R.hB
    obtain ⟨a', b', e1⟩ := valLoop R.hm R.hk R.hP (some (.sh (dk fr ts))) (some (.sh (.lst ds))) (some (.sh (fr a))) (some (.sh (kT u.1))) ds vs u.1 u.2 mc kc v5 v6 hv t1.symm t2 t3 (by omega) (by omega)
    have sm := (monoSz vs u.1 u.2 mc kc (PrS.len hv).2 t1.symm t2 t3).mono rA rB
    have e2 := add_eq hz sm ⟨by omega, by omega⟩
    have sa := hz.addM sm
    obtain ⟨w3, w4, w5, w6, r1, r2⟩ := valsLoop R hv hn ht hb us (a + mono u.2 vs u.1) (M + (A + 6 * lk + 1)) (some (.sh (kT u.1))) (some (.sh (fr (mono u.2 vs u.1)))) a' b' (fun x hx => hu x (List.mem_cons_of_mem _ hx)) (sa.mono (by omega) (by omega)) (by omega) (by rw [List.length_cons] at h3; omega)
    refine ⟨w3, w4, w5, w6, ?_, r2.mono (by rw [List.length_cons, Nat.succ_mul us.length]; omega) (by omega)⟩
    have es := stepW fr__law_value_of_0 G__law_add (dk fr ts) (.lst ds) (fr a) (kT u.1) (fr u.2) (fr (mono u.2 vs u.1)) (fr (a + mono u.2 vs u.1)) v5 v6 a' b' v4 (dget_at fr hn hin) (by rw [vo0_eq]; exact e1) e2
    rw [List.map_cons, for_cons]
    show loopK (gW fr__law_value_of_0 G__law_add [some (.sh (dk fr ts)), some (.sh (.lst ds)), some (.sh (fr a)), some (.sh (kT u.1)), v4, v5, v6]) _ = _
    rw [es, loop_nx]
    exact r1
end DL.K42
namespace DL.K42
open PySem L2
/-! ### Poly.at -/
abbrev poly (fs td : D) : D := .obj 1 [fs, td]
theorem fldF (a b : D) : fldD nmv "fields" (poly a b) = some a := rfl
theorem fldP (a b : D) : fldD nmv "parts" (poly a b) = some b := rfl
def gA (f0 : Env → RS) (nA : D → D → Res D) : Env → RS := sSeq (sSet 4 (fN dgetR (fU (fldD nmv "parts") (peek 0)) (look 3))) (sSeq f0 (sSet 2 (fN nA (look 2) (look 4))))
theorem stepA (f0 : Env → RS) (nA : D → D → Res D) (fs td nd a k c y z : D) (v5 v6 a' b' v4 : Option B) (h0 : dgetR td k = .ok c) (h1 : f0 [some (.sh (poly fs td)), some (.sh nd), some (.sh a), some (.sh k), some (.sh c), v5, v6] = .nx [some (.sh (poly fs td)), some (.sh nd), some (.sh a), some (.sh k), some (.sh y), a', b']) (h2 : nA a y = .ok z) :
    gA f0 nA [some (.sh (poly fs td)), some (.sh nd), some (.sh a), some (.sh k), v4, v5, v6] = .nx [some (.sh (poly fs td)), some (.sh nd), some (.sh z), some (.sh k), some (.sh y), a', b'] := by
  unfold gA
  simp only [sSeq, sSet, fN, fU, opt, peek, look, List.getElem?_cons_zero, List.getElem?_cons_succ, Res.bind_ok, fldP, h0, bnd_ok, List.set_cons_succ, List.set_cons_zero, seq_nx, h1, h2]
theorem ao0_eq {kb : Bool} {nd : D} {ds : List D} (hs : seqB nd = some (kb, ds)) (fs td a c : D) (p : List Nat) (v5 v6 : Option B) : fr_Poly_at_0 [some (.sh (poly fs td)), some (.sh nd), some (.sh a), some (.sh (kT p)), some (.sh c), v5, v6] =
    forD hNP (gN G_raised nMul) (zipL ds (p.map pI)) [some (.sh (poly fs td)), some (.sh nd), some (.sh a), some (.sh (kT p)), some (.sh c), v5, v6] := by
  have e : zipA [nd, kT p] = .ok (zipL ds (p.map pI)) := by
    have e2 : seqB (kT p) = some (false, p.map pI) := rfl
    simp only [zipA, hs, e2]
  unfold fr_Poly_at_0 gN
  simp only [sFor, iZipA, look, lCons, lNil, List.getElem?_cons_zero, List.getElem?_cons_succ, Res.bind_ok, e, bnd_ok]
theorem NuS.len {m k : Nat} : ∀ {ds : List D} {vs : List Rat}, NuS m k ds vs → ds.length = vs.length ∧ SzS m k vs
  | [], [], _ => ⟨rfl, trivial⟩
  | [], _ :: _, h => h.elim
  | _ :: _, [], h => h.elim
  | d :: ds, q :: qs, h => by
    obtain ⟨h1, h2⟩ := NuS.len h.2
    exact ⟨by simp [h1], h.1.2, h2⟩
theorem atsLoop {m k P mc kc A B0 : Nat} {kb : Bool} {fs nd : D} {ds : List D} {vs : List Rat} {ts : List (List Nat × Rat)} (hs : seqB nd = some (kb, ds)) (R : Room4 m k P vs.length mc kc A B0) (hv : NuS m k ds vs) (hn : (ts.map (·.1)).Nodup) (ht : ∀ t ∈ ts, t.1.length = vs.length ∧ (∀ p ∈ t.1, p ≤ P) ∧ Sz mc kc t.2) (hb : B0 + B0 ≤ lk) :
    ∀ (us : List (List Nat × Rat)) (x : D) (a : Rat) (M : Nat) (v3 v4 v5 v6 : Option B), (∀ u ∈ us, u ∈ ts) → Nu x a → Sz M B0 a → M + us.length * (A + 6 * lk + 1) ≤ lm → A + us.length ≤ lm →
      ∃ x' w3 w4 w5 w6, forD (hName 3) (gA fr_Poly_at_0 nAdd) (us.map fun t => kT t.1) [some (.sh (poly fs (dk pl ts))), some (.sh nd), some (.sh x), v3, v4, v5, v6] = .nx [some (.sh (poly fs (dk pl ts))), some (.sh nd), some (.sh x'), w3, w4, w5, w6] ∧ Nu x' (evs vs a us)
  | [], x, a, M, v3, v4, v5, v6, _, hx, hz, _, _ => ⟨x, v3, v4, v5, v6, rfl, hx⟩
  | u :: us, x, a, M, v3, v4, v5, v6, hu, hx, hz, h1, h3 => by
    have hin := hu u List.mem_cons_self
    obtain ⟨t1, t2, t3⟩ := ht u hin
    obtain ⟨hl, hvs⟩ := NuS.len hv
    rw [List.length_cons, Nat.succ_mul us.length] at h1
    have rA := R.hA
    have rB := R.hB
    obtain ⟨y, a', b', e1, e3, sm⟩ := atLoop R.hm R.hk R.hP (some (.sh (poly fs (dk pl ts)))) (some (.sh nd)) (some (.sh x)) (some (.sh (kT u.1))) ds vs u.1 (pl u.2) u.2 mc kc v5 v6 hv (by rw [hl]; exact t1.symm) t2 (pl_nu u.2) t3 (by rw [hl]; omega) (by rw [hl]; omega)
    rw [hl] at sm
    have sm := sm.mono rA rB
    obtain ⟨z, e2, nz⟩ := nAdd_eq hx hz e3 sm ⟨by omega, by omega⟩
    have sa := hz.addM sm
    obtain ⟨x', w3, w4, w5, w6, r1, r2⟩ := atsLoop hs R hv hn ht hb us z (a + mono u.2 vs u.1) (M + (A + 6 * lk + 1)) (some (.sh (kT u.1))) (some (.sh y)) a' b' (fun x hx => hu x (List.mem_cons_of_mem _ hx)) nz (sa.mono (by omega) (by omega)) (by omega) (by rw [List.length_cons] at h3; omega)
    refine ⟨x', w3, w4, w5, w6, ?_, r2⟩
    have es := stepA fr_Poly_at_0 nAdd fs (dk pl ts) nd x (kT u.1) (pl u.2) y z v5 v6 a' b' v4 (dget_at pl hn hin) (by rw [ao0_eq hs]; exact e1) e2
    rw [List.map_cons, for_cons]
    show loopK (gA fr_Poly_at_0 nAdd [some (.sh (poly fs (dk pl ts))), some (.sh nd), some (.sh x), some (.sh (kT u.1)), v4, v5, v6]) _ = _
    rw [es, loop_nx]
    exact r1
end DL.K42
namespace DL.K42
open PySem L2
theorem runV (f1 : Env → RS) (td nd x : D) (w3 w4 w5 w6 : Option B) (h : f1 [some (.sh td), some (.sh nd), some (.sh (.tup [.int 0, .int 1])), none, none, none, none] = .nx [some (.sh td), some (.sh nd), some (.sh x), w3, w4, w5, w6]) :
    runB (sSeq (sSet 2 (fTup (lCons (fK (.int 0)) (lCons (fK (.int 1)) lNil)))) (sSeq f1 (sRet (look 2)))) 7 [td, nd] = .ok x := by
  simp [fK, fOp, fU, fM, fIsN, fNotN, tB', tNot', tAnd', tOr', vAnd, vOr, vNot, fIf, lNil, lCons, fLst, fTup, fCall, fMk, fB, fSlc, oNo, oSo, fSplit, fLc, iSq, iR1, tYes', zF, zS, fF1, fF3, sSeq, sRet, sIf, sSet, sSetO, sFor, sApp, sPar, sAsg, sRaise, sFld, sFrz, sBad, sTryAs, fN, fRz, tIfx, sPar3, sRaiseB, iZip, iEnu, fMet, fMkd, fMkk, fDict, fSlcL, fSort, fRc, iZipA, iEnuA, iKs, sDrop, sDput, sLput, fDget, fChain, chainK, hLst, look, peek, bo, opt, mkL, mkT, small, fnG, mkG, int2, negC, seqD, hName, hCons, hNil, hTup, par2, appD, isOw, frz, setF, ptI, isiD, notScr, env0, env0I, selfF, runB, runI, cAbs, cLen, isNone, strD, payD, tryD, noErr, cLenS, itemS, dSub, dLt, dLe, dGt, dGe, notB, isO, zipD, zipL, par3, rzD, rcD, zipA, seqB, enuA, keysD, dgetR, dlookD, isOwD, cMax, cTup, Res.bind_ok, Res.bind_err, Res.bind_bad, seq_nx, seq_rt, seq_err, bnd_ok, bnd_err, loop_nx, loop_rt, for_nil, for_cons, int_i, h]
theorem vo1_eq (ts : List (List Nat × Rat)) (nd a : D) : fr__law_value_of_1 [some (.sh (dk fr ts)), some (.sh nd), some (.sh a), none, none, none, none] = forD (hName 3) (gW fr__law_value_of_0 G__law_add) (ts.map fun t => kT t.1) [some (.sh (dk fr ts)), some (.sh nd), some (.sh a), none, none, none, none] := by
  have e : keysD (dk fr ts) = .ok (ts.map fun t => kT t.1) := by
    show Res.ok ((ts.map fun t => kN t.1).map ktD) = _
    rw [List.map_map]
    congr 1
    apply List.map_congr_left
    intro t _
    exact kt_eq t.1
  unfold fr__law_value_of_1 gW
  simp only [sFor, iKs, look, List.getElem?_cons_zero, List.getElem?_cons_succ, Res.bind_ok, e, bnd_ok]
theorem value_of_eq {m k P mc kc A B0 : Nat} {ds : List D} {vs : List Rat} {ts : List (List Nat × Rat)} (R : Room4 m k P vs.length mc kc A B0) (hv : PrS m k ds vs) (hn : (ts.map (·.1)).Nodup) (ht : ∀ t ∈ ts, t.1.length = vs.length ∧ (∀ p ∈ t.1, p ≤ P) ∧ Sz mc kc t.2)
    (h1 : 1 + ts.length * (A + 6 * lk + 1) ≤ lm) (h2 : B0 + B0 ≤ lk) (h3 : A + ts.length ≤ lm) : G__law_value_of [dk fr ts, .lst ds] = .ok (fr (evs vs 0 ts)) ∧ Sz (1 + ts.length * (A + 6 * lk + 1)) B0 (evs vs 0 ts) := by
  obtain ⟨w3, w4, w5, w6, e, s⟩ := valsLoop R hv hn ht h2 ts 0 1 none none none none (fun u hu => hu) ⟨by decide, Nat.one_dvd _⟩ h1 h3
  refine ⟨?_, s⟩
  exact runV fr__law_value_of_1 _ _ _ w3 w4 w5 w6 ((vo1_eq ts _ _).trans e)
theorem runA (f1 : Env → RS) (Gp : List D → Res D) (l1 l2 : Int) (fs td nd x y : D) (w3 w4 w5 w6 : Option B) (c1 : cLen [nd] = some (.int l1)) (c2 : cLen [fs] = some (.int l1)) (h : f1 [some (.sh (poly fs td)), some (.sh nd), some (.sh (.int 0)), none, none, none, none] = .nx [some (.sh (poly fs td)), some (.sh nd), some (.sh x), w3, w4, w5, w6]) (hp : Gp [x] = .ok y) :
    runB (sSeq (sIf (tB' (fOp neD (fB cLen (lCons (peek 1) lNil)) (fB cLen (lCons (fU (fldD nmv "fields") (peek 0)) lNil)))) (sRaise 0 (fB cLen (lCons (peek 1) lNil))) .nx) (sSeq (sSet 2 (fK (.int 0))) (sSeq f1 (sRet (fCall 1 Gp (lCons (look 2) lNil)))))) 7 [poly fs td, nd] = .ok y := by
  have e : neD (.int l1) (.int l1) = some (.bl false) := by rw [ne_ii]; simp
  have e0 : env0 7 [poly fs td, nd] = [some (.sh (poly fs td)), some (.sh nd), none, none, none, none, none] := rfl
  unfold runB
  rw [e0]
  simp only [sSeq, sIf, tB', fOp, fB, lCons, lNil, peek, look, fU, opt, fldF, List.getElem?_cons_zero, List.getElem?_cons_succ, Res.bind_ok, c1, c2, e, bo, bnd_ok, Bool.false_eq_true, if_false, seq_nx, sSet, fK, List.set_cons_succ, List.set_cons_zero, h, sRet, fCall, fnG, List.length_cons, List.length_nil, if_true, hp]
theorem ao1_eq (fs : D) (ts : List (List Nat × Rat)) (nd a : D) : fr_Poly_at_1 [some (.sh (poly fs (dk pl ts))), some (.sh nd), some (.sh a), none, none, none, none] = forD (hName 3) (gA fr_Poly_at_0 nAdd) (ts.map fun t => kT t.1) [some (.sh (poly fs (dk pl ts))), some (.sh nd), some (.sh a), none, none, none, none] := by
  have e : keysD (dk pl ts) = .ok (ts.map fun t => kT t.1) := by
    show Res.ok ((ts.map fun t => kN t.1).map ktD) = _
    rw [List.map_map]
    congr 1
    apply List.map_congr_left
    intro t _
    exact kt_eq t.1
  unfold fr_Poly_at_1 gA
  simp only [sFor, iKs, fU, opt, peek, fldP, List.getElem?_cons_zero, List.getElem?_cons_succ, Res.bind_ok, e, bnd_ok]
theorem at_eq {m k P mc kc A B0 : Nat} {kb : Bool} {fs nd : D} {ds : List D} {vs : List Rat} {ts : List (List Nat × Rat)} {l1 : Int} (hs : seqB nd = some (kb, ds)) (c1 : cLen [nd] = some (.int l1)) (c2 : cLen [fs] = some (.int l1)) (R : Room4 m k P vs.length mc kc A B0) (hv : NuS m k ds vs) (hn : (ts.map (·.1)).Nodup) (ht : ∀ t ∈ ts, t.1.length = vs.length ∧ (∀ p ∈ t.1, p ≤ P) ∧ Sz mc kc t.2)
    (h1 : 1 + ts.length * (A + 6 * lk + 1) ≤ lm) (h2 : B0 + B0 ≤ lk) (h3 : A + ts.length ≤ lm) : G_Poly_at [poly fs (dk pl ts), nd] = .ok (pl (evs vs 0 ts)) := by
  obtain ⟨x', w3, w4, w5, w6, e, hx⟩ := atsLoop (fs := fs) hs R hv hn ht h2 ts (.int 0) 0 1 none none none none (fun u hu => hu) (.inr ⟨0, rfl, rfl⟩) ⟨by decide, Nat.one_dvd _⟩ h1 h3
  exact runA fr_Poly_at_1 G_plain l1 l1 fs (dk pl ts) nd x' _ w3 w4 w5 w6 c1 c2 ((ao1_eq fs ts nd _).trans e) (plain_eq hx)
end DL.K42
namespace DL.K42
open PySem L2
theorem evs_acc (vs : List Rat) : ∀ (ts : List (List Nat × Rat)) (a : Rat), evs vs a ts = a + evs vs 0 ts
  | [], a => (Rat.add_zero a).symm
  | t :: ts, a => by
    show evs vs (a + mono t.2 vs t.1) ts = a + evs vs (0 + mono t.2 vs t.1) ts
    rw [evs_acc vs ts, evs_acc vs ts (0 + _), Rat.zero_add, Rat.add_assoc]
theorem evs_perm (vs : List Rat) {ts us : List (List Nat × Rat)} (h : ts.Perm us) : evs vs 0 ts = evs vs 0 us := by
  induction h with
  | nil => rfl
  | cons x _ ih =>
    show evs vs (0 + mono x.2 vs x.1) _ = evs vs (0 + mono x.2 vs x.1) _
    rw [evs_acc, ih, ← evs_acc]
  | swap x y l =>
    show evs vs (0 + mono y.2 vs y.1 + mono x.2 vs x.1) l = evs vs (0 + mono x.2 vs x.1 + mono y.2 vs y.1) l
    rw [Rat.zero_add, Rat.zero_add, Rat.add_comm]
  | trans _ _ h1 h2 => exact h1.trans h2
theorem mono_mul (c : Rat) : ∀ (vs : List Rat) (ps : List Nat) (d : Rat), mono (c * d) vs ps = c * mono d vs ps
  | [], _, d => rfl
  | _ :: _, [], d => rfl
  | v :: vs, p :: ps, d => by
    show mono (c * d * rp v p) vs ps = c * mono (d * rp v p) vs ps
    rw [Rat.mul_assoc, mono_mul c vs ps]
theorem mono_zero (vs : List Rat) (ps : List Nat) : mono 0 vs ps = 0 := by
  have := mono_mul 0 vs ps 0
  rw [Rat.zero_mul, Rat.zero_mul] at this
  exact this
theorem evs_drop (vs : List Rat) : ∀ (ts : List (List Nat × Rat)), evs vs 0 (ts.filter fun t => decide (t.2 ≠ 0)) = evs vs 0 ts
  | [] => rfl
  | t :: ts => by
    have ih := evs_drop vs ts
    have e : evs vs 0 (t :: ts) = mono t.2 vs t.1 + evs vs 0 ts := by
      show evs vs (0 + mono t.2 vs t.1) ts = _
      rw [evs_acc, Rat.zero_add]
    rw [e, List.filter_cons]
    by_cases h : t.2 = 0
    · rw [if_neg (by simp [h]), ih, h, mono_zero, Rat.zero_add]
    · rw [if_pos (by simp [h])]
      show evs vs (0 + mono t.2 vs t.1) _ = _
      rw [evs_acc, Rat.zero_add, ih]
end DL.K42
namespace DL.K42
open PySem L2
theorem rp_add (q : Rat) (a : Nat) : ∀ b, rp q (a + b) = rp q a * rp q b
  | 0 => (Rat.mul_one _).symm
  | b + 1 => by
    show rp q (a + b) * q = rp q a * (rp q b * q)
    rw [rp_add q a b, Rat.mul_assoc]
theorem mono_one (c : Rat) (vs : List Rat) (ps : List Nat) : mono c vs ps = c * mono 1 vs ps := by
  have := mono_mul c vs ps 1
  rw [Rat.mul_one] at this
  exact this
theorem mono_prod : ∀ (vs : List Rat) (ps qs : List Nat), vs.length = ps.length → ps.length = qs.length → mono 1 vs (ps.zipWith (· + ·) qs) = mono 1 vs ps * mono 1 vs qs
  | [], [], [], _, _ => (Rat.mul_one 1).symm
  | [], _ :: _, _, h, _ => by simp at h
  | [], [], _ :: _, _, h => by simp at h
  | _ :: _, [], _, h, _ => by simp at h
  | _ :: _, _ :: _, [], _, h => by simp at h
  | v :: vs, p :: ps, q :: qs, h1, h2 => by
    have ih := mono_prod vs ps qs (by simpa using h1) (by simpa using h2)
    show mono (1 * rp v (p + q)) vs (ps.zipWith (· + ·) qs) = mono (1 * rp v p) vs ps * mono (1 * rp v q) vs qs
    rw [mono_one (1 * rp v (p + q)), mono_one (1 * rp v p), mono_one (1 * rp v q), ih, rp_add, Rat.one_mul, Rat.one_mul, Rat.one_mul]
    rw [Rat.mul_assoc, Rat.mul_assoc, ← Rat.mul_assoc (rp v q), Rat.mul_comm (rp v q), Rat.mul_assoc]
/-- c more at p -/
def addT (ts : List (List Nat × Rat)) (p : List Nat) (c : Rat) : List (List Nat × Rat) := match ts with
  | [] => [(p, c)]
  | t :: r => if t.1 = p then (p, t.2 + c) :: r else t :: addT r p c
theorem mono_add (vs : List Rat) (ps : List Nat) (c d : Rat) : mono (c + d) vs ps = mono c vs ps + mono d vs ps := by
  rw [mono_one, mono_one c, mono_one d, Rat.add_mul]
theorem evs_cons (vs : List Rat) (t : List Nat × Rat) (ts : List (List Nat × Rat)) : evs vs 0 (t :: ts) = mono t.2 vs t.1 + evs vs 0 ts := by
  show evs vs (0 + mono t.2 vs t.1) ts = _
  rw [evs_acc, Rat.zero_add]
theorem evs_addT (vs : List Rat) (p : List Nat) (c : Rat) : ∀ ts : List (List Nat × Rat), evs vs 0 (addT ts p c) = evs vs 0 ts + mono c vs p
  | [] => by
    show evs vs 0 [(p, c)] = 0 + mono c vs p
    rw [evs_cons]
    show mono c vs p + 0 = _
    rw [Rat.add_zero, Rat.zero_add]
  | t :: r => by
    have ih := evs_addT vs p c r
    unfold addT
    split
    · rename_i h
      rw [evs_cons, evs_cons, ← h, mono_add, Rat.add_assoc, Rat.add_assoc, Rat.add_comm (mono c vs t.1)]
    · rw [evs_cons, evs_cons, ih, Rat.add_assoc]
abbrev zw (p q : List Nat) : List Nat := p.zipWith (· + ·) q
def mulT1 (t : List Nat × Rat) (acc : List (List Nat × Rat)) : List (List Nat × Rat) → List (List Nat × Rat)
  | [] => acc
  | u :: us => mulT1 t (addT acc (zw t.1 u.1) (t.2 * u.2)) us
def mulT (acc other : List (List Nat × Rat)) : List (List Nat × Rat) → List (List Nat × Rat)
  | [] => acc
  | t :: ts => mulT (mulT1 t acc other) other ts
theorem evs_mulT1 (vs : List Rat) (t : List Nat × Rat) (ht : t.1.length = vs.length) : ∀ (us acc : List (List Nat × Rat)), (∀ u ∈ us, u.1.length = vs.length) → evs vs 0 (mulT1 t acc us) = evs vs 0 acc + mono t.2 vs t.1 * evs vs 0 us
  | [], acc, _ => by
    show evs vs 0 acc = evs vs 0 acc + mono t.2 vs t.1 * 0
    rw [Rat.mul_zero, Rat.add_zero]
  | u :: us, acc, hu => by
    show evs vs 0 (mulT1 t (addT acc (zw t.1 u.1) (t.2 * u.2)) us) = _
    have h1 := hu u List.mem_cons_self
    rw [evs_mulT1 vs t ht us _ fun x hx => hu x (List.mem_cons_of_mem _ hx), evs_addT, evs_cons, Rat.mul_add, Rat.add_assoc]
    congr 2
    rw [mono_one (t.2 * u.2), mono_prod vs t.1 u.1 ht.symm (by rw [ht, h1]), mono_one t.2, mono_one u.2]
    rw [Rat.mul_assoc, Rat.mul_assoc, ← Rat.mul_assoc u.2, Rat.mul_comm u.2, Rat.mul_assoc]
theorem evs_mulT (vs : List Rat) (other : List (List Nat × Rat)) (ho : ∀ u ∈ other, u.1.length = vs.length) : ∀ (ts acc : List (List Nat × Rat)), (∀ t ∈ ts, t.1.length = vs.length) → evs vs 0 (mulT acc other ts) = evs vs 0 acc + evs vs 0 ts * evs vs 0 other
  | [], acc, _ => by
    show evs vs 0 acc = evs vs 0 acc + 0 * _
    rw [Rat.zero_mul, Rat.add_zero]
  | t :: ts, acc, ht => by
    show evs vs 0 (mulT (mulT1 t acc other) other ts) = _
    rw [evs_mulT vs other ho ts _ fun x hx => ht x (List.mem_cons_of_mem _ hx), evs_mulT1 vs t (ht t List.mem_cons_self) other acc ho, evs_cons, Rat.add_mul, Rat.add_assoc]
end DL.K42
namespace DL.K42
open PySem L2
/-! ### d[k] = v by terms -/
def putT {α : Type} (l : List (List Nat × α)) (p : List Nat) (d : α) : List (List Nat × α) := match l with
  | [] => [(p, d)]
  | t :: r => if t.1 = p then (p, d) :: r else t :: putT r p d
theorem mem_kN {α : Type} {l : List (List Nat × α)} {p : List Nat} : kN p ∈ l.map (fun t => kN t.1) ↔ p ∈ l.map (·.1) := by
  constructor
  · intro h
    obtain ⟨t, h1, h2⟩ := List.mem_map.mp h
    exact List.mem_map.mpr ⟨t, h1, kN_inj h2⟩
  · intro h
    obtain ⟨t, h1, h2⟩ := List.mem_map.mp h
    exact List.mem_map.mpr ⟨t, h1, by rw [← h2]⟩
theorem rep_no {α : Type} (f : α → D) {p : List Nat} {d : D} : ∀ {l : List (List Nat × α)}, p ∉ l.map (·.1) → repX (l.map fun t => kN t.1) (l.map fun t => f t.2) (kN p) d = l.map fun t => f t.2
  | [], _ => rfl
  | t :: r, h => by
    have h1 : ¬ kN t.1 = kN p := fun e => h (by rw [← kN_inj e]; exact List.mem_cons_self)
    rw [List.map_cons, List.map_cons, repX_cons, if_neg h1, rep_no f fun m => h (List.mem_cons_of_mem _ m)]
theorem put_eq {α : Type} (f : α → D) {p : List Nat} {d : α} : ∀ {l : List (List Nat × α)}, (l.map (·.1)).Nodup → putKs (l.map fun t => kN t.1) (kN p) = (putT l p d).map (fun t => kN t.1) ∧ putXs (l.map fun t => kN t.1) (l.map fun t => f t.2) (kN p) (f d) = (putT l p d).map fun t => f t.2
  | [], _ => ⟨by simp [putKs, putT], by simp [putXs, putT]⟩
  | t :: r, hn => by
    rw [List.map_cons, List.nodup_cons] at hn
    obtain ⟨i1, i2⟩ := put_eq f (p := p) (d := d) hn.2
    unfold putT
    by_cases h : t.1 = p
    · subst h
      rw [if_pos rfl]
      have hm : kN t.1 ∈ (t :: r).map (fun t => kN t.1) := List.mem_map.mpr ⟨t, List.mem_cons_self, rfl⟩
      unfold putKs putXs
      rw [if_pos hm, if_pos hm]
      refine ⟨rfl, ?_⟩
      rw [List.map_cons, List.map_cons, repX_cons, if_pos rfl, rep_no f hn.1]
      rfl
    · rw [if_neg h]
      have hk : ¬ kN t.1 = kN p := fun e => h (kN_inj e)
      unfold putKs putXs at *
      by_cases hm : kN p ∈ r.map (fun t => kN t.1)
      · have hm' : kN p ∈ (t :: r).map (fun t => kN t.1) := by rw [List.map_cons]; exact List.mem_cons_of_mem _ hm
        rw [if_pos hm] at i1 i2
        rw [if_pos hm', if_pos hm']
        refine ⟨by rw [List.map_cons, List.map_cons, i1], ?_⟩
        rw [List.map_cons, List.map_cons, List.map_cons, repX_cons, if_neg hk, i2]
      · have hm' : ¬ kN p ∈ (t :: r).map (fun t => kN t.1) := by
          rw [List.map_cons]
          intro hx
          rcases List.mem_cons.mp hx with e | hx
          · exact hk e.symm
          · exact hm hx
        rw [if_neg hm] at i1 i2
        rw [if_neg hm', if_neg hm']
        refine ⟨by rw [List.map_cons, List.map_cons, List.cons_append, i1], ?_⟩
        rw [List.map_cons, List.map_cons, List.cons_append, i2]
end DL.K42
namespace DL.K42
open PySem L2
/-! ### one_form -/
theorem eq_tt (a b c d : Int) : eqD (.tup [.int a, .int b]) (.tup [.int c, .int d]) = some (.bl (decide (a = c ∧ b = d))) := by
  simp [eqD, eqP, toPD, toPDs, SeqAt.shaped, PyData.canLay0, PyData.canLayAll0, PyData.depth, PyData.depthAll, PyData.eqv, PyData.eqvAll, beq_i]
theorem req_eq (q : Rat) : G_Ratio___eq__ [rt q, .int 0] = .ok (.bl (decide (q = 0))) := by
  have n1 : G_is_number [.int 0] = .ok (.bl true) := rfl
  have n2 : G_halves_of [.int 0] = .ok (.tup [.int 0, .int 1]) := rfl
  have e := eq_tt 0 1 q.num (q.den : Nat)
  have hd : decide ((0 : Int) = q.num ∧ (1 : Int) = (q.den : Nat)) = decide (q = 0) := by
    congr 1
    apply propext
    constructor
    · rintro ⟨h1, h2⟩
      exact Rat.ext (by rw [← h1]; rfl) (by have : q.den = 1 := by omega
                                            rw [this]; rfl)
    · rintro rfl
      exact ⟨rfl, rfl⟩
  rw [hd] at e
  unfold G_Ratio___eq__ g_Ratio___eq__
  simp [fK, fOp, fU, fM, fIsN, fNotN, tB', tNot', tAnd', tOr', vAnd, vOr, vNot, fIf, lNil, lCons, fLst, fTup, fCall, fMk, fB, fSlc, oNo, oSo, fSplit, fLc, iSq, iR1, tYes', zF, zS, fF1, fF3, sSeq, sRet, sIf, sSet, sSetO, sFor, sApp, sPar, sAsg, sRaise, sFld, sFrz, sBad, sTryAs, fN, fRz, tIfx, sPar3, sRaiseB, iZip, iEnu, fMet, fMkd, fMkk, fDict, fSlcL, fSort, fRc, iZipA, iEnuA, iKs, sDrop, sDput, sLput, fDget, fChain, chainK, hLst, look, peek, bo, opt, mkL, mkT, small, fnG, mkG, int2, negC, seqD, hName, hCons, hNil, hTup, par2, appD, isOw, frz, setF, ptI, isiD, notScr, env0, env0I, selfF, runB, runI, cAbs, cLen, isNone, strD, payD, tryD, noErr, cLenS, itemS, dSub, dLt, dLe, dGt, dGe, notB, isO, zipD, zipL, par3, rzD, rcD, zipA, seqB, enuA, keysD, dgetR, dlookD, isOwD, cMax, cTup, Res.bind_ok, Res.bind_err, Res.bind_bad, seq_nx, seq_rt, seq_err, bnd_ok, bnd_err, loop_nx, loop_rt, for_nil, for_cons, int_i, n1, n2, fldT, fldB, e]
theorem neN_eq {d : D} {q : Rat} (h : Nu d q) : neN G_Ratio___eq__ d (.int 0) = .ok (.bl (decide (q ≠ 0))) := by
  rcases h with rfl | ⟨i, rfl, rfl⟩
  · have e : neN G_Ratio___eq__ (rt q) (.int 0) = (G_Ratio___eq__ [rt q, .int 0]) >>= notB := rfl
    rw [e, req_eq]
    show Res.ok (D.bl (!decide (q = 0))) = _
    simp
  · have e : neN G_Ratio___eq__ (.int i) (.int 0) = opt (neD (.int i) (.int 0)) := rfl
    rw [e, ne_ii]
    show Res.ok (D.bl (!decide (i = 0))) = _
    simp
def gO (nE : D → D → Res D) (Gp : List D → Res D) : Env → RS := sIf (tB' (fN nE (fN dgetR (peek 0) (look 2)) (fK (.int 0)))) (sDput 1 (look 2) (fCall 1 Gp (lCons (fN dgetR (peek 0) (look 2)) lNil))) .nx
theorem stepO_no (nE : D → D → Res D) (Gp : List D → Res D) (td k c : D) (fo : Option B) (h0 : dgetR td k = .ok c) (h1 : nE c (.int 0) = .ok (.bl false)) : gO nE Gp [some (.sh td), fo, some (.sh k)] = .nx [some (.sh td), fo, some (.sh k)] := by
  unfold gO
  simp only [sIf, tB', fN, fK, peek, look, List.getElem?_cons_zero, List.getElem?_cons_succ, Res.bind_ok, h0, h1, bo, bnd_ok, Bool.false_eq_true, if_false]
theorem stepO_yes (nE : D → D → Res D) (Gp : List D → Res D) (td k c y : D) (ks : List (List Key)) (xs : List D) (kk : List Key) (h0 : dgetR td k = .ok c) (h1 : nE c (.int 0) = .ok (.bl true)) (h2 : Gp [c] = .ok y) (hk : keyT k = some kk) (hs : small (ks.length + 1) = true) :
    gO nE Gp [some (.sh td), some (.ow (.dT ks xs)), some (.sh k)] = .nx [some (.sh td), some (.ow (.dT (putKs ks kk) (putXs ks xs kk y))), some (.sh k)] := by
  have e : putE 1 [some (.sh td), some (.ow (.dT ks xs)), some (.sh k)] k y = .nx [some (.sh td), some (.ow (.dT (putKs ks kk) (putXs ks xs kk y))), some (.sh k)] := by
    show (match keyT k with
      | some k => if small (ks.length + 1) = true then RS.nx _ else .bad
      | none => .bad) = _
    rw [hk]
    show (if small (ks.length + 1) = true then RS.nx _ else RS.bad) = _
    rw [if_pos hs]
    rfl
  have e2 : isOwD 1 [some (.sh td), some (.ow (.dT ks xs)), some (.sh k)] = .ok () := rfl
  unfold gO
  simp only [sIf, tB', fN, fK, peek, look, List.getElem?_cons_zero, List.getElem?_cons_succ, Res.bind_ok, h0, h1, bo, bnd_ok, if_true, sDput, fCall, lCons, lNil, fnG, List.length_cons, List.length_nil, h2, e2, e]
/-! ### the loop of one_form -/
theorem putT_new {α : Type} {p : List Nat} {d : α} : ∀ {l : List (List Nat × α)}, p ∉ l.map (·.1) → putT l p d = l ++ [(p, d)]
  | [], _ => rfl
  | t :: r, h => by
    have h1 : ¬ t.1 = p := fun e => h (by rw [← e]; exact List.mem_cons_self)
    unfold putT
    rw [if_neg h1, putT_new fun m => h (List.mem_cons_of_mem _ m)]
    rfl
/-- terms with what stands for the numbers -/
abbrev TN := List (List Nat × (D × Rat))
abbrev toT (ts : TN) : List (List Nat × Rat) := ts.map fun t => (t.1, t.2.2)
abbrev nzT (ts : List (List Nat × Rat)) : List (List Nat × Rat) := ts.filter fun t => decide (t.2 ≠ 0)
abbrev dn (ts : TN) : D := dk Prod.fst ts
theorem loopO {ts : TN} (hn : (ts.map (·.1)).Nodup) (hv : ∀ t ∈ ts, Nu t.2.1 t.2.2) : ∀ (us : TN) (acc : List (List Nat × Rat)) (v2 : Option B), (∀ u ∈ us, u ∈ ts) → (us.map (·.1)).Nodup → (∀ u ∈ us, u.1 ∉ acc.map (·.1)) → (acc.map (·.1)).Nodup → acc.length + us.length ≤ 1000 →
    ∃ w2, forD (hName 2) (gO (neN G_Ratio___eq__) G_plain) (us.map fun t => kT t.1) [some (.sh (dn ts)), some (.ow (dk pl acc)), v2] = .nx [some (.sh (dn ts)), some (.ow (dk pl (acc ++ nzT (toT us)))), w2]
  | [], acc, v2, _, _, _, _, _ => ⟨v2, by
    show RS.nx _ = RS.nx _
    simp⟩
  | u :: us, acc, v2, hu, hnu, hd, ha, hl => by
    have hin := hu u List.mem_cons_self
    have h0 : dgetR (dn ts) (kT u.1) = .ok u.2.1 := dget_at Prod.fst hn hin
    have hq := hv u hin
    have h1 := neN_eq hq
    rw [List.map_cons, List.nodup_cons] at hnu
    rw [List.length_cons] at hl
    rw [List.map_cons, for_cons]
    show ∃ w2, loopK (gO (neN G_Ratio___eq__) G_plain [some (.sh (dn ts)), some (.ow (dk pl acc)), some (.sh (kT u.1))]) _ = _
    by_cases hz : u.2.2 = 0
    · have e0 : decide (u.2.2 ≠ 0) = false := by simp [hz]
      rw [e0] at h1
      rw [stepO_no _ _ _ _ _ _ h0 h1, loop_nx]
      obtain ⟨w2, e⟩ := loopO hn hv us acc (some (.sh (kT u.1))) (fun x hx => hu x (List.mem_cons_of_mem _ hx)) hnu.2 (fun x hx => hd x (List.mem_cons_of_mem _ hx)) ha (by omega)
      refine ⟨w2, ?_⟩
      have e2 : nzT (toT (u :: us)) = nzT (toT us) := by
        show ((u.1, u.2.2) :: toT us).filter _ = _
        rw [List.filter_cons, if_neg (by simp [hz])]
      rw [e, e2]
    · have e0 : decide (u.2.2 ≠ 0) = true := by simp [hz]
      rw [e0] at h1
      have hnew : u.1 ∉ acc.map (·.1) := hd u List.mem_cons_self
      obtain ⟨p1, p2⟩ := put_eq pl (p := u.1) (d := u.2.2) ha
      rw [stepO_yes _ _ _ _ _ (pl u.2.2) (acc.map fun t => kN t.1) (acc.map fun t => pl t.2) (kN u.1) h0 h1 (plain_eq hq) (keyT_eq u.1) (by
        rw [List.length_map]
        exact decide_eq_true (by omega)), loop_nx, p1, p2, putT_new hnew]
      obtain ⟨w2, e⟩ := loopO hn hv us (acc ++ [(u.1, u.2.2)]) (some (.sh (kT u.1))) (fun x hx => hu x (List.mem_cons_of_mem _ hx)) hnu.2 (fun x hx => by
          rw [List.map_append]
          intro hm
          rcases List.mem_append.mp hm with hm | hm
          · exact hd x (List.mem_cons_of_mem _ hx) hm
          · have hxe : x.1 = u.1 := by simpa using hm
            exact hnu.1 (List.mem_map.mpr ⟨x, hx, hxe⟩)) (by
          rw [List.map_append]
          refine List.nodup_append.mpr ⟨ha, by simp, ?_⟩
          intro a ha1 b hb1 he
          have hb2 : b = u.1 := by simpa using hb1
          rw [he, hb2] at ha1
          exact hnew ha1) (by simp; omega)
      refine ⟨w2, ?_⟩
      have e2 : nzT (toT (u :: us)) = (u.1, u.2.2) :: nzT (toT us) := by
        show ((u.1, u.2.2) :: toT us).filter _ = _
        rw [List.filter_cons, if_pos (by simp [hz])]
      have e3 : acc ++ (u.1, u.2.2) :: nzT (toT us) = acc ++ [(u.1, u.2.2)] ++ nzT (toT us) := by simp
      rw [e2, e3]
      exact e
theorem runO (f0 : Env → RS) (td : D) (ks : List (List Key)) (xs : List D) (w2 : Option B) (h : f0 [some (.sh td), some (.ow (.dT [] [])), none] = .nx [some (.sh td), some (.ow (.dT ks xs)), w2]) :
    runB (sSeq (sSetO 1 (fK (.dT [] []))) (sSeq f0 (sFrz 1 (sRet (look 1))))) 3 [td] = .ok (.dT ks xs) := by
  simp [fK, fOp, fU, fM, fIsN, fNotN, tB', tNot', tAnd', tOr', vAnd, vOr, vNot, fIf, lNil, lCons, fLst, fTup, fCall, fMk, fB, fSlc, oNo, oSo, fSplit, fLc, iSq, iR1, tYes', zF, zS, fF1, fF3, sSeq, sRet, sIf, sSet, sSetO, sFor, sApp, sPar, sAsg, sRaise, sFld, sFrz, sBad, sTryAs, fN, fRz, tIfx, sPar3, sRaiseB, iZip, iEnu, fMet, fMkd, fMkk, fDict, fSlcL, fSort, fRc, iZipA, iEnuA, iKs, sDrop, sDput, sLput, fDget, fChain, chainK, hLst, look, peek, bo, opt, mkL, mkT, small, fnG, mkG, int2, negC, seqD, hName, hCons, hNil, hTup, par2, appD, isOw, frz, setF, ptI, isiD, notScr, env0, env0I, selfF, runB, runI, cAbs, cLen, isNone, strD, payD, tryD, noErr, cLenS, itemS, dSub, dLt, dLe, dGt, dGe, notB, isO, zipD, zipL, par3, rzD, rcD, zipA, seqB, enuA, keysD, dgetR, dlookD, isOwD, cMax, cTup, Res.bind_ok, Res.bind_err, Res.bind_bad, seq_nx, seq_rt, seq_err, bnd_ok, bnd_err, loop_nx, loop_rt, for_nil, for_cons, int_i, h]
/-- the order of one_form -/
def leT (a b : List Nat × (D × Rat)) : Bool := PySem.W.dataLe true encT (kN a.1) (kN b.1)
def srT (ts : TN) : TN := ts.mergeSort leT
theorem srT_perm (ts : TN) : (srT ts).Perm ts := List.mergeSort_perm _ _
def oneF (ts : TN) : List (List Nat × Rat) := nzT (toT (srT ts))
theorem oneF_perm (ts : TN) : (oneF ts).Perm (nzT (toT ts)) := List.Perm.filter _ ((srT_perm ts).map _)
theorem ok_sort (ts : TN) (hne : ts.length < 2 ∨ ∀ t ∈ ts, t.1 ≠ []) : okSort (ts.map fun t => kN t.1) = true := by
  unfold okSort
  rw [Bool.and_eq_true]
  constructor
  · rw [List.all_eq_true]
    intro k hk
    obtain ⟨t, _, rfl⟩ := List.mem_map.mp hk
    rw [List.all_eq_true]
    intro x hx
    obtain ⟨n, _, rfl⟩ := List.mem_map.mp hx
    rfl
  · rw [Bool.or_eq_true]
    rcases hne with h | h
    · left
      rw [List.length_map]
      exact decide_eq_true h
    · right
      rw [List.all_eq_true]
      intro k hk
      obtain ⟨t, ht, rfl⟩ := List.mem_map.mp hk
      have := h t ht
      cases hc : t.1 with
      | nil => exact absurd hc this
      | cons a r => rfl
theorem sort_eq (ts : TN) (hne : ts.length < 2 ∨ ∀ t ∈ ts, t.1 ≠ []) : cSortT (dn ts) (.bl true) = some (.lst ((srT ts).map fun t => kT t.1)) := by
  show (if okSort (ts.map fun t => kN t.1) = true then some (D.lst (((ts.map fun t => kN t.1).mergeSort (PySem.W.dataLe true encT)).map ktD)) else none) = _
  rw [if_pos (ok_sort ts hne)]
  have e : (srT ts).map (fun t => kN t.1) = (ts.map fun t => kN t.1).mergeSort (PySem.W.dataLe true encT) := List.map_mergeSort fun a _ b _ => rfl
  rw [← e, List.map_map]
  congr 2
  apply List.map_congr_left
  intro t _
  exact kt_eq t.1
theorem fo0_eq (ts : TN) (hne : ts.length < 2 ∨ ∀ t ∈ ts, t.1 ≠ []) (v1 v2 : Option B) : fr_one_form_0 [some (.sh (dn ts)), v1, v2] = forD (hName 2) (gO (neN G_Ratio___eq__) G_plain) ((srT ts).map fun t => kT t.1) [some (.sh (dn ts)), v1, v2] := by
  have e := sort_eq ts hne
  unfold fr_one_form_0 gO
  simp only [sFor, iSq, fSort, peek, fK, List.getElem?_cons_zero, List.getElem?_cons_succ, Res.bind_ok, e, opt, seqD, bnd_ok]
theorem one_form_eq {ts : TN} (hn : (ts.map (·.1)).Nodup) (hv : ∀ t ∈ ts, Nu t.2.1 t.2.2) (hl : ts.length ≤ 1000) (hne : ts.length < 2 ∨ ∀ t ∈ ts, t.1 ≠ []) : G_one_form [dn ts] = .ok (dk pl (oneF ts)) := by
  have hp := srT_perm ts
  obtain ⟨w2, e⟩ := loopO hn hv (srT ts) [] none (fun u hu => hp.mem_iff.mp hu) ((hp.map _).nodup_iff.mpr hn) (fun _ _ h => by simp at h) List.nodup_nil (by rw [hp.length_eq]; simpa using hl)
  exact runO fr_one_form_0 (dn ts) _ _ w2 ((fo0_eq ts hne _ _).trans e)
end DL.K42
namespace DL.K42
open PySem L2
/-! ### comprehensions -/
theorem lc_fm {α : Type} {h : D → Env → Option Env} {gt : Env → Res Bool} {fe : Env → Res D} {ρ : Env} (f : α → D) (k : α → Env) (b : α → Bool) (y : α → D) : ∀ (us : List α), (∀ u ∈ us, h (f u) ρ = some (k u) ∧ gt (k u) = .ok (b u) ∧ (b u = true → fe (k u) = .ok (y u))) →
    lcD h gt fe ρ (us.map f) = .ok ((us.filter b).map y)
  | [], _ => rfl
  | u :: us, hu => by
    obtain ⟨h1, h2, h3⟩ := hu u List.mem_cons_self
    have ih := lc_fm f k b y us fun x hx => hu x (List.mem_cons_of_mem _ hx)
    rw [List.map_cons]
    unfold lcD
    rw [h1]
    show (noErr (gt (k u)) >>= _) = _
    rw [h2]
    show (if b u = true then _ else _) = _
    by_cases hb : b u = true
    · rw [if_pos hb, h3 hb, List.filter_cons, if_pos hb]
      show (lcD h gt fe ρ (us.map f) >>= _) = _
      rw [ih]
      rfl
    · rw [if_neg hb, List.filter_cons, if_neg hb]
      exact ih
theorem lc_m {α : Type} {h : D → Env → Option Env} {fe : Env → Res D} {ρ : Env} (f : α → D) (k : α → Env) (y : α → D) (us : List α) (hu : ∀ u ∈ us, h (f u) ρ = some (k u) ∧ fe (k u) = .ok (y u)) : lcD h tYes' fe ρ (us.map f) = .ok (us.map y) := by
  have := lc_fm (h := h) (gt := tYes') (fe := fe) (ρ := ρ) f k (fun _ => true) y us fun u m => ⟨(hu u m).1, rfl, fun _ => (hu u m).2⟩
  rw [List.filter_eq_self.mpr (fun _ _ => rfl)] at this
  exact this
theorem mkL_ok {xs : List D} (h : xs.length ≤ 100000) : mkL xs = .ok (.lst xs) := if_pos (decide_eq_true (by omega))
/-! ### is_powers -/
def gIp (f0 : Env → Res D) : Env → RS := sSeq (sIf (tOr' (tNot' (tB' (fM (isiD ib_tuple) (peek 0)))) (tB' (fOp neD (fB cLen (lCons (peek 0) lNil)) (peek 1)))) (sRet (fK (.bl false))) .nx) (sRet (fB cAll (lCons f0 lNil)))
theorem runIp (f0 : Env → Res D) (ps : List D) (xs : List D) (h : f0 [some (.sh (.tup ps)), some (.sh (.int (ps.length : Nat))), none] = .ok (.lst xs)) (ha : cAll [.lst xs] = some (.bl true)) : runB (gIp f0) 3 [.tup ps, .int (ps.length : Nat)] = .ok (.bl true) := by
  have e : neD (.int (ps.length : Nat)) (.int (ps.length : Nat)) = some (.bl false) := by
    rw [ne_ii]
    simp
  have e1 : isiD ib_tuple (.tup ps) = .ok (.bl true) := rfl
  have e2 : cLen [.tup ps] = some (.int (ps.length : Nat)) := rfl
  have e0 : env0 3 [.tup ps, .int (ps.length : Nat)] = [some (.sh (.tup ps)), some (.sh (.int (ps.length : Nat))), none] := rfl
  unfold runB gIp
  rw [e0]
  simp only [sSeq, sIf, tOr', tNot', tB', fM, peek, fOp, fB, lCons, lNil, List.getElem?_cons_zero, List.getElem?_cons_succ, Res.bind_ok, e1, e2, e, opt, bo, bnd_ok, Bool.not_true, Bool.false_eq_true, if_false, seq_nx, sRet, h, ha]
theorem lc_ip (p : List Nat) (l : D) (hp : p.length ≤ 1000) : lc_is_powers_0 [some (.sh (kT p)), some (.sh l), none] = .ok (.lst (p.map fun _ => .bl true)) := by
  have e := lc_m (h := hName 2) (fe := vAnd (fCall 1 G_is_integer (lCons (look 2) lNil)) (fOp dGe (peek 2) (fK (.int 0)))) (ρ := [some (.sh (kT p)), some (.sh l), none]) pI (fun n => [some (.sh (kT p)), some (.sh l), some (.sh (pI n))]) (fun _ => .bl true) p fun n _ => by
    refine ⟨rfl, ?_⟩
    have e1 : G_is_integer [pI n] = .ok (.bl true) := rfl
    have e2 : dGe (pI n) (.int 0) = some (.bl true) := by
      show some (D.bl (decide ((0 : Int) ≤ ((n : Nat) : Int)))) = _
      rw [decide_eq_true (by omega)]
    simp only [vAnd, fCall, lCons, lNil, look, peek, fOp, fK, List.getElem?_cons_zero, List.getElem?_cons_succ, Res.bind_ok, fnG, List.length_cons, List.length_nil, if_true, e1, bo, e2, opt]
  unfold lc_is_powers_0
  simp only [fLc, iSq, look, List.getElem?_cons_zero, Res.bind_ok, seqD, wipeE, List.set_cons_succ, List.set_cons_zero]
  rw [e, Res.bind_ok]
  exact mkL_ok (by rw [List.length_map]; omega)
theorem bls_true {α : Type} : ∀ l : List α, bls (l.map fun _ => D.bl true) = some (l.map fun _ => true)
  | [] => rfl
  | a :: l => by
    have ih := bls_true l
    rw [List.map_cons]
    unfold bls
    rw [ih]
    rfl
theorem all_true {α : Type} (l : List α) : cAll [.lst (l.map fun _ => D.bl true)] = some (.bl true) := by
  show (bls (l.map fun _ => D.bl true)).map (fun bs => D.bl (bs.all id)) = _
  rw [bls_true]
  simp
theorem is_powers_eq (p : List Nat) (hp : p.length ≤ 1000) : G_is_powers [kT p, .int (p.length : Nat)] = .ok (.bl true) := by
  have e := runIp lc_is_powers_0 (p.map pI) (p.map fun _ => .bl true) (by rw [List.length_map]; exact lc_ip p _ hp) (all_true p)
  rw [List.length_map] at e
  exact e
/-! ### Poly -/
def gPi (Gc G1 : List D → Res D) (f0 : Env → RS) : Env → RS := sSeq (sFld nmv "fields" 0 (fB cTup (lCons (peek 1) lNil))) (sSeq (sDrop (fCall 1 Gc (lCons (fU (fldD nmv "fields") (peek 0)) lNil))) (sSeq f0 (sFld nmv "parts" 0 (fCall 1 G1 (lCons (look 2) lNil)))))
theorem runPi (Gc G1 : List D → Res D) (f0 : Env → RS) (fd fs td od : D) (w : Option B) (h0 : cTup [fd] = some fs) (h1 : Gc [fs] = .ok .non) (h2 : f0 [some (.ow (.obj 1 [fs])), some (.sh fd), some (.sh td), none] = .nx [some (.ow (.obj 1 [fs])), some (.sh fd), some (.sh td), w]) (h3 : G1 [td] = .ok od) :
    runI 1 (gPi Gc G1 f0) 4 [fd, td] = .ok [fs, od] := by
  have s1 : ∀ (a b c : Option B), setF nmv "fields" [some (.ow (.obj 1 [])), a, b, c] 0 fs = .nx [some (.ow (.obj 1 [fs])), a, b, c] := fun a b c => rfl
  have s2 : ∀ (a b c : Option B), setF nmv "parts" [some (.ow (.obj 1 [fs])), a, b, c] 0 od = .nx [some (.ow (.obj 1 [fs, od])), a, b, c] := fun a b c => rfl
  have s3 : fldD nmv "fields" (.obj 1 [fs]) = some fs := rfl
  have e0 : env0I 1 4 [fd, td] = [some (.ow (.obj 1 [])), some (.sh fd), some (.sh td), none] := rfl
  unfold runI gPi
  rw [e0]
  simp only [sSeq, sFld, fB, lCons, lNil, peek, look, List.getElem?_cons_zero, List.getElem?_cons_succ, Res.bind_ok, h0, opt, bnd_ok, s1, seq_nx, sDrop, fCall, fU, s3, fnG, List.length_cons, List.length_nil, if_true, h1, h2, h3, s2, selfF]
def gPk (Gp : List D → Res D) : Env → RS := sIf (tNot' (tB' (fCall 2 Gp (lCons (look 3) (lCons (fB cLen (lCons (fU (fldD nmv "fields") (peek 0)) lNil)) lNil))))) sBad .nx
theorem stepPk (Gp : List D → Res D) (fs k l : D) (a b : Option B) (h0 : cLen [fs] = some l) (h1 : Gp [k, l] = .ok (.bl true)) : gPk Gp [some (.ow (.obj 1 [fs])), a, b, some (.sh k)] = .nx [some (.ow (.obj 1 [fs])), a, b, some (.sh k)] := by
  have s3 : fldD nmv "fields" (.obj 1 [fs]) = some fs := rfl
  unfold gPk
  simp only [sIf, tNot', tB', fCall, lCons, lNil, look, peek, fB, fU, List.getElem?_cons_zero, List.getElem?_cons_succ, Res.bind_ok, s3, opt, h0, fnG, List.length_cons, List.length_nil, if_true, h1, bo, bnd_ok, Bool.not_true, Bool.false_eq_true, if_false]
theorem loopPk (fsl : List D) (a b : Option B) : ∀ (us : List (List Nat)) (w : Option B), (∀ p ∈ us, p.length = fsl.length) → fsl.length ≤ 1000 →
    ∃ w', forD (hName 3) (gPk G_is_powers) (us.map kT) [some (.ow (.obj 1 [.tup fsl])), a, b, w] = .nx [some (.ow (.obj 1 [.tup fsl])), a, b, w']
  | [], w, _, _ => ⟨w, rfl⟩
  | p :: us, w, h, hl => by
    obtain ⟨w', e⟩ := loopPk fsl a b us (some (.sh (kT p))) (fun x hx => h x (List.mem_cons_of_mem _ hx)) hl
    refine ⟨w', ?_⟩
    have hp := h p List.mem_cons_self
    have e1 := is_powers_eq p (by omega)
    rw [hp] at e1
    rw [List.map_cons, for_cons]
    show loopK (gPk G_is_powers [some (.ow (.obj 1 [.tup fsl])), a, b, some (.sh (kT p))]) _ = _
    rw [stepPk G_is_powers (.tup fsl) (kT p) (.int (fsl.length : Nat)) a b rfl e1, loop_nx]
    exact e
theorem keysD_eq {α : Type} (f : α → D) (ts : List (List Nat × α)) : keysD (dk f ts) = .ok ((ts.map (·.1)).map kT) := by
  show Res.ok ((ts.map fun t => kN t.1).map ktD) = _
  rw [List.map_map, List.map_map]
  congr 1
  apply List.map_congr_left
  intro t _
  exact kt_eq t.1
theorem fpk_eq {α : Type} (o td : Option B) (f : α → D) (ts : List (List Nat × α)) : fr_Poly___init___0 [o, td, some (.sh (dk f ts)), none] = forD (hName 3) (gPk G_is_powers) ((ts.map (·.1)).map kT) [o, td, some (.sh (dk f ts)), none] := by
  have e := keysD_eq f ts
  unfold fr_Poly___init___0 gPk
  simp only [sFor, iKs, look, List.getElem?_cons_zero, List.getElem?_cons_succ, Res.bind_ok, e, bnd_ok]
theorem ne_of_len {n : Nat} {ts : TN} (hn : (ts.map (·.1)).Nodup) (hl : ∀ t ∈ ts, t.1.length = n) : ts.length < 2 ∨ ∀ t ∈ ts, t.1 ≠ [] := by
  by_cases h0 : n = 0
  · left
    match ts with
    | [] => exact Nat.zero_lt_two
    | [_] => exact Nat.lt_succ_self 1
    | a :: b :: r =>
      have ha := hl a (by simp)
      have hb := hl b (by simp)
      rw [h0] at ha hb
      have ha := List.eq_nil_of_length_eq_zero ha
      have hb := List.eq_nil_of_length_eq_zero hb
      simp [ha, hb] at hn
  · right
    intro t ht e
    have := hl t ht
    rw [e] at this
    exact h0 this.symm
theorem poly_eq {fd : D} {fsl : List D} {ts : TN} (h0 : cTup [fd] = some (.tup fsl)) (h1 : G_check_fields [.tup fsl] = .ok .non) (hf : fsl.length ≤ 1000) (hn : (ts.map (·.1)).Nodup) (hv : ∀ t ∈ ts, Nu t.2.1 t.2.2) (hl : ts.length ≤ 1000) (hk : ∀ t ∈ ts, t.1.length = fsl.length) :
    G_Poly___init__ [fd, dn ts] = .ok [.tup fsl, dk pl (oneF ts)] := by
  obtain ⟨w', e⟩ := loopPk fsl (some (.sh fd)) (some (.sh (dn ts))) (ts.map (·.1)) none (fun p hp => by
    obtain ⟨t, ht, rfl⟩ := List.mem_map.mp hp
    exact hk t ht) hf
  exact runPi G_check_fields G_one_form fr_Poly___init___0 fd (.tup fsl) (dn ts) (dk pl (oneF ts)) w' h0 h1 ((fpk_eq _ _ _ _).trans e) (one_form_eq hn hv hl (ne_of_len hn hk))
end DL.K42
namespace DL.K42
open PySem L2
/-! ### numbers handed to the package -/
def mkN (b : Bool) (q : Rat) : D := if b = true then pl q else rt q
theorem mkN_nu (b : Bool) (q : Rat) : Nu (mkN b q) q := by
  unfold mkN
  split
  · exact pl_nu q
  · exact .inl rfl
def gMd (Gl : List D → Res D) (Gi : List D → Res (List D)) : Env → RS := sSeq (sAsg (fCall 1 Gl (lCons (look 0) lNil)) (hTup fun ds ρ => if ds.length = 2 then (hCons (hName 2) (hCons (hName 3) hNil)) ds ρ else none)) (sRet (fIf (tAnd' (tB' (fOp eqD (peek 3) (fK (.int 1)))) (tB' (look 1))) (look 2) (fMk 0 2 Gi (lCons (look 2) (lCons (look 3) lNil)))))
theorem runMd (Gl : List D → Res D) (Gi : List D → Res (List D)) (d t b : D) (k c : Bool) (xs : List D) (h0 : Gl [d] = .ok (.tup [t, b])) (h1 : eqD b (.int 1) = some (.bl k)) (h2 : Gi [t, b] = .ok xs) : runB (gMd Gl Gi) 4 [d, .bl c] = .ok (if (k && c) = true then t else .obj 0 xs) := by
  unfold gMd
  cases k <;> cases c <;> simp [fK, fOp, fU, fM, fIsN, fNotN, tB', tNot', tAnd', tOr', vAnd, vOr, vNot, fIf, lNil, lCons, fLst, fTup, fCall, fMk, fB, fSlc, oNo, oSo, fSplit, fLc, iSq, iR1, tYes', zF, zS, fF1, fF3, sSeq, sRet, sIf, sSet, sSetO, sFor, sApp, sPar, sAsg, sRaise, sFld, sFrz, sBad, sTryAs, fN, fRz, tIfx, sPar3, sRaiseB, iZip, iEnu, fMet, fMkd, fMkk, fDict, fSlcL, fSort, fRc, iZipA, iEnuA, iKs, sDrop, sDput, sLput, fDget, fChain, chainK, hLst, look, peek, bo, opt, mkL, mkT, small, fnG, mkG, int2, negC, seqD, hName, hCons, hNil, hTup, par2, appD, isOw, frz, setF, ptI, isiD, notScr, env0, env0I, selfF, runB, runI, cAbs, cLen, isNone, strD, payD, tryD, noErr, cLenS, itemS, dSub, dLt, dLe, dGt, dGe, notB, isO, zipD, zipL, par3, rzD, rcD, zipA, seqB, enuA, keysD, dgetR, dlookD, isOwD, cMax, cTup, Res.bind_ok, Res.bind_err, Res.bind_bad, seq_nx, seq_rt, seq_err, bnd_ok, bnd_err, loop_nx, loop_rt, for_nil, for_cons, int_i, h0, h1, h2]
theorem made_eq {a : Int} {d : Nat} (b : Bool) (hd : 0 < d) (hb : d < big) : G__law_made [pr a d, .bl b] = .ok (mkN b (mkRat a d)) := by
  have hl := low_eq a d hd hb
  generalize hq : mkRat a d = q at *
  have hle : q.den ≤ d := by
    rw [← hq]
    exact Nat.le_of_dvd hd (mk_le a (by omega)).2
  have hi := init_eq q.num q.den q.den_pos (by omega)
  rw [Rat.mkRat_self] at hi
  have e := runMd G__law_low G_Ratio___init__ (pr a d) (.int q.num) (.int (q.den : Nat)) (decide ((q.den : Int) = 1)) b [.int q.num, .int (q.den : Nat)] hl (eq_ii _ _) hi
  refine Eq.trans e ?_
  congr 1
  unfold mkN pl
  cases b with
  | false => simp
  | true =>
    by_cases h : q.den = 1
    · rw [if_pos (by simp [h]), if_pos rfl, if_pos h]
    · rw [if_neg (by simp; omega), if_pos rfl, if_neg h]
/-! ### dict(pairs) -/
theorem pairs_eq {α : Type} (f : α → D) : ∀ ts : List (List Nat × α), pairsT (ts.map fun t => .tup [kT t.1, f t.2]) = some (ts.map fun t => (kN t.1, f t.2))
  | [] => rfl
  | t :: ts => by
    rw [List.map_cons]
    unfold pairsT
    rw [keyT_eq, pairs_eq f ts]
    rfl
theorem merge_eq {α : Type} (f : α → D) : ∀ (ts acc : List (List Nat × α)), ((acc ++ ts).map (·.1)).Nodup → mergeD (acc.map (fun t => kN t.1), acc.map fun t => f t.2) (ts.map fun t => (kN t.1, f t.2)) = ((acc ++ ts).map (fun t => kN t.1), (acc ++ ts).map fun t => f t.2)
  | [], acc, _ => by
    rw [List.append_nil]
    rfl
  | t :: ts, acc, h => by
    have h' : ((acc ++ [t] ++ ts).map (·.1)).Nodup := by simpa using h
    have hacc : (acc.map (·.1)).Nodup := by
      rw [List.map_append] at h
      exact (List.nodup_append.mp h).1
    have hnew : t.1 ∉ acc.map (·.1) := by
      rw [List.map_append] at h
      intro hm
      exact (List.nodup_append.mp h).2.2 _ hm t.1 (by simp) rfl
    obtain ⟨p1, p2⟩ := put_eq f (p := t.1) (d := t.2) hacc
    have ih := merge_eq f ts (acc ++ [t]) h'
    rw [List.append_assoc, List.singleton_append] at ih
    rw [← ih]
    unfold mergeD
    rw [List.map_cons, List.foldl_cons]
    show List.foldl _ (putKs (acc.map fun t => kN t.1) (kN t.1), putXs (acc.map fun t => kN t.1) (acc.map fun t => f t.2) (kN t.1) (f t.2)) _ = _
    rw [p1, p2, putT_new hnew]
theorem dict_eq {α : Type} (f : α → D) (ts : List (List Nat × α)) (hn : (ts.map (·.1)).Nodup) (hl : ts.length ≤ 1000) : cDictT [.lst (ts.map fun t => .tup [kT t.1, f t.2])] = some (dk f ts) := by
  have e := merge_eq f ts [] (by simpa using hn)
  show (if small (ts.map fun t => D.tup [kT t.1, f t.2]).length = true then (pairsT (ts.map fun t => D.tup [kT t.1, f t.2])).map (fun l => D.dT (mergeD ([], []) l).1 (mergeD ([], []) l).2) else none) = _
  rw [if_pos (show small (ts.map fun t => D.tup [kT t.1, f t.2]).length = true from decide_eq_true (by rw [List.length_map]; omega)), pairs_eq]
  show some (D.dT (mergeD ([], []) _).1 (mergeD ([], []) _).2) = _
  have e' : mergeD ([], []) (ts.map fun t => (kN t.1, f t.2)) = (ts.map (fun t => kN t.1), ts.map fun t => f t.2) := e
  rw [e']
/-! ### handed -/
theorem keysT {α : Type} (f : α → D) (ts : List (List Nat × α)) : keysD (dk f ts) = .ok (ts.map fun t => kT t.1) := by
  rw [keysD_eq, List.map_map]
  rfl
theorem lc_ha (b : Bool) (ts : List (List Nat × Rat)) (hn : (ts.map (·.1)).Nodup) (hd : ∀ t ∈ ts, t.2.den < big) (hl : ts.length ≤ 1000) : lc__law_handed_0 [some (.sh (dk fr ts)), some (.sh (.bl b)), none] = .ok (.lst (ts.map fun t => .tup [kT t.1, mkN b t.2])) := by
  have e := lc_m (h := hName 2) (fe := fTup (lCons (look 2) (lCons (fCall 2 G__law_made (lCons (fN dgetR (peek 0) (look 2)) (lCons (look 1) lNil))) lNil))) (ρ := [some (.sh (dk fr ts)), some (.sh (.bl b)), none]) (fun t : List Nat × Rat => kT t.1) (fun t => [some (.sh (dk fr ts)), some (.sh (.bl b)), some (.sh (kT t.1))]) (fun t => .tup [kT t.1, mkN b t.2]) ts fun t ht => by
    refine ⟨rfl, ?_⟩
    have e1 := dget_at fr hn ht
    have e2 := made_eq (a := t.2.num) (d := t.2.den) b t.2.den_pos (hd t ht)
    rw [Rat.mkRat_self] at e2
    simp only [fTup, lCons, lNil, look, peek, fN, fCall, List.getElem?_cons_zero, List.getElem?_cons_succ, Res.bind_ok, e1, fnG, List.length_cons, List.length_nil, if_true, e2]
    rfl
  unfold lc__law_handed_0
  simp only [fLc, iKs, look, List.getElem?_cons_zero, Res.bind_ok, keysT, wipeE, List.set_cons_succ, List.set_cons_zero]
  rw [e, Res.bind_ok]
  exact mkL_ok (by rw [List.length_map]; omega)
theorem runH (f0 : Env → Res D) (td b x od : D) (h0 : f0 [some (.sh td), some (.sh b), none] = .ok x) (h1 : cDictT [x] = some od) : runB (sRet (fDict f0)) 3 [td, b] = .ok od := by
  simp [fK, fOp, fU, fM, fIsN, fNotN, tB', tNot', tAnd', tOr', vAnd, vOr, vNot, fIf, lNil, lCons, fLst, fTup, fCall, fMk, fB, fSlc, oNo, oSo, fSplit, fLc, iSq, iR1, tYes', zF, zS, fF1, fF3, sSeq, sRet, sIf, sSet, sSetO, sFor, sApp, sPar, sAsg, sRaise, sFld, sFrz, sBad, sTryAs, fN, fRz, tIfx, sPar3, sRaiseB, iZip, iEnu, fMet, fMkd, fMkk, fDict, fSlcL, fSort, fRc, iZipA, iEnuA, iKs, sDrop, sDput, sLput, fDget, fChain, chainK, hLst, look, peek, bo, opt, mkL, mkT, small, fnG, mkG, int2, negC, seqD, hName, hCons, hNil, hTup, par2, appD, isOw, frz, setF, ptI, isiD, notScr, env0, env0I, selfF, runB, runI, cAbs, cLen, isNone, strD, payD, tryD, noErr, cLenS, itemS, dSub, dLt, dLe, dGt, dGe, notB, isO, zipD, zipL, par3, rzD, rcD, zipA, seqB, enuA, keysD, dgetR, dlookD, isOwD, cMax, cTup, Res.bind_ok, Res.bind_err, Res.bind_bad, seq_nx, seq_rt, seq_err, bnd_ok, bnd_err, loop_nx, loop_rt, for_nil, for_cons, int_i, h0, h1]
abbrev hand (b : Bool) (ts : List (List Nat × Rat)) : TN := ts.map fun t => (t.1, (mkN b t.2, t.2))
theorem hand_keys (b : Bool) (ts : List (List Nat × Rat)) : (hand b ts).map (·.1) = ts.map (·.1) := by
  rw [List.map_map]
  rfl
theorem hand_toT (b : Bool) (ts : List (List Nat × Rat)) : toT (hand b ts) = ts := by
  show (ts.map fun t => (t.1, (mkN b t.2, t.2))).map (fun t => (t.1, t.2.2)) = ts
  rw [List.map_map]
  exact List.map_id'' (fun _ => rfl) ts
theorem handed_eq (b : Bool) {ts : List (List Nat × Rat)} (hn : (ts.map (·.1)).Nodup) (hd : ∀ t ∈ ts, t.2.den < big) (hl : ts.length ≤ 1000) : G__law_handed [dk fr ts, .bl b] = .ok (dn (hand b ts)) := by
  have e := dict_eq (mkN b) ts hn hl
  have e2 : dk (mkN b) ts = dn (hand b ts) := by
    unfold hand
    show D.dT _ _ = D.dT _ _
    rw [List.map_map, List.map_map]
    rfl
  rw [e2] at e
  exact runH lc__law_handed_0 _ _ _ _ (lc_ha b ts hn hd hl) e
/-! ### kept -/
theorem num0 (q : Rat) : q.num = 0 ↔ q = 0 := ⟨fun h => by rw [← Rat.mkRat_self q, h]; simp, fun h => by rw [h]; rfl⟩
theorem lc_ke (ts : List (List Nat × Rat)) (hn : (ts.map (·.1)).Nodup) (hl : ts.length ≤ 1000) : lc__law_kept_0 [some (.sh (dk fr ts)), none] = .ok (.lst ((nzT ts).map fun t => .tup [kT t.1, fr t.2])) := by
  have e := lc_fm (h := hName 1) (gt := tB' (fOp neD (fOp itemD (fN dgetR (peek 0) (look 1)) (fK (.int 0))) (fK (.int 0)))) (fe := fTup (lCons (look 1) (lCons (fN dgetR (peek 0) (look 1)) lNil))) (ρ := [some (.sh (dk fr ts)), none]) (fun t : List Nat × Rat => kT t.1) (fun t => [some (.sh (dk fr ts)), some (.sh (kT t.1))]) (fun t => decide (t.2 ≠ 0)) (fun t => .tup [kT t.1, fr t.2]) ts fun t ht => by
    have e1 := dget_at fr hn ht
    refine ⟨rfl, ?_, fun _ => ?_⟩
    · have e2 := ne_ii t.2.num 0
      have e3 : (!decide (t.2.num = 0)) = decide (t.2 ≠ 0) := by simp [num0]
      rw [e3] at e2
      simp only [tB', fOp, fN, fK, look, peek, List.getElem?_cons_zero, List.getElem?_cons_succ, Res.bind_ok, e1, it0, opt, e2, bo]
    · simp only [fTup, lCons, lNil, look, peek, fN, List.getElem?_cons_zero, List.getElem?_cons_succ, Res.bind_ok, e1]
      rfl
  unfold lc__law_kept_0
  simp only [fLc, iKs, look, List.getElem?_cons_zero, Res.bind_ok, keysT, wipeE, List.set_cons_succ, List.set_cons_zero]
  rw [e, Res.bind_ok]
  exact mkL_ok (by
    rw [List.length_map]
    have := List.length_filter_le (fun t : List Nat × Rat => decide (t.2 ≠ 0)) ts
    omega)
theorem runKe (f0 : Env → Res D) (td x od : D) (h0 : f0 [some (.sh td), none] = .ok x) (h1 : cDictT [x] = some od) : runB (sRet (fDict f0)) 2 [td] = .ok od := by
  simp [fK, fOp, fU, fM, fIsN, fNotN, tB', tNot', tAnd', tOr', vAnd, vOr, vNot, fIf, lNil, lCons, fLst, fTup, fCall, fMk, fB, fSlc, oNo, oSo, fSplit, fLc, iSq, iR1, tYes', zF, zS, fF1, fF3, sSeq, sRet, sIf, sSet, sSetO, sFor, sApp, sPar, sAsg, sRaise, sFld, sFrz, sBad, sTryAs, fN, fRz, tIfx, sPar3, sRaiseB, iZip, iEnu, fMet, fMkd, fMkk, fDict, fSlcL, fSort, fRc, iZipA, iEnuA, iKs, sDrop, sDput, sLput, fDget, fChain, chainK, hLst, look, peek, bo, opt, mkL, mkT, small, fnG, mkG, int2, negC, seqD, hName, hCons, hNil, hTup, par2, appD, isOw, frz, setF, ptI, isiD, notScr, env0, env0I, selfF, runB, runI, cAbs, cLen, isNone, strD, payD, tryD, noErr, cLenS, itemS, dSub, dLt, dLe, dGt, dGe, notB, isO, zipD, zipL, par3, rzD, rcD, zipA, seqB, enuA, keysD, dgetR, dlookD, isOwD, cMax, cTup, Res.bind_ok, Res.bind_err, Res.bind_bad, seq_nx, seq_rt, seq_err, bnd_ok, bnd_err, loop_nx, loop_rt, for_nil, for_cons, int_i, h0, h1]
theorem nz_nodup {ts : List (List Nat × Rat)} (hn : (ts.map (·.1)).Nodup) : ((nzT ts).map (·.1)).Nodup := List.Nodup.sublist ((List.filter_sublist).map _) hn
theorem kept_eq {ts : List (List Nat × Rat)} (hn : (ts.map (·.1)).Nodup) (hl : ts.length ≤ 1000) : G__law_kept [dk fr ts] = .ok (dk fr (nzT ts)) := by
  have : (nzT ts).length ≤ ts.length := List.length_filter_le (fun t : List Nat × Rat => decide (t.2 ≠ 0)) ts
  exact runKe lc__law_kept_0 _ _ _ (lc_ke ts hn hl) (dict_eq fr (nzT ts) (nz_nodup hn) (by omega))
end DL.K42
namespace DL.K42
open PySem L2
/-! ### multiplied -/
abbrev hZ : D → Env → Option Env := hTup fun ds ρ => if ds.length = 2 then (hCons (hName 6) (hCons (hName 7) hNil)) ds ρ else none
theorem zw_map : ∀ (p q : List Nat), (p.zip q).map (fun x => pI (x.1 + x.2)) = (zw p q).map pI
  | [], _ => by simp
  | _ :: _, [] => by simp
  | a :: p, b :: q => by
    rw [List.zip_cons_cons, List.map_cons, zw_map p q]
    rfl
theorem lc_mu (d0 d1 d2 v5 v6 v7 : Option B) (p q : List Nat) (hl : p.length ≤ 1000) : lc_multiplied_0 [d0, d1, d2, some (.sh (kT p)), some (.sh (kT q)), v5, v6, v7] = .ok (.lst ((zw p q).map pI)) := by
  have e := lc_m (h := hZ) (fe := fOp addA (peek 6) (peek 7)) (ρ := [d0, d1, d2, some (.sh (kT p)), some (.sh (kT q)), v5, none, none]) (fun x : Nat × Nat => .tup [pI x.1, pI x.2]) (fun x => [d0, d1, d2, some (.sh (kT p)), some (.sh (kT q)), v5, some (.sh (pI x.1)), some (.sh (pI x.2))]) (fun x => pI (x.1 + x.2)) (p.zip q) fun x _ => by
    refine ⟨rfl, ?_⟩
    simp only [fOp, peek, List.getElem?_cons_zero, List.getElem?_cons_succ, Res.bind_ok, addA, opt]
    rw [← Int.natCast_add]
  have ez : zipA [kT p, kT q] = .ok ((p.zip q).map fun x => .tup [pI x.1, pI x.2]) := by
    show Res.ok (zipL (p.map pI) (q.map pI)) = _
    unfold zipL
    rw [List.zip_map, List.map_map]
    rfl
  unfold lc_multiplied_0
  simp only [fLc, iZipA, lCons, lNil, look, List.getElem?_cons_zero, List.getElem?_cons_succ, Res.bind_ok, ez, wipeE, List.set_cons_succ, List.set_cons_zero]
  rw [e, Res.bind_ok, zw_map]
  exact mkL_ok (by
    rw [List.length_map, List.length_zipWith]
    omega)
def gM (f0 : Env → Res D) (nA nM : D → D → Res D) : Env → RS := sSeq (sSet 5 (fB cTup (lCons f0 lNil))) (sDput 2 (look 5) (fN nA (fDget (peek 2) (look 5) (fK (.int 0))) (fN nM (fN dgetR (peek 0) (look 3)) (fN dgetR (peek 1) (look 4)))))
theorem stepM (f0 : Env → Res D) (nA nM : D → D → Res D) (d0 d1 k3 k4 x1 x2 z y g : D) (l : List D) (ks : List (List Key)) (xs : List D) (kk : List Key) (v5 v6 v7 : Option B)
    (h0 : f0 [some (.sh d0), some (.sh d1), some (.ow (.dT ks xs)), some (.sh k3), some (.sh k4), v5, v6, v7] = .ok (.lst l)) (hg : dgetO (.dT ks xs) (.tup l) (.int 0) = .ok g) (h1 : dgetR d0 k3 = .ok x1) (h2 : dgetR d1 k4 = .ok x2) (h3 : nM x1 x2 = .ok z) (h4 : nA g z = .ok y) (hk : keyT (.tup l) = some kk) (hs : small (ks.length + 1) = true) :
    gM f0 nA nM [some (.sh d0), some (.sh d1), some (.ow (.dT ks xs)), some (.sh k3), some (.sh k4), v5, v6, v7] = .nx [some (.sh d0), some (.sh d1), some (.ow (.dT (putKs ks kk) (putXs ks xs kk y))), some (.sh k3), some (.sh k4), some (.sh (.tup l)), v6, v7] := by
  have e : putE 2 [some (.sh d0), some (.sh d1), some (.ow (.dT ks xs)), some (.sh k3), some (.sh k4), some (.sh (.tup l)), v6, v7] (.tup l) y = .nx [some (.sh d0), some (.sh d1), some (.ow (.dT (putKs ks kk) (putXs ks xs kk y))), some (.sh k3), some (.sh k4), some (.sh (.tup l)), v6, v7] := by
    show (match keyT (.tup l) with
      | some k => if small (ks.length + 1) = true then RS.nx _ else .bad
      | none => .bad) = _
    rw [hk]
    show (if small (ks.length + 1) = true then RS.nx _ else RS.bad) = _
    rw [if_pos hs]
    rfl
  have e2 : isOwD 2 [some (.sh d0), some (.sh d1), some (.ow (.dT ks xs)), some (.sh k3), some (.sh k4), some (.sh (.tup l)), v6, v7] = .ok () := rfl
  have e3 : isDc (.dT ks xs) = .ok () := rfl
  have e4 : cTup [.lst l] = some (.tup l) := rfl
  unfold gM
  simp only [sSeq, sSet, fB, lCons, lNil, h0, Res.bind_ok, e4, opt, bnd_ok, List.set_cons_succ, List.set_cons_zero, seq_nx, sDput, fN, fDget, fK, peek, look, List.getElem?_cons_zero, List.getElem?_cons_succ, e3, hg, h1, h2, h3, h4, e2, e]
theorem find_key (acc : TN) (p : List Nat) : (p ∉ acc.map (·.1)) ∨ ∃ v, (p, v) ∈ acc := by
  by_cases h : p ∈ acc.map (·.1)
  · right
    obtain ⟨t, ht, rfl⟩ := List.mem_map.mp h
    exact ⟨t.2, ht⟩
  · exact .inl h
theorem val_no {α : Type} (f : α → D) : ∀ {ts : List (List Nat × α)} {p : List Nat}, p ∉ ts.map (·.1) → valD (ts.map fun t => kN t.1) (ts.map fun t => f t.2) (kN p) = none
  | [], p, _ => rfl
  | t :: ts, p, h => by
    have h1 : decide (kN t.1 = kN p) = false := decide_eq_false fun e => h (by rw [← kN_inj e]; exact List.mem_cons_self)
    have ih := val_no f (ts := ts) (p := p) fun m => h (List.mem_cons_of_mem _ m)
    unfold valD at ih ⊢
    rw [List.map_cons, List.map_cons, List.zip_cons_cons, List.find?_cons, h1]
    exact ih
theorem dgetO_no {α : Type} (f : α → D) {ts : List (List Nat × α)} {p : List Nat} (z : D) (h : p ∉ ts.map (·.1)) : dgetO (dk f ts) (kT p) z = .ok z := by
  have e : dlookD (dk f ts) (kT p) = (keyT (kT p)).map (valD (ts.map fun t => kN t.1) (ts.map fun t => f t.2)) := rfl
  unfold dgetO
  rw [e, keyT_eq, Option.map_some, val_no f h]
theorem dgetO_at {α : Type} (f : α → D) {ts : List (List Nat × α)} {p : List Nat} {c : α} (z : D) (hn : (ts.map (·.1)).Nodup) (h : (p, c) ∈ ts) : dgetO (dk f ts) (kT p) z = .ok (f c) := by
  have e : dlookD (dk f ts) (kT p) = (keyT (kT p)).map (valD (ts.map fun t => kN t.1) (ts.map fun t => f t.2)) := rfl
  unfold dgetO
  rw [e, keyT_eq, Option.map_some, val_at f hn h]
theorem put_mem {α : Type} {p : List Nat} {d : α} : ∀ {l : List (List Nat × α)} {t : List Nat × α}, t ∈ putT l p d → t = (p, d) ∨ t ∈ l
  | [], t, h => by
    left
    simpa [putT] using h
  | a :: r, t, h => by
    unfold putT at h
    split at h
    · rcases List.mem_cons.mp h with h | h
      · exact .inl h
      · exact .inr (List.mem_cons_of_mem _ h)
    · rcases List.mem_cons.mp h with h | h
      · exact .inr (by rw [h]; exact List.mem_cons_self)
      · rcases put_mem h with h | h
        · exact .inl h
        · exact .inr (List.mem_cons_of_mem _ h)
theorem put_len {α : Type} {p : List Nat} {d : α} : ∀ (l : List (List Nat × α)), (putT l p d).length ≤ l.length + 1
  | [] => by simp [putT]
  | a :: r => by
    have := put_len (p := p) (d := d) r
    unfold putT
    split
    · simp
    · simp
      omega
theorem put_keys {α : Type} {p : List Nat} {d : α} : ∀ (l : List (List Nat × α)), ∀ k ∈ (putT l p d).map (·.1), k = p ∨ k ∈ l.map (·.1) := fun l k hk => by
  obtain ⟨t, ht, rfl⟩ := List.mem_map.mp hk
  rcases put_mem ht with h | h
  · left
    rw [h]
  · exact .inr (List.mem_map.mpr ⟨t, h, rfl⟩)
theorem put_nodup {α : Type} {p : List Nat} {d : α} : ∀ {l : List (List Nat × α)}, (l.map (·.1)).Nodup → ((putT l p d).map (·.1)).Nodup
  | [], _ => by simp [putT]
  | a :: r, h => by
    rw [List.map_cons, List.nodup_cons] at h
    unfold putT
    split
    · rename_i e
      rw [List.map_cons, List.nodup_cons]
      rw [e] at h
      exact h
    · rename_i e
      rw [List.map_cons, List.nodup_cons]
      refine ⟨fun m => ?_, put_nodup h.2⟩
      rcases put_keys r _ m with q | q
      · exact e q
      · exact h.1 q
theorem put_addT {y : D} {c0 c : Rat} {p : List Nat} : ∀ {acc : TN} {x : D}, (acc.map (·.1)).Nodup → (p, (x, c0)) ∈ acc → toT (putT acc p (y, c0 + c)) = addT (toT acc) p c
  | [], x, _, h => by simp at h
  | a :: r, x, hn, h => by
    rw [List.map_cons, List.nodup_cons] at hn
    unfold putT
    show _ = addT ((a.1, a.2.2) :: toT r) p c
    unfold addT
    split
    · rename_i e
      rcases List.mem_cons.mp h with h | h
      · rw [← h]
        rfl
      · exact absurd (List.mem_map.mpr ⟨_, h, rfl⟩) (by rw [← e] at *; exact hn.1)
    · rename_i e
      rcases List.mem_cons.mp h with h | h
      · exact absurd (by rw [← h]) e
      · rw [← put_addT hn.2 h]
        rfl
theorem put_addN {y : D} {c : Rat} {p : List Nat} : ∀ {acc : TN}, p ∉ acc.map (·.1) → toT (putT acc p (y, c)) = addT (toT acc) p c
  | [], _ => rfl
  | a :: r, h => by
    have h1 : ¬ a.1 = p := fun e => h (by rw [← e]; exact List.mem_cons_self)
    unfold putT
    show _ = addT ((a.1, a.2.2) :: toT r) p c
    unfold addT
    rw [if_neg h1, if_neg h1, ← put_addN (acc := r) (y := y) fun m => h (List.mem_cons_of_mem _ m)]
    rfl
/-- what holds of terms that are summed up -/
structure Acc (n P M k : Nat) (acc : TN) : Prop where
  nd : (acc.map (·.1)).Nodup
  at_ : ∀ t ∈ acc, t.1.length = n ∧ (∀ e ∈ t.1, e ≤ P) ∧ Nu t.2.1 t.2.2 ∧ Sz M k t.2.2
/-- a summand at p -/
theorem Acc.put {n P M k m : Nat} {acc : TN} {p : List Nat} {z : D} {c : Rat} (h : Acc n P M k acc) (hp : p.length = n) (hP : ∀ e ∈ p, e ≤ P) (hz : Nu z c) (hc : Sz m k c) (o : M + m + 1 ≤ lm) (ok : k + k ≤ lk) (hm : m ≤ M + m + 6 * (k + k) + 1) :
    ∃ g y v, dgetO (dn acc) (kT p) (.int 0) = .ok g ∧ nAdd g z = .ok y ∧ y = v.1 ∧ Acc n P (M + m + 6 * (k + k) + 1) k (putT acc p v) ∧ toT (putT acc p v) = addT (toT acc) p c := by
  have om : _ ≤ 400000 := o
  have ok' : _ ≤ 220 := ok
  rcases find_key acc p with h0 | ⟨⟨x, c0⟩, h0⟩
  · obtain ⟨y, e1, e2⟩ := nAdd_eq (x := .int 0) (p := 0) (m := 1) (k := 0) (.inr ⟨0, rfl, rfl⟩) ⟨by decide, Nat.one_dvd _⟩ hz hc ⟨by show 1 + m ≤ 400000; omega, by show 0 + k ≤ 220; omega⟩
    rw [Rat.zero_add] at e2
    refine ⟨.int 0, y, (y, c), dgetO_no Prod.fst _ h0, e1, rfl, ⟨put_nodup h.nd, fun t ht => ?_⟩, put_addN h0⟩
    rcases put_mem ht with rfl | ht
    · exact ⟨hp, hP, e2, hc.mono hm (Nat.le_refl _)⟩
    · obtain ⟨a1, a2, a3, a4⟩ := h.at_ t ht
      exact ⟨a1, a2, a3, a4.mono (by omega) (Nat.le_refl _)⟩
  · obtain ⟨a1, a2, a3, a4⟩ := h.at_ _ h0
    obtain ⟨y, e1, e2⟩ := nAdd_eq a3 a4 hz hc ⟨by show M + m ≤ 400000; omega, ok⟩
    refine ⟨x, y, (y, c0 + c), dgetO_at Prod.fst _ h.nd h0, e1, rfl, ⟨put_nodup h.nd, fun t ht => ?_⟩, put_addT h.nd h0⟩
    rcases put_mem ht with rfl | ht
    · exact ⟨hp, hP, e2, a4.addM hc⟩
    · obtain ⟨a1, a2, a3, a4⟩ := h.at_ t ht
      exact ⟨a1, a2, a3, a4.mono (by omega) (Nat.le_refl _)⟩
end DL.K42
namespace DL.K42
open PySem L2
/-- terms of a polynomial: n powers each, up to P, numbers of some size -/
structure Tms (n P m k : Nat) (ts : List (List Nat × Rat)) : Prop where
  nd : (ts.map (·.1)).Nodup
  at_ : ∀ t ∈ ts, t.1.length = n ∧ (∀ e ∈ t.1, e ≤ P) ∧ Sz m k t.2
theorem zw_le {P Q : Nat} : ∀ {p q : List Nat}, (∀ e ∈ p, e ≤ P) → (∀ e ∈ q, e ≤ Q) → ∀ e ∈ zw p q, e ≤ P + Q
  | [], _, _, _, e, h => by simp at h
  | _ :: _, [], _, _, e, h => by simp at h
  | a :: p, b :: q, hp, hq, e, h => by
    have h' : e ∈ (a + b) :: zw p q := h
    rcases List.mem_cons.mp h' with rfl | h
    · have := hp a List.mem_cons_self
      have := hq b List.mem_cons_self
      omega
    · exact zw_le (fun e he => hp e (List.mem_cons_of_mem _ he)) (fun e he => hq e (List.mem_cons_of_mem _ he)) e h
abbrev stM (m k : Nat) : Nat := m + 6 * (k + k) + 1
theorem mul1Loop {n P1 P2 m1 k1 m2 k2 : Nat} {one other : List (List Nat × Rat)} (h1 : Tms n P1 m1 k1 one) (h2 : Tms n P2 m2 k2 other) (hn : n ≤ 1000) (hk : (k1 + k2) + (k1 + k2) ≤ lk) {t : List Nat × Rat} (ht : t ∈ one) :
    ∀ (us : List (List Nat × Rat)) (acc : TN) (M : Nat) (v4 v5 v6 v7 : Option B), (∀ u ∈ us, u ∈ other) → Acc n (P1 + P2) M (k1 + k2) acc → M + us.length * stM (m1 + m2) (k1 + k2) ≤ lm → acc.length + us.length ≤ 1000 →
      ∃ acc' w4 w5 w6 w7, forD (hName 4) (gM lc_multiplied_0 nAdd nMul) (us.map fun t => kT t.1) [some (.sh (dk pl one)), some (.sh (dk pl other)), some (.ow (dn acc)), some (.sh (kT t.1)), v4, v5, v6, v7] = .nx [some (.sh (dk pl one)), some (.sh (dk pl other)), some (.ow (dn acc')), some (.sh (kT t.1)), w4, w5, w6, w7]
        ∧ Acc n (P1 + P2) (M + us.length * stM (m1 + m2) (k1 + k2)) (k1 + k2) acc' ∧ toT acc' = mulT1 t (toT acc) us ∧ acc'.length ≤ acc.length + us.length
  | [], acc, M, v4, v5, v6, v7, _, ha, _, _ => ⟨acc, v4, v5, v6, v7, rfl, by simpa using ha, rfl, by simp⟩
  | u :: us, acc, M, v4, v5, v6, v7, hu, ha, hm, hl => by
    have hin := hu u List.mem_cons_self
    obtain ⟨t1, t2, t3⟩ := h1.at_ t ht
    obtain ⟨u1, u2, u3⟩ := h2.at_ u hin
    rw [List.length_cons, Nat.succ_mul us.length] at hm
    rw [List.length_cons] at hl
    have hk' : _ ≤ 220 := hk
    have hm' : _ ≤ 400000 := hm
    obtain ⟨z, z1, z2⟩ := nMul_eq (pl_nu t.2) t3 (pl_nu u.2) u3 ⟨by show _ ≤ 400000; unfold stM at hm'; omega, by show _ ≤ 220; omega⟩
    have hp : (zw t.1 u.1).length = n := by
      rw [List.length_zipWith, t1, u1]
      exact Nat.min_self n
    obtain ⟨g, y, v, g1, g2, g3, g4, g5⟩ := ha.put hp (zw_le t2 u2) z2 (t3.mul u3) (by show _ ≤ 400000; unfold stM at hm'; omega) hk (by omega)
    obtain ⟨q1, q2⟩ := put_eq Prod.fst (p := zw t.1 u.1) (d := v) ha.nd
    have es := stepM lc_multiplied_0 nAdd nMul (dk pl one) (dk pl other) (kT t.1) (kT u.1) (pl t.2) (pl u.2) z y g ((zw t.1 u.1).map pI) (acc.map fun t => kN t.1) (acc.map fun t => t.2.1) (kN (zw t.1 u.1)) v5 v6 v7 (lc_mu _ _ _ _ _ _ _ _ (by omega)) g1 (dget_at pl h1.nd ht) (dget_at pl h2.nd hin) z1 g2 (keyT_eq _) (by
      rw [List.length_map]
      exact decide_eq_true (by omega))
    rw [g3, q1, q2] at es
    obtain ⟨acc', w4, w5, w6, w7, e, b1, b2, b3⟩ := mul1Loop h1 h2 hn hk ht us (putT acc (zw t.1 u.1) v) (M + stM (m1 + m2) (k1 + k2)) (some (.sh (kT u.1))) (some (.sh (kT (zw t.1 u.1)))) v6 v7 (fun x hx => hu x (List.mem_cons_of_mem _ hx)) (by
      have ee : M + stM (m1 + m2) (k1 + k2) = M + (m1 + m2) + 6 * (k1 + k2 + (k1 + k2)) + 1 := by unfold stM; omega
      rw [ee]
      exact g4) (by omega) (by
      have := put_len (p := zw t.1 u.1) (d := v) acc
      omega)
    refine ⟨acc', w4, w5, w6, w7, ?_, ?_, ?_, ?_⟩
    · rw [List.map_cons, for_cons]
      show loopK (gM lc_multiplied_0 nAdd nMul [some (.sh (dk pl one)), some (.sh (dk pl other)), some (.ow (dn acc)), some (.sh (kT t.1)), some (.sh (kT u.1)), v5, v6, v7]) _ = _
      rw [es, loop_nx]
      exact e
    · have ee : M + stM (m1 + m2) (k1 + k2) + us.length * stM (m1 + m2) (k1 + k2) = M + (u :: us).length * stM (m1 + m2) (k1 + k2) := by
        rw [List.length_cons, Nat.succ_mul us.length]
        omega
      rw [← ee]
      exact b1
    · rw [b2, g5]
      rfl
    · have := put_len (p := zw t.1 u.1) (d := v) acc
      rw [List.length_cons]
      omega
theorem fm1_eq (d0 : Option B) (other : List (List Nat × Rat)) (d2 d3 v4 v5 v6 v7 : Option B) : fr_multiplied_1 [d0, some (.sh (dk pl other)), d2, d3, v4, v5, v6, v7] = forD (hName 4) (gM lc_multiplied_0 nAdd nMul) (other.map fun t => kT t.1) [d0, some (.sh (dk pl other)), d2, d3, v4, v5, v6, v7] := by
  have e := keysT pl other
  unfold fr_multiplied_1 gM
  simp only [sFor, iKs, look, List.getElem?_cons_zero, List.getElem?_cons_succ, Res.bind_ok, e, bnd_ok]
theorem fm2_eq (one : List (List Nat × Rat)) (d1 d2 v3 v4 v5 v6 v7 : Option B) : fr_multiplied_2 [some (.sh (dk pl one)), d1, d2, v3, v4, v5, v6, v7] = forD (hName 3) fr_multiplied_1 (one.map fun t => kT t.1) [some (.sh (dk pl one)), d1, d2, v3, v4, v5, v6, v7] := by
  have e := keysT pl one
  unfold fr_multiplied_2
  simp only [sFor, iKs, look, List.getElem?_cons_zero, List.getElem?_cons_succ, Res.bind_ok, e, bnd_ok]
theorem mul2Loop {n P1 P2 m1 k1 m2 k2 : Nat} {one other : List (List Nat × Rat)} (h1 : Tms n P1 m1 k1 one) (h2 : Tms n P2 m2 k2 other) (hn : n ≤ 1000) (hk : (k1 + k2) + (k1 + k2) ≤ lk) :
    ∀ (ts : List (List Nat × Rat)) (acc : TN) (M : Nat) (v3 v4 v5 v6 v7 : Option B), (∀ u ∈ ts, u ∈ one) → Acc n (P1 + P2) M (k1 + k2) acc → M + ts.length * (other.length * stM (m1 + m2) (k1 + k2)) ≤ lm → acc.length + ts.length * other.length ≤ 1000 →
      ∃ acc' w3 w4 w5 w6 w7, forD (hName 3) fr_multiplied_1 (ts.map fun t => kT t.1) [some (.sh (dk pl one)), some (.sh (dk pl other)), some (.ow (dn acc)), v3, v4, v5, v6, v7] = .nx [some (.sh (dk pl one)), some (.sh (dk pl other)), some (.ow (dn acc')), w3, w4, w5, w6, w7]
        ∧ Acc n (P1 + P2) (M + ts.length * (other.length * stM (m1 + m2) (k1 + k2))) (k1 + k2) acc' ∧ toT acc' = mulT (toT acc) other ts ∧ acc'.length ≤ acc.length + ts.length * other.length
  | [], acc, M, v3, v4, v5, v6, v7, _, ha, _, _ => ⟨acc, v3, v4, v5, v6, v7, rfl, by simpa using ha, rfl, by simp⟩
  | t :: ts, acc, M, v3, v4, v5, v6, v7, hu, ha, hm, hl => by
    have hin := hu t List.mem_cons_self
    rw [List.length_cons, Nat.succ_mul ts.length] at hm hl
    obtain ⟨a1, x4, x5, x6, x7, e1, c1, c2, c3⟩ := mul1Loop h1 h2 hn hk hin other acc M v4 v5 v6 v7 (fun u hu => hu) ha (by omega) (by omega)
    obtain ⟨acc', w3, w4, w5, w6, w7, e, b1, b2, b3⟩ := mul2Loop h1 h2 hn hk ts a1 (M + other.length * stM (m1 + m2) (k1 + k2)) (some (.sh (kT t.1))) x4 x5 x6 x7 (fun x hx => hu x (List.mem_cons_of_mem _ hx)) c1 (by omega) (by omega)
    refine ⟨acc', w3, w4, w5, w6, w7, ?_, ?_, ?_, ?_⟩
    · rw [List.map_cons, for_cons]
      show loopK (fr_multiplied_1 [some (.sh (dk pl one)), some (.sh (dk pl other)), some (.ow (dn acc)), some (.sh (kT t.1)), v4, v5, v6, v7]) _ = _
      rw [fm1_eq, e1, loop_nx]
      exact e
    · have ee : M + other.length * stM (m1 + m2) (k1 + k2) + ts.length * (other.length * stM (m1 + m2) (k1 + k2)) = M + (t :: ts).length * (other.length * stM (m1 + m2) (k1 + k2)) := by
        rw [List.length_cons, Nat.succ_mul ts.length]
        omega
      rw [← ee]
      exact b1
    · rw [b2, c2]
      rfl
    · rw [List.length_cons, Nat.succ_mul ts.length]
      omega
theorem runMu (f0 : Env → RS) (d0 d1 : D) (ks : List (List Key)) (xs : List D) (w3 w4 w5 w6 w7 : Option B) (h : f0 [some (.sh d0), some (.sh d1), some (.ow (.dT [] [])), none, none, none, none, none] = .nx [some (.sh d0), some (.sh d1), some (.ow (.dT ks xs)), w3, w4, w5, w6, w7]) :
    runB (sSeq (sSetO 2 (fK (.dT [] []))) (sSeq f0 (sFrz 2 (sRet (look 2))))) 8 [d0, d1] = .ok (.dT ks xs) := by
  simp [fK, fOp, fU, fM, fIsN, fNotN, tB', tNot', tAnd', tOr', vAnd, vOr, vNot, fIf, lNil, lCons, fLst, fTup, fCall, fMk, fB, fSlc, oNo, oSo, fSplit, fLc, iSq, iR1, tYes', zF, zS, fF1, fF3, sSeq, sRet, sIf, sSet, sSetO, sFor, sApp, sPar, sAsg, sRaise, sFld, sFrz, sBad, sTryAs, fN, fRz, tIfx, sPar3, sRaiseB, iZip, iEnu, fMet, fMkd, fMkk, fDict, fSlcL, fSort, fRc, iZipA, iEnuA, iKs, sDrop, sDput, sLput, fDget, fChain, chainK, hLst, look, peek, bo, opt, mkL, mkT, small, fnG, mkG, int2, negC, seqD, hName, hCons, hNil, hTup, par2, appD, isOw, frz, setF, ptI, isiD, notScr, env0, env0I, selfF, runB, runI, cAbs, cLen, isNone, strD, payD, tryD, noErr, cLenS, itemS, dSub, dLt, dLe, dGt, dGe, notB, isO, zipD, zipL, par3, rzD, rcD, zipA, seqB, enuA, keysD, dgetR, dlookD, isOwD, cMax, cTup, Res.bind_ok, Res.bind_err, Res.bind_bad, seq_nx, seq_rt, seq_err, bnd_ok, bnd_err, loop_nx, loop_rt, for_nil, for_cons, int_i, h]
theorem multiplied_eq {n P1 P2 m1 k1 m2 k2 : Nat} {one other : List (List Nat × Rat)} (h1 : Tms n P1 m1 k1 one) (h2 : Tms n P2 m2 k2 other) (hn : n ≤ 1000) (hk : (k1 + k2) + (k1 + k2) ≤ lk) (hm : one.length * (other.length * stM (m1 + m2) (k1 + k2)) ≤ lm) (hl : one.length * other.length ≤ 1000) :
    ∃ acc, G_multiplied [dk pl one, dk pl other] = .ok (dn acc) ∧ Acc n (P1 + P2) (one.length * (other.length * stM (m1 + m2) (k1 + k2))) (k1 + k2) acc ∧ toT acc = mulT [] other one ∧ acc.length ≤ one.length * other.length := by
  obtain ⟨acc', w3, w4, w5, w6, w7, e, b1, b2, b3⟩ := mul2Loop h1 h2 hn hk one [] 0 none none none none none (fun u hu => hu) ⟨List.nodup_nil, fun t ht => by simp at ht⟩ (by omega) (by simpa using hl)
  refine ⟨acc', ?_, by simpa using b1, b2, by simpa using b3⟩
  exact runMu fr_multiplied_2 _ _ _ _ w3 w4 w5 w6 w7 ((fm2_eq one _ _ _ _ _ _ _).trans e)
/-! ### the polynomial of some terms -/
theorem oneF_tms {n P M k : Nat} {acc : TN} (h : Acc n P M k acc) : Tms n P M k (oneF acc) := by
  have hp := oneF_perm acc
  refine ⟨(hp.map _).nodup_iff.mpr ?_, fun t ht => ?_⟩
  · have : ((toT acc).map (·.1)).Nodup := by
      rw [List.map_map]
      exact h.nd
    exact nz_nodup this
  · have h1 := hp.mem_iff.mp ht
    have h2 := (List.mem_filter.mp h1).1
    obtain ⟨u, hu, rfl⟩ := List.mem_map.mp h2
    obtain ⟨a1, a2, a3, a4⟩ := h.at_ u hu
    exact ⟨a1, a2, a4⟩
theorem oneF_len (acc : TN) : (oneF acc).length ≤ acc.length := by
  rw [(oneF_perm acc).length_eq]
  have := List.length_filter_le (fun t : List Nat × Rat => decide (t.2 ≠ 0)) (toT acc)
  rw [List.length_map] at this
  exact this
theorem oneF_evs (vs : List Rat) (acc : TN) : evs vs 0 (oneF acc) = evs vs 0 (toT acc) := (evs_perm vs (oneF_perm acc)).trans (evs_drop vs _)
def gMm (Gi : List D → Res (List D)) (Gm Gb : List D → Res D) : Env → RS := sRet (fMk 1 2 Gi (lCons (fU (fldD nmv "fields") (peek 0)) (lCons (fCall 2 Gm (lCons (fU (fldD nmv "parts") (peek 0)) (lCons (fCall 2 Gb (lCons (look 0) (lCons (look 1) lNil))) lNil))) lNil)))
theorem runMm (Gi : List D → Res (List D)) (Gm Gb : List D → Res D) (fs a q b m : D) (xs : List D) (h0 : Gb [poly fs a, q] = .ok b) (h1 : Gm [a, b] = .ok m) (h2 : Gi [fs, m] = .ok xs) : runB (gMm Gi Gm Gb) 2 [poly fs a, q] = .ok (.obj 1 xs) := by
  have e0 : env0 2 [poly fs a, q] = [some (.sh (poly fs a)), some (.sh q)] := rfl
  unfold runB gMm
  rw [e0]
  simp only [sRet, fMk, lCons, lNil, fU, fCall, peek, look, List.getElem?_cons_zero, List.getElem?_cons_succ, Res.bind_ok, fldF, fldP, opt, fnG, List.length_cons, List.length_nil, if_true, h0, h1, mkG, h2, bnd_ok]
theorem beside_eq (fs a b : D) (h : neD fs fs = some (.bl false)) : G_parts_beside [poly fs a, poly fs b] = .ok b := by
  have e0 : env0 2 [poly fs a, poly fs b] = [some (.sh (poly fs a)), some (.sh (poly fs b))] := rfl
  have e1 : isiD ib_c1 (poly fs b) = .ok (.bl true) := rfl
  unfold G_parts_beside runB g_parts_beside
  rw [e0]
  simp only [sSeq, sIf, tNot', tB', fM, fOp, fU, peek, List.getElem?_cons_zero, List.getElem?_cons_succ, Res.bind_ok, e1, bo, bnd_ok, Bool.not_true, Bool.false_eq_true, if_false, seq_nx, fldF, fldP, opt, h, sRet]
/-- p * q -/
theorem mul_eq {fsl : List D} {n P1 P2 m1 k1 m2 k2 : Nat} {one other : List (List Nat × Rat)} (hfs : neD (.tup fsl) (.tup fsl) = some (.bl false)) (hc : G_check_fields [.tup fsl] = .ok .non) (hfn : fsl.length = n) (h1 : Tms n P1 m1 k1 one) (h2 : Tms n P2 m2 k2 other) (hn : n ≤ 1000) (hk : (k1 + k2) + (k1 + k2) ≤ lk) (hm : one.length * (other.length * stM (m1 + m2) (k1 + k2)) ≤ lm) (hl : one.length * other.length ≤ 1000) :
    ∃ ts, G_Poly___mul__ [poly (.tup fsl) (dk pl one), poly (.tup fsl) (dk pl other)] = .ok (poly (.tup fsl) (dk pl ts)) ∧ Tms n (P1 + P2) (one.length * (other.length * stM (m1 + m2) (k1 + k2))) (k1 + k2) ts ∧ ts.length ≤ one.length * other.length ∧ ∀ vs : List Rat, vs.length = n → evs vs 0 ts = evs vs 0 one * evs vs 0 other := by
  obtain ⟨acc, a1, a2, a3, a4⟩ := multiplied_eq h1 h2 hn hk hm hl
  have e := poly_eq (fd := .tup fsl) (ts := acc) rfl hc (by omega) a2.nd (fun t ht => (a2.at_ t ht).2.2.1) (by omega) (fun t ht => by rw [hfn]; exact (a2.at_ t ht).1)
  refine ⟨oneF acc, runMm G_Poly___init__ G_multiplied G_parts_beside _ _ _ _ _ _ (beside_eq _ _ _ hfs) a1 e, oneF_tms a2, Nat.le_trans (oneF_len acc) a4, fun vs hv => ?_⟩
  rw [oneF_evs, a3, evs_mulT vs other (fun u hu => by rw [hv]; exact (h2.at_ u hu).1) one [] (fun u hu => by rw [hv]; exact (h1.at_ u hu).1)]
  show (0 : Rat) + _ = _
  rw [Rat.zero_add]
end DL.K42
namespace DL.K42
open PySem L2
def gp_g__law_cell : Env → RS := (sSeq (sIf (tB' (fOp dLt (peek 1) (fB cLenS (lCons (peek 0) lNil)))) (sRet (fOp itemS (peek 0) (peek 1))) .nx) (sRet (fK (.int 0))))
theorem gp_g__law_cell_eq : g__law_cell = gp_g__law_cell := rfl
def gb_fr__law_row_0 : Env → RS := (sSeq (sApp 2 (fOp (int2 modC) (fB cInt2 (lCons (peek 0) lNil)) (peek 3))) (sSet 0 (fOp (int2 fdivC) (peek 0) (peek 3))))
theorem gb_fr__law_row_0_eq : fr__law_row_0 = sFor (iSq (look 1)) (hName 3) (gb_fr__law_row_0) := rfl
def gb_fr__law_row_1 : Env → RS := (sSeq (sSet 6 (fOp addA (fOp (int2 modC) (fB cInt2 (lCons (fOp (int2 powC) (fOp addA (fOp addA (peek 4) (fOp (int2 mulB) (fK (.int 7919)) (peek 5))) (fK (.int 104729))) (fK (.int 5))) lNil)) (fK (.int 2147483647))) (peek 5))) (sApp 2 (fOp (int2 modC) (fB cInt2 (lCons (fOp (int2 modC) (fB cInt2 (lCons (fOp (int2 mulB) (peek 6) (fK (.int 40692))) lNil)) (fK (.int 2147483629))) lNil)) (fOp itemD (peek 1) (peek 5)))))
theorem gb_fr__law_row_1_eq : fr__law_row_1 = sFor (iR1 (lCons (fB cLen (lCons (peek 1) lNil)) lNil)) (hName 5) (gb_fr__law_row_1) := rfl
def gp_g__law_row (p_fr__law_row_0 : Env → RS) (p_fr__law_row_1 : Env → RS) : Env → RS := (sSeq (sSetO 2 (fLst lNil)) (sSeq (sIf (tB' (fOp dGe (peek 0) (fOp (int2 powC) (fK (.int 10)) (fK (.int 18))))) (sSeq p_fr__law_row_0 (sFrz 2 (sRet (look 2)))) .nx) (sSeq (sSet 4 (fOp (int2 modC) (fB cInt2 (lCons (peek 0) lNil)) (fK (.int 2147483647)))) (sSeq p_fr__law_row_1 (sFrz 2 (sRet (look 2)))))))
theorem gp_g__law_row_eq : g__law_row = gp_g__law_row fr__law_row_0 fr__law_row_1 := rfl
def gp_g__law_fields : Env → RS := (sRet (fOp itemD (fLst (lCons (fLst (lCons (fK (.str "x")) (lCons (fK (.str "y")) lNil))) (lCons (fLst (lCons (fK (.str "x")) lNil)) (lCons (fLst lNil) (lCons (fLst (lCons (fK (.str "price")) (lCons (fK (.str "many")) lNil))) (lCons (fLst (lCons (fK (.str "b")) (lCons (fK (.str "a")) lNil))) (lCons (fLst (lCons (fK (.str "zz")) lNil)) lNil))))))) (fOp (int2 modC) (peek 0) (fK (.int 6)))))
theorem gp_g__law_fields_eq : g__law_fields = gp_g__law_fields := rfl
def gb_wh__law_gcd_0 : Env → RS := (sPar 0 1 (lCons (look 1) (lCons (fOp (int2 modC) (peek 0) (peek 1)) lNil)))
theorem gb_wh__law_gcd_0_eq : wh__law_gcd_0 = whileD (tB' (fOp dGt (peek 1) (fK (.int 0)))) (gb_wh__law_gcd_0) big := rfl
def gp_g__law_gcd (p_wh__law_gcd_0 : Env → RS) : Env → RS := (sSeq (sPar 0 1 (lCons (fB cAbs (lCons (peek 0) lNil)) (lCons (fB cAbs (lCons (peek 1) lNil)) lNil))) (sSeq p_wh__law_gcd_0 (sRet (look 0))))
theorem gp_g__law_gcd_eq : g__law_gcd = gp_g__law_gcd wh__law_gcd_0 := rfl
def gp_g__law_low (p_G__law_gcd : List D → Res D) : Env → RS := (sSeq (sAsg (look 0) (hTup fun ds ρ => if ds.length = 2 then (hCons (hName 1) (hCons (hName 2) hNil)) ds ρ else none)) (sSeq (sSet 3 (fCall 2 p_G__law_gcd (lCons (look 1) (lCons (look 2) lNil)))) (sSeq (sIf (tB' (fOp dLt (peek 2) (fK (.int 0)))) (sSet 3 (fOp dSub (fK (.int 0)) (peek 3))) .nx) (sRet (fTup (lCons (fOp (int2 fdivC) (peek 1) (peek 3)) (lCons (fOp (int2 fdivC) (peek 2) (peek 3)) lNil)))))))
theorem gp_g__law_low_eq : g__law_low = gp_g__law_low G__law_gcd := rfl
def gb_fr__law_terms_0 (p_G__law_low : List D → Res D) : Env → RS := (sSeq (sAsg (fSlc (peek 0) (oSo (fOp (int2 mulB) (fK (.int 4)) (peek 3))) (oSo (fOp addA (fOp (int2 mulB) (fK (.int 4)) (peek 3)) (fK (.int 4))))) (hLst fun ds ρ => if ds.length = 4 then (hCons (hName 4) (hCons (hName 5) (hCons (hName 6) (hCons (hName 7) hNil)))) ds ρ else none)) (sDput 2 (fSlc (fTup (lCons (look 4) (lCons (look 5) lNil))) oNo (oSo (fB cLen (lCons (peek 1) lNil)))) (fCall 1 p_G__law_low (lCons (fTup (lCons (fOp dSub (peek 6) (fK (.int 9))) (lCons (fOp addA (fK (.int 1)) (peek 7)) lNil))) lNil))))
theorem gb_fr__law_terms_0_eq : fr__law_terms_0 = sFor (iR1 (lCons (fOp (int2 fdivC) (fB cLen (lCons (peek 0) lNil)) (fK (.int 4))) lNil)) (hName 3) (gb_fr__law_terms_0 G__law_low) := rfl
def gp_g__law_terms (p_fr__law_terms_0 : Env → RS) : Env → RS := (sSeq (sSetO 2 (fK (.dT [] []))) (sSeq p_fr__law_terms_0 (sFrz 2 (sRet (look 2)))))
theorem gp_g__law_terms_eq : g__law_terms = gp_g__law_terms fr__law_terms_0 := rfl
def gb_wh_common_0 : Env → RS := (sPar 0 1 (lCons (look 1) (lCons (fOp (int2 modC) (peek 0) (peek 1)) lNil)))
theorem gb_wh_common_0_eq : wh_common_0 = whileD (tB' (fOp dGt (peek 1) (fK (.int 0)))) (gb_wh_common_0) big := rfl
def gp_g_common (p_wh_common_0 : Env → RS) : Env → RS := (sSeq (sPar 0 1 (lCons (fB cAbs (lCons (peek 0) lNil)) (lCons (fB cAbs (lCons (peek 1) lNil)) lNil))) (sSeq p_wh_common_0 (sRet (look 0))))
theorem gp_g_common_eq : g_common = gp_g_common wh_common_0 := rfl
def gp_g_Ratio___init__ (p_G_common : List D → Res D) : Env → RS := (sSeq (sIf (tB' (fOp eqD (peek 2) (fK (.int 0)))) sBad .nx) (sSeq (sSet 3 (fCall 2 p_G_common (lCons (look 1) (lCons (look 2) lNil)))) (sSeq (sIf (tB' (fOp dLt (peek 2) (fK (.int 0)))) (sSet 3 (fU negC (peek 3))) .nx) (sSeq (sFld nmv "top" 0 (fOp (int2 fdivC) (peek 1) (peek 3))) (sFld nmv "bottom" 0 (fOp (int2 fdivC) (peek 2) (peek 3)))))))
theorem gp_g_Ratio___init___eq : g_Ratio___init__ = gp_g_Ratio___init__ G_common := rfl
def gp_g__law_made (p_G__law_low : List D → Res D) (p_G_Ratio___init__ : List D → Res (List D)) : Env → RS := (sSeq (sAsg (fCall 1 p_G__law_low (lCons (look 0) lNil)) (hTup fun ds ρ => if ds.length = 2 then (hCons (hName 2) (hCons (hName 3) hNil)) ds ρ else none)) (sRet (fIf (tAnd' (tB' (fOp eqD (peek 3) (fK (.int 1)))) (tB' (look 1))) (look 2) (fMk 0 2 p_G_Ratio___init__ (lCons (look 2) (lCons (look 3) lNil))))))
theorem gp_g__law_made_eq : g__law_made = gp_g__law_made G__law_low G_Ratio___init__ := rfl
def gp_lc__law_handed_0 (p_G__law_made : List D → Res D) : Env → Res D := (fLc (iKs (look 0)) (hName 2) tYes' (fTup (lCons (look 2) (lCons (fCall 2 p_G__law_made (lCons (fN dgetR (peek 0) (look 2)) (lCons (look 1) lNil))) lNil))) [2])
theorem gp_lc__law_handed_0_eq : lc__law_handed_0 = gp_lc__law_handed_0 G__law_made := rfl
def gp_g__law_handed (p_lc__law_handed_0 : Env → Res D) : Env → RS := (sRet (fDict p_lc__law_handed_0))
theorem gp_g__law_handed_eq : g__law_handed = gp_g__law_handed lc__law_handed_0 := rfl
def gp_lc_is_name_0 : Env → Res D := (fLc (iSq (look 0)) (hName 1) tYes' (fOp inS (peek 1) (fK (.str "abcdefghijklmnopqrstuvwxyz"))) [1])
theorem gp_lc_is_name_0_eq : lc_is_name_0 = gp_lc_is_name_0 := rfl
def gp_g_is_name (p_lc_is_name_0 : Env → Res D) : Env → RS := (sSeq (sIf (tOr' (tNot' (tB' (fM (isiD ib_str) (peek 0)))) (tNot' (tB' (fChain dLe dLe (fK (.int 1)) (fB cLen (lCons (peek 0) lNil)) (fK (.int 8)))))) (sRet (fK (.bl false))) .nx) (sRet (fB cAll (lCons p_lc_is_name_0 lNil))))
theorem gp_g_is_name_eq : g_is_name = gp_g_is_name lc_is_name_0 := rfl
def gb_fr_check_fields_0 (p_G_is_name : List D → Res D) : Env → RS := (sIf (tOr' (tNot' (tB' (fCall 1 p_G_is_name (lCons (look 2) lNil)))) (tB' (fOp inT (peek 2) (fSlc (peek 0) oNo (oSo (look 1)))))) sBad .nx)
theorem gb_fr_check_fields_0_eq : fr_check_fields_0 = sFor (iEnuA (lCons (look 0) lNil)) (hTup fun ds ρ => if ds.length = 2 then (hCons (hName 1) (hCons (hName 2) hNil)) ds ρ else none) (gb_fr_check_fields_0 G_is_name) := rfl
def gp_g_check_fields (p_fr_check_fields_0 : Env → RS) : Env → RS := p_fr_check_fields_0
theorem gp_g_check_fields_eq : g_check_fields = gp_g_check_fields fr_check_fields_0 := rfl
def gp_g_is_integer : Env → RS := (sRet (vAnd (fM (isiD ib_int) (peek 0)) (vNot (fM (isiD ib_bool) (peek 0)))))
theorem gp_g_is_integer_eq : g_is_integer = gp_g_is_integer := rfl
def gp_lc_is_powers_0 (p_G_is_integer : List D → Res D) : Env → Res D := (fLc (iSq (look 0)) (hName 2) tYes' (vAnd (fCall 1 p_G_is_integer (lCons (look 2) lNil)) (fOp dGe (peek 2) (fK (.int 0)))) [2])
theorem gp_lc_is_powers_0_eq : lc_is_powers_0 = gp_lc_is_powers_0 G_is_integer := rfl
def gp_g_is_powers (p_lc_is_powers_0 : Env → Res D) : Env → RS := (sSeq (sIf (tOr' (tNot' (tB' (fM (isiD ib_tuple) (peek 0)))) (tB' (fOp neD (fB cLen (lCons (peek 0) lNil)) (peek 1)))) (sRet (fK (.bl false))) .nx) (sRet (fB cAll (lCons p_lc_is_powers_0 lNil))))
theorem gp_g_is_powers_eq : g_is_powers = gp_g_is_powers lc_is_powers_0 := rfl
def gp_g_halves_of : Env → RS := (sRet (fIf (tB' (fM (isiD ib_c0) (peek 0))) (fTup (lCons (fU (fldD nmv "top") (peek 0)) (lCons (fU (fldD nmv "bottom") (peek 0)) lNil))) (fTup (lCons (look 0) (lCons (fK (.int 1)) lNil)))))
theorem gp_g_halves_of_eq : g_halves_of = gp_g_halves_of := rfl
def gp_g_is_number (p_G_is_integer : List D → Res D) : Env → RS := (sRet (vOr (fCall 1 p_G_is_integer (lCons (look 0) lNil)) (fM (isiD ib_c0) (peek 0))))
theorem gp_g_is_number_eq : g_is_number = gp_g_is_number G_is_integer := rfl
def gp_g_Ratio___eq__ (p_G_is_number : List D → Res D) (p_G_halves_of : List D → Res D) : Env → RS := (sRet (vAnd (fCall 1 p_G_is_number (lCons (look 1) lNil)) (fOp eqD (fCall 1 p_G_halves_of (lCons (look 1) lNil)) (fTup (lCons (fU (fldD nmv "top") (peek 0)) (lCons (fU (fldD nmv "bottom") (peek 0)) lNil))))))
theorem gp_g_Ratio___eq___eq : g_Ratio___eq__ = gp_g_Ratio___eq__ G_is_number G_halves_of := rfl
def gp_g_plain (p_G_halves_of : List D → Res D) : Env → RS := (sSeq (sAsg (fCall 1 p_G_halves_of (lCons (look 0) lNil)) (hTup fun ds ρ => if ds.length = 2 then (hCons (hName 1) (hCons (hName 2) hNil)) ds ρ else none)) (sRet (fIf (tB' (fOp eqD (peek 2) (fK (.int 1)))) (look 1) (look 0))))
theorem gp_g_plain_eq : g_plain = gp_g_plain G_halves_of := rfl
def gb_fr_one_form_0 (p_G_Ratio___eq__ : List D → Res D) (p_G_plain : List D → Res D) : Env → RS := (sIf (tB' (fN (neN p_G_Ratio___eq__) (fN dgetR (peek 0) (look 2)) (fK (.int 0)))) (sDput 1 (look 2) (fCall 1 p_G_plain (lCons (fN dgetR (peek 0) (look 2)) lNil))) .nx)
theorem gb_fr_one_form_0_eq : fr_one_form_0 = sFor (iSq (fSort (peek 0) (fK (.bl true)))) (hName 2) (gb_fr_one_form_0 G_Ratio___eq__ G_plain) := rfl
def gp_g_one_form (p_fr_one_form_0 : Env → RS) : Env → RS := (sSeq (sSetO 1 (fK (.dT [] []))) (sSeq p_fr_one_form_0 (sFrz 1 (sRet (look 1)))))
theorem gp_g_one_form_eq : g_one_form = gp_g_one_form fr_one_form_0 := rfl
def gb_fr_Poly___init___0 (p_G_is_powers : List D → Res D) : Env → RS := (sIf (tNot' (tB' (fCall 2 p_G_is_powers (lCons (look 3) (lCons (fB cLen (lCons (fU (fldD nmv "fields") (peek 0)) lNil)) lNil))))) sBad .nx)
theorem gb_fr_Poly___init___0_eq : fr_Poly___init___0 = sFor (iKs (look 2)) (hName 3) (gb_fr_Poly___init___0 G_is_powers) := rfl
def gp_g_Poly___init__ (p_G_check_fields : List D → Res D) (p_fr_Poly___init___0 : Env → RS) (p_G_one_form : List D → Res D) : Env → RS := (sSeq (sFld nmv "fields" 0 (fB cTup (lCons (peek 1) lNil))) (sSeq (sDrop (fCall 1 p_G_check_fields (lCons (fU (fldD nmv "fields") (peek 0)) lNil))) (sSeq p_fr_Poly___init___0 (sFld nmv "parts" 0 (fCall 1 p_G_one_form (lCons (look 2) lNil))))))
theorem gp_g_Poly___init___eq : g_Poly___init__ = gp_g_Poly___init__ G_check_fields fr_Poly___init___0 G_one_form := rfl
def gp_g__law_times (p_G__law_low : List D → Res D) : Env → RS := (sRet (fCall 1 p_G__law_low (lCons (fTup (lCons (fOp (int2 mulB) (fOp itemD (peek 0) (fK (.int 0))) (fOp itemD (peek 1) (fK (.int 0)))) (lCons (fOp (int2 mulB) (fOp itemD (peek 0) (fK (.int 1))) (fOp itemD (peek 1) (fK (.int 1)))) lNil))) lNil)))
theorem gp_g__law_times_eq : g__law_times = gp_g__law_times G__law_low := rfl
def gb_fr__law_power_0 (p_G__law_times : List D → Res D) : Env → RS := (sSet 2 (fCall 2 p_G__law_times (lCons (look 2) (lCons (look 0) lNil))))
theorem gb_fr__law_power_0_eq : fr__law_power_0 = sFor (iR1 (lCons (look 1) lNil)) (hName 3) (gb_fr__law_power_0 G__law_times) := rfl
def gp_g__law_power (p_fr__law_power_0 : Env → RS) : Env → RS := (sSeq (sSet 2 (fTup (lCons (fK (.int 1)) (lCons (fK (.int 1)) lNil)))) (sSeq p_fr__law_power_0 (sRet (look 2))))
theorem gp_g__law_power_eq : g__law_power = gp_g__law_power fr__law_power_0 := rfl
def gp_g__law_add (p_G__law_low : List D → Res D) : Env → RS := (sRet (fCall 1 p_G__law_low (lCons (fTup (lCons (fOp addA (fOp (int2 mulB) (fOp itemD (peek 0) (fK (.int 0))) (fOp itemD (peek 1) (fK (.int 1)))) (fOp (int2 mulB) (fOp itemD (peek 1) (fK (.int 0))) (fOp itemD (peek 0) (fK (.int 1))))) (lCons (fOp (int2 mulB) (fOp itemD (peek 0) (fK (.int 1))) (fOp itemD (peek 1) (fK (.int 1)))) lNil))) lNil)))
theorem gp_g__law_add_eq : g__law_add = gp_g__law_add G__law_low := rfl
def gb_fr__law_value_of_0 (p_G__law_times : List D → Res D) (p_G__law_power : List D → Res D) : Env → RS := (sSet 4 (fCall 2 p_G__law_times (lCons (look 4) (lCons (fCall 2 p_G__law_power (lCons (look 5) (lCons (look 6) lNil))) lNil))))
theorem gb_fr__law_value_of_0_eq : fr__law_value_of_0 = sFor (iZipA (lCons (look 1) (lCons (look 3) lNil))) (hTup fun ds ρ => if ds.length = 2 then (hCons (hName 5) (hCons (hName 6) hNil)) ds ρ else none) (gb_fr__law_value_of_0 G__law_times G__law_power) := rfl
def gb_fr__law_value_of_1 (p_fr__law_value_of_0 : Env → RS) (p_G__law_add : List D → Res D) : Env → RS := (sSeq (sSet 4 (fN dgetR (peek 0) (look 3))) (sSeq p_fr__law_value_of_0 (sSet 2 (fCall 2 p_G__law_add (lCons (look 2) (lCons (look 4) lNil))))))
theorem gb_fr__law_value_of_1_eq : fr__law_value_of_1 = sFor (iKs (look 0)) (hName 3) (gb_fr__law_value_of_1 fr__law_value_of_0 G__law_add) := rfl
def gp_g__law_value_of (p_fr__law_value_of_1 : Env → RS) : Env → RS := (sSeq (sSet 2 (fTup (lCons (fK (.int 0)) (lCons (fK (.int 1)) lNil)))) (sSeq p_fr__law_value_of_1 (sRet (look 2))))
theorem gp_g__law_value_of_eq : g__law_value_of = gp_g__law_value_of fr__law_value_of_1 := rfl
def gp_g_Ratio___mul__ (p_G_is_number : List D → Res D) (p_G_halves_of : List D → Res D) (p_G_Ratio___init__ : List D → Res (List D)) : Env → RS := (sSeq (sIf (tNot' (tB' (fCall 1 p_G_is_number (lCons (look 1) lNil)))) sBad .nx) (sSeq (sAsg (fCall 1 p_G_halves_of (lCons (look 1) lNil)) (hTup fun ds ρ => if ds.length = 2 then (hCons (hName 2) (hCons (hName 3) hNil)) ds ρ else none)) (sRet (fMk 0 2 p_G_Ratio___init__ (lCons (fOp (int2 mulB) (fU (fldD nmv "top") (peek 0)) (peek 2)) (lCons (fOp (int2 mulB) (fU (fldD nmv "bottom") (peek 0)) (peek 3)) lNil))))))
theorem gp_g_Ratio___mul___eq : g_Ratio___mul__ = gp_g_Ratio___mul__ G_is_number G_halves_of G_Ratio___init__ := rfl
def gp_g_Ratio___rmul__ (p_G_Ratio___mul__ : List D → Res D) : Env → RS := (sRet (fN (opL p_G_Ratio___mul__) (look 0) (look 1)))
theorem gp_g_Ratio___rmul___eq : g_Ratio___rmul__ = gp_g_Ratio___rmul__ G_Ratio___mul__ := rfl
def gb_fr_raised_0 (p_G_Ratio___mul__ : List D → Res D) (p_G_Ratio___rmul__ : List D → Res D) : Env → RS := (sSet 3 (fN (opN mulB p_G_Ratio___mul__ p_G_Ratio___rmul__) (look 3) (look 0)))
theorem gb_fr_raised_0_eq : fr_raised_0 = sFor (iR1 (lCons (look 1) lNil)) (hName 4) (gb_fr_raised_0 G_Ratio___mul__ G_Ratio___rmul__) := rfl
def gp_g_raised (p_fr_raised_0 : Env → RS) : Env → RS := (sSeq (sSet 3 (look 2)) (sSeq p_fr_raised_0 (sRet (look 3))))
theorem gp_g_raised_eq : g_raised = gp_g_raised fr_raised_0 := rfl
def gp_g_Ratio___add__ (p_G_is_number : List D → Res D) (p_G_halves_of : List D → Res D) (p_G_Ratio___init__ : List D → Res (List D)) : Env → RS := (sSeq (sIf (tNot' (tB' (fCall 1 p_G_is_number (lCons (look 1) lNil)))) sBad .nx) (sSeq (sAsg (fCall 1 p_G_halves_of (lCons (look 1) lNil)) (hTup fun ds ρ => if ds.length = 2 then (hCons (hName 2) (hCons (hName 3) hNil)) ds ρ else none)) (sRet (fMk 0 2 p_G_Ratio___init__ (lCons (fOp addA (fOp (int2 mulB) (fU (fldD nmv "top") (peek 0)) (peek 3)) (fOp (int2 mulB) (peek 2) (fU (fldD nmv "bottom") (peek 0)))) (lCons (fOp (int2 mulB) (fU (fldD nmv "bottom") (peek 0)) (peek 3)) lNil))))))
theorem gp_g_Ratio___add___eq : g_Ratio___add__ = gp_g_Ratio___add__ G_is_number G_halves_of G_Ratio___init__ := rfl
def gp_g_Ratio___radd__ (p_G_Ratio___add__ : List D → Res D) : Env → RS := (sRet (fN (opL p_G_Ratio___add__) (look 0) (look 1)))
theorem gp_g_Ratio___radd___eq : g_Ratio___radd__ = gp_g_Ratio___radd__ G_Ratio___add__ := rfl
def gb_fr_Poly_at_0 (p_G_Ratio___mul__ : List D → Res D) (p_G_Ratio___rmul__ : List D → Res D) (p_G_raised : List D → Res D) : Env → RS := (sSet 4 (fN (opN mulB p_G_Ratio___mul__ p_G_Ratio___rmul__) (look 4) (fCall 3 p_G_raised (lCons (look 5) (lCons (look 6) (lCons (fK (.int 1)) lNil))))))
theorem gb_fr_Poly_at_0_eq : fr_Poly_at_0 = sFor (iZipA (lCons (look 1) (lCons (look 3) lNil))) (hTup fun ds ρ => if ds.length = 2 then (hCons (hName 5) (hCons (hName 6) hNil)) ds ρ else none) (gb_fr_Poly_at_0 G_Ratio___mul__ G_Ratio___rmul__ G_raised) := rfl
def gb_fr_Poly_at_1 (p_fr_Poly_at_0 : Env → RS) (p_G_Ratio___add__ : List D → Res D) (p_G_Ratio___radd__ : List D → Res D) : Env → RS := (sSeq (sSet 4 (fN dgetR (fU (fldD nmv "parts") (peek 0)) (look 3))) (sSeq p_fr_Poly_at_0 (sSet 2 (fN (opN (fun i j => some (.int (i + j))) p_G_Ratio___add__ p_G_Ratio___radd__) (look 2) (look 4)))))
theorem gb_fr_Poly_at_1_eq : fr_Poly_at_1 = sFor (iKs (fU (fldD nmv "parts") (peek 0))) (hName 3) (gb_fr_Poly_at_1 fr_Poly_at_0 G_Ratio___add__ G_Ratio___radd__) := rfl
def gp_g_Poly_at (p_fr_Poly_at_1 : Env → RS) (p_G_plain : List D → Res D) : Env → RS := (sSeq (sIf (tB' (fOp neD (fB cLen (lCons (peek 1) lNil)) (fB cLen (lCons (fU (fldD nmv "fields") (peek 0)) lNil)))) (sRaise 0 (fB cLen (lCons (peek 1) lNil))) .nx) (sSeq (sSet 2 (fK (.int 0))) (sSeq p_fr_Poly_at_1 (sRet (fCall 1 p_G_plain (lCons (look 2) lNil))))))
theorem gp_g_Poly_at_eq : g_Poly_at = gp_g_Poly_at fr_Poly_at_1 G_plain := rfl
def gp_g__law_is_int : Env → RS := (sRet (vAnd (fM (isiD ib_int) (peek 0)) (vNot (fM (isiD ib_bool) (peek 0)))))
theorem gp_g__law_is_int_eq : g__law_is_int = gp_g__law_is_int := rfl
def gp_g__law_is_plain (p_G__law_low : List D → Res D) (p_G__law_is_int : List D → Res D) : Env → RS := (sSeq (sAsg (fCall 1 p_G__law_low (lCons (look 1) lNil)) (hTup fun ds ρ => if ds.length = 2 then (hCons (hName 2) (hCons (hName 3) hNil)) ds ρ else none)) (sSeq (sIf (tB' (fOp eqD (peek 3) (fK (.int 1)))) (sRet (vAnd (fCall 1 p_G__law_is_int (lCons (look 0) lNil)) (fOp eqD (peek 0) (peek 2)))) .nx) (sRet (vAnd (fM (isiD ib_c0) (peek 0)) (vAnd (fOp eqD (fU (fldD nmv "top") (peek 0)) (peek 2)) (fOp eqD (fU (fldD nmv "bottom") (peek 0)) (peek 3)))))))
theorem gp_g__law_is_plain_eq : g__law_is_plain = gp_g__law_is_plain G__law_low G__law_is_int := rfl
def gp_g_parts_beside : Env → RS := (sSeq (sIf (tNot' (tB' (fM (isiD ib_c1) (peek 1)))) sBad .nx) (sSeq (sIf (tB' (fOp neD (fU (fldD nmv "fields") (peek 1)) (fU (fldD nmv "fields") (peek 0)))) sBad .nx) (sRet (fU (fldD nmv "parts") (peek 1)))))
theorem gp_g_parts_beside_eq : g_parts_beside = gp_g_parts_beside := rfl
def gp_lc_multiplied_0 : Env → Res D := (fLc (iZipA (lCons (look 3) (lCons (look 4) lNil))) (hTup fun ds ρ => if ds.length = 2 then (hCons (hName 6) (hCons (hName 7) hNil)) ds ρ else none) tYes' (fOp addA (peek 6) (peek 7)) [6, 7])
theorem gp_lc_multiplied_0_eq : lc_multiplied_0 = gp_lc_multiplied_0 := rfl
def gb_fr_multiplied_1 (p_lc_multiplied_0 : Env → Res D) (p_G_Ratio___add__ : List D → Res D) (p_G_Ratio___radd__ : List D → Res D) (p_G_Ratio___mul__ : List D → Res D) (p_G_Ratio___rmul__ : List D → Res D) : Env → RS := (sSeq (sSet 5 (fB cTup (lCons p_lc_multiplied_0 lNil))) (sDput 2 (look 5) (fN (opN (fun i j => some (.int (i + j))) p_G_Ratio___add__ p_G_Ratio___radd__) (fDget (peek 2) (look 5) (fK (.int 0))) (fN (opN mulB p_G_Ratio___mul__ p_G_Ratio___rmul__) (fN dgetR (peek 0) (look 3)) (fN dgetR (peek 1) (look 4))))))
theorem gb_fr_multiplied_1_eq : fr_multiplied_1 = sFor (iKs (look 1)) (hName 4) (gb_fr_multiplied_1 lc_multiplied_0 G_Ratio___add__ G_Ratio___radd__ G_Ratio___mul__ G_Ratio___rmul__) := rfl
def gb_fr_multiplied_2 (p_fr_multiplied_1 : Env → RS) : Env → RS := p_fr_multiplied_1
theorem gb_fr_multiplied_2_eq : fr_multiplied_2 = sFor (iKs (look 0)) (hName 3) (gb_fr_multiplied_2 fr_multiplied_1) := rfl
def gp_g_multiplied (p_fr_multiplied_2 : Env → RS) : Env → RS := (sSeq (sSetO 2 (fK (.dT [] []))) (sSeq p_fr_multiplied_2 (sFrz 2 (sRet (look 2)))))
theorem gp_g_multiplied_eq : g_multiplied = gp_g_multiplied fr_multiplied_2 := rfl
def gp_g_Poly___mul__ (p_G_Poly___init__ : List D → Res (List D)) (p_G_multiplied : List D → Res D) (p_G_parts_beside : List D → Res D) : Env → RS := (sRet (fMk 1 2 p_G_Poly___init__ (lCons (fU (fldD nmv "fields") (peek 0)) (lCons (fCall 2 p_G_multiplied (lCons (fU (fldD nmv "parts") (peek 0)) (lCons (fCall 2 p_G_parts_beside (lCons (look 0) (lCons (look 1) lNil))) lNil))) lNil))))
theorem gp_g_Poly___mul___eq : g_Poly___mul__ = gp_g_Poly___mul__ G_Poly___init__ G_multiplied G_parts_beside := rfl
def gp_lc__law_kept_0 : Env → Res D := (fLc (iKs (look 0)) (hName 1) (tB' (fOp neD (fOp itemD (fN dgetR (peek 0) (look 1)) (fK (.int 0))) (fK (.int 0)))) (fTup (lCons (look 1) (lCons (fN dgetR (peek 0) (look 1)) lNil))) [1])
theorem gp_lc__law_kept_0_eq : lc__law_kept_0 = gp_lc__law_kept_0 := rfl
def gp_g__law_kept (p_lc__law_kept_0 : Env → Res D) : Env → RS := (sRet (fDict p_lc__law_kept_0))
theorem gp_g__law_kept_eq : g__law_kept = gp_g__law_kept lc__law_kept_0 := rfl
def gp_lc_Poly_power_0 : Env → Res D := (fLc (iKs (fU (fldD nmv "parts") (peek 0))) (hName 2) tYes' (fB cInt2 (lCons (fOp itemD (peek 2) (peek 1)) lNil)) [2])
theorem gp_lc_Poly_power_0_eq : lc_Poly_power_0 = gp_lc_Poly_power_0 := rfl
def gp_g_Poly_power (p_lc_Poly_power_0 : Env → Res D) : Env → RS := (sSeq (sIf (tNot' (tB' (fChain dLe dLt (fK (.int 0)) (look 1) (fB cLen (lCons (fU (fldD nmv "fields") (peek 0)) lNil))))) (sRaise 0 (look 1)) .nx) (sRet (fB cMax (lCons (fOp addA (fLst (lCons (fK (.int 0)) lNil)) p_lc_Poly_power_0) lNil))))
theorem gp_g_Poly_power_eq : g_Poly_power = gp_g_Poly_power lc_Poly_power_0 := rfl
def gp_lc_law_0 (p_G__law_made : List D → Res D) : Env → Res D := (fLc (iSq (look 7)) (hName 9) tYes' (fCall 2 p_G__law_made (lCons (look 9) (lCons (fOp eqD (fOp itemD (peek 1) (fK (.int 1))) (fK (.int 0))) lNil))) [9])
theorem gp_lc_law_0_eq : lc_law_0 = gp_lc_law_0 G__law_made := rfl
def gp_lc_law_1 (p_G__law_kept : List D → Res D) : Env → Res D := (fLc (iKs (fCall 1 p_G__law_kept (lCons (look 3) lNil))) (hName 14) tYes' (fB cInt2 (lCons (fOp itemD (peek 14) (peek 12)) lNil)) [14])
theorem gp_lc_law_1_eq : lc_law_1 = gp_lc_law_1 G__law_kept := rfl
def gb_fr_law_2 (p_lc_law_1 : Env → Res D) (p_G__law_is_int : List D → Res D) (p_G_Poly_power : List D → Res D) : Env → RS := (sSeq (sSet 13 (fB cMax (lCons (fOp addA (fLst (lCons (fK (.int 0)) lNil)) p_lc_law_1) lNil))) (sIf (tOr' (tNot' (tB' (fCall 1 p_G__law_is_int (lCons (fMet 1 2 p_G_Poly_power (look 5) (lCons (look 12) lNil)) lNil)))) (tB' (fOp neD (fMet 1 2 p_G_Poly_power (look 5) (lCons (look 12) lNil)) (peek 13)))) (sRet (fK (.bl false))) .nx))
theorem gb_fr_law_2_eq : fr_law_2 = sFor (iR1 (lCons (fB cLen (lCons (peek 2) lNil)) lNil)) (hName 12) (gb_fr_law_2 lc_law_1 G__law_is_int G_Poly_power) := rfl
def gp_g_law (p_G__law_row : List D → Res D) (p_G__law_cell : List D → Res D) (p_G__law_fields : List D → Res D) (p_G__law_terms : List D → Res D) (p_G_Poly___init__ : List D → Res (List D)) (p_G__law_handed : List D → Res D) (p_lc_law_0 : Env → Res D) (p_G__law_value_of : List D → Res D) (p_G__law_is_plain : List D → Res D) (p_G_Poly_at : List D → Res D) (p_G_Poly___mul__ : List D → Res D) (p_G__law_times : List D → Res D) (p_fr_law_2 : Env → RS) (p_G_Poly_power : List D → Res D) : Env → RS := (sSeq (sSet 1 (fCall 2 p_G__law_row (lCons (fCall 2 p_G__law_cell (lCons (look 0) (lCons (fK (.int 0)) lNil))) (lCons (fOp addA (fLst (lCons (fK (.int 6)) (lCons (fK (.int 2)) (lCons (fK (.int 19)) (lCons (fK (.int 5)) (lCons (fK (.int 19)) (lCons (fK (.int 5)) (lCons (fK (.int 5)) (lCons (fK (.int 5)) (lCons (fK (.int 4)) lNil)))))))))) (fOp repD (fLst (lCons (fK (.int 4)) (lCons (fK (.int 4)) (lCons (fK (.int 19)) (lCons (fK (.int 5)) lNil))))) (fK (.int 8)))) lNil)))) (sSeq (sSet 2 (fCall 1 p_G__law_fields (lCons (fOp itemD (peek 1) (fK (.int 0))) lNil))) (sSeq (sSet 3 (fCall 2 p_G__law_terms (lCons (fSlc (peek 1) (oSo (fK (.int 9))) (oSo (fOp addA (fK (.int 9)) (fOp (int2 mulB) (fK (.int 4)) (fOp itemD (peek 1) (fK (.int 6))))))) (lCons (look 2) lNil)))) (sSeq (sSet 4 (fCall 2 p_G__law_terms (lCons (fSlc (peek 1) (oSo (fK (.int 25))) (oSo (fOp addA (fK (.int 25)) (fOp (int2 mulB) (fK (.int 4)) (fOp itemD (peek 1) (fK (.int 7))))))) (lCons (look 2) lNil)))) (sSeq (sAsg (fTup (lCons (fMk 1 2 p_G_Poly___init__ (lCons (look 2) (lCons (fCall 2 p_G__law_handed (lCons (look 3) (lCons (fK (.bl true)) lNil))) lNil))) (lCons (fMk 1 2 p_G_Poly___init__ (lCons (look 2) (lCons (fCall 2 p_G__law_handed (lCons (look 4) (lCons (fK (.bl false)) lNil))) lNil))) lNil))) (hTup fun ds ρ => if ds.length = 2 then (hCons (hName 5) (hCons (hName 6) hNil)) ds ρ else none)) (sSeq (sSetO 7 (fSlcL (fLst (lCons (fTup (lCons (fOp dSub (fOp itemD (peek 1) (fK (.int 2))) (fK (.int 9))) (lCons (fOp addA (fK (.int 1)) (fOp itemD (peek 1) (fK (.int 3)))) lNil))) (lCons (fTup (lCons (fOp dSub (fOp itemD (peek 1) (fK (.int 4))) (fK (.int 9))) (lCons (fOp addA (fK (.int 1)) (fOp itemD (peek 1) (fK (.int 5)))) lNil))) lNil))) oNo (oSo (fB cLen (lCons (peek 2) lNil))))) (sSeq (sIf (tAnd' (tB' (fOp neD (peek 7) (fLst lNil))) (tB' (fOp eqD (fOp itemD (peek 1) (fK (.int 8))) (fK (.int 0))))) (sLput 7 (fK (.int 0)) (fTup (lCons (fOp (int2 modC) (fB cInt2 (lCons (fCall 2 p_G__law_cell (lCons (look 0) (lCons (fK (.int 1)) lNil))) lNil)) (fOp (int2 powC) (fK (.int 10)) (fK (.int 20)))) (lCons (fOp addA (fK (.int 1)) (fOp itemD (peek 1) (fK (.int 3)))) lNil)))) .nx) (sSeq (sFrz 7 (sSet 8 p_lc_law_0)) (sSeq (sFrz 7 (sPar 10 11 (lCons (fCall 2 p_G__law_value_of (lCons (look 3) (lCons (look 7) lNil))) (lCons (fCall 2 p_G__law_value_of (lCons (look 4) (lCons (look 7) lNil))) lNil)))) (sSeq (sIf (tOr' (tNot' (tB' (fCall 2 p_G__law_is_plain (lCons (fMet 1 2 p_G_Poly_at (look 5) (lCons (look 8) lNil)) (lCons (look 10) lNil))))) (tNot' (tB' (fCall 2 p_G__law_is_plain (lCons (fMet 1 2 p_G_Poly_at (look 6) (lCons (fB cTup (lCons (peek 8) lNil)) lNil)) (lCons (look 11) lNil)))))) (sRet (fK (.bl false))) .nx) (sSeq (sIf (tNot' (tB' (fCall 2 p_G__law_is_plain (lCons (fMet 1 2 p_G_Poly_at (fN (opO 1 p_G_Poly___mul__) (look 5) (look 6)) (lCons (look 8) lNil)) (lCons (fCall 2 p_G__law_times (lCons (look 10) (lCons (look 11) lNil))) lNil))))) (sRet (fK (.bl false))) .nx) (sSeq p_fr_law_2 (sSeq (sSet 15 (fB cLen (lCons (peek 2) lNil))) (sSeq (sSetO 16 (fLst (lCons (fRc 0 (fMet 1 2 p_G_Poly_at (look 5) (lCons (fOp addA (peek 8) (fLst (lCons (fK (.int 1)) lNil))) lNil))) lNil))) (sSeq (sApp 16 (fRc 0 (fMet 1 2 p_G_Poly_power (look 5) (lCons (look 15) lNil)))) (sSeq (sApp 16 (fRc 0 (fMet 1 2 p_G_Poly_power (look 5) (lCons (fU negC (fK (.int 1))) lNil)))) (sSeq (sIf (tB' (fOp neD (peek 16) (fLst (lCons (fOp addA (peek 15) (fK (.int 1))) (lCons (look 15) (lCons (fU negC (fK (.int 1))) lNil)))))) (sRet (fK (.bl false))) .nx) (sRet (vOr (fOp eqD (peek 15) (fK (.int 0))) (fOp eqD (fRc 0 (fMet 1 2 p_G_Poly_at (look 5) (lCons (fSlc (peek 8) oNo (oSo (fU negC (fK (.int 1))))) lNil))) (fOp dSub (peek 15) (fK (.int 1)))))))))))))))))))))))
theorem gp_g_law_eq : g_law = gp_g_law G__law_row G__law_cell G__law_fields G__law_terms G_Poly___init__ G__law_handed lc_law_0 G__law_value_of G__law_is_plain G_Poly_at G_Poly___mul__ G__law_times fr_law_2 G_Poly_power := rfl
end DL.K42
namespace DL.K42
open PySem L2
/-! ### _law_terms -/
theorem cut_nat (ds : List D) (i j : Nat) (hj : j ≤ ds.length) (hij : i ≤ j) : cutD ds (some (i : Int)) (some (j : Int)) = (ds.drop i).take (j - i) := by
  unfold cutD
  rw [HT.sIx_nat, HT.sIx_nat, Nat.min_eq_left hj, Nat.min_eq_left (by omega)]
theorem cut_to (ds : List D) (j : Nat) : cutD ds none (some (j : Int)) = ds.take j := by
  unfold cutD
  rw [HT.sIx_nat, HT.sIx_none, List.drop_zero, Nat.sub_zero, ← List.take_eq_take_min]
theorem take4 {α : Type} (l : List α) (i : Nat) (h : i + 4 ≤ l.length) : (l.drop i).take 4 = [l[i]'(by omega), l[i + 1]'(by omega), l[i + 2]'(by omega), l[i + 3]'(by omega)] := by
  rw [List.drop_eq_getElem_cons (by omega : i < l.length), List.drop_eq_getElem_cons (by omega : i + 1 < l.length), List.drop_eq_getElem_cons (by omega : i + 1 + 1 < l.length), List.drop_eq_getElem_cons (by omega : i + 1 + 1 + 1 < l.length)]
  rfl
/-- groups of four draws -/
def Quad (g : Nat) (ds : List D) : Prop := ds.length = 4 * g ∧ ∀ k, k < g → ∃ a b c d : Nat, (ds.drop (4 * k)).take 4 = [pI a, pI b, pI c, pI d] ∧ a < 4 ∧ b < 4 ∧ c < 19 ∧ d < 5
theorem stepT (Gl : List D → Res D) (ds : List D) (fsd : D) (ks : List (List Key)) (xs : List D) (kk : List Key) (k : Nat) (a b c d n : Int) (key y : D) (v4 v5 v6 v7 : Option B) (h0 : mulB 4 (k : Nat) = some (.int (4 * (k : Nat)))) (h1 : slcD (.lst ds) (some (4 * (k : Nat))) (some (4 * (k : Nat) + 4)) = some (.lst [.int a, .int b, .int c, .int d])) (h2 : cLen [fsd] = some (.int n)) (h3 : slcD (.tup [.int a, .int b]) none (some n) = some key) (h4 : Gl [.tup [.int (c - 9), .int (1 + d)]] = .ok y) (hk : keyT key = some kk) (hs : small (ks.length + 1) = true) :
    gb_fr__law_terms_0 Gl [some (.sh (.lst ds)), some (.sh fsd), some (.ow (.dT ks xs)), some (.sh (.int (k : Nat))), v4, v5, v6, v7] = .nx [some (.sh (.lst ds)), some (.sh fsd), some (.ow (.dT (putKs ks kk) (putXs ks xs kk y))), some (.sh (.int (k : Nat))), some (.sh (.int a)), some (.sh (.int b)), some (.sh (.int c)), some (.sh (.int d))] := by
  have e : putE 2 [some (.sh (.lst ds)), some (.sh fsd), some (.ow (.dT ks xs)), some (.sh (.int (k : Nat))), some (.sh (.int a)), some (.sh (.int b)), some (.sh (.int c)), some (.sh (.int d))] key y = .nx [some (.sh (.lst ds)), some (.sh fsd), some (.ow (.dT (putKs ks kk) (putXs ks xs kk y))), some (.sh (.int (k : Nat))), some (.sh (.int a)), some (.sh (.int b)), some (.sh (.int c)), some (.sh (.int d))] := by
    show (match keyT key with
      | some k => if small (ks.length + 1) = true then RS.nx _ else .bad
      | none => .bad) = _
    rw [hk]
    show (if small (ks.length + 1) = true then RS.nx _ else RS.bad) = _
    rw [if_pos hs]
    rfl
  have e2 : isOwD 2 [some (.sh (.lst ds)), some (.sh fsd), some (.ow (.dT ks xs)), some (.sh (.int (k : Nat))), some (.sh (.int a)), some (.sh (.int b)), some (.sh (.int c)), some (.sh (.int d))] = .ok () := rfl
  have e3 : ∀ x y : D, mkT [x, y] = .ok (.tup [x, y]) := fun _ _ => rfl
  unfold gb_fr__law_terms_0
  simp only [sSeq, sAsg, fSlc, oSo, oNo, fOp, int2, fK, peek, look, List.getElem?_cons_zero, List.getElem?_cons_succ, Res.bind_ok, h0, opt, addA, ptI, h1, bnd_ok, hLst, List.length_cons, List.length_nil, if_true, hCons, hName, hNil, Option.bind_some, List.set_cons_succ, List.set_cons_zero, seq_nx, sDput, fTup, lCons, lNil, e3, fB, h2, h3, dSub, fCall, fnG, h4, e2, e]
theorem key_n (a b n : Nat) (hn : n ≤ 2) : slcD (.tup [pI a, pI b]) none (some ((n : Nat) : Int)) = some (kT ([a, b].take n)) := by
  show some (D.tup (cutD [pI a, pI b] none (some (n : Int)))) = _
  rw [cut_to]
  show _ = some (D.tup (([a, b].take n).map pI))
  rw [List.map_take]
  rfl
theorem c60 {d : Nat} (h : d < 5) : 1 + d ∣ 60 ^ 1 := by
  match d, h with
  | 0, _ => decide
  | 1, _ => decide
  | 2, _ => decide
  | 3, _ => decide
  | 4, _ => decide
theorem coefP {c d : Nat} (hc : c < 19) (hd : d < 5) : SzP 4 1 ((c : Int) - 9) (1 + d) := ⟨by
  show _ < 16
  omega, c60 hd⟩
theorem big_60 : 60 ^ 1 < big := by decide +kernel
theorem Tms.put {n P m k : Nat} {ts : List (List Nat × Rat)} {p : List Nat} {c : Rat} (h : Tms n P m k ts) (hp : p.length = n) (hP : ∀ e ∈ p, e ≤ P) (hc : Sz m k c) : Tms n P m k (putT ts p c) := ⟨put_nodup h.nd, fun t ht => by
  rcases put_mem ht with rfl | ht
  · exact ⟨hp, hP, hc⟩
  · exact h.at_ t ht⟩
theorem termsLoop {n g : Nat} {ds fsl : List D} (hq : Quad g ds) (hf : fsl.length = n) (hn : n ≤ 2) (hg : g ≤ 100) : ∀ (m i : Nat) (ts : List (List Nat × Rat)) (v3 v4 v5 v6 v7 : Option B), i + m = g → Tms n 3 4 1 ts → ts.length ≤ i →
    ∃ ts' w3 w4 w5 w6 w7, forD (hName 3) (gb_fr__law_terms_0 G__law_low) ((List.range' i m).map fun k => D.int (k : Nat)) [some (.sh (.lst ds)), some (.sh (.lst fsl)), some (.ow (dk fr ts)), v3, v4, v5, v6, v7] = .nx [some (.sh (.lst ds)), some (.sh (.lst fsl)), some (.ow (dk fr ts')), w3, w4, w5, w6, w7] ∧ Tms n 3 4 1 ts' ∧ ts'.length ≤ g
  | 0, i, ts, v3, v4, v5, v6, v7, hi, ht, hl => ⟨ts, v3, v4, v5, v6, v7, rfl, ht, by omega⟩
  | m + 1, i, ts, v3, v4, v5, v6, v7, hi, ht, hl => by
    obtain ⟨a, b, c, d, q1, ha, hb, hc, hd⟩ := hq.2 i (by omega)
    have h1 : slcD (.lst ds) (some (4 * (i : Nat))) (some (4 * (i : Nat) + 4)) = some (.lst [pI a, pI b, pI c, pI d]) := by
      show some (D.lst (cutD ds _ _)) = _
      have e := cut_nat ds (4 * i) (4 * i + 4) (by rw [hq.1]; omega) (by omega)
      rw [Nat.add_sub_cancel_left, q1] at e
      have e' : cutD ds (some (4 * (i : Int))) (some (4 * (i : Int) + 4)) = [pI a, pI b, pI c, pI d] := by
        rw [← e]
        simp
      rw [e']
    have hP := coefP hc hd
    have h4 := low_eq ((c : Int) - 9) (1 + d) hP.pos (Nat.lt_of_le_of_lt hP.le big_60)
    rw [show (((1 + d : Nat) : Nat) : Int) = 1 + (d : Int) by simp] at h4
    have hkl : ([a, b].take n).length = n := by
      rw [List.length_take]
      simp
      omega
    have hkP : ∀ e ∈ [a, b].take n, e ≤ 3 := fun e he => by
      have := List.mem_of_mem_take he
      simp at this
      omega
    obtain ⟨q2, q3⟩ := put_eq fr (p := [a, b].take n) (d := mkRat ((c : Int) - 9) (1 + d)) ht.nd
    have es := stepT G__law_low ds (.lst fsl) (ts.map fun t => kN t.1) (ts.map fun t => fr t.2) (kN ([a, b].take n)) i a b c d n (kT ([a, b].take n)) (fr (mkRat ((c : Int) - 9) (1 + d))) v4 v5 v6 v7 (mulB_ok (m := 3) (m' := 20) (by decide) (by
      show i < 2 ^ 20
      have : 2 ^ 20 = 1048576 := rfl
      omega) (by decide)) h1 (by rw [← hf]; rfl) (key_n a b n hn) h4 (keyT_eq _) (by
      rw [List.length_map]
      exact decide_eq_true (by omega))
    rw [q2, q3] at es
    have hl2 := put_len (p := [a, b].take n) (d := mkRat ((c : Int) - 9) (1 + d)) ts
    obtain ⟨ts', w3, w4, w5, w6, w7, e, b1, b2⟩ := termsLoop hq hf hn hg m (i + 1) (putT ts ([a, b].take n) (mkRat ((c : Int) - 9) (1 + d))) (some (.sh (.int (i : Nat)))) (some (.sh (pI a))) (some (.sh (pI b))) (some (.sh (pI c))) (some (.sh (pI d))) (by omega) (ht.put hkl hkP hP.sz) (by omega)
    refine ⟨ts', w3, w4, w5, w6, w7, ?_, b1, b2⟩
    rw [List.range'_succ, List.map_cons, for_cons]
    show loopK (gb_fr__law_terms_0 G__law_low [some (.sh (.lst ds)), some (.sh (.lst fsl)), some (.ow (dk fr ts)), some (.sh (.int (i : Nat))), v4, v5, v6, v7]) _ = _
    rw [es, loop_nx]
    exact e
theorem runT (f0 : Env → RS) (d0 d1 : D) (ks : List (List Key)) (xs : List D) (w3 w4 w5 w6 w7 : Option B) (h : f0 [some (.sh d0), some (.sh d1), some (.ow (.dT [] [])), none, none, none, none, none] = .nx [some (.sh d0), some (.sh d1), some (.ow (.dT ks xs)), w3, w4, w5, w6, w7]) : runB (gp_g__law_terms f0) 8 [d0, d1] = .ok (.dT ks xs) := by
  unfold gp_g__law_terms
  simp [fK, fOp, fU, fM, fIsN, fNotN, tB', tNot', tAnd', tOr', vAnd, vOr, vNot, fIf, lNil, lCons, fLst, fTup, fCall, fMk, fB, fSlc, oNo, oSo, fSplit, fLc, iSq, iR1, tYes', zF, zS, fF1, fF3, sSeq, sRet, sIf, sSet, sSetO, sFor, sApp, sPar, sAsg, sRaise, sFld, sFrz, sBad, sTryAs, fN, fRz, tIfx, sPar3, sRaiseB, iZip, iEnu, fMet, fMkd, fMkk, fDict, fSlcL, fSort, fRc, iZipA, iEnuA, iKs, sDrop, sDput, sLput, fDget, fChain, chainK, hLst, look, peek, bo, opt, mkL, mkT, small, fnG, mkG, int2, negC, seqD, hName, hCons, hNil, hTup, par2, appD, isOw, frz, setF, ptI, isiD, notScr, env0, env0I, selfF, runB, runI, cAbs, cLen, isNone, strD, payD, tryD, noErr, cLenS, itemS, dSub, dLt, dLe, dGt, dGe, notB, isO, zipD, zipL, par3, rzD, rcD, zipA, seqB, enuA, keysD, dgetR, dlookD, isOwD, cMax, cTup, Res.bind_ok, Res.bind_err, Res.bind_bad, seq_nx, seq_rt, seq_err, bnd_ok, bnd_err, loop_nx, loop_rt, for_nil, for_cons, int_i, h]
theorem terms_eq {n g : Nat} {ds fsl : List D} (hq : Quad g ds) (hf : fsl.length = n) (hn : n ≤ 2) (hg : g ≤ 100) : ∃ ts, G__law_terms [.lst ds, .lst fsl] = .ok (dk fr ts) ∧ Tms n 3 4 1 ts ∧ ts.length ≤ g := by
  obtain ⟨ts, w3, w4, w5, w6, w7, e, b1, b2⟩ := termsLoop hq hf hn hg g 0 [] none none none none none (by omega) ⟨List.nodup_nil, fun t ht => by simp at ht⟩ (by simp)
  refine ⟨ts, ?_, b1, b2⟩
  refine runT fr__law_terms_0 _ _ _ _ w3 w4 w5 w6 w7 ?_
  have e1 : fdivC ((ds.length : Nat) : Int) 4 = some (.int (g : Nat)) := by
    rw [fdiv_ok (by decide) (by decide), hq.1]
    congr 2
    rw [Int.fdiv_eq_ediv_of_nonneg _ (by decide)]
    omega
  have e2 : cLen [.lst ds] = some (.int (ds.length : Nat)) := rfl
  rw [← List.range_eq_range'] at e
  rw [gb_fr__law_terms_0_eq]
  simp only [sFor, iR1, lCons, lNil, fOp, int2, fB, fK, peek, List.getElem?_cons_zero, List.getElem?_cons_succ, Res.bind_ok, e2, opt, e1, rng1_eq g (by omega), bnd_ok]
  exact e
end DL.K42
namespace DL.K42
open PySem L2
/-! ### power -/
abbrev pw (k : Nat) (t : List Nat × Rat) : Nat := t.1.getD k 0
theorem item_k (p : List Nat) (k : Nat) (h : k < p.length) : itemD (kT p) (.int (k : Nat)) = some (pI (p.getD k 0)) := by
  show atI (p.map pI) (k : Int) = _
  unfold atI ixN
  rw [List.length_map, if_pos (by omega), if_pos (by omega), Option.bind_some, Int.toNat_natCast, List.getElem?_map, List.getElem?_eq_getElem h, List.getD_eq_getElem?_getD, List.getElem?_eq_getElem h]
  rfl
theorem lc_pw {n : Nat} (fs : D) (us : List (List Nat × Rat)) (k : Nat) (hk : k < n) (hu : ∀ t ∈ us, t.1.length = n) (hl : us.length ≤ 1000) : lc_Poly_power_0 [some (.sh (poly fs (dk pl us))), some (.sh (.int (k : Nat))), none] = .ok (.lst (us.map fun t => pI (pw k t))) := by
  have e := lc_m (h := hName 2) (fe := fB cInt2 (lCons (fOp itemD (peek 2) (peek 1)) lNil)) (ρ := [some (.sh (poly fs (dk pl us))), some (.sh (.int (k : Nat))), none]) (fun t : List Nat × Rat => kT t.1) (fun t => [some (.sh (poly fs (dk pl us))), some (.sh (.int (k : Nat))), some (.sh (kT t.1))]) (fun t => pI (pw k t)) us fun t ht => by
    refine ⟨rfl, ?_⟩
    have e1 := item_k t.1 k (by rw [hu t ht]; exact hk)
    simp only [fB, lCons, lNil, fOp, peek, List.getElem?_cons_zero, List.getElem?_cons_succ, Res.bind_ok, e1, opt, int_i]
  have e0 : wipeE [some (.sh (poly fs (dk pl us))), some (.sh (.int (k : Nat))), none] [2] = [some (.sh (poly fs (dk pl us))), some (.sh (.int (k : Nat))), none] := rfl
  rw [gp_lc_Poly_power_0_eq]
  unfold gp_lc_Poly_power_0
  simp only [fLc, iKs, fU, peek, List.getElem?_cons_zero, Res.bind_ok, fldP, opt, keysT, e0]
  rw [e, Res.bind_ok]
  exact mkL_ok (by rw [List.length_map]; omega)
theorem ints_eq : ∀ l : List Nat, intsD (l.map pI) = some (l.map fun (n : Nat) => (n : Int))
  | [] => rfl
  | a :: l => by
    rw [List.map_cons]
    unfold intsD
    rw [ints_eq l]
    rfl
def mx (l : List Nat) : Int := maxI 0 (l.map fun (n : Nat) => (n : Int))
theorem cMax_eq {α : Type} (f : α → Nat) (us : List α) : cMax [.lst (.int 0 :: us.map fun t => pI (f t))] = some (.int (mx (us.map f))) := by
  show (intsD (us.map fun t => pI (f t))).map (fun zs => D.int (maxI 0 zs)) = _
  have e : (us.map fun t => pI (f t)) = (us.map f).map pI := by
    rw [List.map_map]
    rfl
  rw [e, ints_eq]
  rfl
theorem maxI_mem {l l' : List Int} (h : ∀ x, x ∈ l ↔ x ∈ l') : maxI 0 l = maxI 0 l' := by
  obtain ⟨a1, a2, a3⟩ := maxI_spec l 0
  obtain ⟨b1, b2, b3⟩ := maxI_spec l' 0
  apply Int.le_antisymm
  · rcases a1 with e | e
    · rw [e]
      exact b2
    · exact b3 _ ((h _).mp e)
  · rcases b1 with e | e
    · rw [e]
      exact a2
    · exact a3 _ ((h _).mpr e)
theorem mx_perm {l l' : List Nat} (h : l.Perm l') : mx l = mx l' := maxI_mem fun _ => (h.map _).mem_iff
theorem add0 {xs : List D} (h : xs.length ≤ 100000) : addA (.lst [.int 0]) (.lst xs) = some (.lst (.int 0 :: xs)) := by
  show (if small2 1 xs.length = true then some (D.lst ([.int 0] ++ xs)) else none) = _
  rw [if_pos (by unfold small2; simp; omega)]
  rfl
theorem runPw (f0 : Env → Res D) (fs td m : D) (xs : List D) (k l : Int) (h0 : cLen [fs] = some (.int l)) (hk : 0 ≤ k) (hl : k < l) (h : f0 [some (.sh (poly fs td)), some (.sh (.int k)), none] = .ok (.lst xs)) (ha : addA (.lst [.int 0]) (.lst xs) = some (.lst (.int 0 :: xs))) (hm : cMax [.lst (.int 0 :: xs)] = some m) : runB (gp_g_Poly_power f0) 3 [poly fs td, .int k] = .ok m := by
  have e0 : env0 3 [poly fs td, .int k] = [some (.sh (poly fs td)), some (.sh (.int k)), none] := rfl
  have e1 : dLe (.int 0) (.int k) = some (.bl true) := by
    show some (D.bl (decide ((0 : Int) ≤ k))) = _
    rw [decide_eq_true hk]
  have e2 : dLt (.int k) (.int l) = some (.bl true) := by
    show some (D.bl (decide (k < l))) = _
    rw [decide_eq_true hl]
  have e3 : mkL [D.int 0] = .ok (.lst [.int 0]) := rfl
  unfold runB gp_g_Poly_power
  rw [e0]
  simp only [sSeq, sIf, tNot', tB', fChain, fK, look, peek, fB, lCons, lNil, fU, fldF, opt, List.getElem?_cons_zero, List.getElem?_cons_succ, Res.bind_ok, e1, chainK, h0, e2, bo, bnd_ok, Bool.not_true, Bool.false_eq_true, if_false, seq_nx, sRet, fOp, fLst, e3, h, ha, hm]
theorem runPwE (f0 : Env → Res D) (fs td : D) (k l : Int) (h0 : cLen [fs] = some (.int l)) (hk : ¬ (0 ≤ k ∧ k < l)) : runB (gp_g_Poly_power f0) 3 [poly fs td, .int k] = .err 0 (some (.int k)) := by
  have e0 : env0 3 [poly fs td, .int k] = [some (.sh (poly fs td)), some (.sh (.int k)), none] := rfl
  unfold runB gp_g_Poly_power
  rw [e0]
  by_cases h1 : 0 ≤ k
  · have e1 : dLe (.int 0) (.int k) = some (.bl true) := by
      show some (D.bl (decide ((0 : Int) ≤ k))) = _
      rw [decide_eq_true h1]
    have e2 : dLt (.int k) (.int l) = some (.bl false) := by
      show some (D.bl (decide (k < l))) = _
      rw [decide_eq_false (fun z => hk ⟨h1, z⟩)]
    simp only [sSeq, sIf, tNot', tB', fChain, fK, look, peek, fB, lCons, lNil, fU, fldF, opt, List.getElem?_cons_zero, List.getElem?_cons_succ, Res.bind_ok, e1, chainK, h0, e2, bo, bnd_ok, Bool.not_false, if_true, sRaise, seq_err]
  · have e1 : dLe (.int 0) (.int k) = some (.bl false) := by
      show some (D.bl (decide ((0 : Int) ≤ k))) = _
      rw [decide_eq_false h1]
    simp only [sSeq, sIf, tNot', tB', fChain, fK, look, peek, fB, lCons, lNil, fU, fldF, opt, List.getElem?_cons_zero, List.getElem?_cons_succ, Res.bind_ok, e1, chainK, h0, bo, bnd_ok, Bool.not_false, if_true, sRaise, seq_err]
theorem power_p {n : Nat} {fsl : List D} (hf : fsl.length = n) (us : List (List Nat × Rat)) (k : Nat) (hk : k < n) (hu : ∀ t ∈ us, t.1.length = n) (hl : us.length ≤ 1000) : G_Poly_power [poly (.tup fsl) (dk pl us), .int (k : Nat)] = .ok (.int (mx (us.map (pw k)))) :=
  runPw lc_Poly_power_0 (.tup fsl) (dk pl us) _ _ k n (by rw [← hf]; rfl) (by omega) (by omega) (lc_pw _ us k hk hu hl) (add0 (by rw [List.length_map]; omega)) (cMax_eq (pw k) us)
theorem power_e {n : Nat} {fsl : List D} (hf : fsl.length = n) (td : D) (k : Int) (hk : ¬ (0 ≤ k ∧ k < n)) : G_Poly_power [poly (.tup fsl) td, .int k] = .err 0 (some (.int k)) :=
  runPwE lc_Poly_power_0 (.tup fsl) td k n (by rw [← hf]; rfl) hk
theorem at_e (fs td nd : D) (l1 l2 : Int) (c1 : cLen [nd] = some (.int l1)) (c2 : cLen [fs] = some (.int l2)) (h : l1 ≠ l2) : G_Poly_at [poly fs td, nd] = .err 0 (some (.int l1)) := by
  have e : neD (.int l1) (.int l2) = some (.bl true) := by rw [ne_ii]; simp [h]
  have e0 : env0 7 [poly fs td, nd] = [some (.sh (poly fs td)), some (.sh nd), none, none, none, none, none] := rfl
  unfold G_Poly_at runB
  rw [e0, gp_g_Poly_at_eq]
  generalize fr_Poly_at_1 = f1
  unfold gp_g_Poly_at
  simp only [sSeq, sIf, tB', fOp, fB, lCons, lNil, peek, look, fU, opt, fldF, List.getElem?_cons_zero, List.getElem?_cons_succ, Res.bind_ok, c1, c2, e, bo, bnd_ok, if_true, sRaise, seq_err]
/-! ### the law's loop over the fields -/
theorem stepK (p_lc : Env → Res D) (Gi Gp : List D → Res D) (s0 s1 s2 s3 s4 s6 s7 s8 s9 s10 s11 v13 v14 s15 s16 : Option B) (pd k : D) (fs : List D) (m : Int) (xs : List D) (hp : pd = .obj 1 fs)
    (h : p_lc [s0, s1, s2, s3, s4, some (.sh pd), s6, s7, s8, s9, s10, s11, some (.sh k), v13, v14, s15, s16] = .ok (.lst xs)) (ha : addA (.lst [.int 0]) (.lst xs) = some (.lst (.int 0 :: xs))) (hm : cMax [.lst (.int 0 :: xs)] = some (.int m)) (hg : Gp [pd, k] = .ok (.int m)) (hi : Gi [.int m] = .ok (.bl true)) :
    gb_fr_law_2 p_lc Gi Gp [s0, s1, s2, s3, s4, some (.sh pd), s6, s7, s8, s9, s10, s11, some (.sh k), v13, v14, s15, s16] = .nx [s0, s1, s2, s3, s4, some (.sh pd), s6, s7, s8, s9, s10, s11, some (.sh k), some (.sh (.int m)), v14, s15, s16] := by
  have e3 : mkL [D.int 0] = .ok (.lst [.int 0]) := rfl
  have e4 : isO 1 pd = .ok pd := by
    rw [hp]
    rfl
  have e5 : neD (.int m) (.int m) = some (.bl false) := by rw [ne_ii]; simp
  unfold gb_fr_law_2
  simp only [sSeq, sSet, fB, lCons, lNil, fOp, fLst, fK, Res.bind_ok, e3, h, ha, opt, hm, bnd_ok, List.set_cons_succ, List.set_cons_zero, seq_nx, sIf, tOr', tNot', tB', fCall, fMet, look, peek, List.getElem?_cons_zero, List.getElem?_cons_succ, e4, fnG, List.length_cons, List.length_nil, if_true, hg, hi, bo, Bool.not_true, Bool.false_eq_true, if_false, e5]
theorem lc_due {n : Nat} (s0 s1 s2 s4 s5 s6 s7 s8 s9 s10 s11 v13 v14 s15 s16 : Option B) (ts : List (List Nat × Rat)) (k : Nat) (hn : (ts.map (·.1)).Nodup) (hk : k < n) (hu : ∀ t ∈ ts, t.1.length = n) (hl : ts.length ≤ 1000) : lc_law_1 [s0, s1, s2, some (.sh (dk fr ts)), s4, s5, s6, s7, s8, s9, s10, s11, some (.sh (.int (k : Nat))), v13, v14, s15, s16] = .ok (.lst ((nzT ts).map fun t => pI (pw k t))) := by
  have e := lc_m (h := hName 14) (fe := fB cInt2 (lCons (fOp itemD (peek 14) (peek 12)) lNil)) (ρ := [s0, s1, s2, some (.sh (dk fr ts)), s4, s5, s6, s7, s8, s9, s10, s11, some (.sh (.int (k : Nat))), v13, none, s15, s16]) (fun t : List Nat × Rat => kT t.1) (fun t => [s0, s1, s2, some (.sh (dk fr ts)), s4, s5, s6, s7, s8, s9, s10, s11, some (.sh (.int (k : Nat))), v13, some (.sh (kT t.1)), s15, s16]) (fun t => pI (pw k t)) (nzT ts) fun t ht => by
    refine ⟨rfl, ?_⟩
    have e1 := item_k t.1 k (by rw [hu t (List.mem_filter.mp ht).1]; exact hk)
    simp only [fB, lCons, lNil, fOp, peek, List.getElem?_cons_zero, List.getElem?_cons_succ, Res.bind_ok, e1, opt, int_i]
  have e0 : wipeE [s0, s1, s2, some (.sh (dk fr ts)), s4, s5, s6, s7, s8, s9, s10, s11, some (.sh (.int (k : Nat))), v13, v14, s15, s16] [14] = [s0, s1, s2, some (.sh (dk fr ts)), s4, s5, s6, s7, s8, s9, s10, s11, some (.sh (.int (k : Nat))), v13, none, s15, s16] := rfl
  have e1 := kept_eq hn hl
  rw [gp_lc_law_1_eq]
  generalize G__law_kept = Gk at *
  unfold gp_lc_law_1
  simp only [fLc, iKs, fCall, lCons, lNil, look, List.getElem?_cons_zero, List.getElem?_cons_succ, Res.bind_ok, fnG, List.length_cons, List.length_nil, if_true, e1, keysT, e0]
  rw [e, Res.bind_ok]
  exact mkL_ok (by
    rw [List.length_map]
    have : (nzT ts).length ≤ ts.length := List.length_filter_le _ ts
    omega)
theorem lawLoop {n : Nat} {fsl : List D} (hf : fsl.length = n) (ts us : List (List Nat × Rat)) (hn : (ts.map (·.1)).Nodup) (hu : ∀ t ∈ ts, t.1.length = n) (hl : ts.length ≤ 1000) (hp : us.Perm (nzT ts)) (s0 s1 s2 s4 s6 s7 s8 s9 s10 s11 s15 s16 : Option B) :
    ∀ (ks : List Nat) (v12 v13 v14 : Option B), (∀ k ∈ ks, k < n) → ∃ w12 w13, forD (hName 12) (gb_fr_law_2 lc_law_1 G__law_is_int G_Poly_power) (ks.map fun k => D.int (k : Nat)) [s0, s1, s2, some (.sh (dk fr ts)), s4, some (.sh (poly (.tup fsl) (dk pl us))), s6, s7, s8, s9, s10, s11, v12, v13, v14, s15, s16] = .nx [s0, s1, s2, some (.sh (dk fr ts)), s4, some (.sh (poly (.tup fsl) (dk pl us))), s6, s7, s8, s9, s10, s11, w12, w13, v14, s15, s16]
  | [], v12, v13, v14, _ => ⟨v12, v13, rfl⟩
  | k :: ks, v12, v13, v14, hk => by
    have hk0 := hk k List.mem_cons_self
    obtain ⟨w12, w13, e⟩ := lawLoop hf ts us hn hu hl hp s0 s1 s2 s4 s6 s7 s8 s9 s10 s11 s15 s16 ks (some (.sh (.int (k : Nat)))) (some (.sh (.int (mx ((nzT ts).map (pw k)))))) v14 fun x hx => hk x (List.mem_cons_of_mem _ hx)
    refine ⟨w12, w13, ?_⟩
    have hlz : (nzT ts).length ≤ ts.length := List.length_filter_le _ ts
    have hgp := power_p hf us k hk0 (fun t ht => hu t (List.mem_filter.mp (hp.mem_iff.mp ht)).1) (by rw [hp.length_eq]; omega)
    rw [mx_perm (hp.map (pw k))] at hgp
    have es := stepK lc_law_1 G__law_is_int G_Poly_power s0 s1 s2 (some (.sh (dk fr ts))) s4 s6 s7 s8 s9 s10 s11 v13 v14 s15 s16 (poly (.tup fsl) (dk pl us)) (.int (k : Nat)) _ _ _ rfl (lc_due s0 s1 s2 s4 _ s6 s7 s8 s9 s10 s11 v13 v14 s15 s16 ts k hn hk0 hu hl) (add0 (by rw [List.length_map]; omega)) (cMax_eq (pw k) (nzT ts)) hgp rfl
    rw [List.map_cons, for_cons]
    show loopK (gb_fr_law_2 lc_law_1 G__law_is_int G_Poly_power [s0, s1, s2, some (.sh (dk fr ts)), s4, some (.sh (poly (.tup fsl) (dk pl us))), s6, s7, s8, s9, s10, s11, some (.sh (.int (k : Nat))), v13, v14, s15, s16]) _ = _
    rw [es, loop_nx]
    exact e
end DL.K42
namespace DL.K42
open PySem L2
theorem cell_ok (ns : List Int) (k : Nat) : ∃ i : Int, G__law_cell [.scr ns, .int k] = .ok (.int i) := by
  unfold G__law_cell g__law_cell
  by_cases h : (k : Int) < (ns.length : Int)
  · have e : atI ns (k : Int) = some (ns[k]'(by omega)) := atI_nat (by simp)
    exact ⟨ns[k]'(by omega), by simp [fK, fOp, fU, fM, fIsN, fNotN, tB', tNot', tAnd', tOr', vAnd, vOr, vNot, fIf, lNil, lCons, fLst, fTup, fCall, fMk, fB, fSlc, oNo, oSo, fSplit, fLc, iSq, iR1, tYes', zF, zS, fF1, fF3, sSeq, sRet, sIf, sSet, sSetO, sFor, sApp, sPar, sAsg, sRaise, sFld, sFrz, sBad, sTryAs, fN, fRz, tIfx, sPar3, sRaiseB, iZip, iEnu, fMet, fMkd, fMkk, fDict, fSlcL, fSort, fRc, iZipA, iEnuA, iKs, sDrop, sDput, sLput, fDget, fChain, chainK, hLst, look, peek, bo, opt, mkL, mkT, small, fnG, mkG, int2, negC, seqD, hName, hCons, hNil, hTup, par2, appD, isOw, frz, setF, ptI, isiD, notScr, env0, env0I, selfF, runB, runI, cAbs, cLen, isNone, strD, payD, tryD, noErr, cLenS, itemS, dSub, dLt, dLe, dGt, dGe, notB, isO, zipD, zipL, par3, rzD, rcD, zipA, seqB, enuA, keysD, dgetR, dlookD, isOwD, cMax, cTup, Res.bind_ok, Res.bind_err, Res.bind_bad, seq_nx, seq_rt, seq_err, bnd_ok, bnd_err, loop_nx, loop_rt, for_nil, for_cons, int_i, h, e]⟩
  · exact ⟨0, by simp [fK, fOp, fU, fM, fIsN, fNotN, tB', tNot', tAnd', tOr', vAnd, vOr, vNot, fIf, lNil, lCons, fLst, fTup, fCall, fMk, fB, fSlc, oNo, oSo, fSplit, fLc, iSq, iR1, tYes', zF, zS, fF1, fF3, sSeq, sRet, sIf, sSet, sSetO, sFor, sApp, sPar, sAsg, sRaise, sFld, sFrz, sBad, sTryAs, fN, fRz, tIfx, sPar3, sRaiseB, iZip, iEnu, fMet, fMkd, fMkk, fDict, fSlcL, fSort, fRc, iZipA, iEnuA, iKs, sDrop, sDput, sLput, fDget, fChain, chainK, hLst, look, peek, bo, opt, mkL, mkT, small, fnG, mkG, int2, negC, seqD, hName, hCons, hNil, hTup, par2, appD, isOw, frz, setF, ptI, isiD, notScr, env0, env0I, selfF, runB, runI, cAbs, cLen, isNone, strD, payD, tryD, noErr, cLenS, itemS, dSub, dLt, dLe, dGt, dGe, notB, isO, zipD, zipL, par3, rzD, rcD, zipA, seqB, enuA, keysD, dgetR, dlookD, isOwD, cMax, cTup, Res.bind_ok, Res.bind_err, Res.bind_bad, seq_nx, seq_rt, seq_err, bnd_ok, bnd_err, loop_nx, loop_rt, for_nil, for_cons, int_i, h]⟩
theorem fm {i j : Int} (h : 0 < j) : 0 ≤ i.fmod j ∧ i.fmod j < j := by
  rw [Int.fmod_eq_emod_of_nonneg _ (by omega)]
  exact ⟨Int.emod_nonneg _ (by omega), Int.emod_lt_of_pos _ h⟩
theorem p18 : powC 10 18 = some (.int 1000000000000000000) := by
  unfold powC
  rw [if_pos (by decide +kernel)]
  rfl
theorem for_st (i : Nat) (g : Env → RS) (d : D) (r : List D) (ρ : Env) : forD (hName i) g (d :: r) ρ = loopK (g (ρ.set i (some (.sh d)))) (forD (hName i) g r) := rfl
/-- numbers below their sizes -/
def Fits : List Int → List Int → Prop
  | [], [] => True
  | y :: ys, s :: ss => (0 ≤ y ∧ y < s) ∧ Fits ys ss
  | _, _ => False
theorem Fits.len : ∀ {ys ss : List Int}, Fits ys ss → ys.length = ss.length
  | [], [], _ => rfl
  | y :: ys, s :: ss, h => by simp [Fits.len h.2]
  | [], _ :: _, h => h.elim
  | _ :: _, [], h => h.elim
def rbody : Env → RS := (sSeq (sSet 6 (fOp addA (fOp (int2 modC) (fB cInt2 (lCons (fOp (int2 powC) (fOp addA (fOp addA (peek 4) (fOp (int2 mulB) (fK (.int 7919)) (peek 5))) (fK (.int 104729))) (fK (.int 5))) lNil)) (fK (.int 2147483647))) (peek 5))) (sApp 2 (fOp (int2 modC) (fB cInt2 (lCons (fOp (int2 modC) (fB cInt2 (lCons (fOp (int2 mulB) (peek 6) (fK (.int 40692))) lNil)) (fK (.int 2147483629))) lNil)) (fOp itemD (peek 1) (peek 5)))))
def sbody : Env → RS := (sSeq (sApp 2 (fOp (int2 modC) (fB cInt2 (lCons (peek 0) lNil)) (peek 3))) (sSet 0 (fOp (int2 fdivC) (peek 0) (peek 3))))
theorem mulS {i j : Int} (h : -(2 ^ 64) < i ∧ i < 2 ^ 64) : mulB i j = some (.int (i * j)) := if_pos (.inr (.inl h))
theorem row_step (S size : Int) (k : Nat) (sz xs : List D) (x0 x3 x5 x6 : Option B) (hS : 0 ≤ S ∧ S < 2147483647) (hk : k ≤ 1000) (hsz : itemD (.lst sz) (.int k) = some (.int size)) (hpos : 0 < size) (hl : xs.length < 2000) :
    ∃ (r : Int) (x6' : Option B), (0 ≤ r ∧ r < size) ∧ rbody [x0, some (.sh (.lst sz)), some (.ow (.lst xs)), x3, some (.sh (.int S)), some (.sh (.int k)), x6] = .nx [x0, some (.sh (.lst sz)), some (.ow (.lst (xs ++ [.int r]))), x3, some (.sh (.int S)), some (.sh (.int k)), x6'] := by
  have h1 : mulB 7919 k = some (.int (7919 * k)) := mulS (by decide)
  have h2 : powC (S + 7919 * k + 104729) 5 = some (.int ((S + 7919 * k + 104729) ^ 5)) := by
    unfold powC
    rw [if_pos ⟨by decide, by decide, by omega⟩]
    rfl
  have h3 := mod_ok (i := (S + 7919 * k + 104729) ^ 5) (j := 2147483647) (by decide)
  have b3 := fm (i := (S + 7919 * k + 104729) ^ 5) (j := 2147483647) (by decide)
  generalize ((S + 7919 * k + 104729) ^ 5).fmod 2147483647 = m at *
  have h4 : mulB (m + k) 40692 = some (.int ((m + k) * 40692)) := mulS (by omega)
  have h5 := mod_ok (i := (m + k) * 40692) (j := 2147483629) (by decide)
  generalize ((m + k) * 40692).fmod 2147483629 = y at *
  have h6 := mod_ok (i := y) (j := size) (by omega)
  have b6 := fm (i := y) (j := size) hpos
  refine ⟨y.fmod size, some (.sh (.int (m + k))), b6, ?_⟩
  have hl' : xs.length + 1 ≤ 1000000 := by omega
  unfold rbody
  simp [fK, fOp, fU, fM, fIsN, fNotN, tB', tNot', tAnd', tOr', vAnd, vOr, vNot, fIf, lNil, lCons, fLst, fTup, fCall, fMk, fB, fSlc, oNo, oSo, fSplit, fLc, iSq, iR1, tYes', zF, zS, fF1, fF3, sSeq, sRet, sIf, sSet, sSetO, sFor, sApp, sPar, sAsg, sRaise, sFld, sFrz, sBad, sTryAs, fN, fRz, tIfx, sPar3, sRaiseB, iZip, iEnu, fMet, fMkd, fMkk, fDict, fSlcL, fSort, fRc, iZipA, iEnuA, iKs, sDrop, sDput, sLput, fDget, fChain, chainK, hLst, look, peek, bo, opt, mkL, mkT, small, fnG, mkG, int2, negC, seqD, hName, hCons, hNil, hTup, par2, appD, isOw, frz, setF, ptI, isiD, notScr, env0, env0I, selfF, runB, runI, cAbs, cLen, isNone, strD, payD, tryD, noErr, cLenS, itemS, dSub, dLt, dLe, dGt, dGe, notB, isO, zipD, zipL, par3, rzD, rcD, zipA, seqB, enuA, keysD, dgetR, dlookD, isOwD, cMax, cTup, Res.bind_ok, Res.bind_err, Res.bind_bad, seq_nx, seq_rt, seq_err, bnd_ok, bnd_err, loop_nx, loop_rt, for_nil, for_cons, int_i, addA, h1, h2, h3, h4, h5, h6, hsz, hl']
theorem loopA : ∀ (ss acc : List Int) (c : Int) (S x3 : Option B), (∀ s ∈ ss, 0 < s ∧ s.natAbs.log2 < 9000) → acc.length + ss.length ≤ 1000 → ∃ (ys : List Int) (c' : Int) (x3' : Option B), Fits ys ss ∧
    forD (hName 3) sbody (ss.map .int) [some (.sh (.int c)), S, some (.ow (.lst (acc.map .int))), x3, none, none, none] = .nx [some (.sh (.int c')), S, some (.ow (.lst ((acc ++ ys).map .int))), x3', none, none, none]
  | [], acc, c, S, x3, _, _ => ⟨[], c, x3, trivial, by simp [for_nil]⟩
  | s :: ss, acc, c, S, x3, hp, hl => by
    obtain ⟨hs, hlog⟩ := hp s List.mem_cons_self
    have h1 := mod_ok (i := c) (j := s) (by omega)
    have h2 := fdiv_ok (i := c) (j := s) (by omega) hlog
    obtain ⟨ys, c', x3', h3, h4⟩ := loopA ss (acc ++ [c.fmod s]) (c.fdiv s) S (some (.sh (.int s))) (fun t ht => hp t (List.mem_cons_of_mem _ ht)) (by simp at hl ⊢; omega)
    refine ⟨c.fmod s :: ys, c', x3', ⟨fm hs, h3⟩, ?_⟩
    have hl' : acc.length + 1 ≤ 1000000 := by simp at hl; omega
    have e : sbody [some (.sh (.int c)), S, some (.ow (.lst (acc.map .int))), some (.sh (.int s)), none, none, none] = .nx [some (.sh (.int (c.fdiv s))), S, some (.ow (.lst ((acc ++ [c.fmod s]).map .int))), some (.sh (.int s)), none, none, none] := by
      unfold sbody
      simp [fK, fOp, fU, fM, fIsN, fNotN, tB', tNot', tAnd', tOr', vAnd, vOr, vNot, fIf, lNil, lCons, fLst, fTup, fCall, fMk, fB, fSlc, oNo, oSo, fSplit, fLc, iSq, iR1, tYes', zF, zS, fF1, fF3, sSeq, sRet, sIf, sSet, sSetO, sFor, sApp, sPar, sAsg, sRaise, sFld, sFrz, sBad, sTryAs, fN, fRz, tIfx, sPar3, sRaiseB, iZip, iEnu, fMet, fMkd, fMkk, fDict, fSlcL, fSort, fRc, iZipA, iEnuA, iKs, sDrop, sDput, sLput, fDget, fChain, chainK, hLst, look, peek, bo, opt, mkL, mkT, small, fnG, mkG, int2, negC, seqD, hName, hCons, hNil, hTup, par2, appD, isOw, frz, setF, ptI, isiD, notScr, env0, env0I, selfF, runB, runI, cAbs, cLen, isNone, strD, payD, tryD, noErr, cLenS, itemS, dSub, dLt, dLe, dGt, dGe, notB, isO, zipD, zipL, par3, rzD, rcD, zipA, seqB, enuA, keysD, dgetR, dlookD, isOwD, cMax, cTup, Res.bind_ok, Res.bind_err, Res.bind_bad, seq_nx, seq_rt, seq_err, bnd_ok, bnd_err, loop_nx, loop_rt, for_nil, for_cons, int_i, h1, h2, hl']
    rw [List.map_cons, for_st]
    simp only [List.set]
    rw [e, loop_nx, h4]
    simp
theorem loopB (ss : List Int) (S : Int) (x0 x3 : Option B) (hS : 0 ≤ S ∧ S < 2147483647) (hp : ∀ s ∈ ss, 0 < s) (hn : ss.length ≤ 1000) : ∀ (m i : Nat) (acc : List Int) (x5 x6 : Option B), i + m = ss.length → acc.length ≤ 1000 + i → ∃ (ys : List Int) (x5' x6' : Option B), Fits ys (ss.drop i) ∧
    forD (hName 5) rbody ((List.range' i m).map fun k => D.int (k : Nat)) [x0, some (.sh (.lst (ss.map .int))), some (.ow (.lst (acc.map .int))), x3, some (.sh (.int S)), x5, x6] = .nx [x0, some (.sh (.lst (ss.map .int))), some (.ow (.lst ((acc ++ ys).map .int))), x3, some (.sh (.int S)), x5', x6']
  | 0, i, acc, x5, x6, h, _ => ⟨[], x5, x6, by rw [List.drop_eq_nil_of_le (by omega)]; trivial, by simp [for_nil]⟩
  | m + 1, i, acc, x5, x6, h, hl => by
    have hi : i < ss.length := by omega
    have hsz : itemD (.lst (ss.map .int)) (.int (i : Nat)) = some (.int ss[i]) := by
      show atI (ss.map D.int) (i : Int) = _
      rw [atI_nat (v := .int ss[i]) (by simp [hi])]
    obtain ⟨r, x6', b, e⟩ := row_step S ss[i] i (ss.map .int) (acc.map .int) x0 x3 x5 x6 hS (by omega) hsz (hp _ (List.getElem_mem hi)) (by simp; omega)
    obtain ⟨ys, x5', x6'', h3, h4⟩ := loopB ss S x0 x3 hS hp hn m (i + 1) (acc ++ [r]) (some (.sh (.int (i : Nat)))) x6' (by omega) (by simp; omega)
    refine ⟨r :: ys, x5', x6'', ?_, ?_⟩
    · rw [List.drop_eq_getElem_cons hi]
      exact ⟨b, h3⟩
    · rw [List.range'_succ, List.map_cons, for_st]
      simp only [List.set]
      rw [e, loop_nx]
      have e2 : (acc.map D.int ++ [D.int r]) = (acc ++ [r]).map .int := by simp
      rw [e2, h4]
      simp
theorem rowA (c : Int) (ss : List Int) (hp : ∀ s ∈ ss, 0 < s ∧ s.natAbs.log2 < 9000) (hn : ss.length ≤ 1000) : ∃ (xs : List Int) (ρ : Env), fr__law_row_0 [some (.sh (.int c)), some (.sh (.lst (ss.map .int))), some (.ow (.lst [])), none, none, none, none] = .nx ρ ∧ ρ[2]? = some (some (.ow (.lst (xs.map .int)))) ∧ Fits xs ss := by
  obtain ⟨ys, c', x3', h1, h2⟩ := loopA ss [] c (some (.sh (.lst (ss.map .int)))) none hp (by simpa using hn)
  rw [List.map_nil, List.nil_append] at h2
  have e1 : fr__law_row_0 = sFor (iSq (look 1)) (hName 3) sbody := rfl
  rw [e1]
  exact ⟨ys, _, h2, rfl, h1⟩
theorem rowB (c S : Int) (ss : List Int) (hS : 0 ≤ S ∧ S < 2147483647) (hp : ∀ s ∈ ss, 0 < s) (hn : ss.length ≤ 1000) : ∃ (xs : List Int) (ρ : Env), fr__law_row_1 [some (.sh (.int c)), some (.sh (.lst (ss.map .int))), some (.ow (.lst [])), none, some (.sh (.int S)), none, none] = .nx ρ ∧ ρ[2]? = some (some (.ow (.lst (xs.map .int)))) ∧ Fits xs ss := by
  obtain ⟨ys, x5', x6', h1, h2⟩ := loopB ss S (some (.sh (.int c))) none hS hp hn ss.length 0 [] none none (by omega) (by simp)
  rw [List.map_nil, List.nil_append] at h2
  have hlen : cLen [.lst (ss.map .int)] = some (.int (ss.length : Nat)) := by
    simp [cLen, List.length_map]
  have hr : rng1 [.int (ss.length : Nat)] = .ok ((List.range' 0 ss.length).map fun k => D.int (k : Nat)) := by
    unfold rng1
    dsimp only
    rw [if_pos (by omega), ← List.range_eq_range']
    simp [rngD]
  have e1 : fr__law_row_1 = sFor (iR1 (lCons (fB cLen (lCons (peek 1) lNil)) lNil)) (hName 5) rbody := rfl
  have e2 : iR1 (lCons (fB cLen (lCons (peek 1) lNil)) lNil) [some (.sh (.int c)), some (.sh (.lst (ss.map .int))), some (.ow (.lst [])), none, some (.sh (.int S)), none, none] = .ok ((List.range' 0 ss.length).map fun k => D.int (k : Nat)) := by
    rw [← hr]
    simp [fK, fOp, fU, fM, fIsN, fNotN, tB', tNot', tAnd', tOr', vAnd, vOr, vNot, fIf, lNil, lCons, fLst, fTup, fCall, fMk, fB, fSlc, oNo, oSo, fSplit, fLc, iSq, iR1, tYes', zF, zS, fF1, fF3, sSeq, sRet, sIf, sSet, sSetO, sFor, sApp, sPar, sAsg, sRaise, sFld, sFrz, sBad, sTryAs, fN, fRz, tIfx, sPar3, sRaiseB, iZip, iEnu, fMet, fMkd, fMkk, fDict, fSlcL, fSort, fRc, iZipA, iEnuA, iKs, sDrop, sDput, sLput, fDget, fChain, chainK, hLst, look, peek, bo, opt, mkL, mkT, small, fnG, mkG, int2, negC, seqD, hName, hCons, hNil, hTup, par2, appD, isOw, frz, setF, ptI, isiD, notScr, env0, env0I, selfF, runB, runI, cAbs, cLen, isNone, strD, payD, tryD, noErr, cLenS, itemS, dSub, dLt, dLe, dGt, dGe, notB, isO, zipD, zipL, par3, rzD, rcD, zipA, seqB, enuA, keysD, dgetR, dlookD, isOwD, cMax, cTup, Res.bind_ok, Res.bind_err, Res.bind_bad, seq_nx, seq_rt, seq_err, bnd_ok, bnd_err, loop_nx, loop_rt, for_nil, for_cons, int_i, hlen]
  rw [e1]
  show ∃ (xs : List Int) (ρ : Env), bindS (iR1 (lCons (fB cLen (lCons (peek 1) lNil)) lNil) [some (.sh (.int c)), some (.sh (.lst (ss.map .int))), some (.ow (.lst [])), none, some (.sh (.int S)), none, none]) _ (fun items => forD (hName 5) rbody items [some (.sh (.int c)), some (.sh (.lst (ss.map .int))), some (.ow (.lst [])), none, some (.sh (.int S)), none, none]) = .nx ρ ∧ _
  rw [e2]
  exact ⟨ys, _, h2, rfl, h1⟩
theorem rowA' (c : Int) (ss : List Int) (h : (1000000000000000000 : Int) ≤ c) (ys : List Int) (ρ : Env) (e : fr__law_row_0 [some (.sh (.int c)), some (.sh (.lst (ss.map .int))), some (.ow (.lst [])), none, none, none, none] = .nx ρ) (h2 : ρ[2]? = some (some (.ow (.lst (ys.map .int))))) : G__law_row [.int c, .lst (ss.map .int)] = .ok (.lst (ys.map .int)) := by
  have h3 : (ρ.set 2 (some (.sh (.lst (ys.map .int)))))[2]? = some (some (.sh (.lst (ys.map .int)))) := get_set_self (lt_of_get h2)
  unfold G__law_row g__law_row
  generalize fr__law_row_0 = f0 at *
  generalize fr__law_row_1 = f1 at *
  simp [fK, fOp, fU, fM, fIsN, fNotN, tB', tNot', tAnd', tOr', vAnd, vOr, vNot, fIf, lNil, lCons, fLst, fTup, fCall, fMk, fB, fSlc, oNo, oSo, fSplit, fLc, iSq, iR1, tYes', zF, zS, fF1, fF3, sSeq, sRet, sIf, sSet, sSetO, sFor, sApp, sPar, sAsg, sRaise, sFld, sFrz, sBad, sTryAs, fN, fRz, tIfx, sPar3, sRaiseB, iZip, iEnu, fMet, fMkd, fMkk, fDict, fSlcL, fSort, fRc, iZipA, iEnuA, iKs, sDrop, sDput, sLput, fDget, fChain, chainK, hLst, look, peek, bo, opt, mkL, mkT, small, fnG, mkG, int2, negC, seqD, hName, hCons, hNil, hTup, par2, appD, isOw, frz, setF, ptI, isiD, notScr, env0, env0I, selfF, runB, runI, cAbs, cLen, isNone, strD, payD, tryD, noErr, cLenS, itemS, dSub, dLt, dLe, dGt, dGe, notB, isO, zipD, zipL, par3, rzD, rcD, zipA, seqB, enuA, keysD, dgetR, dlookD, isOwD, cMax, cTup, Res.bind_ok, Res.bind_err, Res.bind_bad, seq_nx, seq_rt, seq_err, bnd_ok, bnd_err, loop_nx, loop_rt, for_nil, for_cons, int_i, p18, h, e, h2]
  simp only [h3, bnd_ok, seq_rt]
theorem run_row (g1 : Env → Res Bool) (g2 : Env → Res D) (f0 f1 : Env → RS) (a b S : D) (ys : List D) (ρ : Env) (t1 : g1 [some (.sh a), some (.sh b), some (.ow (.lst [])), none, none, none, none] = .ok false) (t2 : g2 [some (.sh a), some (.sh b), some (.ow (.lst [])), none, none, none, none] = .ok S)
    (e : f1 [some (.sh a), some (.sh b), some (.ow (.lst [])), none, some (.sh S), none, none] = .nx ρ) (h2 : ρ[2]? = some (some (.ow (.lst ys)))) :
    runB (sSeq (sSetO 2 (fLst lNil)) (sSeq (sIf g1 (sSeq f0 (sFrz 2 (sRet (look 2)))) .nx) (sSeq (sSet 4 g2) (sSeq f1 (sFrz 2 (sRet (look 2))))))) 7 [a, b] = .ok (.lst ys) := by
  have h3 : (ρ.set 2 (some (.sh (.lst ys))))[2]? = some (some (.sh (.lst ys))) := get_set_self (lt_of_get h2)
  simp [fK, fOp, fU, fM, fIsN, fNotN, tB', tNot', tAnd', tOr', vAnd, vOr, vNot, fIf, lNil, lCons, fLst, fTup, fCall, fMk, fB, fSlc, oNo, oSo, fSplit, fLc, iSq, iR1, tYes', zF, zS, fF1, fF3, sSeq, sRet, sIf, sSet, sSetO, sFor, sApp, sPar, sAsg, sRaise, sFld, sFrz, sBad, sTryAs, fN, fRz, tIfx, sPar3, sRaiseB, iZip, iEnu, fMet, fMkd, fMkk, fDict, fSlcL, fSort, fRc, iZipA, iEnuA, iKs, sDrop, sDput, sLput, fDget, fChain, chainK, hLst, look, peek, bo, opt, mkL, mkT, small, fnG, mkG, int2, negC, seqD, hName, hCons, hNil, hTup, par2, appD, isOw, frz, setF, ptI, isiD, notScr, env0, env0I, selfF, runB, runI, cAbs, cLen, isNone, strD, payD, tryD, noErr, cLenS, itemS, dSub, dLt, dLe, dGt, dGe, notB, isO, zipD, zipL, par3, rzD, rcD, zipA, seqB, enuA, keysD, dgetR, dlookD, isOwD, cMax, cTup, Res.bind_ok, Res.bind_err, Res.bind_bad, seq_nx, seq_rt, seq_err, bnd_ok, bnd_err, loop_nx, loop_rt, for_nil, for_cons, int_i, t1, t2, e, h2]
  simp only [h3, bnd_ok]
theorem dge_no {c N : Int} (h : ¬ N ≤ c) : dGe (.int c) (.int N) = some (.bl false) := by
  show some (D.bl (decide (N ≤ c))) = _
  rw [decide_eq_false h]
theorem ge_no {a b : Int} {c N : Int} {x y : Option B} (p : powC a b = some (.int N)) (h : ¬ N ≤ c) : tB' (fOp dGe (peek 0) (fOp (int2 powC) (fK (.int a)) (fK (.int b)))) [some (.sh (.int c)), x, y, none, none, none, none] = .ok false := by
  simp [fK, fOp, fU, fM, fIsN, fNotN, tB', tNot', tAnd', tOr', vAnd, vOr, vNot, fIf, lNil, lCons, fLst, fTup, fCall, fMk, fB, fSlc, oNo, oSo, fSplit, fLc, iSq, iR1, tYes', zF, zS, fF1, fF3, sSeq, sRet, sIf, sSet, sSetO, sFor, sApp, sPar, sAsg, sRaise, sFld, sFrz, sBad, sTryAs, fN, fRz, tIfx, sPar3, sRaiseB, iZip, iEnu, fMet, fMkd, fMkk, fDict, fSlcL, fSort, fRc, iZipA, iEnuA, iKs, sDrop, sDput, sLput, fDget, fChain, chainK, hLst, look, peek, bo, opt, mkL, mkT, small, fnG, mkG, int2, negC, seqD, hName, hCons, hNil, hTup, par2, appD, isOw, frz, setF, ptI, isiD, notScr, env0, env0I, selfF, runB, runI, cAbs, cLen, isNone, strD, payD, tryD, noErr, cLenS, itemS, dSub, dLt, dLe, dGt, dGe, notB, isO, zipD, zipL, par3, rzD, rcD, zipA, seqB, enuA, keysD, dgetR, dlookD, isOwD, cMax, cTup, Res.bind_ok, Res.bind_err, Res.bind_bad, seq_nx, seq_rt, seq_err, bnd_ok, bnd_err, loop_nx, loop_rt, for_nil, for_cons, int_i, p, h]
theorem md_ok {c S M : Int} {x y : Option B} (m1 : modC c M = some (.int S)) : fOp (int2 modC) (fB cInt2 (lCons (peek 0) lNil)) (fK (.int M)) [some (.sh (.int c)), x, y, none, none, none, none] = .ok (.int S) := by
  simp [fK, fOp, fU, fM, fIsN, fNotN, tB', tNot', tAnd', tOr', vAnd, vOr, vNot, fIf, lNil, lCons, fLst, fTup, fCall, fMk, fB, fSlc, oNo, oSo, fSplit, fLc, iSq, iR1, tYes', zF, zS, fF1, fF3, sSeq, sRet, sIf, sSet, sSetO, sFor, sApp, sPar, sAsg, sRaise, sFld, sFrz, sBad, sTryAs, fN, fRz, tIfx, sPar3, sRaiseB, iZip, iEnu, fMet, fMkd, fMkk, fDict, fSlcL, fSort, fRc, iZipA, iEnuA, iKs, sDrop, sDput, sLput, fDget, fChain, chainK, hLst, look, peek, bo, opt, mkL, mkT, small, fnG, mkG, int2, negC, seqD, hName, hCons, hNil, hTup, par2, appD, isOw, frz, setF, ptI, isiD, notScr, env0, env0I, selfF, runB, runI, cAbs, cLen, isNone, strD, payD, tryD, noErr, cLenS, itemS, dSub, dLt, dLe, dGt, dGe, notB, isO, zipD, zipL, par3, rzD, rcD, zipA, seqB, enuA, keysD, dgetR, dlookD, isOwD, cMax, cTup, Res.bind_ok, Res.bind_err, Res.bind_bad, seq_nx, seq_rt, seq_err, bnd_ok, bnd_err, loop_nx, loop_rt, for_nil, for_cons, int_i, m1]
theorem row_is : G__law_row = runB (sSeq (sSetO 2 (fLst lNil)) (sSeq (sIf (tB' (fOp dGe (peek 0) (fOp (int2 powC) (fK (.int 10)) (fK (.int 18))))) (sSeq fr__law_row_0 (sFrz 2 (sRet (look 2)))) .nx) (sSeq (sSet 4 (fOp (int2 modC) (fB cInt2 (lCons (peek 0) lNil)) (fK (.int 2147483647)))) (sSeq fr__law_row_1 (sFrz 2 (sRet (look 2))))))) 7 := rfl
theorem rowB' (c S : Int) (ss : List Int) (h : ¬ (1000000000000000000 : Int) ≤ c) (m1 : modC c 2147483647 = some (.int S)) (ys : List Int) (ρ : Env) (e : fr__law_row_1 [some (.sh (.int c)), some (.sh (.lst (ss.map .int))), some (.ow (.lst [])), none, some (.sh (.int S)), none, none] = .nx ρ) (h2 : ρ[2]? = some (some (.ow (.lst (ys.map .int))))) : G__law_row [.int c, .lst (ss.map .int)] = .ok (.lst (ys.map .int)) := by
  rw [row_is]
  exact run_row _ _ _ _ _ _ _ _ ρ (ge_no p18 h) (md_ok m1) e h2
/-- the draws: numbers below their sizes -/
theorem row_all (c : Int) (ss : List Int) (hp : ∀ s ∈ ss, 0 < s ∧ s.natAbs.log2 < 9000) (hn : ss.length ≤ 1000) : ∃ xs : List Int, G__law_row [.int c, .lst (ss.map .int)] = .ok (.lst (xs.map .int)) ∧ Fits xs ss := by
  by_cases h : (1000000000000000000 : Int) ≤ c
  · obtain ⟨ys, ρ, e, h2, h1⟩ := rowA c ss hp hn
    exact ⟨ys, rowA' c ss h ys ρ e h2, h1⟩
  · have hS := fm (i := c) (j := 2147483647) (by decide)
    have m1 := mod_ok (i := c) (j := 2147483647) (by decide)
    obtain ⟨ys, ρ, e, h2, h1⟩ := rowB c _ ss hS (fun s hs => (hp s hs).1) hn
    exact ⟨ys, rowB' c _ ss h m1 ys ρ e h2, h1⟩
end DL.K42
namespace DL.K42
open PySem L2
def gif (p_G__law_cell : List D → Res D) : Env → RS := (sIf (tAnd' (tB' (fOp neD (peek 7) (fLst lNil))) (tB' (fOp eqD (fOp itemD (peek 1) (fK (.int 8))) (fK (.int 0))))) (sLput 7 (fK (.int 0)) (fTup (lCons (fOp (int2 modC) (fB cInt2 (lCons (fCall 2 p_G__law_cell (lCons (look 0) (lCons (fK (.int 1)) lNil))) lNil)) (fOp (int2 powC) (fK (.int 10)) (fK (.int 20)))) (lCons (fOp addA (fK (.int 1)) (fOp itemD (peek 1) (fK (.int 3)))) lNil)))) .nx)
def gpl (p_if : Env → RS) (p_G__law_row : List D → Res D) (p_G__law_cell : List D → Res D) (p_G__law_fields : List D → Res D) (p_G__law_terms : List D → Res D) (p_G_Poly___init__ : List D → Res (List D)) (p_G__law_handed : List D → Res D) (p_lc_law_0 : Env → Res D) (p_G__law_value_of : List D → Res D) (p_G__law_is_plain : List D → Res D) (p_G_Poly_at : List D → Res D) (p_G_Poly___mul__ : List D → Res D) (p_G__law_times : List D → Res D) (p_fr_law_2 : Env → RS) (p_G_Poly_power : List D → Res D) : Env → RS := (sSeq (sSet 1 (fCall 2 p_G__law_row (lCons (fCall 2 p_G__law_cell (lCons (look 0) (lCons (fK (.int 0)) lNil))) (lCons (fOp addA (fLst (lCons (fK (.int 6)) (lCons (fK (.int 2)) (lCons (fK (.int 19)) (lCons (fK (.int 5)) (lCons (fK (.int 19)) (lCons (fK (.int 5)) (lCons (fK (.int 5)) (lCons (fK (.int 5)) (lCons (fK (.int 4)) lNil)))))))))) (fOp repD (fLst (lCons (fK (.int 4)) (lCons (fK (.int 4)) (lCons (fK (.int 19)) (lCons (fK (.int 5)) lNil))))) (fK (.int 8)))) lNil)))) (sSeq (sSet 2 (fCall 1 p_G__law_fields (lCons (fOp itemD (peek 1) (fK (.int 0))) lNil))) (sSeq (sSet 3 (fCall 2 p_G__law_terms (lCons (fSlc (peek 1) (oSo (fK (.int 9))) (oSo (fOp addA (fK (.int 9)) (fOp (int2 mulB) (fK (.int 4)) (fOp itemD (peek 1) (fK (.int 6))))))) (lCons (look 2) lNil)))) (sSeq (sSet 4 (fCall 2 p_G__law_terms (lCons (fSlc (peek 1) (oSo (fK (.int 25))) (oSo (fOp addA (fK (.int 25)) (fOp (int2 mulB) (fK (.int 4)) (fOp itemD (peek 1) (fK (.int 7))))))) (lCons (look 2) lNil)))) (sSeq (sAsg (fTup (lCons (fMk 1 2 p_G_Poly___init__ (lCons (look 2) (lCons (fCall 2 p_G__law_handed (lCons (look 3) (lCons (fK (.bl true)) lNil))) lNil))) (lCons (fMk 1 2 p_G_Poly___init__ (lCons (look 2) (lCons (fCall 2 p_G__law_handed (lCons (look 4) (lCons (fK (.bl false)) lNil))) lNil))) lNil))) (hTup fun ds ρ => if ds.length = 2 then (hCons (hName 5) (hCons (hName 6) hNil)) ds ρ else none)) (sSeq (sSetO 7 (fSlcL (fLst (lCons (fTup (lCons (fOp dSub (fOp itemD (peek 1) (fK (.int 2))) (fK (.int 9))) (lCons (fOp addA (fK (.int 1)) (fOp itemD (peek 1) (fK (.int 3)))) lNil))) (lCons (fTup (lCons (fOp dSub (fOp itemD (peek 1) (fK (.int 4))) (fK (.int 9))) (lCons (fOp addA (fK (.int 1)) (fOp itemD (peek 1) (fK (.int 5)))) lNil))) lNil))) oNo (oSo (fB cLen (lCons (peek 2) lNil))))) (sSeq p_if (sSeq (sFrz 7 (sSet 8 p_lc_law_0)) (sSeq (sFrz 7 (sPar 10 11 (lCons (fCall 2 p_G__law_value_of (lCons (look 3) (lCons (look 7) lNil))) (lCons (fCall 2 p_G__law_value_of (lCons (look 4) (lCons (look 7) lNil))) lNil)))) (sSeq (sIf (tOr' (tNot' (tB' (fCall 2 p_G__law_is_plain (lCons (fMet 1 2 p_G_Poly_at (look 5) (lCons (look 8) lNil)) (lCons (look 10) lNil))))) (tNot' (tB' (fCall 2 p_G__law_is_plain (lCons (fMet 1 2 p_G_Poly_at (look 6) (lCons (fB cTup (lCons (peek 8) lNil)) lNil)) (lCons (look 11) lNil)))))) (sRet (fK (.bl false))) .nx) (sSeq (sIf (tNot' (tB' (fCall 2 p_G__law_is_plain (lCons (fMet 1 2 p_G_Poly_at (fN (opO 1 p_G_Poly___mul__) (look 5) (look 6)) (lCons (look 8) lNil)) (lCons (fCall 2 p_G__law_times (lCons (look 10) (lCons (look 11) lNil))) lNil))))) (sRet (fK (.bl false))) .nx) (sSeq p_fr_law_2 (sSeq (sSet 15 (fB cLen (lCons (peek 2) lNil))) (sSeq (sSetO 16 (fLst (lCons (fRc 0 (fMet 1 2 p_G_Poly_at (look 5) (lCons (fOp addA (peek 8) (fLst (lCons (fK (.int 1)) lNil))) lNil))) lNil))) (sSeq (sApp 16 (fRc 0 (fMet 1 2 p_G_Poly_power (look 5) (lCons (look 15) lNil)))) (sSeq (sApp 16 (fRc 0 (fMet 1 2 p_G_Poly_power (look 5) (lCons (fU negC (fK (.int 1))) lNil)))) (sSeq (sIf (tB' (fOp neD (peek 16) (fLst (lCons (fOp addA (peek 15) (fK (.int 1))) (lCons (look 15) (lCons (fU negC (fK (.int 1))) lNil)))))) (sRet (fK (.bl false))) .nx) (sRet (vOr (fOp eqD (peek 15) (fK (.int 0))) (fOp eqD (fRc 0 (fMet 1 2 p_G_Poly_at (look 5) (lCons (fSlc (peek 8) oNo (oSo (fU negC (fK (.int 1))))) lNil))) (fOp dSub (peek 15) (fK (.int 1)))))))))))))))))))))))
theorem gpl_eq : g_law = gpl (gif G__law_cell) G__law_row G__law_cell G__law_fields G__law_terms G_Poly___init__ G__law_handed lc_law_0 G__law_value_of G__law_is_plain G_Poly_at G_Poly___mul__ G__law_times fr_law_2 G_Poly_power := rfl
end DL.K42
namespace DL.K42
open PySem L2
theorem add_ii (i j : Int) : addA (.int i) (.int j) = some (.int (i + j)) := rfl
theorem mkT2 (x y : D) : mkT [x, y] = .ok (.tup [x, y]) := rfl
theorem mkL0 : mkL [] = .ok (.lst []) := rfl
theorem mkL1 (x : D) : mkL [x] = .ok (.lst [x]) := rfl
theorem mkL2 (x y : D) : mkL [x, y] = .ok (.lst [x, y]) := rfl
theorem mkL3 (x y z : D) : mkL [x, y, z] = .ok (.lst [x, y, z]) := rfl
theorem mkL4 (x y z u : D) : mkL [x, y, z, u] = .ok (.lst [x, y, z, u]) := rfl
theorem mkL9 (a b c d e f g h i : D) : mkL [a, b, c, d, e, f, g, h, i] = .ok (.lst [a, b, c, d, e, f, g, h, i]) := rfl
theorem isO1 (xs : List D) : isO 1 (.obj 1 xs) = .ok (.obj 1 xs) := rfl
theorem opO1 (G : List D → Res D) (xs ys : List D) : opO 1 G (.obj 1 xs) (.obj 1 ys) = G [.obj 1 xs, .obj 1 ys] := by
  unfold opO
  simp [fnG]
theorem rc_e (d : D) : rcD 0 (.err 0 (some d)) = .ok d := rfl
theorem frz7 (s0 s1 s2 s3 s4 s5 s6 s8 s9 s10 s11 s12 s13 s14 s15 s16 : Option B) (d : D) : frz 7 [s0, s1, s2, s3, s4, s5, s6, some (.ow d), s8, s9, s10, s11, s12, s13, s14, s15, s16] = [s0, s1, s2, s3, s4, s5, s6, some (.sh d), s8, s9, s10, s11, s12, s13, s14, s15, s16] := rfl
theorem frz7s (s0 s1 s2 s3 s4 s5 s6 s8 s9 s10 s11 s12 s13 s14 s15 s16 : Option B) (d : D) : frz 7 [s0, s1, s2, s3, s4, s5, s6, some (.sh d), s8, s9, s10, s11, s12, s13, s14, s15, s16] = [s0, s1, s2, s3, s4, s5, s6, some (.sh d), s8, s9, s10, s11, s12, s13, s14, s15, s16] := rfl
theorem app16 (s0 s1 s2 s3 s4 s5 s6 s7 s8 s9 s10 s11 s12 s13 s14 s15 : Option B) (x : D) (d : D) : appD 16 [s0, s1, s2, s3, s4, s5, s6, s7, s8, s9, s10, s11, s12, s13, s14, s15, some (.ow (.lst [x]))] d = .nx [s0, s1, s2, s3, s4, s5, s6, s7, s8, s9, s10, s11, s12, s13, s14, s15, some (.ow (.lst [x, d]))] := rfl
theorem app16b (s0 s1 s2 s3 s4 s5 s6 s7 s8 s9 s10 s11 s12 s13 s14 s15 : Option B) (x y : D) (d : D) : appD 16 [s0, s1, s2, s3, s4, s5, s6, s7, s8, s9, s10, s11, s12, s13, s14, s15, some (.ow (.lst [x, y]))] d = .nx [s0, s1, s2, s3, s4, s5, s6, s7, s8, s9, s10, s11, s12, s13, s14, s15, some (.ow (.lst [x, y, d]))] := rfl
theorem isOw16 (s0 s1 s2 s3 s4 s5 s6 s7 s8 s9 s10 s11 s12 s13 s14 s15 : Option B) (xs : List D) : isOw 16 [s0, s1, s2, s3, s4, s5, s6, s7, s8, s9, s10, s11, s12, s13, s14, s15, some (.ow (.lst xs))] = .ok () := rfl
theorem eq_3 (a b c : Int) : neD (.lst [.int a, .int b, .int c]) (.lst [.int a, .int b, .int c]) = some (.bl false) := by
  simp [neD, eqP, toPD, toPDs, SeqAt.shaped, PyData.canLay0, PyData.canLayAll0, PyData.depth, PyData.depthAll, PyData.eqv, PyData.eqvAll, beq_i]
/-- the law, all its parts letters -/
theorem runLaw (pif : Env → RS) (Gr Gc Gf Gt : List D → Res D) (Gi : List D → Res (List D)) (Gh : List D → Res D) (lc0 : Env → Res D) (Gv Gip Gat Gm Gtm : List D → Res D) (f2 : Env → RS) (Gpw : List D → Res D)
    (s : D) (c : D) (z sz row fs t1 t2 h1 h2 F1 a1 a2 a3 v1 v2 v3 pq : D) (r0 r2 r3 r4 r5 r6 r7 n : Int) (ds1 ds2 : D) (x1 x2 pqx prs0 prs nums nums' : List D) (b : Bool) (w9 w12 w13 w14 : Option B)
    (e_c : Gc [s, .int 0] = .ok c) (e_rep : repD (.lst [.int 4, .int 4, .int 19, .int 5]) (.int 8) = some z) (e_sz : addA (.lst [.int 6, .int 2, .int 19, .int 5, .int 19, .int 5, .int 5, .int 5, .int 4]) z = some sz) (e_row : Gr [c, sz] = .ok row)
    (i0 : itemD row (.int 0) = some (.int r0)) (i2 : itemD row (.int 2) = some (.int r2)) (i3 : itemD row (.int 3) = some (.int r3)) (i4 : itemD row (.int 4) = some (.int r4)) (i5 : itemD row (.int 5) = some (.int r5)) (i6 : itemD row (.int 6) = some (.int r6)) (i7 : itemD row (.int 7) = some (.int r7))
    (e_f : Gf [.int r0] = .ok fs) (m6 : mulB 4 r6 = some (.int (4 * r6))) (m7 : mulB 4 r7 = some (.int (4 * r7))) (s1 : slcD row (some 9) (some (9 + 4 * r6)) = some ds1) (s2 : slcD row (some 25) (some (25 + 4 * r7)) = some ds2)
    (e_t1 : Gt [ds1, fs] = .ok t1) (e_t2 : Gt [ds2, fs] = .ok t2) (e_h1 : Gh [t1, .bl true] = .ok h1) (e_h2 : Gh [t2, .bl false] = .ok h2) (e_p : Gi [fs, h1] = .ok x1) (e_q : Gi [fs, h2] = .ok x2) (e_n : cLen [fs] = some (.int n))
    (e_pr : slcL (.lst [.tup [.int (r2 - 9), .int (1 + r3)], .tup [.int (r4 - 9), .int (1 + r5)]]) none (some n) = some (.lst prs0))
    (e_if : pif [some (.sh s), some (.sh row), some (.sh fs), some (.sh t1), some (.sh t2), some (.sh (.obj 1 x1)), some (.sh (.obj 1 x2)), some (.ow (.lst prs0)), none, none, none, none, none, none, none, none, none] = .nx [some (.sh s), some (.sh row), some (.sh fs), some (.sh t1), some (.sh t2), some (.sh (.obj 1 x1)), some (.sh (.obj 1 x2)), some (.ow (.lst prs)), none, none, none, none, none, none, none, none, none])
    (e_lc : lc0 [some (.sh s), some (.sh row), some (.sh fs), some (.sh t1), some (.sh t2), some (.sh (.obj 1 x1)), some (.sh (.obj 1 x2)), some (.sh (.lst prs)), none, none, none, none, none, none, none, none, none] = .ok (.lst nums))
    (e_v1 : Gv [t1, .lst prs] = .ok v1) (e_v2 : Gv [t2, .lst prs] = .ok v2) (e_a1 : Gat [.obj 1 x1, .lst nums] = .ok a1) (e_i1 : Gip [a1, v1] = .ok (.bl true)) (e_a2 : Gat [.obj 1 x2, .tup nums] = .ok a2) (e_i2 : Gip [a2, v2] = .ok (.bl true))
    (e_m : Gm [.obj 1 x1, .obj 1 x2] = .ok (.obj 1 pqx)) (e_a3 : Gat [.obj 1 pqx, .lst nums] = .ok a3) (e_v3 : Gtm [v1, v2] = .ok v3) (e_i3 : Gip [a3, v3] = .ok (.bl true))
    (e_f2 : f2 [some (.sh s), some (.sh row), some (.sh fs), some (.sh t1), some (.sh t2), some (.sh (.obj 1 x1)), some (.sh (.obj 1 x2)), some (.sh (.lst prs)), some (.sh (.lst nums)), none, some (.sh v1), some (.sh v2), none, none, none, none, none] = .nx [some (.sh s), some (.sh row), some (.sh fs), some (.sh t1), some (.sh t2), some (.sh (.obj 1 x1)), some (.sh (.obj 1 x2)), some (.sh (.lst prs)), some (.sh (.lst nums)), none, some (.sh v1), some (.sh v2), w12, w13, w14, none, none])
    (e_n1 : addA (.lst nums) (.lst [.int 1]) = some (.lst (nums ++ [.int 1]))) (e_c1 : Gat [.obj 1 x1, .lst (nums ++ [.int 1])] = .err 0 (some (.int (n + 1)))) (e_c2 : Gpw [.obj 1 x1, .int n] = .err 0 (some (.int n))) (e_c3 : Gpw [.obj 1 x1, .int (-1)] = .err 0 (some (.int (-1))))
    (e_b : eqD (.int n) (.int 0) = some (.bl b)) (e_s : slcD (.lst nums) none (some (-1)) = some (.lst nums')) (e_c4 : b = false → Gat [.obj 1 x1, .lst nums'] = .err 0 (some (.int (n - 1)))) :
    runB (gpl pif Gr Gc Gf Gt Gi Gh lc0 Gv Gip Gat Gm Gtm f2 Gpw) 17 [s] = .ok (.bl true) := by
  have e0 : env0 17 [s] = [some (.sh s), none, none, none, none, none, none, none, none, none, none, none, none, none, none, none, none] := rfl
  have eq4 : eqD (.int (n - 1)) (.int (n - 1)) = some (.bl true) := by rw [eq_ii, decide_eq_true rfl]
  have eN : negC (.int 1) = some (.int (-1)) := rfl
  have eT : cTup [.lst nums] = some (.tup nums) := rfl
  unfold runB gpl
  rw [e0]
  simp only [sSeq, sSet, sSetO, fCall, lCons, lNil, look, peek, fK, fOp, fLst, fTup, List.getElem?_cons_zero, List.getElem?_cons_succ, Res.bind_ok, fnG, List.length_cons, List.length_nil, if_true, e_c, mkL0, mkL1, mkL2, mkL3, mkL4, mkL9, mkT2, e_rep, opt, e_sz, e_row, bnd_ok, List.set_cons_succ, List.set_cons_zero, seq_nx,
    i0, i2, i3, i4, i5, i6, i7, e_f, fSlc, fSlcL, oSo, oNo, ptI, int2, m6, m7, add_ii, s1, s2, e_t1, e_t2, sAsg, fMk, mkG, e_h1, e_h2, e_p, e_q, hTup, hCons, hName, hNil, Option.bind_some, dSub, fB, e_n, e_pr, e_if, sFrz, frz7, frz7s, e_lc, sPar, par2, e_v1, e_v2]
  simp only [sSeq, fCall, sIf, tOr', tNot', tB', fMet, isO1, e_a1, e_i1, e_a2, e_i2, eT, bo, Bool.not_true, Bool.false_eq_true, if_false, if_true, fN, opO1, e_m, e_a3, e_v3, e_i3, e_f2, Res.bind_ok, List.length_cons, List.length_nil, bnd_ok, seq_nx, fnG, look, peek, fK, fOp, fB, lCons, lNil, List.getElem?_cons_zero, List.getElem?_cons_succ, opt, e_n, List.set_cons_succ, List.set_cons_zero, sSet, sSetO, fRc, fLst, e_n1, add_ii, e_c1, rc_e, mkL1, mkL3, sApp, isOw16, app16, app16b, e_c2, fU, eN, e_c3, eq_3, vOr, e_b, sRet]
  cases b with
  | true => rfl
  | false =>
    have e_c4 := e_c4 rfl
    simp only [Bool.false_eq_true, if_false, fSlc, look, peek, List.getElem?_cons_zero, List.getElem?_cons_succ, Res.bind_ok, oNo, oSo, fK, fU, eN, opt, ptI, e_s, fMet, isO1, lCons, lNil, fnG, List.length_cons, List.length_nil, if_true, e_c4, rc_e, dSub, int2, eq4, fOp]
    rfl
end DL.K42
namespace DL.K42
open PySem L2
/-! ### the fields -/
def isNon : Res D → Bool
  | .ok .non => true
  | _ => false
theorem isNon_eq {r : Res D} (h : isNon r = true) : r = .ok .non := by
  unfold isNon at h
  split at h
  · rfl
  · cases h
def isFls : Option D → Bool
  | some (.bl false) => true
  | _ => false
theorem isFls_eq {r : Option D} (h : isFls r = true) : r = some (.bl false) := by
  unfold isFls at h
  split at h
  · rfl
  · cases h
structure Flds (fsl : List D) : Prop where
  len : fsl.length ≤ 2
  chk : G_check_fields [.tup fsl] = .ok .non
  ne : neD (.tup fsl) (.tup fsl) = some (.bl false)
theorem flds_ok (r : Int) (h0 : 0 ≤ r) (h6 : r < 6) : ∃ fsl, G__law_fields [.int r] = .ok (.lst fsl) ∧ Flds fsl := by
  have hr : r = 0 ∨ r = 1 ∨ r = 2 ∨ r = 3 ∨ r = 4 ∨ r = 5 := by omega
  rcases hr with rfl | rfl | rfl | rfl | rfl | rfl
  · exact ⟨[.str "x", .str "y"], rfl, by decide, isNon_eq (by decide +kernel), isFls_eq (by decide +kernel)⟩
  · exact ⟨[.str "x"], rfl, by decide, isNon_eq (by decide +kernel), isFls_eq (by decide +kernel)⟩
  · exact ⟨[], rfl, by decide, isNon_eq (by decide +kernel), isFls_eq (by decide +kernel)⟩
  · exact ⟨[.str "price", .str "many"], rfl, by decide, isNon_eq (by decide +kernel), isFls_eq (by decide +kernel)⟩
  · exact ⟨[.str "b", .str "a"], rfl, by decide, isNon_eq (by decide +kernel), isFls_eq (by decide +kernel)⟩
  · exact ⟨[.str "zz"], rfl, by decide, isNon_eq (by decide +kernel), isFls_eq (by decide +kernel)⟩
/-! ### the row -/
def szs : List Int := [6, 2, 19, 5, 19, 5, 5, 5, 4, 4, 4, 19, 5, 4, 4, 19, 5, 4, 4, 19, 5, 4, 4, 19, 5, 4, 4, 19, 5, 4, 4, 19, 5, 4, 4, 19, 5, 4, 4, 19, 5]
theorem Fits.get : ∀ {ys ss : List Int} (i : Nat) (h : i < ys.length) (s : Int), Fits ys ss → ss[i]? = some s → 0 ≤ ys[i] ∧ ys[i] < s
  | [], _, i, h, _, _, _ => by simp at h
  | y :: ys, [], i, h, s, hf, hs => by simp at hs
  | y :: ys, z :: ss, 0, h, s, hf, hs => by
    simp at hs
    subst hs
    exact hf.1
  | y :: ys, z :: ss, i + 1, h, s, hf, hs => Fits.get i (by simpa using h) s hf.2 (by simpa using hs)
theorem item_n (xs : List Int) (i : Nat) (h : i < xs.length) : itemD (.lst (xs.map .int)) (.int (i : Nat)) = some (.int xs[i]) := by
  show atI (xs.map D.int) (i : Int) = _
  unfold atI ixN
  rw [List.length_map, if_pos (by omega), if_pos (by omega), Option.bind_some, Int.toNat_natCast, List.getElem?_map, List.getElem?_eq_getElem h]
  rfl
theorem quad_of (xs : List Int) (hl : xs.length = 41) (hf : Fits xs szs) (o g : Nat) (hg : g ≤ 4) (ho : o = 9 ∨ o = 25) : Quad g (((xs.map D.int).drop o).take (4 * g)) := by
  constructor
  · rw [List.length_take, List.length_drop, List.length_map]
    omega
  · intro k hk
    have hb : ∀ j, j < 4 → o + (4 * k + j) < xs.length := fun j hj => by omega
    have e : ((((xs.map D.int).drop o).take (4 * g)).drop (4 * k)).take 4 = [.int (xs[o + (4 * k + 0)]'(hb 0 (by decide))), .int (xs[o + (4 * k + 1)]'(hb 1 (by decide))), .int (xs[o + (4 * k + 2)]'(hb 2 (by decide))), .int (xs[o + (4 * k + 3)]'(hb 3 (by decide)))] := by
      rw [take4 _ _ (by rw [List.length_take, List.length_drop, List.length_map]; omega)]
      simp
    have hs : ∀ o' k', (o' = 9 ∨ o' = 25) → k' < 4 → szs[o' + (4 * k' + 0)]? = some 4 ∧ szs[o' + (4 * k' + 1)]? = some 4 ∧ szs[o' + (4 * k' + 2)]? = some 19 ∧ szs[o' + (4 * k' + 3)]? = some 5 := by
      intro o' k' ho' hk'
      have hk2 : k' = 0 ∨ k' = 1 ∨ k' = 2 ∨ k' = 3 := by omega
      rcases ho' with rfl | rfl <;> rcases hk2 with rfl | rfl | rfl | rfl <;> decide
    obtain ⟨s0, s1, s2, s3⟩ := hs o k ho (by omega)
    have f0 := Fits.get _ (hb 0 (by decide)) _ hf s0
    have f1 := Fits.get _ (hb 1 (by decide)) _ hf s1
    have f2 := Fits.get _ (hb 2 (by decide)) _ hf s2
    have f3 := Fits.get _ (hb 3 (by decide)) _ hf s3
    refine ⟨(xs[o + (4 * k + 0)]'(hb 0 (by decide))).toNat, (xs[o + (4 * k + 1)]'(hb 1 (by decide))).toNat, (xs[o + (4 * k + 2)]'(hb 2 (by decide))).toNat, (xs[o + (4 * k + 3)]'(hb 3 (by decide))).toNat, ?_, by omega, by omega, by omega, by omega⟩
    rw [e]
    simp only [pI]
    rw [Int.toNat_of_nonneg f0.1, Int.toNat_of_nonneg f1.1, Int.toNat_of_nonneg f2.1, Int.toNat_of_nonneg f3.1]
/-! ### the numbers -/
abbrev prD (x : Int × Nat) : D := pr x.1 x.2
abbrev prV (x : Int × Nat) : Rat := mkRat x.1 x.2
theorem PrS_of {m k : Nat} : ∀ {ps : List (Int × Nat)}, (∀ x ∈ ps, SzP m k x.1 x.2) → PrS m k (ps.map prD) (ps.map prV)
  | [], _ => trivial
  | x :: r, h => ⟨⟨x.1, x.2, rfl, rfl, h x List.mem_cons_self⟩, PrS_of fun y hy => h y (List.mem_cons_of_mem _ hy)⟩
theorem NuS_of {m k : Nat} (b : Bool) : ∀ {ps : List (Int × Nat)}, (∀ x ∈ ps, SzP m k x.1 x.2) → NuS m k (ps.map fun x => mkN b (prV x)) (ps.map prV)
  | [], _ => trivial
  | x :: r, h => ⟨⟨mkN_nu b _, (h x List.mem_cons_self).sz⟩, NuS_of b fun y hy => h y (List.mem_cons_of_mem _ hy)⟩
theorem big_k {k : Nat} (h : k ≤ 220) : 60 ^ k < big := Nat.lt_of_le_of_lt (Nat.pow_le_pow_right (by decide) h) p500
theorem lc_nums {m k : Nat} (hk : k ≤ 220) (s0 s2 s3 s4 s5 s6 s8 v9 s10 s11 s12 s13 s14 s15 s16 : Option B) (row : D) (r1 : Int) (i1 : itemD row (.int 1) = some (.int r1)) (ps : List (Int × Nat)) (h : ∀ x ∈ ps, SzP m k x.1 x.2) (hl : ps.length ≤ 1000) :
    lc_law_0 [s0, some (.sh row), s2, s3, s4, s5, s6, some (.sh (.lst (ps.map prD))), s8, v9, s10, s11, s12, s13, s14, s15, s16] = .ok (.lst (ps.map fun x => mkN (decide (r1 = 0)) (prV x))) := by
  have e := lc_m (h := hName 9) (fe := fCall 2 G__law_made (lCons (look 9) (lCons (fOp eqD (fOp itemD (peek 1) (fK (.int 1))) (fK (.int 0))) lNil))) (ρ := [s0, some (.sh row), s2, s3, s4, s5, s6, some (.sh (.lst (ps.map prD))), s8, none, s10, s11, s12, s13, s14, s15, s16]) prD (fun x => [s0, some (.sh row), s2, s3, s4, s5, s6, some (.sh (.lst (ps.map prD))), s8, some (.sh (prD x)), s10, s11, s12, s13, s14, s15, s16]) (fun x => mkN (decide (r1 = 0)) (prV x)) ps fun x hx => by
    refine ⟨rfl, ?_⟩
    have e1 := made_eq (a := x.1) (d := x.2) (decide (r1 = 0)) (h x hx).pos (Nat.lt_of_le_of_lt (h x hx).le (big_k hk))
    have e2 := eq_ii r1 0
    generalize G__law_made = Gm at *
    simp only [fCall, lCons, lNil, look, peek, fOp, fK, List.getElem?_cons_zero, List.getElem?_cons_succ, Res.bind_ok, i1, opt, e2, fnG, List.length_cons, List.length_nil, if_true, e1]
  have e0 : wipeE [s0, some (.sh row), s2, s3, s4, s5, s6, some (.sh (.lst (ps.map prD))), s8, v9, s10, s11, s12, s13, s14, s15, s16] [9] = [s0, some (.sh row), s2, s3, s4, s5, s6, some (.sh (.lst (ps.map prD))), s8, none, s10, s11, s12, s13, s14, s15, s16] := rfl
  rw [gp_lc_law_0_eq]
  generalize G__law_made = Gm at *
  unfold gp_lc_law_0
  simp only [fLc, iSq, look, List.getElem?_cons_zero, List.getElem?_cons_succ, Res.bind_ok, seqD, e0]
  rw [e, Res.bind_ok]
  exact mkL_ok (by rw [List.length_map]; omega)
theorem ne_p1 (a b : Int) : neD (.lst [.tup [.int a, .int b]]) (.lst []) = some (.bl true) := by
  simp [neD, eqP, toPD, toPDs, SeqAt.shaped, PyData.canLay0, PyData.canLayAll0, PyData.depth, PyData.depthAll, PyData.eqv, PyData.eqvAll]
theorem ne_p2 (a b c d : Int) : neD (.lst [.tup [.int a, .int b], .tup [.int c, .int d]]) (.lst []) = some (.bl true) := by
  simp [neD, eqP, toPD, toPDs, SeqAt.shaped, PyData.canLay0, PyData.canLayAll0, PyData.depth, PyData.depthAll, PyData.eqv, PyData.eqvAll]
theorem lput7 (s0 s1 s2 s3 s4 s5 s6 s8 s9 s10 s11 s12 s13 s14 s15 s16 : Option B) (x d : D) (r : List D) : lputE 7 [s0, s1, s2, s3, s4, s5, s6, some (.ow (.lst (x :: r))), s8, s9, s10, s11, s12, s13, s14, s15, s16] (.int 0) d = .nx [s0, s1, s2, s3, s4, s5, s6, some (.ow (.lst (d :: r))), s8, s9, s10, s11, s12, s13, s14, s15, s16] := by
  have e : ixN (r.length + 1) 0 = some 0 := by
    unfold ixN
    rw [if_pos (by omega), if_pos (by omega)]
    rfl
  show (match ixN (x :: r).length 0 with
    | some j => RS.nx _
    | none => RS.bad) = _
  rw [List.length_cons, e]
  rfl
theorem isOw7 (s0 s1 s2 s3 s4 s5 s6 s8 s9 s10 s11 s12 s13 s14 s15 s16 : Option B) (r : List D) : isOw 7 [s0, s1, s2, s3, s4, s5, s6, some (.ow (.lst r)), s8, s9, s10, s11, s12, s13, s14, s15, s16] = .ok () := rfl
theorem gif_yes (Gc : List D → Res D) (s row x : D) (r : List D) (c1 N z r3 r8 : Int) (s2 s3 s4 s5 s6 s8 s9 s10 s11 s12 s13 s14 s15 s16 : Option B) (h0 : neD (.lst (x :: r)) (.lst []) = some (.bl true)) (i3 : itemD row (.int 3) = some (.int r3)) (i8 : itemD row (.int 8) = some (.int r8)) (h8 : eqD (.int r8) (.int 0) = some (.bl true)) (hc : Gc [s, .int 1] = .ok (.int c1)) (hp : powC 10 20 = some (.int N)) (hm : modC c1 N = some (.int z)) :
    gif Gc [some (.sh s), some (.sh row), s2, s3, s4, s5, s6, some (.ow (.lst (x :: r))), s8, s9, s10, s11, s12, s13, s14, s15, s16] = .nx [some (.sh s), some (.sh row), s2, s3, s4, s5, s6, some (.ow (.lst (.tup [.int z, .int (1 + r3)] :: r))), s8, s9, s10, s11, s12, s13, s14, s15, s16] := by
  unfold gif
  simp only [sIf, tAnd', tB', fOp, peek, look, fLst, lNil, lCons, fK, List.getElem?_cons_zero, List.getElem?_cons_succ, Res.bind_ok, mkL0, h0, opt, bo, if_true, i8, h8, bnd_ok, sLput, fTup, int2, fB, fCall, fnG, List.length_cons, List.length_nil, hc, int_i, hp, hm, i3, add_ii, mkT2, isOw7, lput7]
theorem gif_no (Gc : List D → Res D) (s row : D) (r : List D) (b : Bool) (r8 : Int) (s2 s3 s4 s5 s6 s8 s9 s10 s11 s12 s13 s14 s15 s16 : Option B) (h0 : neD (.lst r) (.lst []) = some (.bl b)) (i8 : itemD row (.int 8) = some (.int r8)) (h8 : b = true → eqD (.int r8) (.int 0) = some (.bl false)) :
    gif Gc [some (.sh s), some (.sh row), s2, s3, s4, s5, s6, some (.ow (.lst r)), s8, s9, s10, s11, s12, s13, s14, s15, s16] = .nx [some (.sh s), some (.sh row), s2, s3, s4, s5, s6, some (.ow (.lst r)), s8, s9, s10, s11, s12, s13, s14, s15, s16] := by
  unfold gif
  cases b with
  | false => simp only [sIf, tAnd', tB', fOp, peek, look, fLst, lNil, lCons, fK, List.getElem?_cons_zero, List.getElem?_cons_succ, Res.bind_ok, mkL0, h0, opt, bo, Bool.false_eq_true, if_false, bnd_ok]
  | true =>
    have h8 := h8 rfl
    simp only [sIf, tAnd', tB', fOp, peek, look, fLst, lNil, lCons, fK, List.getElem?_cons_zero, List.getElem?_cons_succ, Res.bind_ok, mkL0, h0, opt, bo, if_true, i8, h8, Bool.false_eq_true, if_false, bnd_ok]
theorem p20 : powC 10 20 = some (.int 100000000000000000000) := by
  unfold powC
  rw [if_pos (by decide)]
  congr 2
theorem numP {r3 : Nat} (z : Int) (h : r3 < 5) (h0 : 0 ≤ z) (h1 : z < 100000000000000000000) : SzP 67 1 z (1 + r3) := ⟨by
  have : (2 : Nat) ^ 67 = 147573952589676412928 := by decide
  rw [this]
  omega, c60 h⟩
theorem numQ {r3 : Nat} (r2 : Int) (h : r3 < 5) (h0 : 0 ≤ r2) (h1 : r2 < 19) : SzP 67 1 (r2 - 9) (1 + r3) := ⟨by
  have : (2 : Nat) ^ 67 = 147573952589676412928 := by decide
  rw [this]
  omega, c60 h⟩
/-- behind the first «if» -/
theorem gif_eq (Gc : List D → Res D) (s row : D) (n : Nat) (hn : n ≤ 2) (c1 r2 r4 r8 : Int) (r3 r5 : Nat) (s2 s3 s4 s5 s6 s8 s9 s10 s11 s12 s13 s14 s15 s16 : Option B) (b2 : 0 ≤ r2 ∧ r2 < 19) (b4 : 0 ≤ r4 ∧ r4 < 19) (b3 : r3 < 5) (b5 : r5 < 5) (i3 : itemD row (.int 3) = some (.int (r3 : Nat))) (i8 : itemD row (.int 8) = some (.int r8)) (hc : Gc [s, .int 1] = .ok (.int c1)) :
    ∃ ps : List (Int × Nat), ps.length = n ∧ (∀ x ∈ ps, SzP 67 1 x.1 x.2) ∧
    gif Gc [some (.sh s), some (.sh row), s2, s3, s4, s5, s6, some (.ow (.lst ([pr (r2 - 9) (1 + r3), pr (r4 - 9) (1 + r5)].take n))), s8, s9, s10, s11, s12, s13, s14, s15, s16] = .nx [some (.sh s), some (.sh row), s2, s3, s4, s5, s6, some (.ow (.lst (ps.map prD))), s8, s9, s10, s11, s12, s13, s14, s15, s16] := by
  have q2 := numQ r2 b3 b2.1 b2.2
  have q4 := numQ r4 b5 b4.1 b4.2
  have hN : (0 : Int) < 100000000000000000000 := by decide
  have hm := mod_ok (i := c1) (j := 100000000000000000000) (by decide)
  have hz := fm (i := c1) (j := 100000000000000000000) hN
  have q1 := numP _ b3 hz.1 hz.2
  have hp := p20
  generalize (100000000000000000000 : Int) = N at *
  generalize c1.fmod N = z at *
  have e1 : (1 + (r3 : Int)) = ((1 + r3 : Nat) : Int) := by simp
  have hn' : n = 0 ∨ n = 1 ∨ n = 2 := by omega
  rcases hn' with rfl | rfl | rfl
  · refine ⟨[], rfl, fun x hx => by simp at hx, ?_⟩
    exact gif_no Gc s row [] false r8 s2 s3 s4 s5 s6 s8 s9 s10 s11 s12 s13 s14 s15 s16 rfl i8 (fun h => by cases h)
  · by_cases h8 : r8 = 0
    · refine ⟨[(z, 1 + r3)], rfl, fun x hx => by
        have : x = (z, 1 + r3) := by simpa using hx
        rw [this]
        exact q1, ?_⟩
      have e := gif_yes Gc s row (pr (r2 - 9) (1 + r3)) [] c1 N z (r3 : Nat) r8 s2 s3 s4 s5 s6 s8 s9 s10 s11 s12 s13 s14 s15 s16 (ne_p1 _ _) i3 i8 (by rw [eq_ii, decide_eq_true h8]) hc hp hm
      rw [e1] at e
      exact e
    · refine ⟨[(r2 - 9, 1 + r3)], rfl, fun x hx => by
        have : x = (r2 - 9, 1 + r3) := by simpa using hx
        rw [this]
        exact q2, ?_⟩
      exact gif_no Gc s row [pr (r2 - 9) (1 + r3)] true r8 s2 s3 s4 s5 s6 s8 s9 s10 s11 s12 s13 s14 s15 s16 (ne_p1 _ _) i8 (fun _ => by rw [eq_ii, decide_eq_false h8])
  · by_cases h8 : r8 = 0
    · refine ⟨[(z, 1 + r3), (r4 - 9, 1 + r5)], rfl, fun x hx => by
        have : x = (z, 1 + r3) ∨ x = (r4 - 9, 1 + r5) := by simpa using hx
        rcases this with rfl | rfl
        · exact q1
        · exact q4, ?_⟩
      have e := gif_yes Gc s row (pr (r2 - 9) (1 + r3)) [pr (r4 - 9) (1 + r5)] c1 N z (r3 : Nat) r8 s2 s3 s4 s5 s6 s8 s9 s10 s11 s12 s13 s14 s15 s16 (ne_p2 _ _ _ _) i3 i8 (by rw [eq_ii, decide_eq_true h8]) hc hp hm
      rw [e1] at e
      exact e
    · refine ⟨[(r2 - 9, 1 + r3), (r4 - 9, 1 + r5)], rfl, fun x hx => by
        have : x = (r2 - 9, 1 + r3) ∨ x = (r4 - 9, 1 + r5) := by simpa using hx
        rcases this with rfl | rfl
        · exact q2
        · exact q4, ?_⟩
      exact gif_no Gc s row [pr (r2 - 9) (1 + r3), pr (r4 - 9) (1 + r5)] true r8 s2 s3 s4 s5 s6 s8 s9 s10 s11 s12 s13 s14 s15 s16 (ne_p2 _ _ _ _) i8 (fun _ => by rw [eq_ii, decide_eq_false h8])
theorem hand_acc {n P m k : Nat} (b : Bool) {ts : List (List Nat × Rat)} (h : Tms n P m k ts) : Acc n P m k (hand b ts) := ⟨by rw [hand_keys]; exact h.nd, fun t ht => by
  obtain ⟨u, hu, rfl⟩ := List.mem_map.mp ht
  obtain ⟨a1, a2, a3⟩ := h.at_ u hu
  exact ⟨a1, a2, mkN_nu b u.2, a3⟩⟩
theorem room_p {n : Nat} (hn : n ≤ 2) : Room4 67 1 3 n 4 1 408 7 := by
  have h : n = 0 ∨ n = 1 ∨ n = 2 := by omega
  rcases h with rfl | rfl | rfl <;> exact ⟨by decide, by decide, by decide, by decide, by decide⟩
theorem room_q {n : Nat} (hn : n ≤ 2) : Room4 67 1 6 n 528 2 1334 14 := by
  have h : n = 0 ∨ n = 1 ∨ n = 2 := by omega
  rcases h with rfl | rfl | rfl <;> exact ⟨by decide, by decide, by decide, by decide, by decide⟩
/-- the polynomial of handed terms -/
theorem made_p {fsl : List D} {ts : List (List Nat × Rat)} (F : Flds fsl) (b : Bool) (h : Tms fsl.length 3 4 1 ts) (hl : ts.length ≤ 4) : G__law_handed [dk fr ts, .bl b] = .ok (dn (hand b ts)) ∧ G_Poly___init__ [.lst fsl, dn (hand b ts)] = .ok [.tup fsl, dk pl (oneF (hand b ts))] ∧ Tms fsl.length 3 4 1 (oneF (hand b ts)) ∧ (oneF (hand b ts)).length ≤ 4 ∧ (∀ vs, evs vs 0 (oneF (hand b ts)) = evs vs 0 ts) ∧ (oneF (hand b ts)).Perm (nzT ts) := by
  have ha := hand_acc b h
  have hll : (hand b ts).length ≤ 4 := by
    rw [List.length_map]
    exact hl
  refine ⟨handed_eq b h.nd (fun t ht => Nat.lt_of_le_of_lt (h.at_ t ht).2.2.den_le (big_k (by decide))) (by omega), poly_eq rfl F.chk (by have := F.len; omega) ha.nd (fun t ht => (ha.at_ t ht).2.2.1) (by omega) (fun t ht => (ha.at_ t ht).1), oneF_tms ha, Nat.le_trans (oneF_len _) hll, fun vs => ?_, ?_⟩
  · rw [oneF_evs, hand_toT]
  · have := oneF_perm (hand b ts)
    rw [hand_toT] at this
    exact this
theorem f2_eq {fsl : List D} (ts us : List (List Nat × Rat)) (hn : (ts.map (·.1)).Nodup) (hu : ∀ t ∈ ts, t.1.length = fsl.length) (hl : ts.length ≤ 1000) (hp : us.Perm (nzT ts)) (hf : fsl.length ≤ 2) (s0 s1 s4 s6 s7 s8 s9 s10 s11 s12 s13 s14 s15 s16 : Option B) :
    ∃ w12 w13, fr_law_2 [s0, s1, some (.sh (.lst fsl)), some (.sh (dk fr ts)), s4, some (.sh (poly (.tup fsl) (dk pl us))), s6, s7, s8, s9, s10, s11, s12, s13, s14, s15, s16] = .nx [s0, s1, some (.sh (.lst fsl)), some (.sh (dk fr ts)), s4, some (.sh (poly (.tup fsl) (dk pl us))), s6, s7, s8, s9, s10, s11, w12, w13, s14, s15, s16] := by
  obtain ⟨w12, w13, e⟩ := lawLoop rfl ts us hn hu hl hp s0 s1 (some (.sh (.lst fsl))) s4 s6 s7 s8 s9 s10 s11 s15 s16 (List.range fsl.length) s12 s13 s14 (fun k hk => List.mem_range.mp hk)
  refine ⟨w12, w13, ?_⟩
  have e2 : cLen [.lst fsl] = some (.int (fsl.length : Nat)) := rfl
  rw [gb_fr_law_2_eq]
  simp only [sFor, iR1, lCons, lNil, fB, peek, List.getElem?_cons_zero, List.getElem?_cons_succ, Res.bind_ok, e2, opt, rng1_eq fsl.length (by omega), bnd_ok]
  exact e
theorem szs_ok : ∀ s ∈ szs, 0 < s ∧ s.natAbs.log2 < 9000 := by decide
theorem rep8 : repD (.lst [.int 4, .int 4, .int 19, .int 5]) (.int 8) = some (.lst ((szs.drop 9).map .int)) := rfl
theorem add_sz : addA (.lst [.int 6, .int 2, .int 19, .int 5, .int 19, .int 5, .int 5, .int 5, .int 4]) (.lst ((szs.drop 9).map .int)) = some (.lst (szs.map .int)) := rfl
theorem slc_row (xs : List Int) (hl : xs.length = 41) (o g : Nat) (h : o + 4 * g ≤ 41) : slcD (.lst (xs.map .int)) (some (o : Int)) (some ((o : Int) + 4 * (g : Int))) = some (.lst (((xs.map D.int).drop o).take (4 * g))) := by
  show some (D.lst (cutD _ _ _)) = _
  have e := cut_nat (xs.map D.int) o (o + 4 * g) (by rw [List.length_map]; omega) (by omega)
  rw [Nat.add_sub_cancel_left] at e
  rw [← e]
  simp
theorem cut_last (nums : List D) (n : Nat) (h : nums.length = n) (h0 : n ≠ 0) (h2 : n ≤ 2) : cLen [.lst (cutD nums none (some (-1)))] = some (.int ((n : Nat) - 1)) := by
  subst h
  match nums, h0, h2 with
  | [], h0, _ => exact absurd rfl h0
  | [a], _, _ => rfl
  | [a, b], _, _ => rfl
  | _ :: _ :: _ :: _, _, h => simp at h
theorem law_true (ns : List Int) : G_law [.scr ns] = .ok (.bl true) := by
  obtain ⟨c, hc⟩ := cell_ok ns 0
  obtain ⟨c1, hc1⟩ := cell_ok ns 1
  obtain ⟨xs, hrow, hfit⟩ := row_all c szs szs_ok (by decide)
  have hl : xs.length = 41 := hfit.len
  have b0 := Fits.get 0 (by omega) 6 hfit (by decide)
  have b2 := Fits.get 2 (by omega) 19 hfit (by decide)
  have b3 := Fits.get 3 (by omega) 5 hfit (by decide)
  have b4 := Fits.get 4 (by omega) 19 hfit (by decide)
  have b5 := Fits.get 5 (by omega) 5 hfit (by decide)
  have b6 := Fits.get 6 (by omega) 5 hfit (by decide)
  have b7 := Fits.get 7 (by omega) 5 hfit (by decide)
  have i0 := item_n xs 0 (by omega)
  have i1 := item_n xs 1 (by omega)
  have i2 := item_n xs 2 (by omega)
  have i3 := item_n xs 3 (by omega)
  have i4 := item_n xs 4 (by omega)
  have i5 := item_n xs 5 (by omega)
  have i6 := item_n xs 6 (by omega)
  have i7 := item_n xs 7 (by omega)
  have i8 := item_n xs 8 (by omega)
  generalize xs[0] = r0 at *
  generalize xs[1] = r1 at *
  generalize xs[2] = r2 at *
  generalize xs[4] = r4 at *
  generalize xs[8] = r8 at *
  obtain ⟨r3, h3⟩ : ∃ r : Nat, xs[3] = (r : Int) := ⟨xs[3].toNat, (Int.toNat_of_nonneg b3.1).symm⟩
  obtain ⟨r5, h5⟩ : ∃ r : Nat, xs[5] = (r : Int) := ⟨xs[5].toNat, (Int.toNat_of_nonneg b5.1).symm⟩
  obtain ⟨r6, h6⟩ : ∃ r : Nat, xs[6] = (r : Int) := ⟨xs[6].toNat, (Int.toNat_of_nonneg b6.1).symm⟩
  obtain ⟨r7, h7⟩ : ∃ r : Nat, xs[7] = (r : Int) := ⟨xs[7].toNat, (Int.toNat_of_nonneg b7.1).symm⟩
  rw [h3] at b3 i3
  rw [h5] at b5 i5
  rw [h6] at b6 i6
  rw [h7] at b7 i7
  obtain ⟨fsl, hf, F⟩ := flds_ok r0 b0.1 b0.2
  have hn2 := F.len
  obtain ⟨t1, e_t1, T1, l1⟩ := terms_eq (fsl := fsl) (quad_of xs hl hfit 9 r6 (by omega) (.inl rfl)) rfl hn2 (by omega)
  obtain ⟨t2, e_t2, T2, l2⟩ := terms_eq (fsl := fsl) (quad_of xs hl hfit 25 r7 (by omega) (.inr rfl)) rfl hn2 (by omega)
  obtain ⟨e_h1, e_p, P1, lp1, v1, pm1⟩ := made_p F true T1 (by omega)
  obtain ⟨e_h2, e_q, P2, lp2, v2, pm2⟩ := made_p F false T2 (by omega)
  obtain ⟨ps, hps, hsz, e_if⟩ := gif_eq G__law_cell (.scr ns) (.lst (xs.map .int)) fsl.length hn2 c1 r2 r4 r8 r3 r5 (some (.sh (.lst fsl))) (some (.sh (dk fr t1))) (some (.sh (dk fr t2))) (some (.sh (poly (.tup fsl) (dk pl (oneF (hand true t1)))))) (some (.sh (poly (.tup fsl) (dk pl (oneF (hand false t2)))))) none none none none none none none none none b2 b4 (by omega) (by omega) i3 i8 hc1
  have hNu := NuS_of (decide (r1 = 0)) hsz
  have hPr := PrS_of hsz
  have hvl : (ps.map prV).length = fsl.length := by
    rw [List.length_map]
    exact hps
  have hnl : (ps.map fun x => mkN (decide (r1 = 0)) (prV x)).length = fsl.length := by
    rw [List.length_map]
    exact hps
  obtain ⟨e_v1, z1⟩ := value_of_eq (A := 408) (B0 := 7) (ts := t1) (by rw [hvl]; exact room_p hn2) hPr T1.nd (by rw [hvl]; exact T1.at_) (by show _ ≤ 400000; unfold lk; omega) (by decide) (by show _ ≤ 400000; omega)
  obtain ⟨e_v2, z2⟩ := value_of_eq (A := 408) (B0 := 7) (ts := t2) (by rw [hvl]; exact room_p hn2) hPr T2.nd (by rw [hvl]; exact T2.at_) (by show _ ≤ 400000; unfold lk; omega) (by decide) (by show _ ≤ 400000; omega)
  have cl : ∀ ds : List D, ds.length = fsl.length → cLen [.lst ds] = some (.int (fsl.length : Nat)) := fun ds h => by
    rw [← h]
    rfl
  have ct : ∀ ds : List D, ds.length = fsl.length → cLen [.tup ds] = some (.int (fsl.length : Nat)) := fun ds h => by
    rw [← h]
    rfl
  have e_a1 := at_eq (A := 408) (B0 := 7) (fs := .tup fsl) (nd := .lst (ps.map fun x => mkN (decide (r1 = 0)) (prV x))) rfl (cl _ hnl) (ct _ rfl) (by rw [hvl]; exact room_p hn2) hNu P1.nd (by rw [hvl]; exact P1.at_) (by show _ ≤ 400000; unfold lk; omega) (by decide) (by show _ ≤ 400000; omega)
  have e_a2 := at_eq (A := 408) (B0 := 7) (fs := .tup fsl) (nd := .tup (ps.map fun x => mkN (decide (r1 = 0)) (prV x))) rfl (ct _ hnl) (ct _ rfl) (by rw [hvl]; exact room_p hn2) hNu P2.nd (by rw [hvl]; exact P2.at_) (by show _ ≤ 400000; unfold lk; omega) (by decide) (by show _ ≤ 400000; omega)
  rw [v1] at e_a1
  rw [v2] at e_a2
  have hmm : (oneF (hand true t1)).length * ((oneF (hand false t2)).length * stM (4 + 4) (1 + 1)) ≤ 528 := Nat.mul_le_mul lp1 (Nat.mul_le_mul lp2 (Nat.le_refl 33))
  have hml : (oneF (hand true t1)).length * (oneF (hand false t2)).length ≤ 16 := Nat.mul_le_mul lp1 lp2
  obtain ⟨tq, e_m, Tq, lq, vq⟩ := mul_eq F.ne F.chk rfl P1 P2 (by omega) (by decide) (by show _ ≤ 400000; omega) (by omega)
  have Tq' : ∀ t ∈ tq, t.1.length = fsl.length ∧ (∀ e ∈ t.1, e ≤ 6) ∧ Sz 528 2 t.2 := fun t ht => by
    obtain ⟨a1, a2, a3⟩ := Tq.at_ t ht
    exact ⟨a1, a2, a3.mono hmm (Nat.le_refl _)⟩
  have e_a3 := at_eq (A := 1334) (B0 := 14) (fs := .tup fsl) (nd := .lst (ps.map fun x => mkN (decide (r1 = 0)) (prV x))) rfl (cl _ hnl) (ct _ rfl) (by rw [hvl]; exact room_q hn2) hNu Tq.nd (by rw [hvl]; exact Tq') (by show _ ≤ 400000; unfold lk; omega) (by decide) (by show _ ≤ 400000; omega)
  rw [vq _ hvl, v1, v2] at e_a3
  have e_v3 := times_eq z1 z2 ⟨by show _ ≤ 400000; unfold lk; omega, by decide⟩
  have db : ∀ {m k : Nat} {q : Rat}, Sz m k q → k ≤ 220 → q.den < big := fun h hk => Nat.lt_of_le_of_lt h.den_le (big_k hk)
  have e_i1 := is_plain_eq _ (db z1 (by decide))
  have e_i2 := is_plain_eq _ (db z2 (by decide))
  have e_i3 := is_plain_eq _ (db (z1.mul z2) (by decide))
  obtain ⟨w12, w13, e_f2⟩ := f2_eq t1 (oneF (hand true t1)) T1.nd (fun t ht => (T1.at_ t ht).1) (by omega) pm1 hn2 (some (.sh (.scr ns))) (some (.sh (.lst (xs.map .int)))) (some (.sh (dk fr t2))) (some (.sh (poly (.tup fsl) (dk pl (oneF (hand false t2)))))) (some (.sh (.lst (ps.map prD)))) (some (.sh (.lst (ps.map fun x => mkN (decide (r1 = 0)) (prV x))))) none (some (.sh (fr (evs (ps.map prV) 0 t1)))) (some (.sh (fr (evs (ps.map prV) 0 t2)))) none none none none none
  have e_lc := lc_nums (m := 67) (k := 1) (by decide) (some (.sh (.scr ns))) (some (.sh (.lst fsl))) (some (.sh (dk fr t1))) (some (.sh (dk fr t2))) (some (.sh (poly (.tup fsl) (dk pl (oneF (hand true t1)))))) (some (.sh (poly (.tup fsl) (dk pl (oneF (hand false t2)))))) none none none none none none none none none (.lst (xs.map .int)) r1 i1 ps hsz (by omega)
  generalize hnums : (ps.map fun x => mkN (decide (r1 = 0)) (prV x)) = nums at *
  have e_n1 : addA (.lst nums) (.lst [.int 1]) = some (.lst (nums ++ [.int 1])) := by
    show (if small2 nums.length 1 = true then some (D.lst (nums ++ [.int 1])) else none) = _
    rw [if_pos (by unfold small2; simp; omega)]
  have e_c1 := at_e (.tup fsl) (dk pl (oneF (hand true t1))) (.lst (nums ++ [.int 1])) ((fsl.length : Nat) + 1) (fsl.length : Nat) (by
    show some (D.int ((nums ++ [D.int 1]).length : Nat)) = _
    rw [List.length_append, hnl]
    rfl) (ct _ rfl) (by omega)
  have e_c2 := power_e rfl (dk pl (oneF (hand true t1))) (fsl := fsl) (fsl.length : Nat) (by omega)
  have e_c3 := power_e rfl (dk pl (oneF (hand true t1))) (fsl := fsl) (-1) (by omega)
  have e_c4 : decide ((fsl.length : Int) = 0) = false → G_Poly_at [poly (.tup fsl) (dk pl (oneF (hand true t1))), .lst (cutD nums none (some (-1)))] = .err 0 (some (.int ((fsl.length : Nat) - 1))) := fun h => by
    have h0 : fsl.length ≠ 0 := fun z => by
      rw [z] at h
      cases h
    refine at_e _ _ _ _ (fsl.length : Nat) ?_ (ct _ rfl) (by omega)
    exact cut_last nums fsl.length hnl h0 hn2
  show runB g_law 17 [.scr ns] = _
  rw [gpl_eq]
  exact runLaw (gif G__law_cell) G__law_row G__law_cell G__law_fields G__law_terms G_Poly___init__ G__law_handed lc_law_0 G__law_value_of G__law_is_plain G_Poly_at G_Poly___mul__ G__law_times fr_law_2 G_Poly_power
    (.scr ns) (.int c) (.lst ((szs.drop 9).map .int)) (.lst (szs.map .int)) (.lst (xs.map .int)) (.lst fsl) (dk fr t1) (dk fr t2) (dn (hand true t1)) (dn (hand false t2)) .non (pl (evs (ps.map prV) 0 t1)) (pl (evs (ps.map prV) 0 t2)) (pl (evs (ps.map prV) 0 t1 * evs (ps.map prV) 0 t2)) (fr (evs (ps.map prV) 0 t1)) (fr (evs (ps.map prV) 0 t2)) (fr (evs (ps.map prV) 0 t1 * evs (ps.map prV) 0 t2)) .non
    r0 r2 r3 r4 r5 r6 r7 (fsl.length : Nat) (.lst (((xs.map D.int).drop 9).take (4 * r6))) (.lst (((xs.map D.int).drop 25).take (4 * r7))) [.tup fsl, dk pl (oneF (hand true t1))] [.tup fsl, dk pl (oneF (hand false t2))] [.tup fsl, dk pl tq] ([pr (r2 - 9) (1 + r3), pr (r4 - 9) (1 + r5)].take fsl.length) (ps.map prD) nums (cutD nums none (some (-1))) (decide ((fsl.length : Int) = 0)) none w12 w13 none
    hc rep8 add_sz hrow i0 i2 i3 i4 i5 i6 i7 hf (mulB_ok (m := 3) (m' := 20) (by decide) (by
      show r6 < 2 ^ 20
      have : 2 ^ 20 = 1048576 := rfl
      omega) (by decide)) (mulB_ok (m := 3) (m' := 20) (by decide) (by
      show r7 < 2 ^ 20
      have : 2 ^ 20 = 1048576 := rfl
      omega) (by decide)) (slc_row xs hl 9 r6 (by omega)) (slc_row xs hl 25 r7 (by omega)) e_t1 e_t2 e_h1 e_h2 e_p e_q (cl _ rfl) (by
      show some (D.lst (cutD _ none (some ((fsl.length : Nat) : Int)))) = _
      rw [cut_to]
      have e13 : ((1 + r3 : Nat) : Int) = 1 + (r3 : Int) := by simp
      have e15 : ((1 + r5 : Nat) : Int) = 1 + (r5 : Int) := by simp
      show _ = some (D.lst (List.take fsl.length [.tup [.int (r2 - 9), .int ((1 + r3 : Nat) : Int)], .tup [.int (r4 - 9), .int ((1 + r5 : Nat) : Int)]]))
      rw [e13, e15]) e_if e_lc e_v1 e_v2 e_a1 e_i1 e_a2 e_i2 e_m e_a3 e_v3 e_i3 e_f2 e_n1 e_c1 e_c2 e_c3 (eq_ii _ _) rfl e_c4
end DL.K42
namespace DL
open PySem L2
theorem cx_false {P : Program} {w : World} {H : Hp} {s : Shared} {u : Value} {s' : Shared} (h : L2.CX P w [] H s (fun _ _ _ => False) u s') : False := by
  obtain ⟨_, _, _, _, _, _, _, _, _, _, _, _, z⟩ := h
  exact z
end DL
namespace DL.K42
open PySem L2
abbrev lw : PySem.W.OpenLaw := PySem.Challenge.rw_everylist_k42_values_of_polys
abbrev s__law_count : Stmt := top 47
theorem sc__law_count : FnScope ["_law_way", "e"] ["_law_way"] (defScope s__law_count) := ⟨rfl, rfl, rfl, by decide +kernel, rfl, by decide +kernel, by decide +kernel⟩
theorem exm_own {K : PySem.W.Frag} {S : Addr} (h1 : PySem.W.subIn K (.ref S) (.type "BaseException") = some true) (h2 : PySem.W.isClsIn K S = true) (h3 : PySem.W.typeIn K (.ref S) = some (.type "type")) (h4 : PySem.W.subIn K (.ref S) (.ref S) = some true) : PySem.W.exmOne K (.ref S) (.ref S) = some true := by
  have g1 : (PySem.W.subIn K (.ref S) (.type "BaseException") == some true) = true := by rw [h1]; rfl
  have g2 : ((PySem.W.clsIn K S).isSome && PySem.W.typeIn K (.ref S) == some (.type "type")) = true := by
    have z : (PySem.W.clsIn K S).isSome = true := h2
    rw [z, h3]; rfl
  unfold PySem.W.exmOne
  rw [if_pos g1]
  exact (if_pos g2).trans h4
theorem all_mk {w : World} {K : PySem.W.Frag} {h : Heap} {mg : Str → Option Value} {fa C C1 E0 : Addr} (X : K.In h) (G : h.Ns mainGlobals mg) (hfa : mg "law" = some (.ref fa))
    {f0 : Addr} {od0 an0 : Option Addr} {sl0 : Array (Option Value)} {oc0 kV0 dc0 pm0 ct0 : Value} {cd0 : Value}
    {f1 : Addr} {od1 an1 : Option Addr} {sl1 : Array (Option Value)} {oc1 kV1 dc1 pm1 ct1 : Value} {cd1 : Value}
    {f2 : Addr} {od2 an2 : Option Addr} {sl2 : Array (Option Value)} {oc2 kV2 dc2 pm2 ct2 : Value} {cd2 : Value}
    {f3 : Addr} {od3 an3 : Option Addr} {sl3 : Array (Option Value)} {oc3 kV3 dc3 pm3 ct3 : Value} {cd3 : Value}
    {f4 : Addr} {od4 an4 : Option Addr} {sl4 : Array (Option Value)} {oc4 kV4 dc4 pm4 ct4 : Value} {cd4 : Value}
    {f5 : Addr} {od5 an5 : Option Addr} {sl5 : Array (Option Value)} {oc5 kV5 dc5 pm5 ct5 : Value} {cd5 : Value}
    {f6 : Addr} {od6 an6 : Option Addr} {sl6 : Array (Option Value)} {oc6 kV6 dc6 pm6 ct6 : Value} {cd6 : Value}
    {f7 : Addr} {od7 an7 : Option Addr} {sl7 : Array (Option Value)} {oc7 kV7 dc7 pm7 ct7 : Value} {cd7 : Value}
    {f8 : Addr} {od8 an8 : Option Addr} {sl8 : Array (Option Value)} {oc8 kV8 dc8 pm8 ct8 : Value} {cd8 : Value}
    {f9 : Addr} {od9 an9 : Option Addr} {sl9 : Array (Option Value)} {oc9 kV9 dc9 pm9 ct9 : Value} {cd9 : Value}
    {f10 : Addr} {od10 an10 : Option Addr} {sl10 : Array (Option Value)} {oc10 kV10 dc10 pm10 ct10 : Value} {cd10 : Value}
    {f11 : Addr} {od11 an11 : Option Addr} {sl11 : Array (Option Value)} {oc11 kV11 dc11 pm11 ct11 : Value} {cd11 : Value}
    {f12 : Addr} {od12 an12 : Option Addr} {sl12 : Array (Option Value)} {oc12 kV12 dc12 pm12 ct12 : Value} {cd12 : Value}
    {f13 : Addr} {od13 an13 : Option Addr} {sl13 : Array (Option Value)} {oc13 kV13 dc13 pm13 ct13 : Value} {cd13 : Value}
    {f14 : Addr} {od14 an14 : Option Addr} {sl14 : Array (Option Value)} {oc14 kV14 dc14 pm14 ct14 : Value} {cd14 : Value}
    {f15 : Addr} {od15 an15 : Option Addr} {sl15 : Array (Option Value)} {oc15 kV15 dc15 pm15 ct15 : Value} {cd15 : Value}
    {f16 : Addr} {od16 an16 : Option Addr} {sl16 : Array (Option Value)} {oc16 kV16 dc16 pm16 ct16 : Value} {cd16 : Value}
    {f17 : Addr} {od17 an17 : Option Addr} {sl17 : Array (Option Value)} {oc17 kV17 dc17 pm17 ct17 : Value} {cd17 : Value}
    {f18 : Addr} {od18 an18 : Option Addr} {sl18 : Array (Option Value)} {oc18 kV18 dc18 pm18 ct18 : Value} {cd18 : Value}
    {f19 : Addr} {od19 an19 : Option Addr} {sl19 : Array (Option Value)} {oc19 kV19 dc19 pm19 ct19 : Value} {cd19 : Value}
    {f20 : Addr} {od20 an20 : Option Addr} {sl20 : Array (Option Value)} {oc20 kV20 dc20 pm20 ct20 : Value} {cd20 : Value}
    {f21 : Addr} {od21 an21 : Option Addr} {sl21 : Array (Option Value)} {oc21 kV21 dc21 pm21 ct21 : Value} {cd21 : Value}
    {f22 : Addr} {od22 an22 : Option Addr} {sl22 : Array (Option Value)} {oc22 kV22 dc22 pm22 ct22 : Value} {cd22 : Value}
    {f23 : Addr} {od23 an23 : Option Addr} {sl23 : Array (Option Value)} {oc23 kV23 dc23 pm23 ct23 : Value} {cd23 : Value}
    {f24 : Addr} {od24 an24 : Option Addr} {sl24 : Array (Option Value)} {oc24 kV24 dc24 pm24 ct24 : Value} {cd24 : Value}
    {f25 : Addr} {od25 an25 : Option Addr} {sl25 : Array (Option Value)} {oc25 kV25 dc25 pm25 ct25 : Value} {cd25 : Value}
    {f26 : Addr} {od26 an26 : Option Addr} {sl26 : Array (Option Value)} {oc26 kV26 dc26 pm26 ct26 : Value} {cd26 : Value}
    {f27 : Addr} {od27 an27 : Option Addr} {sl27 : Array (Option Value)} {oc27 kV27 dc27 pm27 ct27 : Value} {cd27 : Value}
    {f28 : Addr} {od28 an28 : Option Addr} {sl28 : Array (Option Value)} {oc28 kV28 dc28 pm28 ct28 : Value} {cd28 : Value}
    {f29 : Addr} {od29 an29 : Option Addr} {sl29 : Array (Option Value)} {oc29 kV29 dc29 pm29 ct29 : Value} {cd29 : Value}
    {f30 : Addr} {od30 an30 : Option Addr} {sl30 : Array (Option Value)} {oc30 kV30 dc30 pm30 ct30 : Value} {cd30 : Value}
    {f31 : Addr} {od31 an31 : Option Addr} {sl31 : Array (Option Value)} {oc31 kV31 dc31 pm31 ct31 : Value} {cd31 : Value}
    {f32 : Addr} {od32 an32 : Option Addr} {sl32 : Array (Option Value)} {oc32 kV32 dc32 pm32 ct32 : Value} {cd32 : Value}
    {f33 : Addr} {od33 an33 : Option Addr} {sl33 : Array (Option Value)} {oc33 kV33 dc33 pm33 ct33 : Value} {cd33 : Value}
    {f34 : Addr} {od34 an34 : Option Addr} {sl34 : Array (Option Value)} {oc34 kV34 dc34 pm34 ct34 : Value} {cd34 : Value}
    {f35 : Addr} {od35 an35 : Option Addr} {sl35 : Array (Option Value)} {oc35 kV35 dc35 pm35 ct35 : Value} {cd35 : Value}
    {f36 : Addr} {od36 an36 : Option Addr} {sl36 : Array (Option Value)} {oc36 kV36 dc36 pm36 ct36 : Value} {cd36 : Value}
    {f37 : Addr} {od37 an37 : Option Addr} {sl37 : Array (Option Value)} {oc37 kV37 dc37 pm37 ct37 : Value} {cA37 tA37 : Addr} {ce37 : Value} {cd37 : Option Addr} {vs37 : Array Value} {cs37 : Array (Option Value)}
    {f38 : Addr} {od38 an38 : Option Addr} {sl38 : Array (Option Value)} {oc38 kV38 dc38 pm38 ct38 : Value} {cd38 : Value}
    {tT : Addr} {oT : Value} {dT : Option Addr} {uT : Tok} {nT : Nat} {sT : Array (Option Value)}
    {io_add : Option Value}
    {io_radd : Option Value}
    {io_mul : Option Value}
    {io_rmul : Option Value}
    {nm q : Str} {N : Addr} {bs bm : List Value} {sn : List Str} {sub : List Value} {ab : Bool} {col : Option Bool} {dd : Option Addr} {m0 m1 m2 m3 m5 : Option Value} {fI cc cda : Addr} {ocE docE pmE ctE cclE clE : Value} {odE anE cddE cldE : Option Addr} {oslE ccsE cslE : Array (Option Value)} {qE msg file : Str} {jE : Nat} {p1 p2 q0 q1 q2 q3 q4 q5 r1 r2 r3 r4 : Pos} {vsE : Array Value} {tf : Tok}
    {tLETTERS : Tok}
    {tMOST_LETTERS : Tok}
    (aC : PySem.W.nsIn K mainGlobals "Ratio" = some (some (.ref C)))
    (aC1 : PySem.W.nsIn K mainGlobals "Poly" = some (some (.ref C1)))
    (aE : PySem.W.nsIn K mainGlobals "WrongCount" = some (some (.ref E0)))
    (a0 : PySem.W.nsIn K mainGlobals "_law_cell" = some (some (.ref f0)))
    (l0 : K.lookup f0 = some ⟨oc0, od0, .func (PySem.W.fnOf "_law_cell" "_law_cell" (defArgs s__law_cell) (defBody s__law_cell) (defScope s__law_cell) .none kV0 dc0 pm0 an0 cd0 ct0), sl0⟩)
    (c0 : PySem.W.codeIn K cd0 "_law_cell" = true)
    (k0 : PySem.W.keepIn K (.ref f0) = true)
    (a1 : PySem.W.nsIn K mainGlobals "_law_row" = some (some (.ref f1)))
    (l1 : K.lookup f1 = some ⟨oc1, od1, .func (PySem.W.fnOf "_law_row" "_law_row" (defArgs s__law_row) (defBody s__law_row) (defScope s__law_row) .none kV1 dc1 pm1 an1 cd1 ct1), sl1⟩)
    (c1 : PySem.W.codeIn K cd1 "_law_row" = true)
    (k1 : PySem.W.keepIn K (.ref f1) = true)
    (a2 : PySem.W.nsIn K mainGlobals "_law_fields" = some (some (.ref f2)))
    (l2 : K.lookup f2 = some ⟨oc2, od2, .func (PySem.W.fnOf "_law_fields" "_law_fields" (defArgs s__law_fields) (defBody s__law_fields) (defScope s__law_fields) .none kV2 dc2 pm2 an2 cd2 ct2), sl2⟩)
    (c2 : PySem.W.codeIn K cd2 "_law_fields" = true)
    (k2 : PySem.W.keepIn K (.ref f2) = true)
    (a3 : PySem.W.nsIn K mainGlobals "_law_gcd" = some (some (.ref f3)))
    (l3 : K.lookup f3 = some ⟨oc3, od3, .func (PySem.W.fnOf "_law_gcd" "_law_gcd" (defArgs s__law_gcd) (defBody s__law_gcd) (defScope s__law_gcd) .none kV3 dc3 pm3 an3 cd3 ct3), sl3⟩)
    (c3 : PySem.W.codeIn K cd3 "_law_gcd" = true)
    (k3 : PySem.W.keepIn K (.ref f3) = true)
    (a4 : PySem.W.nsIn K mainGlobals "_law_low" = some (some (.ref f4)))
    (l4 : K.lookup f4 = some ⟨oc4, od4, .func (PySem.W.fnOf "_law_low" "_law_low" (defArgs s__law_low) (defBody s__law_low) (defScope s__law_low) .none kV4 dc4 pm4 an4 cd4 ct4), sl4⟩)
    (c4 : PySem.W.codeIn K cd4 "_law_low" = true)
    (k4 : PySem.W.keepIn K (.ref f4) = true)
    (a5 : PySem.W.nsIn K mainGlobals "_law_terms" = some (some (.ref f5)))
    (l5 : K.lookup f5 = some ⟨oc5, od5, .func (PySem.W.fnOf "_law_terms" "_law_terms" (defArgs s__law_terms) (defBody s__law_terms) (defScope s__law_terms) .none kV5 dc5 pm5 an5 cd5 ct5), sl5⟩)
    (c5 : PySem.W.codeIn K cd5 "_law_terms" = true)
    (k5 : PySem.W.keepIn K (.ref f5) = true)
    (a6 : PySem.W.nsIn K mainGlobals "common" = some (some (.ref f6)))
    (l6 : K.lookup f6 = some ⟨oc6, od6, .func (PySem.W.fnOf "common" "common" (defArgs s_common) (defBody s_common) (defScope s_common) .none kV6 dc6 pm6 an6 cd6 ct6), sl6⟩)
    (c6 : PySem.W.codeIn K cd6 "common" = true)
    (k6 : PySem.W.keepIn K (.ref f6) = true)
    (a7 : PySem.W.findIn K (.ref C) "__init__" = some (some (.ref f7)))
    (i7 : PySem.W.isFn K (.ref f7) = true)
    (l7 : K.lookup f7 = some ⟨oc7, od7, .func (PySem.W.fnOf "__init__" "Ratio.__init__" (defArgs s_Ratio___init__) (defBody s_Ratio___init__) (defScope s_Ratio___init__) (.ref tT) kV7 dc7 pm7 an7 cd7 ct7), sl7⟩)
    (c7 : PySem.W.codeIn K cd7 "Ratio.__init__" = true)
    (k7 : PySem.W.keepIn K (.ref f7) = true)
    (a8 : PySem.W.nsIn K mainGlobals "_law_made" = some (some (.ref f8)))
    (l8 : K.lookup f8 = some ⟨oc8, od8, .func (PySem.W.fnOf "_law_made" "_law_made" (defArgs s__law_made) (defBody s__law_made) (defScope s__law_made) .none kV8 dc8 pm8 an8 cd8 ct8), sl8⟩)
    (c8 : PySem.W.codeIn K cd8 "_law_made" = true)
    (k8 : PySem.W.keepIn K (.ref f8) = true)
    (a9 : PySem.W.nsIn K mainGlobals "_law_handed" = some (some (.ref f9)))
    (l9 : K.lookup f9 = some ⟨oc9, od9, .func (PySem.W.fnOf "_law_handed" "_law_handed" (defArgs s__law_handed) (defBody s__law_handed) (defScope s__law_handed) .none kV9 dc9 pm9 an9 cd9 ct9), sl9⟩)
    (c9 : PySem.W.codeIn K cd9 "_law_handed" = true)
    (k9 : PySem.W.keepIn K (.ref f9) = true)
    (a10 : PySem.W.nsIn K mainGlobals "is_name" = some (some (.ref f10)))
    (l10 : K.lookup f10 = some ⟨oc10, od10, .func (PySem.W.fnOf "is_name" "is_name" (defArgs s_is_name) (defBody s_is_name) (defScope s_is_name) .none kV10 dc10 pm10 an10 cd10 ct10), sl10⟩)
    (c10 : PySem.W.codeIn K cd10 "is_name" = true)
    (k10 : PySem.W.keepIn K (.ref f10) = true)
    (a11 : PySem.W.nsIn K mainGlobals "check_fields" = some (some (.ref f11)))
    (l11 : K.lookup f11 = some ⟨oc11, od11, .func (PySem.W.fnOf "check_fields" "check_fields" (defArgs s_check_fields) (defBody s_check_fields) (defScope s_check_fields) .none kV11 dc11 pm11 an11 cd11 ct11), sl11⟩)
    (c11 : PySem.W.codeIn K cd11 "check_fields" = true)
    (k11 : PySem.W.keepIn K (.ref f11) = true)
    (a12 : PySem.W.nsIn K mainGlobals "is_integer" = some (some (.ref f12)))
    (l12 : K.lookup f12 = some ⟨oc12, od12, .func (PySem.W.fnOf "is_integer" "is_integer" (defArgs s_is_integer) (defBody s_is_integer) (defScope s_is_integer) .none kV12 dc12 pm12 an12 cd12 ct12), sl12⟩)
    (c12 : PySem.W.codeIn K cd12 "is_integer" = true)
    (k12 : PySem.W.keepIn K (.ref f12) = true)
    (a13 : PySem.W.nsIn K mainGlobals "is_powers" = some (some (.ref f13)))
    (l13 : K.lookup f13 = some ⟨oc13, od13, .func (PySem.W.fnOf "is_powers" "is_powers" (defArgs s_is_powers) (defBody s_is_powers) (defScope s_is_powers) .none kV13 dc13 pm13 an13 cd13 ct13), sl13⟩)
    (c13 : PySem.W.codeIn K cd13 "is_powers" = true)
    (k13 : PySem.W.keepIn K (.ref f13) = true)
    (a14 : PySem.W.nsIn K mainGlobals "halves_of" = some (some (.ref f14)))
    (l14 : K.lookup f14 = some ⟨oc14, od14, .func (PySem.W.fnOf "halves_of" "halves_of" (defArgs s_halves_of) (defBody s_halves_of) (defScope s_halves_of) .none kV14 dc14 pm14 an14 cd14 ct14), sl14⟩)
    (c14 : PySem.W.codeIn K cd14 "halves_of" = true)
    (k14 : PySem.W.keepIn K (.ref f14) = true)
    (a15 : PySem.W.nsIn K mainGlobals "is_number" = some (some (.ref f15)))
    (l15 : K.lookup f15 = some ⟨oc15, od15, .func (PySem.W.fnOf "is_number" "is_number" (defArgs s_is_number) (defBody s_is_number) (defScope s_is_number) .none kV15 dc15 pm15 an15 cd15 ct15), sl15⟩)
    (c15 : PySem.W.codeIn K cd15 "is_number" = true)
    (k15 : PySem.W.keepIn K (.ref f15) = true)
    (a16 : PySem.W.findIn K (.ref C) "__eq__" = some (some (.ref f16)))
    (i16 : PySem.W.isFn K (.ref f16) = true)
    (l16 : K.lookup f16 = some ⟨oc16, od16, .func (PySem.W.fnOf "__eq__" "Ratio.__eq__" (defArgs s_Ratio___eq__) (defBody s_Ratio___eq__) (defScope s_Ratio___eq__) .none kV16 dc16 pm16 an16 cd16 ct16), sl16⟩)
    (c16 : PySem.W.codeIn K cd16 "Ratio.__eq__" = true)
    (k16 : PySem.W.keepIn K (.ref f16) = true)
    (a17 : PySem.W.nsIn K mainGlobals "plain" = some (some (.ref f17)))
    (l17 : K.lookup f17 = some ⟨oc17, od17, .func (PySem.W.fnOf "plain" "plain" (defArgs s_plain) (defBody s_plain) (defScope s_plain) .none kV17 dc17 pm17 an17 cd17 ct17), sl17⟩)
    (c17 : PySem.W.codeIn K cd17 "plain" = true)
    (k17 : PySem.W.keepIn K (.ref f17) = true)
    (a18 : PySem.W.nsIn K mainGlobals "one_form" = some (some (.ref f18)))
    (l18 : K.lookup f18 = some ⟨oc18, od18, .func (PySem.W.fnOf "one_form" "one_form" (defArgs s_one_form) (defBody s_one_form) (defScope s_one_form) .none kV18 dc18 pm18 an18 cd18 ct18), sl18⟩)
    (c18 : PySem.W.codeIn K cd18 "one_form" = true)
    (k18 : PySem.W.keepIn K (.ref f18) = true)
    (a19 : PySem.W.findIn K (.ref C1) "__init__" = some (some (.ref f19)))
    (i19 : PySem.W.isFn K (.ref f19) = true)
    (l19 : K.lookup f19 = some ⟨oc19, od19, .func (PySem.W.fnOf "__init__" "Poly.__init__" (defArgs s_Poly___init__) (defBody s_Poly___init__) (defScope s_Poly___init__) .none kV19 dc19 pm19 an19 cd19 ct19), sl19⟩)
    (c19 : PySem.W.codeIn K cd19 "Poly.__init__" = true)
    (k19 : PySem.W.keepIn K (.ref f19) = true)
    (a20 : PySem.W.nsIn K mainGlobals "_law_times" = some (some (.ref f20)))
    (l20 : K.lookup f20 = some ⟨oc20, od20, .func (PySem.W.fnOf "_law_times" "_law_times" (defArgs s__law_times) (defBody s__law_times) (defScope s__law_times) .none kV20 dc20 pm20 an20 cd20 ct20), sl20⟩)
    (c20 : PySem.W.codeIn K cd20 "_law_times" = true)
    (k20 : PySem.W.keepIn K (.ref f20) = true)
    (a21 : PySem.W.nsIn K mainGlobals "_law_power" = some (some (.ref f21)))
    (l21 : K.lookup f21 = some ⟨oc21, od21, .func (PySem.W.fnOf "_law_power" "_law_power" (defArgs s__law_power) (defBody s__law_power) (defScope s__law_power) .none kV21 dc21 pm21 an21 cd21 ct21), sl21⟩)
    (c21 : PySem.W.codeIn K cd21 "_law_power" = true)
    (k21 : PySem.W.keepIn K (.ref f21) = true)
    (a22 : PySem.W.nsIn K mainGlobals "_law_add" = some (some (.ref f22)))
    (l22 : K.lookup f22 = some ⟨oc22, od22, .func (PySem.W.fnOf "_law_add" "_law_add" (defArgs s__law_add) (defBody s__law_add) (defScope s__law_add) .none kV22 dc22 pm22 an22 cd22 ct22), sl22⟩)
    (c22 : PySem.W.codeIn K cd22 "_law_add" = true)
    (k22 : PySem.W.keepIn K (.ref f22) = true)
    (a23 : PySem.W.nsIn K mainGlobals "_law_value_of" = some (some (.ref f23)))
    (l23 : K.lookup f23 = some ⟨oc23, od23, .func (PySem.W.fnOf "_law_value_of" "_law_value_of" (defArgs s__law_value_of) (defBody s__law_value_of) (defScope s__law_value_of) .none kV23 dc23 pm23 an23 cd23 ct23), sl23⟩)
    (c23 : PySem.W.codeIn K cd23 "_law_value_of" = true)
    (k23 : PySem.W.keepIn K (.ref f23) = true)
    (a24 : PySem.W.findIn K (.ref C) "__mul__" = some (some (.ref f24)))
    (i24 : PySem.W.isFn K (.ref f24) = true)
    (l24 : K.lookup f24 = some ⟨oc24, od24, .func (PySem.W.fnOf "__mul__" "Ratio.__mul__" (defArgs s_Ratio___mul__) (defBody s_Ratio___mul__) (defScope s_Ratio___mul__) .none kV24 dc24 pm24 an24 cd24 ct24), sl24⟩)
    (c24 : PySem.W.codeIn K cd24 "Ratio.__mul__" = true)
    (k24 : PySem.W.keepIn K (.ref f24) = true)
    (a25 : PySem.W.findIn K (.ref C) "__rmul__" = some (some (.ref f25)))
    (i25 : PySem.W.isFn K (.ref f25) = true)
    (l25 : K.lookup f25 = some ⟨oc25, od25, .func (PySem.W.fnOf "__rmul__" "Ratio.__rmul__" (defArgs s_Ratio___rmul__) (defBody s_Ratio___rmul__) (defScope s_Ratio___rmul__) .none kV25 dc25 pm25 an25 cd25 ct25), sl25⟩)
    (c25 : PySem.W.codeIn K cd25 "Ratio.__rmul__" = true)
    (k25 : PySem.W.keepIn K (.ref f25) = true)
    (a26 : PySem.W.nsIn K mainGlobals "raised" = some (some (.ref f26)))
    (l26 : K.lookup f26 = some ⟨oc26, od26, .func (PySem.W.fnOf "raised" "raised" (defArgs s_raised) (defBody s_raised) (defScope s_raised) .none kV26 dc26 pm26 an26 cd26 ct26), sl26⟩)
    (c26 : PySem.W.codeIn K cd26 "raised" = true)
    (k26 : PySem.W.keepIn K (.ref f26) = true)
    (a27 : PySem.W.findIn K (.ref C) "__add__" = some (some (.ref f27)))
    (i27 : PySem.W.isFn K (.ref f27) = true)
    (l27 : K.lookup f27 = some ⟨oc27, od27, .func (PySem.W.fnOf "__add__" "Ratio.__add__" (defArgs s_Ratio___add__) (defBody s_Ratio___add__) (defScope s_Ratio___add__) .none kV27 dc27 pm27 an27 cd27 ct27), sl27⟩)
    (c27 : PySem.W.codeIn K cd27 "Ratio.__add__" = true)
    (k27 : PySem.W.keepIn K (.ref f27) = true)
    (a28 : PySem.W.findIn K (.ref C) "__radd__" = some (some (.ref f28)))
    (i28 : PySem.W.isFn K (.ref f28) = true)
    (l28 : K.lookup f28 = some ⟨oc28, od28, .func (PySem.W.fnOf "__radd__" "Ratio.__radd__" (defArgs s_Ratio___radd__) (defBody s_Ratio___radd__) (defScope s_Ratio___radd__) .none kV28 dc28 pm28 an28 cd28 ct28), sl28⟩)
    (c28 : PySem.W.codeIn K cd28 "Ratio.__radd__" = true)
    (k28 : PySem.W.keepIn K (.ref f28) = true)
    (a29 : PySem.W.findIn K (.ref C1) "at" = some (some (.ref f29)))
    (i29 : PySem.W.isFn K (.ref f29) = true)
    (l29 : K.lookup f29 = some ⟨oc29, od29, .func (PySem.W.fnOf "at" "Poly.at" (defArgs s_Poly_at) (defBody s_Poly_at) (defScope s_Poly_at) .none kV29 dc29 pm29 an29 cd29 ct29), sl29⟩)
    (c29 : PySem.W.codeIn K cd29 "Poly.at" = true)
    (k29 : PySem.W.keepIn K (.ref f29) = true)
    (a30 : PySem.W.nsIn K mainGlobals "_law_is_int" = some (some (.ref f30)))
    (l30 : K.lookup f30 = some ⟨oc30, od30, .func (PySem.W.fnOf "_law_is_int" "_law_is_int" (defArgs s__law_is_int) (defBody s__law_is_int) (defScope s__law_is_int) .none kV30 dc30 pm30 an30 cd30 ct30), sl30⟩)
    (c30 : PySem.W.codeIn K cd30 "_law_is_int" = true)
    (k30 : PySem.W.keepIn K (.ref f30) = true)
    (a31 : PySem.W.nsIn K mainGlobals "_law_is_plain" = some (some (.ref f31)))
    (l31 : K.lookup f31 = some ⟨oc31, od31, .func (PySem.W.fnOf "_law_is_plain" "_law_is_plain" (defArgs s__law_is_plain) (defBody s__law_is_plain) (defScope s__law_is_plain) .none kV31 dc31 pm31 an31 cd31 ct31), sl31⟩)
    (c31 : PySem.W.codeIn K cd31 "_law_is_plain" = true)
    (k31 : PySem.W.keepIn K (.ref f31) = true)
    (a32 : PySem.W.nsIn K mainGlobals "parts_beside" = some (some (.ref f32)))
    (l32 : K.lookup f32 = some ⟨oc32, od32, .func (PySem.W.fnOf "parts_beside" "parts_beside" (defArgs s_parts_beside) (defBody s_parts_beside) (defScope s_parts_beside) .none kV32 dc32 pm32 an32 cd32 ct32), sl32⟩)
    (c32 : PySem.W.codeIn K cd32 "parts_beside" = true)
    (k32 : PySem.W.keepIn K (.ref f32) = true)
    (a33 : PySem.W.nsIn K mainGlobals "multiplied" = some (some (.ref f33)))
    (l33 : K.lookup f33 = some ⟨oc33, od33, .func (PySem.W.fnOf "multiplied" "multiplied" (defArgs s_multiplied) (defBody s_multiplied) (defScope s_multiplied) .none kV33 dc33 pm33 an33 cd33 ct33), sl33⟩)
    (c33 : PySem.W.codeIn K cd33 "multiplied" = true)
    (k33 : PySem.W.keepIn K (.ref f33) = true)
    (a34 : PySem.W.findIn K (.ref C1) "__mul__" = some (some (.ref f34)))
    (i34 : PySem.W.isFn K (.ref f34) = true)
    (l34 : K.lookup f34 = some ⟨oc34, od34, .func (PySem.W.fnOf "__mul__" "Poly.__mul__" (defArgs s_Poly___mul__) (defBody s_Poly___mul__) (defScope s_Poly___mul__) .none kV34 dc34 pm34 an34 cd34 ct34), sl34⟩)
    (c34 : PySem.W.codeIn K cd34 "Poly.__mul__" = true)
    (k34 : PySem.W.keepIn K (.ref f34) = true)
    (a35 : PySem.W.nsIn K mainGlobals "_law_kept" = some (some (.ref f35)))
    (l35 : K.lookup f35 = some ⟨oc35, od35, .func (PySem.W.fnOf "_law_kept" "_law_kept" (defArgs s__law_kept) (defBody s__law_kept) (defScope s__law_kept) .none kV35 dc35 pm35 an35 cd35 ct35), sl35⟩)
    (c35 : PySem.W.codeIn K cd35 "_law_kept" = true)
    (k35 : PySem.W.keepIn K (.ref f35) = true)
    (a36 : PySem.W.findIn K (.ref C1) "power" = some (some (.ref f36)))
    (i36 : PySem.W.isFn K (.ref f36) = true)
    (l36 : K.lookup f36 = some ⟨oc36, od36, .func (PySem.W.fnOf "power" "Poly.power" (defArgs s_Poly_power) (defBody s_Poly_power) (defScope s_Poly_power) .none kV36 dc36 pm36 an36 cd36 ct36), sl36⟩)
    (c36 : PySem.W.codeIn K cd36 "Poly.power" = true)
    (k36 : PySem.W.keepIn K (.ref f36) = true)
    (a37 : PySem.W.nsIn K mainGlobals "law" = some (some (.ref f37)))
    (l37 : K.lookup f37 = some ⟨oc37, od37, .func (PySem.W.fnOf "law" "law" (defArgs s_law) (defBody s_law) (defScope s_law) .none kV37 dc37 pm37 an37 (.ref cA37) ct37), sl37⟩)
    (c37 : PySem.W.codeIn K (.ref cA37) "law" = true)
    (k37 : PySem.W.keepIn K (.ref f37) = true)
    (tl37 : K.lookup cA37 = some ⟨ce37, cd37, .fields vs37, cs37⟩)
    (tv37 : vs37[11]? = some (.ref tA37))
    (th37 : PySem.W.codeHdIn K cA37 tA37 = true)
    (tn37 : K.lookup tA37 = none)
    (tt37 : h.get? tA37 = some { cls := .none, data := .fields #[] })
    (a38 : PySem.W.nsIn K mainGlobals "_law_count" = some (some (.ref f38)))
    (l38 : K.lookup f38 = some ⟨oc38, od38, .func (PySem.W.fnOf "_law_count" "_law_count" (defArgs s__law_count) (defBody s__law_count) (defScope s__law_count) .none kV38 dc38 pm38 an38 cd38 ct38), sl38⟩)
    (c38 : PySem.W.codeIn K cd38 "_law_count" = true)
    (k38 : PySem.W.keepIn K (.ref f38) = true)
    (lT : K.lookup tT = some ⟨oT, dT, .seq #[.int 1 uT] nT, sT⟩)
    (pgC : PySem.W.plainGet K C Str.empty = true)
    (hdC : PySem.W.hasDictIn K C = true)
    (poC : PySem.W.plainOver K C = true)
    (saC : PySem.W.findIn K (.ref C) "__setattr__" = some (some (.builtin "object.__setattr__")))
    (mkC : PySem.W.makesIn K C = true)
    (kcC : PySem.W.keepIn K (.ref C) = true)
    (ntop_C : PySem.W.findIn K (.ref C) "top" = some none)
    (nbottom_C : PySem.W.findIn K (.ref C) "bottom" = some none)
    (haC : PySem.W.findIn K (.ref C) "__class__" = some (some (.builtin "object.__class__")))
    (hmC : PySem.W.mroIn K C (.type "object") = some true)
    (nb0_C : PySem.W.kitOne K (.type "NoneType") (.ref C) = some false)
    (nb1_C : PySem.W.kitOne K (.type "bool") (.ref C) = some false)
    (nb2_C : PySem.W.kitOne K (.type "int") (.ref C) = some false)
    (nb3_C : PySem.W.kitOne K (.type "str") (.ref C) = some false)
    (nb4_C : PySem.W.kitOne K (.type "list") (.ref C) = some false)
    (nb5_C : PySem.W.kitOne K (.type "tuple") (.ref C) = some false)
    (nb6_C : PySem.W.kitOne K (.type "dict") (.ref C) = some false)
    (kint_C : PySem.W.kitOne K (.ref C) (.type "int") = some false)
    (kbool_C : PySem.W.kitOne K (.ref C) (.type "bool") = some false)
    (ktuple_C : PySem.W.kitOne K (.ref C) (.type "tuple") = some false)
    (kstr_C : PySem.W.kitOne K (.ref C) (.type "str") = some false)
    (sfC : PySem.W.selfFirst K C = true)
    (pgC1 : PySem.W.plainGet K C1 Str.empty = true)
    (hdC1 : PySem.W.hasDictIn K C1 = true)
    (poC1 : PySem.W.plainOver K C1 = true)
    (saC1 : PySem.W.findIn K (.ref C1) "__setattr__" = some (some (.builtin "object.__setattr__")))
    (mkC1 : PySem.W.makesIn K C1 = true)
    (kcC1 : PySem.W.keepIn K (.ref C1) = true)
    (nfields_C1 : PySem.W.findIn K (.ref C1) "fields" = some none)
    (nparts_C1 : PySem.W.findIn K (.ref C1) "parts" = some none)
    (haC1 : PySem.W.findIn K (.ref C1) "__class__" = some (some (.builtin "object.__class__")))
    (hmC1 : PySem.W.mroIn K C1 (.type "object") = some true)
    (nb0_C1 : PySem.W.kitOne K (.type "NoneType") (.ref C1) = some false)
    (nb1_C1 : PySem.W.kitOne K (.type "bool") (.ref C1) = some false)
    (nb2_C1 : PySem.W.kitOne K (.type "int") (.ref C1) = some false)
    (nb3_C1 : PySem.W.kitOne K (.type "str") (.ref C1) = some false)
    (nb4_C1 : PySem.W.kitOne K (.type "list") (.ref C1) = some false)
    (nb5_C1 : PySem.W.kitOne K (.type "tuple") (.ref C1) = some false)
    (nb6_C1 : PySem.W.kitOne K (.type "dict") (.ref C1) = some false)
    (kint_C1 : PySem.W.kitOne K (.ref C1) (.type "int") = some false)
    (kbool_C1 : PySem.W.kitOne K (.ref C1) (.type "bool") = some false)
    (ktuple_C1 : PySem.W.kitOne K (.ref C1) (.type "tuple") = some false)
    (kstr_C1 : PySem.W.kitOne K (.ref C1) (.type "str") = some false)
    (sfC1 : PySem.W.selfFirst K C1 = true)
    (hnC : PySem.W.specialIn K (.builtin "object.__class__") "__get__" = some (some (.builtin "getset_descriptor.__get__")))
    (htC : PySem.W.takesIn K (.builtin "object.__class__") = some true)
    (kCx : PySem.W.kitOne K (.ref C) (.ref C1) = some false)
    (kCy : PySem.W.kitOne K (.ref C1) (.ref C) = some false)
    (s1C : PySem.W.subIn K (.type "int") (.ref C) = some false)
    (s2C : PySem.W.subIn K (.ref C) (.type "int") = some false)
    (neC : PySem.W.findIn K (.ref C) "__ne__" = some (some (.builtin "object.__ne__")))
    (in_add : PySem.W.findIn K (.type "int") "__add__" = some io_add)
    (in_radd : PySem.W.findIn K (.type "int") "__radd__" = some io_radd)
    (in_mul : PySem.W.findIn K (.type "int") "__mul__" = some io_mul)
    (in_rmul : PySem.W.findIn K (.type "int") "__rmul__" = some io_rmul)
    (nf_NoneType : PySem.W.notFirst K C (.type "NoneType") = true)
    (nf_bool : PySem.W.notFirst K C (.type "bool") = true)
    (nf_int : PySem.W.notFirst K C (.type "int") = true)
    (nf_str : PySem.W.notFirst K C (.type "str") = true)
    (nf_list : PySem.W.notFirst K C (.type "list") = true)
    (nf_tuple : PySem.W.notFirst K C (.type "tuple") = true)
    (nf_dict : PySem.W.notFirst K C (.type "dict") = true)
    (nf_C : PySem.W.notFirst K C (.ref C) = true)
    (nf_C1 : PySem.W.notFirst K C (.ref C1) = true)
    (xL : K.lookup E0 = some (excClassObj nm q E0 N bs bm true sn sub ab col dd m0 m1 m2 m3 m5 "ValueError.__new__"))
    (xR : PySem.HandSPX.refsVE bm = true)
    (saE : PySem.W.findIn K (.ref E0) "__setattr__" = some (some (.builtin "object.__setattr__")))
    (gaE : PySem.W.findIn K (.ref E0) "__getattribute__" = some (some (.builtin "BaseException.__getattribute__")))
    (ggE : PySem.W.findIn K (.ref E0) "__getattr__" = some none)
    (nE : PySem.W.findIn K (.ref E0) "count" = some none)
    (iE : PySem.W.findIn K (.ref E0) "__init__" = some (some (.ref fI)))
    (tE : PySem.W.typeIn K (.ref fI) = some (.type "function"))
    (kE : PySem.W.keepIn K (.ref E0) = true)
    (xE : PySem.W.subIn K (.ref E0) (.type "BaseException") = some true)
    (vE : PySem.W.subIn K (.ref E0) (.type "ValueError") = some true)
    (yE : PySem.W.typeIn K (.ref E0) = some (.type "type"))
    (hE : PySem.W.hasDictIn K E0 = true)
    (mE : PySem.W.mroIn K E0 (.ref E0) = some true)
    (uE : PySem.W.ks_superIn K E0 E0 "__init__" = some (some (.builtin "ValueError.__init__")))
    (oE : PySem.W.nsIn K cStatics "thirdparty.any" = some none)
    (icE : PySem.W.isClsIn K E0 = true)
    (sE : PySem.W.subIn K (.ref E0) (.ref E0) = some true)
    (lI : K.lookup fI = some ⟨ocE, odE, .func (PySem.W.ksFn "__init__" qE (PySem.ErrX.iArgs "count" p1 p2) [PySem.ErrX.iSuper msg jE q0 q1 q2 q3 q4 q5, PySem.ErrX.iSet "count" r1 r2 r3 r4] (PySem.ErrX.iSc "count") .none .none docE pmE anE (.ref cda) ctE cc), oslE⟩)
    (cI : PySem.W.codeIn K (.ref cda) qE = true)
    (ld : K.lookup cda = some ⟨cclE, cddE, .fields vsE, ccsE⟩)
    (hv : vsE[2]? = some (.str file tf))
    (hfl : ((PySem.Challenge.rw_everylist_k42_values_of_polys.prog.main.file : Str) == file) = true)
    (lc : K.lookup cc = some ⟨clE, cldE, .cell (some (.ref E0)), cslE⟩)
    (ev : PySem.ErrX.ErrEv (PySem.W.ksFn "__init__" qE (PySem.ErrX.iArgs "count" p1 p2) [PySem.ErrX.iSuper msg jE q0 q1 q2 q3 q4 q5, PySem.ErrX.iSet "count" r1 r2 r3 r4] (PySem.ErrX.iSc "count") .none .none docE pmE anE (.ref cda) ctE cc) fI "count" msg jE q0 q1 q2 q3 q4 q5 r1 r2 r3 r4)
    (b_abs : PySem.W.nsIn K mainGlobals "abs" = some none)
    (b_len : PySem.W.nsIn K mainGlobals "len" = some none)
    (b_all : PySem.W.nsIn K mainGlobals "all" = some none)
    (b_int : PySem.W.nsIn K mainGlobals "int" = some none)
    (b_bool : PySem.W.nsIn K mainGlobals "bool" = some none)
    (b_str : PySem.W.nsIn K mainGlobals "str" = some none)
    (b_tuple : PySem.W.nsIn K mainGlobals "tuple" = some none)
    (b_range : PySem.W.nsIn K mainGlobals "range" = some none)
    (b_zip : PySem.W.nsIn K mainGlobals "zip" = some none)
    (b_enumerate : PySem.W.nsIn K mainGlobals "enumerate" = some none)
    (b_isinstance : PySem.W.nsIn K mainGlobals "isinstance" = some none)
    (b_sorted : PySem.W.nsIn K mainGlobals "sorted" = some none)
    (b_dict : PySem.W.nsIn K mainGlobals "dict" = some none)
    (b_max : PySem.W.nsIn K mainGlobals "max" = some none)
    (b_super : PySem.W.nsIn K mainGlobals "super" = some none)
    (gLETTERS : PySem.W.nsIn K mainGlobals "LETTERS" = some (some (.str "abcdefghijklmnopqrstuvwxyz" tLETTERS)))
    (gMOST_LETTERS : PySem.W.nsIn K mainGlobals "MOST_LETTERS" = some (some (.int 8 tMOST_LETTERS)))
    : LamX.LawAtS lw w K (L2.CX lw.prog w) 10 63 "_law_script" mg fa h := by
  have e0 := hfa.symm.trans (PySem.W.mg_of X G a37)
  cases e0
  obtain ⟨TT, hTT⟩ : ∃ TT : List (Addr × Str), TT = [(tA37, ("law" ++ ".<locals>." ++ "<lambda>" : Str))] := ⟨_, rfl⟩
  have F0 := fun_mk (st := s__law_cell) l0 c0 k0
  have B0 := F0.binds (ps := ["_law_script", "_law_k"]) fun _ _ _ _ _ _ us hl => match us, hl with | [_, _], _ => rfl
  have F1 := fun_mk (st := s__law_row) l1 c1 k1
  have B1 := F1.binds (ps := ["_law_cell_here", "_law_sizes"]) fun _ _ _ _ _ _ us hl => match us, hl with | [_, _], _ => rfl
  have F2 := fun_mk (st := s__law_fields) l2 c2 k2
  have B2 := F2.binds (ps := ["_law_draw"]) fun _ _ _ _ _ _ us hl => match us, hl with | [_], _ => rfl
  have F3 := fun_mk (st := s__law_gcd) l3 c3 k3
  have B3 := F3.binds (ps := ["_law_a", "_law_b"]) fun _ _ _ _ _ _ us hl => match us, hl with | [_, _], _ => rfl
  have F4 := fun_mk (st := s__law_low) l4 c4 k4
  have B4 := F4.binds (ps := ["_law_pair"]) fun _ _ _ _ _ _ us hl => match us, hl with | [_], _ => rfl
  have F5 := fun_mk (st := s__law_terms) l5 c5 k5
  have B5 := F5.binds (ps := ["_law_draws", "_law_fields_here"]) fun _ _ _ _ _ _ us hl => match us, hl with | [_, _], _ => rfl
  have F6 := fun_mk (st := s_common) l6 c6 k6
  have B6 := F6.binds (ps := ["one", "two"]) fun _ _ _ _ _ _ us hl => match us, hl with | [_, _], _ => rfl
  have F7 : FunD K "__init__" "Ratio.__init__" (defArgs s_Ratio___init__) (defBody s_Ratio___init__) (defScope s_Ratio___init__) [.int 1] [] f7 (PySem.W.fnOf "__init__" "Ratio.__init__" (defArgs s_Ratio___init__) (defBody s_Ratio___init__) (defScope s_Ratio___init__) (.ref tT) kV7 dc7 pm7 an7 cd7 ct7) := ⟨⟨_, _, _, _, _, _, _, _, _, _, rfl, l7, c7, .inr ⟨by simp, tT, _, [.int 1 uT], nT, rfl, lT, rfl, .cons ⟨uT, rfl⟩ .nil⟩, .inl rfl⟩, k7⟩
  have B7 : Binds K (PySem.W.fnOf "__init__" "Ratio.__init__" (defArgs s_Ratio___init__) (defBody s_Ratio___init__) (defScope s_Ratio___init__) (.ref tT) kV7 dc7 pm7 an7 cd7 ct7) ["self", "top", "bottom"] [] := by
    obtain ⟨ds, h1, h2⟩ := F7.binds1 (ps := ["self", "top", "bottom"]) 3 1 (by simp) rfl fun _ _ _ _ _ _ _ us its hl hi => match us, its, hl, hi with | [_, _, _], [_], _, _ => ⟨_, rfl, rfl⟩
    cases h1
    exact h2
  have F8 := fun_mk (st := s__law_made) l8 c8 k8
  have B8 := F8.binds (ps := ["_law_pair", "_law_is_bare"]) fun _ _ _ _ _ _ us hl => match us, hl with | [_, _], _ => rfl
  have F9 := fun_mk (st := s__law_handed) l9 c9 k9
  have B9 := F9.binds (ps := ["_law_terms_here", "_law_is_bare"]) fun _ _ _ _ _ _ us hl => match us, hl with | [_, _], _ => rfl
  have F10 := fun_mk (st := s_is_name) l10 c10 k10
  have B10 := F10.binds (ps := ["thing"]) fun _ _ _ _ _ _ us hl => match us, hl with | [_], _ => rfl
  have F11 := fun_mk (st := s_check_fields) l11 c11 k11
  have B11 := F11.binds (ps := ["fields"]) fun _ _ _ _ _ _ us hl => match us, hl with | [_], _ => rfl
  have F12 := fun_mk (st := s_is_integer) l12 c12 k12
  have B12 := F12.binds (ps := ["thing"]) fun _ _ _ _ _ _ us hl => match us, hl with | [_], _ => rfl
  have F13 := fun_mk (st := s_is_powers) l13 c13 k13
  have B13 := F13.binds (ps := ["thing", "many"]) fun _ _ _ _ _ _ us hl => match us, hl with | [_, _], _ => rfl
  have F14 := fun_mk (st := s_halves_of) l14 c14 k14
  have B14 := F14.binds (ps := ["number"]) fun _ _ _ _ _ _ us hl => match us, hl with | [_], _ => rfl
  have F15 := fun_mk (st := s_is_number) l15 c15 k15
  have B15 := F15.binds (ps := ["thing"]) fun _ _ _ _ _ _ us hl => match us, hl with | [_], _ => rfl
  have F16 := fun_mk (st := s_Ratio___eq__) l16 c16 k16
  have B16 := F16.binds (ps := ["self", "other"]) fun _ _ _ _ _ _ us hl => match us, hl with | [_, _], _ => rfl
  have F17 := fun_mk (st := s_plain) l17 c17 k17
  have B17 := F17.binds (ps := ["number"]) fun _ _ _ _ _ _ us hl => match us, hl with | [_], _ => rfl
  have F18 := fun_mk (st := s_one_form) l18 c18 k18
  have B18 := F18.binds (ps := ["terms"]) fun _ _ _ _ _ _ us hl => match us, hl with | [_], _ => rfl
  have F19 := fun_mk (st := s_Poly___init__) l19 c19 k19
  have B19 := F19.binds (ps := ["self", "fields", "terms"]) fun _ _ _ _ _ _ us hl => match us, hl with | [_, _, _], _ => rfl
  have FD19 : FunD K "__init__" "Poly.__init__" (defArgs s_Poly___init__) (defBody s_Poly___init__) (defScope s_Poly___init__) [] [] f19 _ := ⟨⟨_, _, _, _, _, _, _, _, _, _, rfl, l19, c19, .inl ⟨rfl, rfl⟩, .inl rfl⟩, k19⟩
  have F20 := fun_mk (st := s__law_times) l20 c20 k20
  have B20 := F20.binds (ps := ["_law_one", "_law_two"]) fun _ _ _ _ _ _ us hl => match us, hl with | [_, _], _ => rfl
  have F21 := fun_mk (st := s__law_power) l21 c21 k21
  have B21 := F21.binds (ps := ["_law_number", "_law_power_here"]) fun _ _ _ _ _ _ us hl => match us, hl with | [_, _], _ => rfl
  have F22 := fun_mk (st := s__law_add) l22 c22 k22
  have B22 := F22.binds (ps := ["_law_one", "_law_two"]) fun _ _ _ _ _ _ us hl => match us, hl with | [_, _], _ => rfl
  have F23 := fun_mk (st := s__law_value_of) l23 c23 k23
  have B23 := F23.binds (ps := ["_law_terms_here", "_law_numbers"]) fun _ _ _ _ _ _ us hl => match us, hl with | [_, _], _ => rfl
  have F24 := fun_mk (st := s_Ratio___mul__) l24 c24 k24
  have B24 := F24.binds (ps := ["self", "other"]) fun _ _ _ _ _ _ us hl => match us, hl with | [_, _], _ => rfl
  have F25 := fun_mk (st := s_Ratio___rmul__) l25 c25 k25
  have B25 := F25.binds (ps := ["self", "other"]) fun _ _ _ _ _ _ us hl => match us, hl with | [_, _], _ => rfl
  have F26 := fun_mk (st := s_raised) l26 c26 k26
  have B26 := F26.binds (ps := ["thing", "power", "one"]) fun _ _ _ _ _ _ us hl => match us, hl with | [_, _, _], _ => rfl
  have F27 := fun_mk (st := s_Ratio___add__) l27 c27 k27
  have B27 := F27.binds (ps := ["self", "other"]) fun _ _ _ _ _ _ us hl => match us, hl with | [_, _], _ => rfl
  have F28 := fun_mk (st := s_Ratio___radd__) l28 c28 k28
  have B28 := F28.binds (ps := ["self", "other"]) fun _ _ _ _ _ _ us hl => match us, hl with | [_, _], _ => rfl
  have F29 := fun_mk (st := s_Poly_at) l29 c29 k29
  have B29 := F29.binds (ps := ["self", "numbers"]) fun _ _ _ _ _ _ us hl => match us, hl with | [_, _], _ => rfl
  have F30 := fun_mk (st := s__law_is_int) l30 c30 k30
  have B30 := F30.binds (ps := ["_law_thing"]) fun _ _ _ _ _ _ us hl => match us, hl with | [_], _ => rfl
  have F31 := fun_mk (st := s__law_is_plain) l31 c31 k31
  have B31 := F31.binds (ps := ["_law_thing", "_law_due"]) fun _ _ _ _ _ _ us hl => match us, hl with | [_, _], _ => rfl
  have F32 := fun_mk (st := s_parts_beside) l32 c32 k32
  have B32 := F32.binds (ps := ["poly", "thing"]) fun _ _ _ _ _ _ us hl => match us, hl with | [_, _], _ => rfl
  have F33 := fun_mk (st := s_multiplied) l33 c33 k33
  have B33 := F33.binds (ps := ["one", "other"]) fun _ _ _ _ _ _ us hl => match us, hl with | [_, _], _ => rfl
  have F34 := fun_mk (st := s_Poly___mul__) l34 c34 k34
  have B34 := F34.binds (ps := ["self", "other"]) fun _ _ _ _ _ _ us hl => match us, hl with | [_, _], _ => rfl
  have F35 := fun_mk (st := s__law_kept) l35 c35 k35
  have B35 := F35.binds (ps := ["_law_terms_here"]) fun _ _ _ _ _ _ us hl => match us, hl with | [_], _ => rfl
  have F36 := fun_mk (st := s_Poly_power) l36 c36 k36
  have B36 := F36.binds (ps := ["self", "k"]) fun _ _ _ _ _ _ us hl => match us, hl with | [_, _], _ => rfl
  have F37 := fun_mk (st := s_law) l37 c37 k37
  have B37 := F37.binds (ps := ["_law_script"]) fun _ _ _ _ _ _ us hl => match us, hl with | [_], _ => rfl
  have F38 := fun_mk (st := s__law_count) l38 c38 k38
  have B38 := F38.binds (ps := ["_law_way"]) fun _ _ _ _ _ _ us hl => match us, hl with | [_], _ => rfl
  have err : PySem.ErrX.ErrTxt lw.prog K mg "WrongCount" "count" E0 fI := ⟨PySem.W.mg_of X G aE, ⟨nm, q, N, bs, bm, sn, sub, ab, col, dd, m0, m1, m2, m3, m5, xL, xR⟩, saE, gaE, ggE, nE, iE, tE, kE, xE, vE, yE, hE, mE, uE, oE, PySem.W.mg_none_of X G b_super, by decide +kernel,
    ⟨ocE, odE, qE, msg, jE, docE, pmE, anE, ctE, oslE, cc, cda, p1, p2, q0, q1, q2, q3, q4, q5, r1, r2, r3, r4, cclE, clE, cddE, cldE, vsE, ccsE, cslE, file, tf, lI, cI, ld, hv, hfl, lc, ev⟩⟩
  have RC : RcD lw.prog K mg "_law_count" "_law_way" "WrongCount" "e" "count" E0 fI := ⟨⟨s__law_count, f38, _, _, _, _, _, _, _, _, _, _, _, _, _, F38, PySem.W.mg_of X G a38, B38, sc__law_count, .inl rfl, rfl, rfl, rfl⟩, err, by decide, by decide, by decide⟩
  have CLC : Cls K C := ⟨pgC, hdC, poC, saC⟩
  have ICC : IsiC K C := ⟨CLC, haC, hnC, htC, hmC⟩
  have CLC1 : Cls K C1 := ⟨pgC1, hdC1, poC1, saC1⟩
  have ICC1 : IsiC K C1 := ⟨CLC1, haC1, hnC, htC, hmC1⟩
  have NF : ∀ d, notScr d = true → PySem.W.notFirst K ((pm K C C1 E0 TT).C 0) (tyD (pm K C C1 E0 TT) d) = true := fun d hd => by
    cases d with
    | non => exact nf_NoneType
    | bl b => exact nf_bool
    | int b => exact nf_int
    | str b => exact nf_str
    | lst b => exact nf_list
    | tup b => exact nf_tuple
    | dK b b2 => exact nf_dict
    | dT b b2 => exact nf_dict
    | obj b b2 => exact clv_of (p := fun a => PySem.W.notFirst K C (.ref a) = true) nf_C nf_C1 b
    | scr b => cases hd
  have EC : EqC K (pm K C C1 E0 TT) := ⟨NF, clv_of (p := fun a => IsiC K a) ICC ICC1, neC, s2C⟩
  have T : ∀ base : Heap, Txt lw.prog K mg base C C1 E0 fI TT := fun base => ⟨CLC, ntop_C, nbottom_C, CLC1, nfields_C1, nparts_C1, PySem.W.mg_of X G aC, PySem.W.mg_of X G aC1, ICC, ICC1, ⟨nb0_C, nb1_C, nb2_C, nb3_C, nb4_C, nb5_C, nb6_C⟩, ⟨nb0_C1, nb1_C1, nb2_C1, nb3_C1, nb4_C1, nb5_C1, nb6_C1⟩, kint_C, kbool_C, ktuple_C, kstr_C, kint_C1, kbool_C1, ktuple_C1, kstr_C1, kCx, kCy, ⟨sfC, ⟨_, in_add⟩, ⟨_, in_radd⟩, s1C, s2C⟩, ⟨sfC, ⟨_, in_mul⟩, ⟨_, in_rmul⟩, s1C, s2C⟩, ⟨_, a28⟩, ⟨_, a25⟩, EC, sfC1, err, RC, exm_own xE icE yE sE, ⟨_, PySem.W.mg_of X G gLETTERS⟩, ⟨_, PySem.W.mg_of X G gMOST_LETTERS⟩, PySem.W.mg_none_of X G b_abs, PySem.W.mg_none_of X G b_len, PySem.W.mg_none_of X G b_all, PySem.W.mg_none_of X G b_int, PySem.W.mg_none_of X G b_bool, PySem.W.mg_none_of X G b_str, PySem.W.mg_none_of X G b_tuple, PySem.W.mg_none_of X G b_range, PySem.W.mg_none_of X G b_zip, PySem.W.mg_none_of X G b_enumerate, PySem.W.mg_none_of X G b_isinstance, PySem.W.mg_none_of X G b_sorted, PySem.W.mg_none_of X G b_dict, PySem.W.mg_none_of X G b_max⟩
  have tabs : ∀ H : Hp, (∀ p ∈ ([(cA37, tA37)] : List (Addr × Addr)), H p.2 = some (.tbl #[])) → LamX.Tabs (pm K C C1 E0 TT).T H := by
    intro H hcs p hp
    have hp : p ∈ TT := hp
    rw [hTT] at hp
    simp only [List.mem_cons, List.not_mem_nil, or_false] at hp
    subst hp
    exact LamX.TabS.nil (hcs (cA37, tA37) (by simp))
  refine ⟨_, [(cA37, tA37)], spD (pm K C C1 E0 TT) 1 G_law, ?hT, ?nT, ?hC, fun s v => .of_eq (?hb : bindArgs (PySem.W.fnOf "law" "law" (defArgs s_law) (defBody s_law) (defScope s_law) .none kV37 dc37 pm37 an37 (.ref cA37) ct37) ⟨[v], []⟩ = _), fun H a ns hl _ hcs hS => law_post rfl (fun ns hl => law_true ns) H a ns hl (tabs H hcs) hS, fun base _ _ TB => ?_⟩
  case hb => rfl
  case hT =>
    intro p hp
    simp only [List.mem_cons, List.not_mem_nil, or_false] at hp
    subst hp
    exact tt37
  case nT =>
    intro p hp
    simp only [List.mem_cons, List.not_mem_nil, or_false] at hp
    subst hp
    exact tn37
  case hC =>
    intro p hp
    simp only [List.mem_cons, List.not_mem_nil, or_false] at hp
    subst hp
    exact PySem.W.codeHd_of_K X th37
  have TA37 : TabAt (pm K C C1 E0 TT) base mg cA37 tA37 ("law" ++ ".<locals>." ++ "<lambda>") := by
    refine ⟨TB (cA37, tA37) (by simp), ?_, fun p hp e => ?_⟩
    · show _ ∈ TT
      rw [hTT]
      simp
    · have hp : p ∈ TT := hp
      rw [hTT] at hp
      simp only [List.mem_cons, List.not_mem_nil, or_false] at hp
      subst hp
      rfl
  have C_0 : CalD lw.prog w K mg base (pm K C C1 E0 TT) 1 "_law_cell" 2 G__law_cell := calD F0 sc__law_cell (PySem.W.mg_of X G a0) B0 (b__law_cell (T base) _)
  have C_1 : CalD lw.prog w K mg base (pm K C C1 E0 TT) 1 "_law_row" 2 G__law_row := calD F1 sc__law_row (PySem.W.mg_of X G a1) B1 (b__law_row (T base) _)
  have C_2 : CalD lw.prog w K mg base (pm K C C1 E0 TT) 1 "_law_fields" 1 G__law_fields := calD F2 sc__law_fields (PySem.W.mg_of X G a2) B2 (b__law_fields (T base) _)
  have C_3 : CalD lw.prog w K mg base (pm K C C1 E0 TT) 1 "_law_gcd" 2 G__law_gcd := calD F3 sc__law_gcd (PySem.W.mg_of X G a3) B3 (b__law_gcd (T base) _)
  have C_4 : CalD lw.prog w K mg base (pm K C C1 E0 TT) 2 "_law_low" 1 G__law_low := calD F4 sc__law_low (PySem.W.mg_of X G a4) B4 (b__law_low (T base) C_3 _)
  have C_5 : CalD lw.prog w K mg base (pm K C C1 E0 TT) 3 "_law_terms" 2 G__law_terms := calD F5 sc__law_terms (PySem.W.mg_of X G a5) B5 (b__law_terms (T base) C_4 _)
  have C_6 : CalD lw.prog w K mg base (pm K C C1 E0 TT) 1 "common" 2 G_common := calD F6 sc_common (PySem.W.mg_of X G a6) B6 (b_common (T base) _)
  have C_7 : MkD lw.prog w K mg base (pm K C C1 E0 TT) 2 "Ratio" 0 2 G_Ratio___init__ := mkD (c := 0) rfl (by simp) F7 sc_Ratio___init__ ⟨mkC, a7, i7, kcC⟩ (T base).g_Ratio B7 (b_Ratio___init__ (T base) C_6 _)
  have C_8 : CalD lw.prog w K mg base (pm K C C1 E0 TT) 4 "_law_made" 2 G__law_made := calD F8 sc__law_made (PySem.W.mg_of X G a8) B8 (b__law_made (T base) C_4 C_7 _)
  have C_9 : CalD lw.prog w K mg base (pm K C C1 E0 TT) 5 "_law_handed" 2 G__law_handed := calD F9 sc__law_handed (PySem.W.mg_of X G a9) B9 (b__law_handed (T base) C_8 _)
  have C_10 : CalD lw.prog w K mg base (pm K C C1 E0 TT) 1 "is_name" 1 G_is_name := calD F10 sc_is_name (PySem.W.mg_of X G a10) B10 (b_is_name (T base) _)
  have C_11 : CalD lw.prog w K mg base (pm K C C1 E0 TT) 2 "check_fields" 1 G_check_fields := calD F11 sc_check_fields (PySem.W.mg_of X G a11) B11 (b_check_fields (T base) C_10 _)
  have C_12 : CalD lw.prog w K mg base (pm K C C1 E0 TT) 1 "is_integer" 1 G_is_integer := calD F12 sc_is_integer (PySem.W.mg_of X G a12) B12 (b_is_integer (T base) _)
  have C_13 : CalD lw.prog w K mg base (pm K C C1 E0 TT) 2 "is_powers" 2 G_is_powers := calD F13 sc_is_powers (PySem.W.mg_of X G a13) B13 (b_is_powers (T base) C_12 _)
  have C_14 : CalD lw.prog w K mg base (pm K C C1 E0 TT) 1 "halves_of" 1 G_halves_of := calD F14 sc_halves_of (PySem.W.mg_of X G a14) B14 (b_halves_of (T base) _)
  have C_15 : CalD lw.prog w K mg base (pm K C C1 E0 TT) 2 "is_number" 1 G_is_number := calD F15 sc_is_number (PySem.W.mg_of X G a15) B15 (b_is_number (T base) C_12 _)
  have C_16 : OwnD lw.prog w K mg base (pm K C C1 E0 TT) 3 "__eq__" 0 2 G_Ratio___eq__ := ownD (c := 0) F16 sc_Ratio___eq__ ⟨a16, i16⟩ B16 (b_Ratio___eq__ (T base) C_14 C_15 _)
  have C_17 : CalD lw.prog w K mg base (pm K C C1 E0 TT) 2 "plain" 1 G_plain := calD F17 sc_plain (PySem.W.mg_of X G a17) B17 (b_plain (T base) C_14 _)
  have C_18 : CalD lw.prog w K mg base (pm K C C1 E0 TT) 5 "one_form" 1 G_one_form := calD F18 sc_one_form (PySem.W.mg_of X G a18) B18 (b_one_form (T base) C_16 C_17 _)
  have C_19 : MkD lw.prog w K mg base (pm K C C1 E0 TT) 6 "Poly" 1 2 G_Poly___init__ := mkD (c := 1) rfl (by simp) FD19 sc_Poly___init__ ⟨mkC1, a19, i19, kcC1⟩ (T base).g_Poly B19 (b_Poly___init__ (T base) C_11 C_13 C_18 _)
  have C_20 : CalD lw.prog w K mg base (pm K C C1 E0 TT) 3 "_law_times" 2 G__law_times := calD F20 sc__law_times (PySem.W.mg_of X G a20) B20 (b__law_times (T base) C_4 _)
  have C_21 : CalD lw.prog w K mg base (pm K C C1 E0 TT) 4 "_law_power" 2 G__law_power := calD F21 sc__law_power (PySem.W.mg_of X G a21) B21 (b__law_power (T base) C_20 _)
  have C_22 : CalD lw.prog w K mg base (pm K C C1 E0 TT) 3 "_law_add" 2 G__law_add := calD F22 sc__law_add (PySem.W.mg_of X G a22) B22 (b__law_add (T base) C_4 _)
  have C_23 : CalD lw.prog w K mg base (pm K C C1 E0 TT) 5 "_law_value_of" 2 G__law_value_of := calD F23 sc__law_value_of (PySem.W.mg_of X G a23) B23 (b__law_value_of (T base) C_21 C_20 C_22 _)
  have C_24 : OwnD lw.prog w K mg base (pm K C C1 E0 TT) 4 "__mul__" 0 2 G_Ratio___mul__ := ownD (c := 0) F24 sc_Ratio___mul__ ⟨a24, i24⟩ B24 (b_Ratio___mul__ (T base) C_15 C_14 C_7 _)
  have C_25 : OwnD lw.prog w K mg base (pm K C C1 E0 TT) 5 "__rmul__" 0 2 G_Ratio___rmul__ := ownD (c := 0) F25 sc_Ratio___rmul__ ⟨a25, i25⟩ B25 (b_Ratio___rmul__ (T base) C_24 _)
  have C_26 : CalD lw.prog w K mg base (pm K C C1 E0 TT) 6 "raised" 3 G_raised := calD F26 sc_raised (PySem.W.mg_of X G a26) B26 (b_raised (T base) C_24 C_25 _)
  have C_27 : OwnD lw.prog w K mg base (pm K C C1 E0 TT) 4 "__add__" 0 2 G_Ratio___add__ := ownD (c := 0) F27 sc_Ratio___add__ ⟨a27, i27⟩ B27 (b_Ratio___add__ (T base) C_15 C_14 C_7 _)
  have C_28 : OwnD lw.prog w K mg base (pm K C C1 E0 TT) 5 "__radd__" 0 2 G_Ratio___radd__ := ownD (c := 0) F28 sc_Ratio___radd__ ⟨a28, i28⟩ B28 (b_Ratio___radd__ (T base) C_27 _)
  have C_29 : MetD lw.prog w K mg base (pm K C C1 E0 TT) 7 "at" 1 2 G_Poly_at := metD (c := 1) F29 sc_Poly_at CLC1 ⟨a29, i29, k29⟩ B29 (by show _ ∉ (["fields", "parts"] : List Str); decide +kernel) (b_Poly_at (T base) C_26 C_24 C_25 C_27 C_28 C_17 _)
  have C_30 : CalD lw.prog w K mg base (pm K C C1 E0 TT) 1 "_law_is_int" 1 G__law_is_int := calD F30 sc__law_is_int (PySem.W.mg_of X G a30) B30 (b__law_is_int (T base) _)
  have C_31 : CalD lw.prog w K mg base (pm K C C1 E0 TT) 3 "_law_is_plain" 2 G__law_is_plain := calD F31 sc__law_is_plain (PySem.W.mg_of X G a31) B31 (b__law_is_plain (T base) C_4 C_30 _)
  have C_32 : CalD lw.prog w K mg base (pm K C C1 E0 TT) 1 "parts_beside" 2 G_parts_beside := calD F32 sc_parts_beside (PySem.W.mg_of X G a32) B32 (b_parts_beside (T base) _)
  have C_33 : CalD lw.prog w K mg base (pm K C C1 E0 TT) 6 "multiplied" 2 G_multiplied := calD F33 sc_multiplied (PySem.W.mg_of X G a33) B33 (b_multiplied (T base) C_24 C_25 C_27 C_28 _)
  have C_34 : OwnD lw.prog w K mg base (pm K C C1 E0 TT) 8 "__mul__" 1 2 G_Poly___mul__ := ownD (c := 1) F34 sc_Poly___mul__ ⟨a34, i34⟩ B34 (b_Poly___mul__ (T base) C_32 C_33 C_19 _)
  have C_35 : CalD lw.prog w K mg base (pm K C C1 E0 TT) 1 "_law_kept" 1 G__law_kept := calD F35 sc__law_kept (PySem.W.mg_of X G a35) B35 (b__law_kept (T base) _)
  have C_36 : MetD lw.prog w K mg base (pm K C C1 E0 TT) 2 "power" 1 2 G_Poly_power := metD (c := 1) F36 sc_Poly_power CLC1 ⟨a36, i36, k36⟩ B36 (by show _ ∉ (["fields", "parts"] : List Str); decide +kernel) (b_Poly_power (T base) _)
  exact fndC l37 c37 sc_law (b_law (T base) C_0 C_1 C_2 C_5 C_9 C_19 C_8 C_23 C_29 C_31 C_20 C_34 C_35 C_36 C_30 cA37 tA37 TA37 _)
end DL.K42
open PySem PySem.W PyProof.Rows
set_option maxRecDepth 100000 in
set_option maxHeartbeats 0 in
theorem PySem.Challenge.cw_everylist_k42_values_of_polys_holds : PySem.Challenge.rw_everylist_k42_values_of_polys.Holds := by
  w_on; o_law; k_head; (case hw => w_witness2)
  k_fill
  refine LamX.walk_ofTs (l := PySem.Challenge.rw_everylist_k42_values_of_polys) (n := 63) (k := 10) (x := "_law_script") (CX := fun w => L2.CX PySem.Challenge.pw_everylist_k42_values_of_polys w) rfl (by decide) rfl ⟨rfl, by decide, by decide⟩ (fun w h Y => PySem.W.km_in_of Y) ?Fm (fun _ _ _ _ _ z => DL.cx_false z)
  case Fm =>
    intro w mg fa h Y KX G hmg
    refine' DL.K42.all_mk KX G hmg ?aC ?aC1 ?aE ?a0 ?l0 ?c0 ?k0 ?a1 ?l1 ?c1 ?k1 ?a2 ?l2 ?c2 ?k2 ?a3 ?l3 ?c3 ?k3 ?a4 ?l4 ?c4 ?k4 ?a5 ?l5 ?c5 ?k5 ?a6 ?l6 ?c6 ?k6 ?a7 ?i7 ?l7 ?c7 ?k7 ?a8 ?l8 ?c8 ?k8 ?a9 ?l9 ?c9 ?k9 ?a10 ?l10 ?c10 ?k10 ?a11 ?l11 ?c11 ?k11 ?a12 ?l12 ?c12 ?k12 ?a13 ?l13 ?c13 ?k13 ?a14 ?l14 ?c14 ?k14 ?a15 ?l15 ?c15 ?k15 ?a16 ?i16 ?l16 ?c16 ?k16 ?a17 ?l17 ?c17 ?k17 ?a18 ?l18 ?c18 ?k18 ?a19 ?i19 ?l19 ?c19 ?k19 ?a20 ?l20 ?c20 ?k20 ?a21 ?l21 ?c21 ?k21 ?a22 ?l22 ?c22 ?k22 ?a23 ?l23 ?c23 ?k23 ?a24 ?i24 ?l24 ?c24 ?k24 ?a25 ?i25 ?l25 ?c25 ?k25 ?a26 ?l26 ?c26 ?k26 ?a27 ?i27 ?l27 ?c27 ?k27 ?a28 ?i28 ?l28 ?c28 ?k28 ?a29 ?i29 ?l29 ?c29 ?k29 ?a30 ?l30 ?c30 ?k30 ?a31 ?l31 ?c31 ?k31 ?a32 ?l32 ?c32 ?k32 ?a33 ?l33 ?c33 ?k33 ?a34 ?i34 ?l34 ?c34 ?k34 ?a35 ?l35 ?c35 ?k35 ?a36 ?i36 ?l36 ?c36 ?k36 ?a37 ?l37 ?c37 ?k37 ?tl37 ?tv37 ?th37 ?tn37 ?tt37 ?a38 ?l38 ?c38 ?k38 ?lT ?pgC ?hdC ?poC ?saC ?mkC ?kcC ?ntop_C ?nbottom_C ?haC ?hmC ?nb0_C ?nb1_C ?nb2_C ?nb3_C ?nb4_C ?nb5_C ?nb6_C ?kint_C ?kbool_C ?ktuple_C ?kstr_C ?sfC ?pgC1 ?hdC1 ?poC1 ?saC1 ?mkC1 ?kcC1 ?nfields_C1 ?nparts_C1 ?haC1 ?hmC1 ?nb0_C1 ?nb1_C1 ?nb2_C1 ?nb3_C1 ?nb4_C1 ?nb5_C1 ?nb6_C1 ?kint_C1 ?kbool_C1 ?ktuple_C1 ?kstr_C1 ?sfC1 ?hnC ?htC ?kCx ?kCy ?s1C ?s2C ?neC ?in_add ?in_radd ?in_mul ?in_rmul ?nf_NoneType ?nf_bool ?nf_int ?nf_str ?nf_list ?nf_tuple ?nf_dict ?nf_C ?nf_C1 ?xL ?xR ?saE ?gaE ?ggE ?nE ?iE ?tE ?kE ?xE ?vE ?yE ?hE ?mE ?uE ?oE ?icE ?sE ?lI ?cI ?ld ?hv ?hfl ?lc ?ev ?b_abs ?b_len ?b_all ?b_int ?b_bool ?b_str ?b_tuple ?b_range ?b_zip ?b_enumerate ?b_isinstance ?b_sorted ?b_dict ?b_max ?b_super ?gLETTERS ?gMOST_LETTERS
    (case aC => first | k_is | rfl)
    (case aC1 => first | k_is | rfl)
    (case aE => first | k_is | rfl)
    (case a0 => first | k_is | rfl)
    (case l0 => first | k_is | rfl)
    (case c0 => first | k_is | rfl)
    (case k0 => first | k_is | rfl)
    (case a1 => first | k_is | rfl)
    (case l1 => first | k_is | rfl)
    (case c1 => first | k_is | rfl)
    (case k1 => first | k_is | rfl)
    (case a2 => first | k_is | rfl)
    (case l2 => first | k_is | rfl)
    (case c2 => first | k_is | rfl)
    (case k2 => first | k_is | rfl)
    (case a3 => first | k_is | rfl)
    (case l3 => first | k_is | rfl)
    (case c3 => first | k_is | rfl)
    (case k3 => first | k_is | rfl)
    (case a4 => first | k_is | rfl)
    (case l4 => first | k_is | rfl)
    (case c4 => first | k_is | rfl)
    (case k4 => first | k_is | rfl)
    (case a5 => first | k_is | rfl)
    (case l5 => first | k_is | rfl)
    (case c5 => first | k_is | rfl)
    (case k5 => first | k_is | rfl)
    (case a6 => first | k_is | rfl)
    (case l6 => first | k_is | rfl)
    (case c6 => first | k_is | rfl)
    (case k6 => first | k_is | rfl)
    (case a7 => first | k_is | rfl)
    (case i7 => first | k_is | rfl)
    (case l7 => first | k_is | rfl)
    (case c7 => first | k_is | rfl)
    (case k7 => first | k_is | rfl)
    (case a8 => first | k_is | rfl)
    (case l8 => first | k_is | rfl)
    (case c8 => first | k_is | rfl)
    (case k8 => first | k_is | rfl)
    (case a9 => first | k_is | rfl)
    (case l9 => first | k_is | rfl)
    (case c9 => first | k_is | rfl)
    (case k9 => first | k_is | rfl)
    (case a10 => first | k_is | rfl)
    (case l10 => first | k_is | rfl)
    (case c10 => first | k_is | rfl)
    (case k10 => first | k_is | rfl)
    (case a11 => first | k_is | rfl)
    (case l11 => first | k_is | rfl)
    (case c11 => first | k_is | rfl)
    (case k11 => first | k_is | rfl)
    (case a12 => first | k_is | rfl)
    (case l12 => first | k_is | rfl)
    (case c12 => first | k_is | rfl)
    (case k12 => first | k_is | rfl)
    (case a13 => first | k_is | rfl)
    (case l13 => first | k_is | rfl)
    (case c13 => first | k_is | rfl)
    (case k13 => first | k_is | rfl)
    (case a14 => first | k_is | rfl)
    (case l14 => first | k_is | rfl)
    (case c14 => first | k_is | rfl)
    (case k14 => first | k_is | rfl)
    (case a15 => first | k_is | rfl)
    (case l15 => first | k_is | rfl)
    (case c15 => first | k_is | rfl)
    (case k15 => first | k_is | rfl)
    (case a16 => first | k_is | rfl)
    (case i16 => first | k_is | rfl)
    (case l16 => first | k_is | rfl)
    (case c16 => first | k_is | rfl)
    (case k16 => first | k_is | rfl)
    (case a17 => first | k_is | rfl)
    (case l17 => first | k_is | rfl)
    (case c17 => first | k_is | rfl)
    (case k17 => first | k_is | rfl)
    (case a18 => first | k_is | rfl)
    (case l18 => first | k_is | rfl)
    (case c18 => first | k_is | rfl)
    (case k18 => first | k_is | rfl)
    (case a19 => first | k_is | rfl)
    (case i19 => first | k_is | rfl)
    (case l19 => first | k_is | rfl)
    (case c19 => first | k_is | rfl)
    (case k19 => first | k_is | rfl)
    (case a20 => first | k_is | rfl)
    (case l20 => first | k_is | rfl)
    (case c20 => first | k_is | rfl)
    (case k20 => first | k_is | rfl)
    (case a21 => first | k_is | rfl)
    (case l21 => first | k_is | rfl)
    (case c21 => first | k_is | rfl)
    (case k21 => first | k_is | rfl)
    (case a22 => first | k_is | rfl)
    (case l22 => first | k_is | rfl)
    (case c22 => first | k_is | rfl)
    (case k22 => first | k_is | rfl)
    (case a23 => first | k_is | rfl)
    (case l23 => first | k_is | rfl)
    (case c23 => first | k_is | rfl)
    (case k23 => first | k_is | rfl)
    (case a24 => first | k_is | rfl)
    (case i24 => first | k_is | rfl)
    (case l24 => first | k_is | rfl)
    (case c24 => first | k_is | rfl)
    (case k24 => first | k_is | rfl)
    (case a25 => first | k_is | rfl)
    (case i25 => first | k_is | rfl)
    (case l25 => first | k_is | rfl)
    (case c25 => first | k_is | rfl)
    (case k25 => first | k_is | rfl)
    (case a26 => first | k_is | rfl)
    (case l26 => first | k_is | rfl)
    (case c26 => first | k_is | rfl)
    (case k26 => first | k_is | rfl)
    (case a27 => first | k_is | rfl)
    (case i27 => first | k_is | rfl)
    (case l27 => first | k_is | rfl)
    (case c27 => first | k_is | rfl)
    (case k27 => first | k_is | rfl)
    (case a28 => first | k_is | rfl)
    (case i28 => first | k_is | rfl)
    (case l28 => first | k_is | rfl)
    (case c28 => first | k_is | rfl)
    (case k28 => first | k_is | rfl)
    (case a29 => first | k_is | rfl)
    (case i29 => first | k_is | rfl)
    (case l29 => first | k_is | rfl)
    (case c29 => first | k_is | rfl)
    (case k29 => first | k_is | rfl)
    (case a30 => first | k_is | rfl)
    (case l30 => first | k_is | rfl)
    (case c30 => first | k_is | rfl)
    (case k30 => first | k_is | rfl)
    (case a31 => first | k_is | rfl)
    (case l31 => first | k_is | rfl)
    (case c31 => first | k_is | rfl)
    (case k31 => first | k_is | rfl)
    (case a32 => first | k_is | rfl)
    (case l32 => first | k_is | rfl)
    (case c32 => first | k_is | rfl)
    (case k32 => first | k_is | rfl)
    (case a33 => first | k_is | rfl)
    (case l33 => first | k_is | rfl)
    (case c33 => first | k_is | rfl)
    (case k33 => first | k_is | rfl)
    (case a34 => first | k_is | rfl)
    (case i34 => first | k_is | rfl)
    (case l34 => first | k_is | rfl)
    (case c34 => first | k_is | rfl)
    (case k34 => first | k_is | rfl)
    (case a35 => first | k_is | rfl)
    (case l35 => first | k_is | rfl)
    (case c35 => first | k_is | rfl)
    (case k35 => first | k_is | rfl)
    (case a36 => first | k_is | rfl)
    (case i36 => first | k_is | rfl)
    (case l36 => first | k_is | rfl)
    (case c36 => first | k_is | rfl)
    (case k36 => first | k_is | rfl)
    (case a37 => first | k_is | rfl)
    (case l37 => first | k_is | rfl)
    (case c37 => first | k_is | rfl)
    (case k37 => first | k_is | rfl)
    (case tl37 => first | k_is | rfl)
    (case tv37 => first | rfl | decide +kernel)
    (case th37 => first | k_is | rfl | decide +kernel)
    (case tn37 => first | k_is | rfl | decide +kernel)
    (case tt37 => exact km_tabs_of Y _ (by decide))
    (case a38 => first | k_is | rfl)
    (case l38 => first | k_is | rfl)
    (case c38 => first | k_is | rfl)
    (case k38 => first | k_is | rfl)
    (case lT => first | k_is | rfl)
    (case pgC => first | k_is | rfl)
    (case hdC => first | k_is | rfl)
    (case poC => first | k_is | rfl)
    (case saC => first | k_is | rfl)
    (case mkC => first | k_is | rfl)
    (case kcC => first | k_is | rfl)
    (case ntop_C => first | k_is | rfl)
    (case nbottom_C => first | k_is | rfl)
    (case haC => first | k_is | rfl)
    (case hmC => first | k_is | rfl)
    (case nb0_C => first | k_is | rfl)
    (case nb1_C => first | k_is | rfl)
    (case nb2_C => first | k_is | rfl)
    (case nb3_C => first | k_is | rfl)
    (case nb4_C => first | k_is | rfl)
    (case nb5_C => first | k_is | rfl)
    (case nb6_C => first | k_is | rfl)
    (case kint_C => first | k_is | rfl)
    (case kbool_C => first | k_is | rfl)
    (case ktuple_C => first | k_is | rfl)
    (case kstr_C => first | k_is | rfl)
    (case sfC => first | k_is | rfl)
    (case pgC1 => first | k_is | rfl)
    (case hdC1 => first | k_is | rfl)
    (case poC1 => first | k_is | rfl)
    (case saC1 => first | k_is | rfl)
    (case mkC1 => first | k_is | rfl)
    (case kcC1 => first | k_is | rfl)
    (case nfields_C1 => first | k_is | rfl)
    (case nparts_C1 => first | k_is | rfl)
    (case haC1 => first | k_is | rfl)
    (case hmC1 => first | k_is | rfl)
    (case nb0_C1 => first | k_is | rfl)
    (case nb1_C1 => first | k_is | rfl)
    (case nb2_C1 => first | k_is | rfl)
    (case nb3_C1 => first | k_is | rfl)
    (case nb4_C1 => first | k_is | rfl)
    (case nb5_C1 => first | k_is | rfl)
    (case nb6_C1 => first | k_is | rfl)
    (case kint_C1 => first | k_is | rfl)
    (case kbool_C1 => first | k_is | rfl)
    (case ktuple_C1 => first | k_is | rfl)
    (case kstr_C1 => first | k_is | rfl)
    (case sfC1 => first | k_is | rfl)
    (case hnC => first | k_is | rfl)
    (case htC => first | k_is | rfl)
    (case kCx => first | k_is | rfl)
    (case kCy => first | k_is | rfl)
    (case s1C => first | k_is | rfl)
    (case s2C => first | k_is | rfl)
    (case neC => first | k_is | rfl)
    (case in_add => first | k_is | rfl)
    (case in_radd => first | k_is | rfl)
    (case in_mul => first | k_is | rfl)
    (case in_rmul => first | k_is | rfl)
    (case nf_NoneType => first | k_is | rfl | decide +kernel)
    (case nf_bool => first | k_is | rfl | decide +kernel)
    (case nf_int => first | k_is | rfl | decide +kernel)
    (case nf_str => first | k_is | rfl | decide +kernel)
    (case nf_list => first | k_is | rfl | decide +kernel)
    (case nf_tuple => first | k_is | rfl | decide +kernel)
    (case nf_dict => first | k_is | rfl | decide +kernel)
    (case nf_C => first | k_is | rfl | decide +kernel)
    (case nf_C1 => first | k_is | rfl | decide +kernel)
    (case xL => first | k_is | rfl)
    (case xR => first | rfl | decide +kernel)
    (case saE => first | k_is | rfl)
    (case gaE => first | k_is | rfl)
    (case ggE => first | k_is | rfl)
    (case nE => first | k_is | rfl)
    (case iE => first | k_is | rfl)
    (case tE => first | k_is | rfl)
    (case kE => first | k_is | rfl)
    (case xE => first | k_is | rfl)
    (case vE => first | k_is | rfl)
    (case yE => first | k_is | rfl)
    (case hE => first | k_is | rfl)
    (case mE => first | k_is | rfl)
    (case uE => first | k_is | rfl)
    (case oE => first | k_is | rfl)
    (case icE => first | k_is | rfl)
    (case sE => first | k_is | rfl)
    (case lI => first | k_is | rfl)
    (case cI => first | k_is | rfl)
    (case ld => first | k_is | rfl)
    (case hv => first | rfl | decide +kernel)
    (case hfl => first | rfl | decide +kernel)
    (case lc => first | k_is | rfl)
    (case ev => exact ⟨⟨_, fun _ => rfl⟩, fun _ => rfl, fun _ => rfl, fun _ => rfl, fun _ => rfl, fun _ _ => rfl⟩)
    (case b_abs => first | k_is | rfl)
    (case b_len => first | k_is | rfl)
    (case b_all => first | k_is | rfl)
    (case b_int => first | k_is | rfl)
    (case b_bool => first | k_is | rfl)
    (case b_str => first | k_is | rfl)
    (case b_tuple => first | k_is | rfl)
    (case b_range => first | k_is | rfl)
    (case b_zip => first | k_is | rfl)
    (case b_enumerate => first | k_is | rfl)
    (case b_isinstance => first | k_is | rfl)
    (case b_sorted => first | k_is | rfl)
    (case b_dict => first | k_is | rfl)
    (case b_max => first | k_is | rfl)
    (case b_super => first | k_is | rfl)
    (case gLETTERS => first | k_is | rfl)
    (case gMOST_LETTERS => first | k_is | rfl)
