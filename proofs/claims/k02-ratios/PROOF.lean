import PyProof.Rows.All
import Wide.All
import OpenK.AllK
import Wide.FinOn
import HandS.ForMost
import HandS.Exc
import HandS.TryOnly
import HandS.ExcOwn
import HandS.WordsExc
import HandS.CallSlots
import HandS.IsInst
import HandS.OwnEq
import HandS.Wide
import HandS.Style
import HandS.Lambda
import HandS.EndTab
import HandS.Zip
import HandS.ExcBuiltin
import KE.KExcSuper
import HandS.FStr
import HandS.TupAny
import KE.KOpsOwn
import KE.KCallOwn
import HandS.Defaults
import PyProof.TwoTypes
import HandS.Deep
import HandS.MakeKwOnly
import KE.KIntText
import HandS.Codes
import KE.KNestM
import PySem.Challenge.RW_everylist_k02_ratios
set_option Elab.async false
set_option linter.all false
set_option maxRecDepth 100000
set_option maxHeartbeats 4000000
namespace DL
open PySem L2

/-- data: what a value is, by itself -/
inductive D where
  | non
  | bl (b : Bool)
  | int (i : Int)
  | str (s : Str)
  | lst (xs : List D)
  | tup (xs : List D)
  | dK (ks : List Key) (xs : List D)
  | dT (ks : List (List Key)) (xs : List D)
  | obj (c : Nat) (xs : List D)
  | scr (ns : List Int)

/-- what the program's own classes and errors are -/
structure Pm where
  C : Nat → Addr
  nm : Nat → List Str
  xc : Nat → Value
  xf : Nat → Str
  K : PySem.W.Frag
  T : List (Addr × Str)

mutual
def Is (P : Pm) (F : Hp) : D → V → Prop
  | .non, v => v = .non
  | .bl b, v => v = .bl b
  | .int i, v => v = .int i
  | .str s, v => v = .str s
  | .lst xs, v => ∃ a vs, v = .ref a ∧ Rd F a (.lst vs) ∧ IsL P F xs vs
  | .tup xs, v => ∃ a vs, v = .ref a ∧ Rd F a (.tup vs) ∧ IsL P F xs vs
  | .dK ks xs, v => ∃ a vs, v = .ref a ∧ Rd F a (.dK (ks.zip vs)) ∧ ks.length = vs.length ∧ IsL P F xs vs
  | .dT ks xs, v => ∃ a vs, v = .ref a ∧ F a = some (.dT (ks.zip vs)) ∧ ks.length = vs.length ∧ IsL P F xs vs
  | .obj c xs, v => ∃ a dx vs, v = .ref a ∧ F a = some (.ins (P.C c) dx ((P.nm c).zip vs)) ∧ vs.length ≤ (P.nm c).length ∧ IsL P F xs vs
  | .scr ns, v => ∃ a, v = .ref a ∧ SqL P.K F a (ns.map V.int)
def IsL (P : Pm) (F : Hp) : List D → List V → Prop
  | [], vs => vs = []
  | d :: ds, vs => ∃ v r, vs = v :: r ∧ Is P F d v ∧ IsL P F ds r
end

/-- the heap has grown -/
def Ex (H H' : Hp) : Prop := ∀ a o, H a = some o → H' a = some o
theorem Ex.refl (H : Hp) : Ex H H := fun _ _ h => h
theorem Ex.trans {H H1 H2 : Hp} (a : Ex H H1) (b : Ex H1 H2) : Ex H H2 := fun x o h => b x o (a x o h)
theorem Ex.new {H : Hp} {p : Addr} {o : HO} (h : H p = none) : Ex H (upd H p o) := fun a u e => by
  rw [upd_ne (ne_of_none e h)]
  exact e
theorem Ex.back {H H' : Hp} {p : Addr} (e : Ex H H') (h : H' p = none) : H p = none := by
  cases h1 : H p with
  | none => rfl
  | some o =>
    rw [e p o h1] at h
    cases h
theorem Ex.rd {H H' : Hp} {a : Addr} {u : HO} (e : Ex H H') (h : Rd H a u) : Rd H' a u := by
  rcases h with h | ⟨o, h⟩
  · exact Or.inl (e a _ h)
  · exact Or.inr ⟨o, e a _ h⟩
theorem Ex.sq {H H' : Hp} {K : PySem.W.Frag} {a : Addr} {xs : List V} (e : Ex H H') (h : SqL K H a xs) : SqL K H' a xs := by
  rcases h with h | h
  · exact Or.inl (e.rd h)
  · exact Or.inr h
/-- an object of data: no table of code, no outer fact -/
def isD : HO → Bool
  | .tbl _ => false
  | .ext _ => false
  | _ => true
def isT : HO → Bool
  | .tbl _ => true
  | _ => false
theorem isD_T {o : HO} (h : isD o = true) : isT o = false := by
  cases o <;> first | rfl | cases h
/-- all stays but what the tables hold -/
structure ExT (H H' : Hp) : Prop where
  at_ : ∀ a o, H a = some o → isT o = false → H' a = some o
theorem ExT.refl (H : Hp) : ExT H H := ⟨fun _ _ h _ => h⟩
theorem ExT.trans {H H1 H2 : Hp} (a : ExT H H1) (b : ExT H1 H2) : ExT H H2 := ⟨fun x o h n => b.at_ x o (a.at_ x o h n) n⟩
theorem Ex.t {H H' : Hp} (e : Ex H H') : ExT H H' := ⟨fun a o h _ => e a o h⟩
theorem ExT.new {H : Hp} {p : Addr} {o : HO} (h : H p = none) : ExT H (upd H p o) := (Ex.new h).t
/-- nothing of data stands at p -/
def NoD (H : Hp) (p : Addr) : Prop := ∀ o, H p = some o → isT o = true
theorem NoD.of {H : Hp} {p : Addr} (h : H p = none) : NoD H p := fun o e => by
  rw [h] at e
  cases e
theorem NoD.no {H : Hp} {p : Addr} {o : HO} (n : NoD H p) (e : H p = some o) (h : isT o = false) : False := by
  rw [n o e] at h
  cases h
theorem NoD.ne {H : Hp} {a p : Addr} {o : HO} (n : NoD H p) (e : H a = some o) (h : isT o = false) : a ≠ p := fun z => by
  subst z
  exact n.no e h
theorem ExT.backN {H H' : Hp} {p : Addr} (e : ExT H H') (h : NoD H' p) : NoD H p := fun o e1 => by
  cases q : isT o with
  | true => rfl
  | false => exact (h.no (e.at_ p o e1 q) q).elim
theorem ExT.back {H H' : Hp} {p : Addr} (e : ExT H H') (h : H' p = none) : NoD H p := e.backN (.of h)
theorem ExT.dat {H H' : Hp} {a : Addr} {u : HO} (e : ExT H H') (h : H a = some u) (hn : isT u = false := by rfl) : H' a = some u := e.at_ a u h hn
theorem ExT.rd {H H' : Hp} {a : Addr} {u : HO} (e : ExT H H') (h : Rd H a u) (hn : isT u = false := by rfl) : Rd H' a u := by
  rcases h with h | ⟨o, h⟩
  · exact Or.inl (e.at_ a _ h hn)
  · exact Or.inr ⟨o, e.at_ a _ h rfl⟩
theorem ExT.sq {H H' : Hp} {K : PySem.W.Frag} {a : Addr} {xs : List V} (e : ExT H H') (h : SqL K H a xs) : SqL K H' a xs := by
  rcases h with h | h
  · exact Or.inl (e.rd h)
  · exact Or.inr h
/-- F is a part of H, of data alone; H's tables are in order -/
structure Sb (P : Pm) (F H : Hp) : Prop where
  ex : Ex F H
  nt : ∀ a o, F a = some o → isT o = false
  tabs : LamX.Tabs P.T H
theorem Sb.back {P : Pm} {F H : Hp} {p : Addr} (s : Sb P F H) (h : H p = none) : F p = none := s.ex.back h
theorem Sb.rd {P : Pm} {F H : Hp} {a : Addr} {u : HO} (s : Sb P F H) (h : Rd F a u) : Rd H a u := s.ex.rd h
theorem Sb.sq {P : Pm} {F H : Hp} {K : PySem.W.Frag} {a : Addr} {xs : List V} (s : Sb P F H) (h : SqL K F a xs) : SqL K H a xs := s.ex.sq h
/-- the heap grew, wholly -/
theorem Sb.ext {P : Pm} {F H H' : Hp} (s : Sb P F H) (e : Ex H H') : Sb P F H' := ⟨s.ex.trans e, s.nt, s.tabs.ext e⟩
/-- the tables grew -/
theorem Sb.ext' {P : Pm} {F H H' : Hp} (s : Sb P F H) (e : ExT H H') (t : LamX.Tabs P.T H') : Sb P F H' := ⟨fun a o h => e.at_ a o (s.ex a o h) (s.nt a o h), s.nt, t⟩
/-- less is frozen -/
theorem Sb.sub {P : Pm} {F F1 H : Hp} (s : Sb P F1 H) (e : Ex F F1) : Sb P F H := ⟨e.trans s.ex, fun a o h => s.nt a o (e a o h), s.tabs⟩
theorem Tabs.upd {T : List (Addr × Str)} {H : Hp} {a : Addr} {u o : HO} (t : LamX.Tabs T H) (h : H a = some u) (hd : isD u = true) : LamX.Tabs T (upd H a o) := fun p hp => by
  obtain ⟨ps, h1, h2, h3⟩ := t p hp
  have n1 : p.1 ≠ a := fun z => by
    rw [z, h] at h1
    cases h1
    cases hd
  refine ⟨ps, by rw [upd_ne n1]; exact h1, h2, fun pos cv hc => ?_⟩
  obtain ⟨c, e1, e2⟩ := h3 pos cv hc
  refine ⟨c, e1, ?_⟩
  rw [upd_ne]
  · exact e2
  · intro z
    rw [z, h] at e2
    have e2 : u = LamX.CodeO a p.2 := Option.some.inj e2
    rw [e2] at hd
    cases hd

section
variable {P : Pm} {F F' : Hp}
mutual
theorem Is.mono (e : Ex F F') : ∀ (d : D) {v : V}, Is P F d v → Is P F' d v
  | .non, _, h => by simpa [Is] using h
  | .bl b, _, h => by simpa [Is] using h
  | .int i, _, h => by simpa [Is] using h
  | .str s, _, h => by simpa [Is] using h
  | .lst xs, _, h => by
    rw [Is] at h ⊢
    obtain ⟨a, vs, h1, h2, h3⟩ := h
    exact ⟨a, vs, h1, e.rd h2, IsL.mono e xs h3⟩
  | .tup xs, _, h => by
    rw [Is] at h ⊢
    obtain ⟨a, vs, h1, h2, h3⟩ := h
    exact ⟨a, vs, h1, e.rd h2, IsL.mono e xs h3⟩
  | .dK ks xs, _, h => by
    rw [Is] at h ⊢
    obtain ⟨a, vs, h1, h2, h3, h4⟩ := h
    exact ⟨a, vs, h1, e.rd h2, h3, IsL.mono e xs h4⟩
  | .dT ks xs, _, h => by
    rw [Is] at h ⊢
    obtain ⟨a, vs, h1, h2, h3, h4⟩ := h
    exact ⟨a, vs, h1, e _ _ h2, h3, IsL.mono e xs h4⟩
  | .obj c xs, _, h => by
    rw [Is] at h ⊢
    obtain ⟨a, dx, vs, h1, h2, h3, h4⟩ := h
    exact ⟨a, dx, vs, h1, e _ _ h2, h3, IsL.mono e xs h4⟩
  | .scr ns, _, h => by
    rw [Is] at h ⊢
    obtain ⟨a, h1, h2⟩ := h
    exact ⟨a, h1, e.sq h2⟩
theorem IsL.mono (e : Ex F F') : ∀ (ds : List D) {vs : List V}, IsL P F ds vs → IsL P F' ds vs
  | [], _, h => by simpa [IsL] using h
  | d :: ds, _, h => by
    rw [IsL] at h ⊢
    obtain ⟨v, r, h1, h2, h3⟩ := h
    exact ⟨v, r, h1, Is.mono e d h2, IsL.mono e ds h3⟩
end
theorem IsL.nil : IsL P F [] [] := by rw [IsL]
theorem IsL.cons {d : D} {ds : List D} {v : V} {vs : List V} (h : Is P F d v) (t : IsL P F ds vs) : IsL P F (d :: ds) (v :: vs) := by
  rw [IsL]
  exact ⟨v, vs, rfl, h, t⟩
theorem IsL.length : ∀ {ds : List D} {vs : List V}, IsL P F ds vs → ds.length = vs.length
  | [], _, h => by
    rw [IsL] at h
    subst h
    rfl
  | d :: ds, _, h => by
    rw [IsL] at h
    obtain ⟨v, r, rfl, _, h3⟩ := h
    simp [IsL.length h3]
theorem IsL.get : ∀ {ds : List D} {vs : List V} {i : Nat} {d : D}, IsL P F ds vs → ds[i]? = some d → ∃ v, vs[i]? = some v ∧ Is P F d v
  | [], _, _, _, _, e => by simp at e
  | d :: ds, _, i, x, h, e => by
    rw [IsL] at h
    obtain ⟨v, r, rfl, h2, h3⟩ := h
    cases i with
    | zero =>
      simp at e
      subst e
      exact ⟨v, by simp, h2⟩
    | succ i =>
      simp at e
      obtain ⟨v', h4, h5⟩ := IsL.get h3 e
      exact ⟨v', by simpa using h4, h5⟩
theorem IsL.get' : ∀ {ds : List D} {vs : List V} {i : Nat} {v : V}, IsL P F ds vs → vs[i]? = some v → ∃ d, ds[i]? = some d ∧ Is P F d v := by
  intro ds vs i v h e
  have hl := h.length
  have hi : i < vs.length := by
    rcases Nat.lt_or_ge i vs.length with q | q
    · exact q
    · rw [List.getElem?_eq_none q] at e
      cases e
  obtain ⟨d, hd⟩ : ∃ d, ds[i]? = some d := ⟨ds[i]'(by omega), List.getElem?_eq_getElem (by omega)⟩
  obtain ⟨v', h1, h2⟩ := h.get hd
  rw [e] at h1
  cases h1
  exact ⟨d, hd, h2⟩
theorem IsL.append : ∀ {ds es : List D} {vs ws : List V}, IsL P F ds vs → IsL P F es ws → IsL P F (ds ++ es) (vs ++ ws)
  | [], _, _, _, h, t => by
    rw [IsL] at h
    subst h
    exact t
  | d :: ds, _, _, _, h, t => by
    rw [IsL] at h
    obtain ⟨v, r, rfl, h2, h3⟩ := h
    exact .cons h2 (IsL.append h3 t)
theorem IsL.drop : ∀ (n : Nat) {ds : List D} {vs : List V}, IsL P F ds vs → IsL P F (ds.drop n) (vs.drop n)
  | 0, _, _, h => h
  | n + 1, [], _, h => by
    rw [IsL] at h
    subst h
    exact .nil
  | n + 1, d :: ds, _, h => by
    rw [IsL] at h
    obtain ⟨v, r, rfl, h2, h3⟩ := h
    exact IsL.drop n h3
theorem IsL.take : ∀ (n : Nat) {ds : List D} {vs : List V}, IsL P F ds vs → IsL P F (ds.take n) (vs.take n)
  | 0, _, _, h => .nil
  | n + 1, [], _, h => by
    rw [IsL] at h
    subst h
    exact .nil
  | n + 1, d :: ds, _, h => by
    rw [IsL] at h
    obtain ⟨v, r, rfl, h2, h3⟩ := h
    exact .cons h2 (IsL.take n h3)
theorem IsL.set : ∀ (i : Nat) {ds : List D} {vs : List V} {d : D} {v : V}, IsL P F ds vs → Is P F d v → IsL P F (ds.set i d) (vs.set i v)
  | i, [], _, _, _, h, _ => by
    rw [IsL] at h
    subst h
    exact .nil
  | 0, d :: ds, _, _, _, h, q => by
    rw [IsL] at h
    obtain ⟨v, r, rfl, h2, h3⟩ := h
    exact .cons q h3
  | i + 1, d :: ds, _, _, _, h, q => by
    rw [IsL] at h
    obtain ⟨v, r, rfl, h2, h3⟩ := h
    exact .cons h2 (IsL.set i h3 q)
end

/-- F is the part that stands still, H all; from (F, H) to (F', H') objects only came, F' took none of those that H had beside F -/
structure Grow (P : Pm) (F H F' H' : Hp) : Prop where
  f : Ex F F'
  h : ExT H H'
  s : Sb P F' H'
  n : ∀ a o, F' a = some o → F a = some o ∨ NoD H a
section
variable {P : Pm}
theorem Grow.refl {F H : Hp} (s : Sb P F H) : Grow P F H F H := ⟨.refl F, .refl H, s, fun _ _ e => .inl e⟩
theorem Grow.trans {F H F1 H1 F2 H2 : Hp} (a : Grow P F H F1 H1) (b : Grow P F1 H1 F2 H2) : Grow P F H F2 H2 :=
  ⟨a.f.trans b.f, a.h.trans b.h, b.s, fun x o e => by
    rcases b.n x o e with q | q
    · exact a.n x o q
    · exact .inr (a.h.backN q)⟩
/-- a new object, kept still -/
theorem Grow.new {F H : Hp} {p : Addr} {o : HO} (s : Sb P F H) (h : H p = none) (ho : isT o = false := by rfl) : Grow P F H (upd F p o) (upd H p o) :=
  ⟨.new (s.back h), .new h, ⟨fun a u e => by
    by_cases q : a = p
    · subst q
      rw [upd_same] at e
      rw [upd_same]
      exact e
    · rw [upd_ne q] at e
      rw [upd_ne q]
      exact s.ex a u e, fun a u e => by
    by_cases q : a = p
    · subst q
      rw [upd_same] at e
      cases e
      exact ho
    · rw [upd_ne q] at e
      exact s.nt a u e, s.tabs.ext (Ex.new h)⟩, fun a u e => by
    by_cases q : a = p
    · subst q
      exact .inr (.of h)
    · rw [upd_ne q] at e
      exact .inl e⟩
/-- a new object that nobody keeps -/
theorem Grow.junk {F H H' : Hp} (s : Sb P F H) (e : Ex H H') : Grow P F H F H' := ⟨.refl F, e.t, s.ext e, fun _ _ e => .inl e⟩
end

/-! ### results -/
inductive Res (α : Type) where
  | ok (a : α)
  | err (c : Nat) (p : Option D)
  | bad
instance : Monad Res where
  pure := Res.ok
  bind r k := match r with
    | .ok a => k a
    | .err c p => .err c p
    | .bad => .bad
theorem Res.bind_ok {α β : Type} (a : α) (k : α → Res β) : ((Res.ok a : Res α) >>= k) = k a := rfl
theorem Res.bind_err {α β : Type} (c : Nat) (p : Option D) (k : α → Res β) : ((Res.err c p : Res α) >>= k) = Res.err c p := rfl
theorem Res.bind_bad {α β : Type} (k : α → Res β) : ((Res.bad : Res α) >>= k) = Res.bad := rfl
theorem Res.pure_eq {α : Type} (a : α) : (pure a : Res α) = .ok a := rfl

/-- an error of the program lies in the heap -/
def ErrAt (P : Pm) (F H : Hp) (c : Nat) : Option D → Option Addr → Prop
  | none, x => x = none
  | some d, x => ∃ a v, x = some a ∧ H a = some (.xd [(P.xf c, v)]) ∧ Is P F d v

/-! ### names -/
inductive B where
  | sh (d : D)
  | ow (d : D)
  | bw (d : D)
abbrev Env := List (Option B)
/-- an object of one's own: its content -/
def Own (P : Pm) (F H : Hp) (a : Addr) : D → Prop
  | .lst xs => ∃ vs, H a = some (.lst vs) ∧ IsL P F xs vs
  | .dK ks xs => ∃ vs, H a = some (.dK (ks.zip vs)) ∧ ks.length = vs.length ∧ IsL P F xs vs
  | .dT ks xs => ∃ vs, H a = some (.dT (ks.zip vs)) ∧ ks.length = vs.length ∧ IsL P F xs vs
  | .obj c xs => ∃ dx vs, H a = some (.ins (P.C c) dx ((P.nm c).zip vs)) ∧ vs.length ≤ (P.nm c).length ∧ IsL P F xs vs
  | _ => False
theorem Own.mono {P : Pm} {F F' H H' : Hp} {a : Addr} (e : Ex F F') (g : ExT H H') : ∀ {d : D}, Own P F H a d → Own P F' H' a d
  | .lst xs, ⟨vs, h1, h2⟩ => ⟨vs, g.dat h1, h2.mono e xs⟩
  | .dK ks xs, ⟨vs, h1, h2, h3⟩ => ⟨vs, g.dat h1, h2, h3.mono e xs⟩
  | .dT ks xs, ⟨vs, h1, h2, h3⟩ => ⟨vs, g.dat h1, h2, h3.mono e xs⟩
  | .obj c xs, ⟨dx, vs, h1, h2, h3⟩ => ⟨dx, vs, g.dat h1, h2, h3.mono e xs⟩
  | .non, h => h.elim
  | .bl _, h => h.elim
  | .int _, h => h.elim
  | .str _, h => h.elim
  | .tup _, h => h.elim
  | .scr _, h => h.elim

/-- a def's entry: what stood still, and self of an __init__ -/
structure Fz where
  F : Hp
  S : Option Addr
/-- the names' values by data. F0, H0: the def's entry -/
structure ER (P : Pm) (F0 : Fz) (H0 F : Hp) (ρ : Env) (σ : St) (H : Hp) : Prop where
  g : Grow P F0.F H0 F H
  self : ∀ x, F0.S = some x → σ[0]? = some (some (.ref x))
  len : ρ.length = σ.length
  sh : ∀ (i : Nat) d, ρ[i]? = some (some (.sh d)) → ∃ v, σ[i]? = some (some v) ∧ Is P F d v
  bw : ∀ (i : Nat) d, ρ[i]? = some (some (.bw d)) → ∃ v, σ[i]? = some (some v) ∧ Is P H0 d v
  ow : ∀ (i : Nat) d, ρ[i]? = some (some (.ow d)) → ∃ a, σ[i]? = some (some (.ref a)) ∧ NoD H0 a ∧ F a = none ∧ Own P F H a d
  nd : ∀ (i j : Nat) d e a, ρ[i]? = some (some (.ow d)) → ρ[j]? = some (some (.ow e)) → σ[i]? = some (some (.ref a)) → σ[j]? = some (some (.ref a)) → i = j
section
variable {P : Pm} {F0 : Fz} {H0 F F' H H' : Hp} {ρ : Env} {σ : St}
theorem Own.there {a : Addr} : ∀ {d : D}, Own P F H a d → ∃ o, H a = some o ∧ isD o = true
  | .lst xs, ⟨vs, h1, h2⟩ => ⟨_, h1, rfl⟩
  | .dK ks xs, ⟨vs, h1, h2, h3⟩ => ⟨_, h1, rfl⟩
  | .dT ks xs, ⟨vs, h1, h2, h3⟩ => ⟨_, h1, rfl⟩
  | .obj c xs, ⟨dx, vs, h1, h2, h3⟩ => ⟨_, h1, rfl⟩
  | .non, h => h.elim
  | .bl _, h => h.elim
  | .int _, h => h.elim
  | .str _, h => h.elim
  | .tup _, h => h.elim
  | .scr _, h => h.elim
theorem ER.grow (r : ER P F0 H0 F ρ σ H) (g : Grow P F H F' H') : ER P F0 H0 F' ρ σ H' where
  g := r.g.trans g
  self := r.self
  len := r.len
  sh := fun i d e => by
    obtain ⟨v, h1, h2⟩ := r.sh i d e
    exact ⟨v, h1, h2.mono g.f d⟩
  bw := r.bw
  ow := fun i d e => by
    obtain ⟨a, h1, h2, h3, h4⟩ := r.ow i d e
    refine ⟨a, h1, h2, ?_, h4.mono g.f g.h⟩
    cases q : F' a with
    | none => rfl
    | some o =>
      rcases g.n a o q with z | z
      · rw [h3] at z
        cases z
      · obtain ⟨o', ho, hd⟩ := h4.there
        exact (z.no ho (isD_T hd)).elim
  nd := r.nd
theorem get_set_self {α : Type} {l : List α} {i : Nat} {x : α} (h : i < l.length) : (l.set i x)[i]? = some x := by simp [h]
/-- a name gets a value -/
theorem ER.put (r : ER P F0 H0 F ρ σ H) (i : Nat) {d : D} {v : V} (h : Is P F d v) (hi0 : F0.S = none ∨ i ≠ 0) : ER P F0 H0 F (ρ.set i (some (.sh d))) (σ.set i (some v)) H where
  g := r.g
  self := fun x hx => by
    rcases hi0 with q | q
    · rw [q] at hx
      cases hx
    · rw [List.getElem?_set_ne q]
      exact r.self x hx
  len := by simp [r.len]
  sh := fun j e q => by
    by_cases hj : i = j
    · subst hj
      have hl : i < ρ.length := by
        rcases Nat.lt_or_ge i ρ.length with z | z
        · exact z
        · rw [List.getElem?_eq_none (by simpa using z)] at q
          cases q
      rw [get_set_self hl] at q
      cases q
      exact ⟨v, get_set_self (r.len ▸ hl), h⟩
    · rw [List.getElem?_set_ne hj] at q
      rw [List.getElem?_set_ne hj]
      exact r.sh j e q
  bw := fun j e q => by
    by_cases hj : i = j
    · subst hj
      have hl : i < ρ.length := by
        rcases Nat.lt_or_ge i ρ.length with z | z
        · exact z
        · rw [List.getElem?_eq_none (by simpa using z)] at q
          cases q
      rw [get_set_self hl] at q
      cases q
    · rw [List.getElem?_set_ne hj] at q
      rw [List.getElem?_set_ne hj]
      exact r.bw j e q
  ow := fun j e q => by
    by_cases hj : i = j
    · subst hj
      have hl : i < ρ.length := by
        rcases Nat.lt_or_ge i ρ.length with z | z
        · exact z
        · rw [List.getElem?_eq_none (by simpa using z)] at q
          cases q
      rw [get_set_self hl] at q
      cases q
    · rw [List.getElem?_set_ne hj] at q
      rw [List.getElem?_set_ne hj]
      exact r.ow j e q
  nd := fun j k d' e' a q1 q2 q3 q4 => by
    by_cases hj : i = j
    · subst hj
      have hl : i < ρ.length := by
        rcases Nat.lt_or_ge i ρ.length with z | z
        · exact z
        · rw [List.getElem?_eq_none (by simpa using z)] at q1
          cases q1
      rw [get_set_self hl] at q1
      cases q1
    · by_cases hk : i = k
      · subst hk
        have hl : i < ρ.length := by
          rcases Nat.lt_or_ge i ρ.length with z | z
          · exact z
          · rw [List.getElem?_eq_none (by simpa using z)] at q2
            cases q2
        rw [get_set_self hl] at q2
        cases q2
      · rw [List.getElem?_set_ne hj] at q1 q3
        rw [List.getElem?_set_ne hk] at q2 q4
        exact r.nd j k d' e' a q1 q2 q3 q4
/-- a name gets a borrowed value -/
theorem ER.putB (r : ER P F0 H0 F ρ σ H) (i : Nat) {d : D} {v : V} (h : Is P H0 d v) (hi0 : F0.S = none ∨ i ≠ 0) : ER P F0 H0 F (ρ.set i (some (.bw d))) (σ.set i (some v)) H where
  g := r.g
  self := fun x hx => by
    rcases hi0 with q | q
    · rw [q] at hx
      cases hx
    · rw [List.getElem?_set_ne q]
      exact r.self x hx
  len := by simp [r.len]
  sh := fun j e q => by
    by_cases hj : i = j
    · subst hj
      have hl : i < ρ.length := by
        rcases Nat.lt_or_ge i ρ.length with z | z
        · exact z
        · rw [List.getElem?_eq_none (by simpa using z)] at q
          cases q
      rw [get_set_self hl] at q
      cases q
    · rw [List.getElem?_set_ne hj] at q
      rw [List.getElem?_set_ne hj]
      exact r.sh j e q
  bw := fun j e q => by
    by_cases hj : i = j
    · subst hj
      have hl : i < ρ.length := by
        rcases Nat.lt_or_ge i ρ.length with z | z
        · exact z
        · rw [List.getElem?_eq_none (by simpa using z)] at q
          cases q
      rw [get_set_self hl] at q
      cases q
      exact ⟨v, get_set_self (r.len ▸ hl), h⟩
    · rw [List.getElem?_set_ne hj] at q
      rw [List.getElem?_set_ne hj]
      exact r.bw j e q
  ow := fun j e q => by
    by_cases hj : i = j
    · subst hj
      have hl : i < ρ.length := by
        rcases Nat.lt_or_ge i ρ.length with z | z
        · exact z
        · rw [List.getElem?_eq_none (by simpa using z)] at q
          cases q
      rw [get_set_self hl] at q
      cases q
    · rw [List.getElem?_set_ne hj] at q
      rw [List.getElem?_set_ne hj]
      exact r.ow j e q
  nd := fun j k d' e' a q1 q2 q3 q4 => by
    by_cases hj : i = j
    · subst hj
      have hl : i < ρ.length := by
        rcases Nat.lt_or_ge i ρ.length with z | z
        · exact z
        · rw [List.getElem?_eq_none (by simpa using z)] at q1
          cases q1
      rw [get_set_self hl] at q1
      cases q1
    · by_cases hk : i = k
      · subst hk
        have hl : i < ρ.length := by
          rcases Nat.lt_or_ge i ρ.length with z | z
          · exact z
          · rw [List.getElem?_eq_none (by simpa using z)] at q2
            cases q2
        rw [get_set_self hl] at q2
        cases q2
      · rw [List.getElem?_set_ne hj] at q1 q3
        rw [List.getElem?_set_ne hk] at q2 q4
        exact r.nd j k d' e' a q1 q2 q3 q4
end
end DL
namespace DL
open PySem L2

/-- a container as it stands in H, its items in F -/
def Vw (P : Pm) (F H : Hp) : D → V → Prop
  | .lst xs, v => ∃ a vs, v = .ref a ∧ Rd H a (.lst vs) ∧ IsL P F xs vs
  | .tup xs, v => ∃ a vs, v = .ref a ∧ Rd F a (.tup vs) ∧ Rd H a (.tup vs) ∧ IsL P F xs vs
  | .dK ks xs, v => ∃ a vs, v = .ref a ∧ Rd H a (.dK (ks.zip vs)) ∧ ks.length = vs.length ∧ IsL P F xs vs
  | .dT ks xs, v => ∃ a vs, v = .ref a ∧ H a = some (.dT (ks.zip vs)) ∧ ks.length = vs.length ∧ IsL P F xs vs
  | .obj c xs, v => ∃ a dx vs, v = .ref a ∧ H a = some (.ins (P.C c) dx ((P.nm c).zip vs)) ∧ vs.length ≤ (P.nm c).length ∧ IsL P F xs vs
  | .scr ns, v => ∃ a, v = .ref a ∧ SqL P.K H a (ns.map V.int)
  | .non, v => v = .non
  | .bl b, v => v = .bl b
  | .int i, v => v = .int i
  | .str s, v => v = .str s
section
variable {P : Pm} {F F' H H' : Hp}
theorem Is.vw (e : Sb P F H) : ∀ (d : D) {v : V}, Is P F d v → Vw P F H d v
  | .non, _, h => by rw [Is] at h; exact h
  | .bl b, _, h => by rw [Is] at h; exact h
  | .int i, _, h => by rw [Is] at h; exact h
  | .str s, _, h => by rw [Is] at h; exact h
  | .lst xs, _, h => by
    rw [Is] at h
    obtain ⟨a, vs, h1, h2, h3⟩ := h
    exact ⟨a, vs, h1, e.rd h2, h3⟩
  | .tup xs, _, h => by
    rw [Is] at h
    obtain ⟨a, vs, h1, h2, h3⟩ := h
    exact ⟨a, vs, h1, h2, e.rd h2, h3⟩
  | .dK ks xs, _, h => by
    rw [Is] at h
    obtain ⟨a, vs, h1, h2, h3, h4⟩ := h
    exact ⟨a, vs, h1, e.rd h2, h3, h4⟩
  | .dT ks xs, _, h => by
    rw [Is] at h
    obtain ⟨a, vs, h1, h2, h3, h4⟩ := h
    exact ⟨a, vs, h1, e.ex _ _ h2, h3, h4⟩
  | .obj c xs, _, h => by
    rw [Is] at h
    obtain ⟨a, dx, vs, h1, h2, h3, h4⟩ := h
    exact ⟨a, dx, vs, h1, e.ex _ _ h2, h3, h4⟩
  | .scr ns, _, h => by
    rw [Is] at h
    obtain ⟨a, h1, h2⟩ := h
    exact ⟨a, h1, e.sq h2⟩
theorem Own.vw {a : Addr} : ∀ {d : D}, Own P F H a d → Vw P F H d (.ref a)
  | .lst xs, ⟨vs, h1, h2⟩ => ⟨a, vs, rfl, .inl h1, h2⟩
  | .dK ks xs, ⟨vs, h1, h2, h3⟩ => ⟨a, vs, rfl, .inl h1, h2, h3⟩
  | .dT ks xs, ⟨vs, h1, h2, h3⟩ => ⟨a, vs, rfl, h1, h2, h3⟩
  | .obj c xs, ⟨dx, vs, h1, h2, h3⟩ => ⟨a, dx, vs, rfl, h1, h2, h3⟩
  | .non, h => h.elim
  | .bl _, h => h.elim
  | .int _, h => h.elim
  | .str _, h => h.elim
  | .tup _, h => h.elim
  | .scr _, h => h.elim
theorem Vw.mono (e : Ex F F') (g : ExT H H') : ∀ (d : D) {v : V}, Vw P F H d v → Vw P F' H' d v
  | .non, _, h => h
  | .bl b, _, h => h
  | .int i, _, h => h
  | .str s, _, h => h
  | .lst xs, _, ⟨a, vs, h1, h2, h3⟩ => ⟨a, vs, h1, g.rd h2, h3.mono e xs⟩
  | .tup xs, _, ⟨a, vs, h1, h0, h2, h3⟩ => ⟨a, vs, h1, e.rd h0, g.rd h2, h3.mono e xs⟩
  | .dK ks xs, _, ⟨a, vs, h1, h2, h3, h4⟩ => ⟨a, vs, h1, g.rd h2, h3, h4.mono e xs⟩
  | .dT ks xs, _, ⟨a, vs, h1, h2, h3, h4⟩ => ⟨a, vs, h1, g.dat h2, h3, h4.mono e xs⟩
  | .obj c xs, _, ⟨a, dx, vs, h1, h2, h3, h4⟩ => ⟨a, dx, vs, h1, g.dat h2, h3, h4.mono e xs⟩
  | .scr ns, _, ⟨a, h1, h2⟩ => ⟨a, h1, g.sq h2⟩
end

/-! ### what is wanted behind a result -/
abbrev Rel (α β : Type) := Hp → Hp → α → β → Prop
def PostG {α β : Type} (P : Pm) (W : WX) (rel : Rel α β) (r : Res α) (F : Hp) (σ : St) (H : Hp) (Q : β → Hp → Prop) : Prop :=
  match r with
  | .ok a => ∀ v F' H', Grow P F H F' H' → rel F' H' a v → Q v H'
  | .err c p => ∀ F' H' x, Grow P F H F' H' → ErrAt P F' H' c p x → W (P.xc c) x σ H'
  | .bad => False
section
variable {α β γ δ : Type} {P : Pm} {W : WX} {rel : Rel α β} {rel' : Rel γ δ} {F0 : Fz} {F F1 H H1 H0 : Hp} {σ : St}
theorem PostG.shift {r : Res α} {Q : β → Hp → Prop} (h : PostG P W rel r F σ H Q) (g : Grow P F H F1 H1) : PostG P W rel r F1 σ H1 Q := by
  cases r with
  | ok a => exact fun v F' H' g' q => h v F' H' (g.trans g') q
  | err c p => exact fun F' H' x g' q => h F' H' x (g.trans g') q
  | bad => exact h
theorem PostG.bind {r : Res α} {k : α → Res γ} {Q : δ → Hp → Prop} (h : PostG P W rel' (r >>= k) F σ H Q) :
    PostG P W rel r F σ H (fun v H1 => ∃ F1 a, Grow P F H F1 H1 ∧ rel F1 H1 a v ∧ PostG P W rel' (k a) F1 σ H1 Q) := by
  cases r with
  | ok a => exact fun v F' H' g' q => ⟨F', a, g', q, PostG.shift (r := k a) h g'⟩
  | err c p => exact h
  | bad => exact h
theorem PostG.imp {r : Res α} {Q Q' : β → Hp → Prop} (h : PostG P W rel r F σ H Q) (q : ∀ v H', Q v H' → Q' v H') : PostG P W rel r F σ H Q' := by
  cases r with
  | ok a => exact fun v F' H' g' z => q _ _ (h v F' H' g' z)
  | err c p => exact h
  | bad => exact h
theorem PostG.here {a : α} {Q : β → Hp → Prop} {v : β} (h : PostG P W rel (.ok a) F σ H Q) (s : Sb P F H) (q : rel F H a v) : Q v H := h v F H (.refl s) q
end
/-- readings by data -/
def tG {α β : Type} (P : Pm) (F0 : Fz) (H0 : Hp) (W : WX) (rel : Rel α β) (f : Env → Res α) : St → Hp → (β → Hp → Prop) → Prop :=
  fun σ H Q => ∃ F ρ, ER P F0 H0 F ρ σ H ∧ PostG P W rel (f ρ) F σ H Q
abbrev rIs (P : Pm) : Rel D V := fun F _ d v => Is P F d v
abbrev rVw (P : Pm) : Rel D V := fun F H d v => Vw P F H d v
abbrev rLs (P : Pm) : Rel (List D) (List V) := fun F _ d v => IsL P F d v
abbrev rBo : Rel Bool Bool := fun _ _ d v => v = d
abbrev tE (P : Pm) (F0 : Fz) (H0 : Hp) (W : WX) (f : Env → Res D) : TE := tG P F0 H0 W (rIs P) f
abbrev tV (P : Pm) (F0 : Fz) (H0 : Hp) (W : WX) (f : Env → Res D) : TE := tG P F0 H0 W (rVw P) f
abbrev tL (P : Pm) (F0 : Fz) (H0 : Hp) (W : WX) (f : Env → Res (List D)) : TA := tG P F0 H0 W (rLs P) f
abbrev tT (P : Pm) (F0 : Fz) (H0 : Hp) (W : WX) (f : Env → Res Bool) : TT := tG P F0 H0 W rBo f
theorem tG.bind {α β γ δ : Type} {P : Pm} {F0 : Fz} {H0 : Hp} {W : WX} {rel : Rel α β} {rel' : Rel γ δ} {f : Env → Res α} {k : Env → α → Res γ} {σ : St} {H : Hp} {Q : δ → Hp → Prop}
    (h : tG P F0 H0 W rel' (fun ρ => f ρ >>= k ρ) σ H Q) :
    tG P F0 H0 W rel f σ H (fun v H1 => ∃ F1 ρ a, ER P F0 H0 F1 ρ σ H1 ∧ rel F1 H1 a v ∧ PostG P W rel' (k ρ a) F1 σ H1 Q) := by
  obtain ⟨F, ρ, er, h⟩ := h
  exact ⟨F, ρ, er, (PostG.bind (rel := rel) h).imp fun v H1 ⟨F1, a, g, q, z⟩ => ⟨F1, ρ, a, er.grow g, q, z⟩⟩
theorem ER.s {P : Pm} {F0 : Fz} {H0 F H : Hp} {ρ : Env} {σ : St} (r : ER P F0 H0 F ρ σ H) : Sb P F H := r.g.s

/-! ### rules -/
theorem _root_.L2.PE.imp {X : Cx} {e : Expr} {t t' : TE} (h : PE X e t) (q : ∀ σ H Q, t' σ H Q → t σ H Q) : PE X e t' := ⟨fun pins s σ H Q I z => h.run pins s σ H Q I (q σ H Q z)⟩
theorem _root_.L2.PT.imp {X : Cx} {e : Expr} {t t' : TT} (h : PT X e t) (q : ∀ σ H Q, t' σ H Q → t σ H Q) : PT X e t' := ⟨fun pins s σ H Q I z => h.run pins s σ H Q I (q σ H Q z)⟩
theorem _root_.L2.PW.imp {X : Cx} {e : Expr} {t t' : TT} (h : PW X e t) (q : ∀ σ H Q, t' σ H Q → t σ H Q) : PW X e t' := ⟨fun w pins s σ H Q I z => h.run w pins s σ H Q I (q σ H Q z)⟩
theorem _root_.L2.PA.imp {X : Cx} {e : List Expr} {t t' : TA} (h : PA X e t) (q : ∀ σ H Q, t' σ H Q → t σ H Q) : PA X e t' := ⟨fun p pins s σ H Q I z => h.run p pins s σ H Q I (q σ H Q z)⟩
theorem _root_.L2.PS.imp {X : Cx} {e : Stmt} {t t' : TS} (h : PS X e t) (q : ∀ D σ H, t' D σ H → t D σ H) : PS X e t' := ⟨fun pins s σ H Q I z => h.run pins s σ H Q I (q Q σ H z)⟩
theorem _root_.L2.PSs.imp {X : Cx} {e : List Stmt} {t t' : TS} (h : PSs X e t) (q : ∀ D σ H, t' D σ H → t D σ H) : PSs X e t' := ⟨fun pins s σ H Q I z => h.run pins s σ H Q I (q Q σ H z)⟩

section
variable {X : Cx} {P : Pm} {F0 : Fz} {H0 : Hp} {W : WX} {a b c e : Expr} {es : List Expr} {fa fb fc : Env → Res D} {pos : Pos}
/-- a value may be looked at -/
theorem toV (h : PE X a (tE P F0 H0 W fa)) : PE X a (tV P F0 H0 W fa) := h.imp fun σ H Q ⟨F, ρ, er, z⟩ => ⟨F, ρ, er, by
  cases q : fa ρ with
  | ok d =>
    rw [q] at z
    exact fun v F' H' g i => z v F' H' g (i.vw g.s d)
  | err c p =>
    rw [q] at z
    exact z
  | bad =>
    rw [q] at z
    exact z⟩
def look (i : Nat) : Env → Res D := fun ρ => match ρ[i]? with
  | some (some (.sh d)) => .ok d
  | _ => .bad
def peek (i : Nat) : Env → Res D := fun ρ => match ρ[i]? with
  | some (some (.sh d)) => .ok d
  | some (some (.ow d)) => .ok d
  | _ => .bad
theorem pd_name (i : Nat) {x : Str} (hN : X.N[i]? = some x := by rfl) (hv : Vis X.env.scope x := by first | exact Or.inl rfl | exact Or.inr (Or.inl rfl) | exact Or.inr (Or.inr rfl)) (hd : (x == ("__debug__" : Str)) = false := by decide)
    (hcd : (x == ("__classdict__" : Str)) = false := by decide) : PE X (.Name x pos) (tE P F0 H0 W (look i)) := (pe_var hN hv hd hcd).imp fun σ H Q ⟨F, ρ, er, z⟩ => by
  unfold look at z
  split at z
  · rename_i d q
    obtain ⟨v, h1, h2⟩ := er.sh i d q
    exact ⟨v, h1, z.here er.s h2⟩
  · exact z.elim
theorem pd_peek (i : Nat) {x : Str} (hN : X.N[i]? = some x := by rfl) (hv : Vis X.env.scope x := by first | exact Or.inl rfl | exact Or.inr (Or.inl rfl) | exact Or.inr (Or.inr rfl)) (hd : (x == ("__debug__" : Str)) = false := by decide)
    (hcd : (x == ("__classdict__" : Str)) = false := by decide) : PE X (.Name x pos) (tV P F0 H0 W (peek i)) := (pe_var hN hv hd hcd).imp fun σ H Q ⟨F, ρ, er, z⟩ => by
  unfold peek at z
  split at z
  · rename_i d q
    obtain ⟨v, h1, h2⟩ := er.sh i d q
    exact ⟨v, h1, z.here er.s (h2.vw er.s d)⟩
  · rename_i d q
    obtain ⟨a, h1, _, _, h2⟩ := er.ow i d q
    exact ⟨.ref a, h1, z.here er.s h2.vw⟩
  · exact z.elim
theorem pd_const {v : V} {d : D} (h : PE X e (tC v)) (q : ∀ F, Is P F d v) : PE X e (tE P F0 H0 W (fun _ => .ok d)) := h.imp fun σ H Q ⟨F, ρ, er, z⟩ => z.here er.s (q F)
theorem pd_int {i j} : PE X (.Constant (.int i) j pos) (tE P F0 H0 W (fun _ => .ok (.int i))) := pd_const pe_int fun F => by rw [Is]
theorem pd_bl {i j} : PE X (.Constant (.bool i) j pos) (tE P F0 H0 W (fun _ => .ok (.bl i))) := pd_const pe_bl fun F => by rw [Is]
theorem pd_non {j} : PE X (.Constant .none j pos) (tE P F0 H0 W (fun _ => .ok .non)) := pd_const pe_non fun F => by rw [Is]
theorem pd_str {i j} : PE X (.Constant (.str i) j pos) (tE P F0 H0 W (fun _ => .ok (.str i))) := pd_const pe_str fun F => by rw [Is]

/-- a two-place operation by data -/
def OpD (X : Cx) (P : Pm) (W : WX) (f : Value → Value → Sem Value) (r : D → D → Res D) : Prop :=
  ∀ (pins : List (Addr × Obj)) (s : Shared) (σ : St) (F H : Hp) (x y : V) (u v : Value) (dx dy : D) (Q : VK), Inv X pins σ H s → RelV x u → RelV y v → Sb P F H → Vw P F H dx x → Vw P F H dy y → PostG P W (rIs P) (r dx dy) F σ H Q →
    wpAny (model X.prog X.w) X.A (f u v) (EP X pins σ Q) X.xe s
def UnD (X : Cx) (P : Pm) (W : WX) (f : Value → Sem Value) (r : D → Res D) : Prop :=
  ∀ (pins : List (Addr × Obj)) (s : Shared) (σ : St) (F H : Hp) (x : V) (u : Value) (dx : D) (Q : VK), Inv X pins σ H s → RelV x u → Sb P F H → Vw P F H dx x → PostG P W (rIs P) (r dx) F σ H Q →
    wpAny (model X.prog X.w) X.A (f u) (EP X pins σ Q) X.xe s
def CallD (X : Cx) (P : Pm) (W : WX) (f : Value) (r : List D → Res D) : Prop :=
  ∀ (pins : List (Addr × Obj)) (s : Shared) (σ : St) (F H : Hp) (xs : List V) (us : List Value) (ds : List D) (Q : VK), Inv X pins σ H s → Vals xs us → Sb P F H → IsL P F ds xs → PostG P W (rIs P) (r ds) F σ H Q →
    wpAny (model X.prog X.w) X.A (call f us) (EP X pins σ Q) X.xe s
variable {op : Operator} {cop : CmpOp} {r : D → D → Res D}
/-- what two operands ask -/
theorem two_of {k : D → D → Res D} {σ : St} {H : Hp} {Q : VK} (h : tE P F0 H0 W (fun ρ => do let x ← fa ρ; let y ← fb ρ; k x y) σ H Q) :
    tV P F0 H0 W fa σ H fun x H1 => tV P F0 H0 W fb σ H1 fun y H2 => ∃ F dx dy, Sb P F H2 ∧ Vw P F H2 dx x ∧ Vw P F H2 dy y ∧ PostG P W (rIs P) (k dx dy) F σ H2 Q := by
  obtain ⟨F, ρ, er, z⟩ := h
  refine ⟨F, ρ, er, (PostG.bind (rel := rVw P) z).imp ?_⟩
  rintro x H1 ⟨F1, dx, g1, i1, z1⟩
  refine ⟨F1, ρ, er.grow g1, (PostG.bind (rel := rVw P) z1).imp ?_⟩
  rintro y H2 ⟨F2, dy, g2, i2, z2⟩
  exact ⟨F2, dx, dy, g2.s, i1.mono g2.f g2.h dx, i2, z2⟩
theorem pd_op (ho : OpD X P W (binaryOp op) r) (ha : PE X a (tV P F0 H0 W fa)) (hb : PE X b (tV P F0 H0 W fb)) : PE X (.BinOp a op b pos) (tE P F0 H0 W (fun ρ => do let x ← fa ρ; let y ← fb ρ; r x y)) := by
  refine ⟨fun pins s σ H Q I h => ?_⟩
  exact wpAny_BinOp (binT ha hb I (two_of h) fun v u s2 x y H2 I2 rx ry ⟨F, dx, dy, e, i1, i2, q⟩ => ho pins s2 σ F H2 x y v u dx dy Q I2 rx ry e i1 i2 q)
theorem pd_un {op : UnaryOp} {r : D → Res D} (ho : UnD X P W (unaryOp op) r) (ha : PE X a (tV P F0 H0 W fa)) : PE X (.UnaryOp op a pos) (tE P F0 H0 W (fun ρ => do let x ← fa ρ; r x)) := by
  refine ⟨fun pins s σ H Q I h => ?_⟩
  exact PyProof.Rows.UnaryOp_ (thn (ha.run pins s σ H _ I (tG.bind (rel := rVw P) (f := fa) (k := fun _ x => r x) h)) fun v s1 ⟨x, H1, I1, r1, F1, ρ, d, er, i1, q1⟩ => ho pins s1 σ F1 H1 x v d Q I1 r1 er.s i1 q1)
/-- the same of a comparison -/
theorem pd_cmp (ho : OpD X P W (compareOp cop) r) (ha : PE X a (tV P F0 H0 W fa)) (hb : PE X b (tV P F0 H0 W fb)) (hm : behindInMarks cop b = false) : PE X (.Compare a [cop] [b] pos) (tE P F0 H0 W (fun ρ => do let x ← fa ρ; let y ← fb ρ; r x y)) := by
  refine pe_cmp (t := tE P F0 H0 W (fun ρ => do let x ← fa ρ; let y ← fb ρ; r x y)) ⟨fun pins s σ H Q I h => ?_⟩ hm
  exact binT ha hb I (two_of h) fun v u s2 x y H2 I2 rx ry ⟨F, dx, dy, e, i1, i2, q⟩ => ho pins s2 σ F H2 x y v u dx dy Q I2 rx ry e i1 i2 q
end
end DL
namespace DL
open PySem L2

def bo : D → Res Bool
  | .bl b => .ok b
  | _ => .bad
def opt {α : Type} : Option α → Res α
  | some a => .ok a
  | none => .bad
section
variable {X : Cx} {P : Pm} {F0 : Fz} {H0 : Hp} {W : WX} {a b c e : Expr} {es : List Expr} {fa fb fc : Env → Res D} {ga gb gc : Env → Res Bool} {pos : Pos} {σ : St} {H F : Hp}
theorem bo_of {x : D} {v : V} {Q : Bool → Hp → Prop} (s : Sb P F H) (i : Is P F x v) (h : PostG P W rBo (bo x) F σ H Q) : ∃ k, v = .bl k ∧ Q k H := by
  cases x with
  | bl k =>
    rw [Is] at i
    exact ⟨k, i, h.here s rfl⟩
  | _ => exact h.elim
/-! ### tests -/
theorem tB_of {f : Env → Res D} {Q : Bool → Hp → Prop} (h : tT P F0 H0 W (fun ρ => f ρ >>= bo) σ H Q) : tB (tE P F0 H0 W f) σ H Q := by
  obtain ⟨F, ρ, er, z⟩ := h
  refine ⟨F, ρ, er, (PostG.bind (rel := rIs P) z).imp ?_⟩
  rintro v H1 ⟨F1, d, g, i, q⟩
  exact bo_of g.s i q
theorem td_val (h : PE X e (tE P F0 H0 W fa)) (he : ∀ whole, isTrue e X.env whole = (do let v ← whole; standAt e.pos; holding [v] (truthy v)) := by intro _; rfl) : PT X e (tT P F0 H0 W (fun ρ => fa ρ >>= bo)) :=
  (pt_val h he).imp fun _ _ _ z => tB_of z
theorem pd_pc {cop : CmpOp} {r : D → D → Res D} (ho : OpD X P W (compareOp cop) r) (ha : PE X a (tV P F0 H0 W fa)) (hb : PE X b (tV P F0 H0 W fb)) : PC X cop a b (tE P F0 H0 W (fun ρ => do let x ← fa ρ; let y ← fb ρ; r x y)) :=
  ⟨fun pins s σ H Q I h => binT ha hb I (two_of h) fun v u s2 x y H2 I2 rx ry ⟨F, dx, dy, e, i1, i2, q⟩ => ho pins s2 σ F H2 x y v u dx dy Q I2 rx ry e i1 i2 q⟩
theorem td_cmp {cop : CmpOp} {r : D → D → Res D} (ho : OpD X P W (compareOp cop) r) (ha : PE X a (tV P F0 H0 W fa)) (hb : PE X b (tV P F0 H0 W fb)) (hm : behindInMarks cop b = false) :
    PT X (.Compare a [cop] [b] pos) (tT P F0 H0 W (fun ρ => (do let x ← fa ρ; let y ← fb ρ; r x y) >>= bo)) := (pt_cmp (pd_pc ho ha hb) hm).imp fun _ _ _ z => tB_of z
theorem td_not (h : PT X a (tT P F0 H0 W ga)) : PT X (.UnaryOp .Not a pos) (tT P F0 H0 W (fun ρ => do let x ← ga ρ; .ok (!x))) := (pt_not h).imp fun σ H Q ⟨F, ρ, er, z⟩ => by
  refine ⟨F, ρ, er, (PostG.bind (rel := rBo) z).imp ?_⟩
  rintro v H1 ⟨F1, d, g, i, q⟩
  subst i
  exact q.here g.s rfl
theorem td_and1 (h : PT X a (tT P F0 H0 W ga)) : PW X (.BoolOp .And [a] pos) (tT P F0 H0 W ga) := pw_and1 h
theorem td_or1 (h : PT X a (tT P F0 H0 W ga)) : PW X (.BoolOp .Or [a] pos) (tT P F0 H0 W ga) := pw_or1 h
theorem td_and {rest : List Expr} (ha : PT X a (tT P F0 H0 W ga)) (hb : PW X (.BoolOp .And (b :: rest) pos) (tT P F0 H0 W gb)) : PW X (.BoolOp .And (a :: b :: rest) pos) (tT P F0 H0 W (fun ρ => do let x ← ga ρ; if x = true then gb ρ else .ok false)) :=
  (pw_and ha hb).imp fun σ H Q ⟨F, ρ, er, z⟩ => by
  refine ⟨F, ρ, er, (PostG.bind (rel := rBo) z).imp ?_⟩
  rintro v H1 ⟨F1, d, g, i, q⟩
  subst i
  split
  · rename_i hv
    rw [if_pos hv] at q
    exact ⟨F1, ρ, er.grow g, q⟩
  · rename_i hv
    rw [if_neg hv] at q
    exact q.here g.s rfl
theorem td_or {rest : List Expr} (ha : PT X a (tT P F0 H0 W ga)) (hb : PW X (.BoolOp .Or (b :: rest) pos) (tT P F0 H0 W gb)) : PW X (.BoolOp .Or (a :: b :: rest) pos) (tT P F0 H0 W (fun ρ => do let x ← ga ρ; if x = true then .ok true else gb ρ)) :=
  (pw_or ha hb).imp fun σ H Q ⟨F, ρ, er, z⟩ => by
  refine ⟨F, ρ, er, (PostG.bind (rel := rBo) z).imp ?_⟩
  rintro v H1 ⟨F1, d, g, i, q⟩
  subst i
  split
  · rename_i hv
    rw [if_pos hv] at q
    exact q.here g.s rfl
  · rename_i hv
    rw [if_neg hv] at q
    exact ⟨F1, ρ, er.grow g, q⟩
/-! ### and, or, not as values (bools), a if t else b -/
theorem pd_one {op} (h : PE X a (tE P F0 H0 W fa)) : PE X (.BoolOp op [a] pos) (tE P F0 H0 W fa) := pe_one h
theorem pd_and {rest : List Expr} (ha : PE X a (tE P F0 H0 W fa)) (hb : PE X (.BoolOp .And (b :: rest) pos) (tE P F0 H0 W fb)) : PE X (.BoolOp .And (a :: b :: rest) pos) (tE P F0 H0 W (fun ρ => do let x ← fa ρ; let k ← bo x; if k = true then fb ρ else .ok (.bl false))) :=
  (pe_and ha hb).imp fun σ H Q ⟨F, ρ, er, z⟩ => by
  refine ⟨F, ρ, er, (PostG.bind (rel := rIs P) z).imp ?_⟩
  rintro v H1 ⟨F1, d, g, i, q⟩
  obtain ⟨k, hk, F2, k', g2, e2, q⟩ := bo_of g.s i (PostG.bind (rel := rBo) q)
  subst e2
  refine ⟨k, hk, ?_⟩
  split
  · rename_i hv
    rw [if_pos hv] at q
    exact ⟨F2, ρ, (er.grow g).grow g2, q⟩
  · rename_i hv
    rw [if_neg hv] at q
    exact q.here g2.s (by show Is P F2 (.bl false) _; rw [Is])
theorem pd_or {rest : List Expr} (ha : PE X a (tE P F0 H0 W fa)) (hb : PE X (.BoolOp .Or (b :: rest) pos) (tE P F0 H0 W fb)) : PE X (.BoolOp .Or (a :: b :: rest) pos) (tE P F0 H0 W (fun ρ => do let x ← fa ρ; let k ← bo x; if k = true then .ok (.bl true) else fb ρ)) :=
  (pe_or ha hb).imp fun σ H Q ⟨F, ρ, er, z⟩ => by
  refine ⟨F, ρ, er, (PostG.bind (rel := rIs P) z).imp ?_⟩
  rintro v H1 ⟨F1, d, g, i, q⟩
  obtain ⟨k, hk, F2, k', g2, e2, q⟩ := bo_of g.s i (PostG.bind (rel := rBo) q)
  subst e2
  refine ⟨k, hk, ?_⟩
  split
  · rename_i hv
    rw [if_pos hv] at q
    exact q.here g2.s (by show Is P F2 (.bl true) _; rw [Is])
  · rename_i hv
    rw [if_neg hv] at q
    exact ⟨F2, ρ, (er.grow g).grow g2, q⟩
theorem pd_not (ha : PE X a (tE P F0 H0 W fa)) : PE X (.UnaryOp .Not a pos) (tE P F0 H0 W (fun ρ => do let x ← fa ρ; let k ← bo x; .ok (.bl (!k)))) :=
  (pe_not ha).imp fun σ H Q ⟨F, ρ, er, z⟩ => by
  refine ⟨F, ρ, er, (PostG.bind (rel := rIs P) z).imp ?_⟩
  rintro v H1 ⟨F1, d, g, i, q⟩
  obtain ⟨k, hk, F2, k', g2, e2, q⟩ := bo_of g.s i (PostG.bind (rel := rBo) q)
  subst e2
  exact ⟨k, hk, q.here g2.s (by show Is P F2 (.bl _) _; rw [Is])⟩
theorem pd_if (hc : PT X c (tT P F0 H0 W gc)) (ha : PE X a (tE P F0 H0 W fa)) (hb : PE X b (tE P F0 H0 W fb)) : PE X (.IfExp c a b pos) (tE P F0 H0 W (fun ρ => do let k ← gc ρ; if k = true then fa ρ else fb ρ)) :=
  (pe_ifExp hc ha hb).imp fun σ H Q ⟨F, ρ, er, z⟩ => by
  refine ⟨F, ρ, er, (PostG.bind (rel := rBo) z).imp ?_⟩
  rintro v H1 ⟨F1, d, g, i, q⟩
  subst i
  split
  · rename_i hv
    rw [if_pos hv] at q
    exact ⟨F1, ρ, er.grow g, q⟩
  · rename_i hv
    rw [if_neg hv] at q
    exact ⟨F1, ρ, er.grow g, q⟩
end

/-! ### argument lists -/
def VwL (P : Pm) (F H : Hp) : List D → List V → Prop
  | [], vs => vs = []
  | d :: ds, vs => ∃ v r, vs = v :: r ∧ Vw P F H d v ∧ VwL P F H ds r
abbrev rVs (P : Pm) : Rel (List D) (List V) := fun F H d v => VwL P F H d v
abbrev tW (P : Pm) (F0 : Fz) (H0 : Hp) (W : WX) (f : Env → Res (List D)) : TA := tG P F0 H0 W (rVs P) f
theorem VwL.mono {P : Pm} {F F' H H' : Hp} (e : Ex F F') (g : ExT H H') : ∀ (ds : List D) {vs : List V}, VwL P F H ds vs → VwL P F' H' ds vs
  | [], _, h => h
  | d :: ds, _, ⟨v, r, h1, h2, h3⟩ => ⟨v, r, h1, h2.mono e g d, VwL.mono e g ds h3⟩
theorem IsL.vw {P : Pm} {F H : Hp} (e : Sb P F H) : ∀ (ds : List D) {vs : List V}, IsL P F ds vs → VwL P F H ds vs
  | [], _, h => by rw [IsL] at h; exact h
  | d :: ds, _, h => by
    rw [IsL] at h
    obtain ⟨v, r, h1, h2, h3⟩ := h
    exact ⟨v, r, h1, h2.vw e d, IsL.vw e ds h3⟩
section
variable {X : Cx} {P : Pm} {F0 : Fz} {H0 : Hp} {W : WX} {a b c e : Expr} {es : List Expr} {fa fb fc : Env → Res D} {fs : Env → Res (List D)} {pos p : Pos} {σ : St} {H F : Hp}
theorem ad_nil : PA X [] (tL P F0 H0 W (fun _ => .ok [])) := pa_nil.imp fun σ H Q ⟨F, ρ, er, z⟩ => z.here er.s .nil
theorem ad_cons (ha : PE X e (tE P F0 H0 W fa)) (hr : PA X es (tL P F0 H0 W fs)) (hs : starEach (e :: es) X.env = (false, eval e X.env) :: starEach es X.env := by rfl) :
    PA X (e :: es) (tL P F0 H0 W (fun ρ => do let x ← fa ρ; let xs ← fs ρ; .ok (x :: xs))) := (pa_cons ha hr hs).imp fun σ H Q ⟨F, ρ, er, z⟩ => by
  refine ⟨F, ρ, er, (PostG.bind (rel := rIs P) z).imp ?_⟩
  rintro v H1 ⟨F1, d, g, i, q⟩
  refine ⟨F1, ρ, er.grow g, (PostG.bind (rel := rLs P) q).imp ?_⟩
  rintro vs H2 ⟨F2, ds, g2, i2, q2⟩
  exact q2.here g2.s (.cons (i.mono g2.f d) i2)
theorem av_nil : PA X [] (tW P F0 H0 W (fun _ => .ok [])) := pa_nil.imp fun σ H Q ⟨F, ρ, er, z⟩ => z.here er.s rfl
theorem av_cons (ha : PE X e (tV P F0 H0 W fa)) (hr : PA X es (tW P F0 H0 W fs)) (hs : starEach (e :: es) X.env = (false, eval e X.env) :: starEach es X.env := by rfl) :
    PA X (e :: es) (tW P F0 H0 W (fun ρ => do let x ← fa ρ; let xs ← fs ρ; .ok (x :: xs))) := (pa_cons ha hr hs).imp fun σ H Q ⟨F, ρ, er, z⟩ => by
  refine ⟨F, ρ, er, (PostG.bind (rel := rVw P) z).imp ?_⟩
  rintro v H1 ⟨F1, d, g, i, q⟩
  refine ⟨F1, ρ, er.grow g, (PostG.bind (rel := rVs P) q).imp ?_⟩
  rintro vs H2 ⟨F2, ds, g2, i2, q2⟩
  exact q2.here g2.s ⟨_, _, rfl, i.mono g2.f g2.h d, i2⟩

/-! ### new containers -/
/-- a new object at p, nobody's yet -/
def rNw (P : Pm) (H : Hp) : Rel D V := fun F' H' d v => ∃ p, v = .ref p ∧ NoD H p ∧ F' p = none ∧ Own P F' H' p d
def tN (P : Pm) (F0 : Fz) (H0 : Hp) (W : WX) (f : Env → Res D) : TE := fun σ H Q => ∃ F ρ, ER P F0 H0 F ρ σ H ∧ PostG P W (rNw P H) (f ρ) F σ H Q
/-- an object of one's own is kept still from now on -/
theorem Own.still {P : Pm} {F H : Hp} {p : Addr} (s : Sb P F H) (h0 : F p = none) : ∀ {d : D}, Own P F H p d → ∃ F', Ex F F' ∧ Sb P F' H ∧ Is P F' d (.ref p) ∧ ∀ a o, F' a = some o → F a = some o ∨ a = p
  | .lst xs, ⟨vs, h1, h2⟩ => ⟨upd F p (.lst vs), .new h0, ⟨fun a u e => by
      by_cases q : a = p
      · subst q; rw [upd_same] at e; cases e; exact h1
      · rw [upd_ne q] at e; exact s.ex a u e, fun a u e => by
      by_cases q : a = p
      · subst q; rw [upd_same] at e; cases e; rfl
      · rw [upd_ne q] at e; exact s.nt a u e, s.tabs⟩, by rw [Is]; exact ⟨p, vs, rfl, .inl upd_same, h2.mono (.new h0) xs⟩, fun a u e => by
      by_cases q : a = p
      · exact .inr q
      · rw [upd_ne q] at e; exact .inl e⟩
  | .dK ks xs, ⟨vs, h1, h2, h3⟩ => ⟨upd F p (.dK (ks.zip vs)), .new h0, ⟨fun a u e => by
      by_cases q : a = p
      · subst q; rw [upd_same] at e; cases e; exact h1
      · rw [upd_ne q] at e; exact s.ex a u e, fun a u e => by
      by_cases q : a = p
      · subst q; rw [upd_same] at e; cases e; rfl
      · rw [upd_ne q] at e; exact s.nt a u e, s.tabs⟩, by rw [Is]; exact ⟨p, vs, rfl, .inl upd_same, h2, h3.mono (.new h0) xs⟩, fun a u e => by
      by_cases q : a = p
      · exact .inr q
      · rw [upd_ne q] at e; exact .inl e⟩
  | .dT ks xs, ⟨vs, h1, h2, h3⟩ => ⟨upd F p (.dT (ks.zip vs)), .new h0, ⟨fun a u e => by
      by_cases q : a = p
      · subst q; rw [upd_same] at e; cases e; exact h1
      · rw [upd_ne q] at e; exact s.ex a u e, fun a u e => by
      by_cases q : a = p
      · subst q; rw [upd_same] at e; cases e; rfl
      · rw [upd_ne q] at e; exact s.nt a u e, s.tabs⟩, by rw [Is]; exact ⟨p, vs, rfl, upd_same, h2, h3.mono (.new h0) xs⟩, fun a u e => by
      by_cases q : a = p
      · exact .inr q
      · rw [upd_ne q] at e; exact .inl e⟩
  | .obj c xs, ⟨dx, vs, h1, h2, h3⟩ => ⟨upd F p (.ins (P.C c) dx ((P.nm c).zip vs)), .new h0, ⟨fun a u e => by
      by_cases q : a = p
      · subst q; rw [upd_same] at e; cases e; exact h1
      · rw [upd_ne q] at e; exact s.ex a u e, fun a u e => by
      by_cases q : a = p
      · subst q; rw [upd_same] at e; cases e; rfl
      · rw [upd_ne q] at e; exact s.nt a u e, s.tabs⟩, by rw [Is]; exact ⟨p, dx, vs, rfl, upd_same, h2, h3.mono (.new h0) xs⟩, fun a u e => by
      by_cases q : a = p
      · exact .inr q
      · rw [upd_ne q] at e; exact .inl e⟩
  | .non, h => h.elim
  | .bl _, h => h.elim
  | .int _, h => h.elim
  | .str _, h => h.elim
  | .tup _, h => h.elim
  | .scr _, h => h.elim
theorem n2e (h : PE X e (tN P F0 H0 W fa)) : PE X e (tE P F0 H0 W fa) := h.imp fun σ H Q ⟨F, ρ, er, z⟩ => ⟨F, ρ, er, by
  cases q : fa ρ with
  | ok d =>
    rw [q] at z
    rintro v F' H' g ⟨p, rfl, hp, hf, ho⟩
    obtain ⟨F2, e1, e2, i, n⟩ := ho.still g.s hf
    exact z _ F2 H' ⟨g.f.trans e1, g.h, e2, fun a o ha => by
      rcases n a o ha with y | y
      · exact g.n a o y
      · exact .inr (y ▸ hp)⟩ i
  | err c p =>
    rw [q] at z
    exact z
  | bad =>
    rw [q] at z
    exact z⟩
def small (n : Nat) : Bool := decide (n ≤ 1000000)
theorem small_le {n : Nat} (h : small n = true) : n ≤ sizeLine := Nat.le_trans (of_decide_eq_true h) (by decide)
theorem small_lt {n : Nat} (h : small n = true) : n < sizeLine := Nat.lt_of_le_of_lt (of_decide_eq_true h) (by decide)
def mkL (xs : List D) : Res D := if small xs.length = true then .ok (.lst xs) else .bad
def mkT (xs : List D) : Res D := if small xs.length = true then .ok (.tup xs) else .bad
theorem nd_lst (h : PA X es (tL P F0 H0 W fs)) : PE X (.List es pos) (tN P F0 H0 W (fun ρ => fs ρ >>= mkL)) := (pe_lst h).imp fun σ H Q ⟨F, ρ, er, z⟩ => by
  refine ⟨F, ρ, er, (PostG.bind (rel := rLs P) z).imp ?_⟩
  rintro vs H1 ⟨F1, ds, g, i, q⟩
  unfold mkL at q
  split at q
  · rename_i hz
    refine ⟨by rw [← i.length]; exact small_le hz, fun p hp => ?_⟩
    exact q _ F1 _ (.junk g.s (.new hp)) ⟨p, rfl, g.h.back hp, g.s.back hp, vs, upd_same, i⟩
  · exact q.elim
theorem pd_lst (h : PA X es (tL P F0 H0 W fs)) : PE X (.List es pos) (tE P F0 H0 W (fun ρ => fs ρ >>= mkL)) := n2e (nd_lst h)
theorem pd_tup {x1} (h : PA X es (tL P F0 H0 W fs)) : PE X (.Tuple es x1 pos) (tE P F0 H0 W (fun ρ => fs ρ >>= mkT)) := (pe_tup h).imp fun σ H Q ⟨F, ρ, er, z⟩ => by
  refine ⟨F, ρ, er, (PostG.bind (rel := rLs P) z).imp ?_⟩
  rintro vs H1 ⟨F1, ds, g, i, q⟩
  unfold mkT at q
  split at q
  · rename_i hz
    refine ⟨by rw [← i.length]; exact small_le hz, fun p hp => ?_⟩
    exact q _ (upd F1 p (.tup vs)) _ (.new g.s hp) (by show Is P _ (.tup ds) _; rw [Is]; exact ⟨p, vs, rfl, .inl upd_same, i.mono (.new (g.s.back hp)) ds⟩)
  · exact q.elim
end
end DL
namespace DL
open PySem L2

/-! ### promises by data -/
def fnG (n : Nat) (G : List D → Res D) (ds : List D) : Res D := if ds.length = n then G ds else .bad
abbrev WE0 (E : XK) : WX := fun cls x _ H => E cls x H
def spD (P : Pm) (n : Nat) (G : List D → Res D) : Sp := fun vs H Q E => ∃ F ds, Sb P F H ∧ IsL P F ds vs ∧ ds.length = n ∧ PostG P (WE0 E) (rIs P) (G ds) F [] H Q
def minus (H : Hp) (x : Addr) : Hp := fun a => if a = x then none else H a
theorem minus_same {H : Hp} {x : Addr} : minus H x x = none := by unfold minus; rw [if_pos rfl]
theorem minus_ne {H : Hp} {x a : Addr} (h : a ≠ x) : minus H x a = H a := by unfold minus; rw [if_neg h]
theorem minus_ex {H : Hp} {x : Addr} : Ex (minus H x) H := fun a o e => by
  by_cases q : a = x
  · subst q
    rw [minus_same] at e
    cases e
  · rw [minus_ne q] at e
    exact e
/-- __init__: the attributes that it sets -/
def spI (P : Pm) (c n : Nat) (G : List D → Res (List D)) : Sp := fun vs H Q E => ∃ x dx args F ds, vs = .ref x :: args ∧ H x = some (.ins (P.C c) dx []) ∧ F x = none ∧ Sb P F H ∧ IsL P F ds args ∧ ds.length = n ∧
  PostG P (WE0 E) (fun F' _ fs v => v = .non ∧ Is P F' (.obj c fs) (.ref x)) (G ds) F [] (minus H x) Q
section
variable {X : Cx} {P : Pm} {F0 : Fz} {H0 : Hp} {W : WX} {a b c e o : Expr} {es : List Expr} {fa fb fc : Env → Res D} {fs : Env → Res (List D)} {pos p apos : Pos} {σ : St} {H F : Hp}
variable {k n : Nat} {f C : Addr} {fd : FuncData} {ps : List Str} {dvs : List V} {dds : List D} {dv : List Value} {x m : Str} {G : List D → Res D} {GI : List D → Res (List D)}
/-- defaults as data -/
def Dfl (P : Pm) (dvs : List V) (dds : List D) : Prop := ∀ F : Hp, IsL P F dds dvs
theorem Dfl.nil : Dfl P [] [] := fun _ => .nil
theorem Dfl.int {i : Int} : Dfl P [.int i] [.int i] := fun _ => .cons (by rw [Is]) .nil
theorem PostG.sig {α β : Type} {rel : Rel α β} {r : Res α} {Q : β → Hp → Prop} (h : PostG P W rel r F σ H Q) : PostG P (WE0 fun cls x H => W cls x σ H) rel r F [] H Q := by
  cases r with
  | ok a => exact h
  | err c p => exact h
  | bad => exact h
theorem fnG_of {ds : List D} {F H : Hp} {Q : VK} {vs : List V} {E : XK} (hd : Dfl P dvs dds) (s : Sb P F H) (i : IsL P F ds vs) (h : PostG P (WE0 E) (rIs P) (fnG n G (ds ++ dds)) F [] H Q) : spD P n G (vs ++ dvs) H Q E := by
  unfold fnG at h
  split at h
  · rename_i hl
    exact ⟨F, ds ++ dds, s, i.append (hd F), hl, h⟩
  · exact h.elim
/-- f(e, ..) -/
theorem pd_call (Fn : FnOk X.prog X.w X.K X.mg X.base (L2.CX X.prog X.w) k f fd ps (spD P n G)) (hr : Room k X.A) (hg : Gl X x) (hm : X.mg x = some (.ref f)) (hk : PySem.W.keepIn X.K (.ref f) = true) (hb : Binds X.K fd ps dv) (hd : Vals dvs dv) (hdd : Dfl P dvs dds)
    (tk : Takes X W) (ha : PA X (e :: es) (tL P F0 H0 W fs)) (hdb : (x == ("__debug__" : Str)) = false := by decide) (he : starEach (e :: es) X.env = (false, eval e X.env) :: starEach es X.env := by rfl) (hpl : (backTo pos (starEach es X.env)).any (·.1) = false := by rfl) :
    PE X (.Call (.Name x p) (e :: es) [] pos) (tE P F0 H0 W (fun ρ => do let xs ← fs ρ; fnG n G (xs ++ dds))) :=
  (pe_callSD (E := WE W) Fn hr hg hm hk hb hd (fun σ => passAt tk σ) ha hdb he hpl).imp fun σ H Q ⟨F, ρ, er, z⟩ => by
  refine ⟨F, ρ, er, (PostG.bind (rel := rLs P) z).imp ?_⟩
  rintro vs H1 ⟨F1, ds, g, i, q⟩
  exact fnG_of hdd g.s i q.sig
/-- f() -/
theorem pd_call0 (Fn : FnOk X.prog X.w X.K X.mg X.base (L2.CX X.prog X.w) k f fd ps (spD P n G)) (hr : Room k X.A) (hg : Gl X x) (hm : X.mg x = some (.ref f)) (hk : PySem.W.keepIn X.K (.ref f) = true) (hb : Binds X.K fd ps dv) (hd : Vals dvs dv) (hdd : Dfl P dvs dds)
    (tk : Takes X W) (hdb : (x == ("__debug__" : Str)) = false := by decide) :
    PE X (.Call (.Name x p) [] [] pos) (tE P F0 H0 W (fun ρ => fnG n G dds)) := by
  refine ⟨fun pins s σ H Q I h => ?_⟩
  refine wpAny_Call_Name_kw (ld_glob I hg hm ?_ hdb)
  obtain ⟨F, ρ, er, z⟩ := h
  refine PySem.W.callWith_K0 I.kIn hk ?_
  exact run_fnSD (vs := []) (us := []) Fn hr hb hd (passAt tk σ) I .nil (fnG_of (ds := []) hdd er.s .nil z.sig)
/-- o.m(e, ..) -/
theorem run_methD {pins : List (Addr × Obj)} {s : Shared} {Q : VK} {us : List Value} {vs : List V} {ds : List D} (Fn : FnOk X.prog X.w X.K X.mg X.base (L2.CX X.prog X.w) k f fd ps (spD P n G)) (hr : Room k X.A) (hb : Binds X.K fd ps dv) (hd : Vals dvs dv) (hdd : Dfl P dvs dds)
    (tk : Takes X W) (I : Inv X pins σ H s) (r : Vals vs us) (sx : Sb P F H) (i : IsL P F ds vs) (z : PostG P W (rIs P) (fnG n G (ds ++ dds)) F σ H Q) : wpAny (model X.prog X.w) X.A (call (.ref f) us) (EP X pins σ Q) X.xe s :=
  run_fnSD (E := WE W) Fn hr hb hd (passAt tk σ) I r (fnG_of hdd sx i z.sig)
theorem obj_of {c : Nat} {xs : List D} {v : V} (i : Is P F (.obj c xs) v) : ∃ a dx vs, v = .ref a ∧ F a = some (.ins (P.C c) dx ((P.nm c).zip vs)) ∧ vs.length ≤ (P.nm c).length ∧ IsL P F xs vs := by
  rw [Is] at i
  exact i
theorem zip_none {β : Type} {m : Str} : ∀ {ks : List Str} {vs : List β}, m ∉ ks → (ks.zip vs).lookup m = none
  | [], _, _ => rfl
  | _ :: _, [], _ => rfl
  | k :: ks, v :: vs, h => by
    have h1 : (m == k) = false := by
      rw [beq_eq_false_iff_ne]
      exact fun q => h (q ▸ List.mem_cons_self)
    show (match m == k with | true => some v | false => (ks.zip vs).lookup m) = none
    rw [h1]
    exact zip_none fun q => h (List.mem_cons_of_mem _ q)
/-- x is an instance of the class number c -/
def isO (c : Nat) (x : D) : Res D := match x with
  | .obj c' ys => if c' = c then .ok x else .bad
  | _ => .bad
theorem isO_of {cn : Nat} {d : D} {v : V} {Q : VK} (s : Sb P F H) (i : Is P F d v) (h : PostG P W (rIs P) (isO cn d) F σ H Q) : ∃ xs a dx fs, d = .obj cn xs ∧ v = .ref a ∧ H a = some (.ins (P.C cn) dx ((P.nm cn).zip fs)) ∧ Q v H := by
  cases d with
  | obj c ys =>
    by_cases q : c = cn
    · subst q
      have e : isO c (.obj c ys) = .ok (.obj c ys) := if_pos rfl
      rw [e] at h
      obtain ⟨a, dx, vs, h1, h2, h3, h4⟩ := obj_of i
      exact ⟨ys, a, dx, vs, rfl, h1, s.ex _ _ h2, h.here s i⟩
    · have e : isO cn (.obj c ys) = .bad := if_neg q
      rw [e] at h
      exact h.elim
  | _ => exact h.elim
theorem pd_meth {cn : Nat} {pl : Sem Bool} (ho : PE X o (tE P F0 H0 W fa)) (cl : Cls X.K (P.C cn)) (hm : Meth X.K (P.C cn) m f) (hno : m ∉ P.nm cn) (Fn : FnOk X.prog X.w X.K X.mg X.base (L2.CX X.prog X.w) k f fd ps (spD P n G)) (hr : Room k X.A) (hb : Binds X.K fd ps dv) (hd : Vals dvs dv) (hdd : Dfl P dvs dds)
    (tk : Takes X W) (ha : PA X (e :: es) (tL P F0 H0 W fs))
    (hst : starEach (e :: es) X.env = (false, eval e X.env) :: starEach es X.env := by rfl) (hpl : (backTo pos (starEach es X.env)).any (·.1) = false := by rfl)
    (ht : eval (.Call (.Attribute o m apos) (e :: es) [] pos) X.env = (do
      let ov ← eval o X.env
      standAt apos.atName
      let (f, first) ← holding [ov] (getMethod ov m pl)
      callWith pos f first (backTo pos (starEach (e :: es) X.env)) (backToKw pos (keywordEach [] X.env))) := by rfl) :
    PE X (.Call (.Attribute o m apos) (e :: es) [] pos) (tE P F0 H0 W (fun ρ => do let x ← fa ρ; let y ← isO cn x; let xs ← fs ρ; fnG n G (y :: xs ++ dds))) := by
  refine ⟨fun pins s σ H Q I h => ?_⟩
  obtain ⟨F, ρ, er, z⟩ := h
  refine PySem.W.methodCall_KW (pl := pl) (thn (ho.run pins s σ H _ I ⟨F, ρ, er, PostG.bind (rel := rIs P) z⟩) ?_) ht
  rintro u s1 ⟨x, H1, I1, rx, F1, d, g1, i1, z1⟩
  obtain ⟨xs, a, dx, fs', rfl, rfl, ha1, F2, d2, g2, i2, z2⟩ := isO_of g1.s i1 (PostG.bind (rel := rIs P) z1)
  obtain rfl : u = Value.ref a := rx
  refine getmeth_ok I1 ha1 cl hm (zip_none hno) ?_
  refine PySem.W.callWith_K (first := [.ref a]) (h₀ := X.base) I.ok.mod.kin hm.kp (thn (ha.run pos pins s1 σ H1 _ I1 ⟨F2, ρ, (er.grow g1).grow g2, PostG.bind (rel := rLs P) z2⟩) ?_) hst hpl
  rintro us s2 ⟨vs, H2, I2, r, F3, ds, g3, i3, z3⟩
  exact ⟨I2.kIn, run_methD (vs := .ref a :: vs) (ds := d2 :: ds) Fn hr hb hd hdd tk I2 (.cons rfl r) g3.s (.cons (i2.mono g3.f _) i3) z3⟩
/-- o.m() -/
theorem pd_meth0 {cn : Nat} {pl : Sem Bool} (ho : PE X o (tE P F0 H0 W fa)) (cl : Cls X.K (P.C cn)) (hm : Meth X.K (P.C cn) m f) (hno : m ∉ P.nm cn) (Fn : FnOk X.prog X.w X.K X.mg X.base (L2.CX X.prog X.w) k f fd ps (spD P n G)) (hr : Room k X.A) (hb : Binds X.K fd ps dv) (hd : Vals dvs dv) (hdd : Dfl P dvs dds)
    (tk : Takes X W)
    (ht : eval (.Call (.Attribute o m apos) [] [] pos) X.env = (do
      let ov ← eval o X.env
      standAt apos.atName
      let (f, first) ← holding [ov] (getMethod ov m pl)
      callWith pos f first (backTo pos (starEach [] X.env)) (backToKw pos (keywordEach [] X.env))) := by rfl) :
    PE X (.Call (.Attribute o m apos) [] [] pos) (tE P F0 H0 W (fun ρ => do let x ← fa ρ; let y ← isO cn x; fnG n G (y :: dds))) := by
  refine ⟨fun pins s σ H Q I h => ?_⟩
  obtain ⟨F, ρ, er, z⟩ := h
  refine PySem.W.methodCall_KW (pl := pl) (thn (ho.run pins s σ H _ I ⟨F, ρ, er, PostG.bind (rel := rIs P) z⟩) ?_) ht
  rintro u s1 ⟨x, H1, I1, rx, F1, d, g1, i1, z1⟩
  obtain ⟨xs, a, dx, fs', rfl, rfl, ha1, F2, d2, g2, i2, z2⟩ := isO_of g1.s i1 (PostG.bind (rel := rIs P) z1)
  obtain rfl : u = Value.ref a := rx
  refine getmeth_ok I1 ha1 cl hm (zip_none hno) ?_
  refine PySem.W.callWith_K0 (first := [.ref a]) I1.kIn hm.kp ?_
  exact run_methD (vs := [.ref a]) (ds := [d2]) (dds := dds) Fn hr hb hd hdd tk I1 (.cons rfl .nil) g2.s (.cons i2 .nil) z2
/-! ### C(e, ..) -/
theorem run_makeS {CX : CXT} {sp : Sp} {E : XK} {pins : List (Addr × Obj)} {s : Shared} {Q : VK} {us : List Value} {vs : List V} (M : Mk X.K C f) (Fn : FnOk X.prog X.w X.K X.mg X.base CX k f fd ps sp) (hr : Room (k + 1) X.A) (hb : Binds X.K fd ps dv) (hd : Vals dvs dv)
    (hx : PassesAt CX X σ E) (I : Inv X pins σ H s) (r : Vals vs us)
    (h : ∀ x dx, H x = none → H dx = none → dx ≠ x → sp (.ref x :: (vs ++ dvs)) (upd (upd H dx (.own x)) x (.ins C dx [])) (fun v H2 => v = .non ∧ Q (.ref x) H2) E) :
    wpAny (model X.prog X.w) X.A (call (.ref C) us) (EP X pins σ Q) X.xe s := by
  have hq := h (s.heap.objs.size + 1) s.heap.objs.size (I.hok.fresh (Nat.le_succ _)) (I.hok.fresh (Nat.le_refl _)) (Nat.ne_of_lt (Nat.lt_succ_self _))
  have I2 := Inv.made (C := C) I
  have r2 : Vals (V.ref (s.heap.objs.size + 1) :: (vs ++ dvs)) (Value.ref (s.heap.objs.size + 1) :: (us ++ dv)) := .cons rfl (r.append hd)
  have hl : (Value.ref (s.heap.objs.size + 1) :: us ++ dv).length = ps.length := by
    have e := r2.length
    rw [Fn.len _ _ _ _ hq] at e
    exact e.symm
  refine wpAny_call (make_map (f := f) I.kIn M.makes M.init (beq_iff_eq.mp M.fn) (codeAny_mono (Fn.run _ X.stack _ _ ⟨Value.ref (s.heap.objs.size + 1) :: us, []⟩ (Value.ref (s.heap.objs.size + 1) :: (us ++ dv)) _ _ E (hr.make C us [])
    (I2.env0.make C us []) (hb _ (Value.ref (s.heap.objs.size + 1) :: us) I2.kIn hl) r2 hq) fun r s' hq' => ?_))
  cases r with
  | error e => exact hx pins _ _ e s' I2 hq'
  | ok fl =>
    cases fl with
    | ret u =>
      obtain ⟨v, H', I3, rv, ev, q3⟩ := I2.after hq'
      subst ev
      exact ⟨rv, ⟨V.ref (s.heap.objs.size + 1), H', I3, rfl, q3⟩⟩
    | next => exact False.elim hq'
    | brk => exact False.elim hq'
    | cont => exact False.elim hq'
def mkG (c n : Nat) (G : List D → Res (List D)) (ds : List D) : Res D := if ds.length = n then (do let fs ← G ds; .ok (.obj c fs)) else .bad
theorem mkG_of {cn : Nat} {ds : List D} {Q : VK} {vs : List V} (hdd : Dfl P dvs dds) (s : Sb P F H) (i : IsL P F ds vs) (h : PostG P W (rIs P) (mkG cn n GI (ds ++ dds)) F σ H Q) :
    ∀ x dx, H x = none → H dx = none → dx ≠ x → spI P cn n GI (.ref x :: (vs ++ dvs)) (upd (upd H dx (.own x)) x (.ins (P.C cn) dx [])) (fun v H2 => v = .non ∧ Q (.ref x) H2) (fun cls d H' => W cls d σ H') := by
  intro x dx hx hdx hne
  unfold mkG at h
  split at h
  · rename_i hl
    have e1 : minus (upd (upd H dx (.own x)) x (.ins (P.C cn) dx [])) x = upd H dx (.own x) := by
      funext a
      by_cases q : a = x
      · subst q
        rw [minus_same, upd_ne (Ne.symm hne), hx]
      · rw [minus_ne q, upd_ne q]
    refine ⟨x, dx, vs ++ dvs, F, ds ++ dds, rfl, upd_same, s.back hx, s.ext ((Ex.new hdx).trans (Ex.new ?_)), i.append (hdd F), hl, ?_⟩
    · rw [upd_ne (Ne.symm hne)]
      exact hx
    · rw [e1]
      have g0 : Grow P F H F (upd H dx (.own x)) := .junk s (.new hdx)
      cases hG : GI (ds ++ dds) with
      | ok fs =>
        rw [hG] at h
        rintro v F' H' g ⟨hv, i'⟩
        exact ⟨hv, h _ F' H' (g0.trans g) i'⟩
      | err c p =>
        rw [hG] at h
        exact fun F' H' y g q => h F' H' y (g0.trans g) q
      | bad =>
        rw [hG] at h
        exact h
  · exact h.elim
theorem pd_make {cn : Nat} (M : Mk X.K (P.C cn) f) (Fn : FnOk X.prog X.w X.K X.mg X.base (L2.CX X.prog X.w) k f fd ps (spI P cn n GI)) (hr : Room (k + 1) X.A) (hg : Gl X x) (hm : X.mg x = some (.ref (P.C cn))) (hb : Binds X.K fd ps dv) (hd : Vals dvs dv) (hdd : Dfl P dvs dds)
    (tk : Takes X W) (ha : PA X (e :: es) (tL P F0 H0 W fs)) (hdb : (x == ("__debug__" : Str)) = false := by decide) (he : starEach (e :: es) X.env = (false, eval e X.env) :: starEach es X.env := by rfl) (hpl : (backTo pos (starEach es X.env)).any (·.1) = false := by rfl) :
    PE X (.Call (.Name x p) (e :: es) [] pos) (tE P F0 H0 W (fun ρ => do let xs ← fs ρ; mkG cn n GI (xs ++ dds))) := by
  refine ⟨fun pins s σ H Q I h => ?_⟩
  obtain ⟨F, ρ, er, z⟩ := h
  refine wpAny_Call_Name_kw (ld_glob I hg hm ?_ hdb)
  refine PySem.W.callWith_K (h₀ := X.base) I.ok.mod.kin M.kp (thn (ha.run pos pins s σ H _ I ⟨F, ρ, er, PostG.bind (rel := rLs P) z⟩) ?_) he hpl
  rintro us s1 ⟨vs, H1, I1, r, F1, ds, g, i, q⟩
  exact ⟨I1.kIn, run_makeS (E := WE W σ) M Fn hr hb hd (passAt tk σ) I1 r (mkG_of hdd g.s i q)⟩
end
end DL
namespace DL
open PySem L2

/-! ### operations that raise nothing: D in, Option D out -/
/-- what is wanted of a value that comes out -/
abbrev Out (P : Pm) (F H : Hp) (d : D) (Q : VK) : Prop := ∀ v F' H', Grow P F H F' H' → Is P F' d v → Q v H'
def r2O (P : Pm) (r : D → D → Option D) : R2 := fun x y H Q => ∃ F dx dy d, Sb P F H ∧ Vw P F H dx x ∧ Vw P F H dy y ∧ r dx dy = some d ∧ Out P F H d Q
def r1O (P : Pm) (r : D → Option D) : V → Hp → VK → Prop := fun x H Q => ∃ F dx d, Sb P F H ∧ Vw P F H dx x ∧ r dx = some d ∧ Out P F H d Q
def rcO (P : Pm) (r : List D → Option D) : List V → Hp → VK → Prop := fun xs H Q => ∃ F ds d, Sb P F H ∧ VwL P F H ds xs ∧ r ds = some d ∧ Out P F H d Q
section
variable {X : Cx} {P : Pm} {F0 : Fz} {H0 : Hp} {W : WX} {a b c e o : Expr} {es : List Expr} {fa fb fc : Env → Res D} {fs : Env → Res (List D)} {pos p apos : Pos} {σ : St} {H F : Hp}
variable {f : Value → Value → Sem Value} {r : D → D → Option D} {x : Str} {id T : String}
theorem opt_of {α β : Type} {rel : Rel α β} {y : Option α} {Q : β → Hp → Prop} (h : PostG P W rel (opt y) F σ H Q) : ∃ d, y = some d ∧ ∀ v F' H', Grow P F H F' H' → rel F' H' d v → Q v H' := by
  cases y with
  | none => exact h.elim
  | some d => exact ⟨d, rfl, h⟩
theorem od_of (h : OpR X f (r2O P r)) : OpD X P W f (fun x y => opt (r x y)) := fun pins s σ F H x y u v dx dy Q I rx ry e i1 i2 z => by
  obtain ⟨d, hd, q⟩ := opt_of z
  exact h pins s σ H x y u v Q I rx ry ⟨F, dx, dy, d, e, i1, i2, hd, q⟩
theorem ud_of {f : Value → Sem Value} {r : D → Option D} (h : UnR X f (r1O P r)) : UnD X P W f (fun x => opt (r x)) := fun pins s σ F H x u dx Q I rx e i1 z => by
  obtain ⟨d, hd, q⟩ := opt_of z
  exact h pins s σ H x u Q I rx ⟨F, dx, d, e, i1, hd, q⟩
theorem Out.here {d : D} {Q : VK} {v : V} (q : Out P F H d Q) (s : Sb P F H) (i : Is P F d v) : Q v H := q v F H (.refl s) i
theorem Out.int {i : Int} {Q : VK} (q : Out P F H (.int i) Q) (s : Sb P F H) : Q (.int i) H := q.here s (by rw [Is])
theorem Out.bl {i : Bool} {Q : VK} (q : Out P F H (.bl i) Q) (s : Sb P F H) : Q (.bl i) H := q.here s (by rw [Is])
theorem Out.str {i : Str} {Q : VK} (q : Out P F H (.str i) Q) (s : Sb P F H) : Q (.str i) H := q.here s (by rw [Is])
theorem Out.lst {ds : List D} {vs : List V} {Q : VK} (q : Out P F H (.lst ds) Q) (s : Sb P F H) (i : IsL P F ds vs) : ∀ p, H p = none → Q (.ref p) (upd H p (.lst vs)) := fun p hp =>
  q _ (upd F p (.lst vs)) _ (.new s hp) (by rw [Is]; exact ⟨p, vs, rfl, .inl upd_same, i.mono (.new (s.back hp)) ds⟩)
theorem Out.tup {ds : List D} {vs : List V} {Q : VK} (q : Out P F H (.tup ds) Q) (s : Sb P F H) (i : IsL P F ds vs) : ∀ p, H p = none → Q (.ref p) (upd H p (.tup vs)) := fun p hp =>
  q _ (upd F p (.tup vs)) _ (.new s hp) (by rw [Is]; exact ⟨p, vs, rfl, .inl upd_same, i.mono (.new (s.back hp)) ds⟩)

/-! ### ints -/
def int2 (g : Int → Int → Option D) : D → D → Option D
  | .int i, .int j => g i j
  | _, _ => none
theorem int2_of {g : Int → Int → Option D} {dx dy d : D} (h : int2 g dx dy = some d) : ∃ i j, dx = .int i ∧ dy = .int j ∧ g i j = some d := by
  unfold int2 at h
  split at h
  · exact ⟨_, _, rfl, rfl, h⟩
  · cases h
theorem op_int2 {g : Int → Int → Option D} {r' : R2} (h : OpR X f r') (hr : ∀ i j d H Q, g i j = some d → (∀ v, (∀ F, Is P F d v) → Q v H) → r' (.int i) (.int j) H Q) : OpR X f (r2O P (int2 g)) := fun pins s σ H x y u v Q I rx ry ⟨F, dx, dy, d, e, i1, i2, hd, q⟩ => by
  obtain ⟨i, j, rfl, rfl, hg⟩ := int2_of hd
  have e1 : x = .int i := i1
  have e2 : y = .int j := i2
  subst e1 e2
  exact h pins s σ H _ _ u v Q I rx ry (hr i j d H Q hg fun v hv => q.here e (hv F))
theorem is_int {F : Hp} {i : Int} : Is P F (.int i) (.int i) := by rw [Is]
theorem is_bl {F : Hp} {i : Bool} : Is P F (.bl i) (.bl i) := by rw [Is]
theorem is_str {F : Hp} {i : Str} : Is P F (.str i) (.str i) := by rw [Is]
theorem is_non {F : Hp} : Is P F .non .non := by rw [Is]
theorem io_add : OpR X (binaryOp .Add) (r2O P (int2 fun i j => some (.int (i + j)))) := op_int2 op_add fun i j d H Q hg q => ⟨i, j, rfl, rfl, q _ fun F => by cases hg; exact is_int⟩
theorem io_sub : OpR X (binaryOp .Sub) (r2O P (int2 fun i j => some (.int (i - j)))) := op_int2 op_sub fun i j d H Q hg q => ⟨i, j, rfl, rfl, q _ fun F => by cases hg; exact is_int⟩
def mulC (i j : Int) : Option D := if i.natAbs.log2 + j.natAbs.log2 < 1000000 then some (.int (i * j)) else none
theorem io_mul : OpR X (binaryOp .Mult) (r2O P (int2 mulC)) := op_int2 op_mulW fun i j d H Q hg q => by
  unfold mulC at hg
  split at hg
  · rename_i hc
    cases hg
    exact ⟨i, j, rfl, rfl, hc, q _ fun F => is_int⟩
  · cases hg
def modC (i j : Int) : Option D := if j = 0 then none else some (.int (i.fmod j))
theorem io_mod : OpR X (binaryOp .Mod) (r2O P (int2 modC)) := op_int2 op_modN fun i j d H Q hg q => by
  unfold modC at hg
  split at hg
  · cases hg
  · rename_i hc
    cases hg
    exact ⟨i, j, rfl, rfl, hc, q _ fun F => is_int⟩
def powC (i j : Int) : Option D := if 0 ≤ j ∧ j ≤ 1000000 ∧ i.natAbs < 2 ^ 64 then some (.int (i ^ j.toNat)) else none
theorem io_pow : OpR X (binaryOp .Pow) (r2O P (int2 powC)) := op_int2 op_pow fun i j d H Q hg q => by
  unfold powC at hg
  split at hg
  · rename_i hc
    cases hg
    exact ⟨i, j, rfl, rfl, hc, q _ fun F => is_int⟩
  · cases hg
theorem io_lt : OpR X (compareOp .Lt) (r2O P (int2 fun i j => some (.bl (decide (i < j))))) := op_int2 op_lt fun i j d H Q hg q => ⟨i, j, rfl, rfl, q _ fun F => by cases hg; exact is_bl⟩
theorem io_le : OpR X (compareOp .LtE) (r2O P (int2 fun i j => some (.bl (decide (i ≤ j))))) := op_int2 op_le fun i j d H Q hg q => ⟨i, j, rfl, rfl, q _ fun F => by cases hg; exact is_bl⟩
theorem io_gt : OpR X (compareOp .Gt) (r2O P (int2 fun i j => some (.bl (decide (j < i))))) := op_int2 op_gt fun i j d H Q hg q => ⟨i, j, rfl, rfl, q _ fun F => by cases hg; exact is_bl⟩
theorem io_ge : OpR X (compareOp .GtE) (r2O P (int2 fun i j => some (.bl (decide (j ≤ i))))) := op_int2 op_ge fun i j d H Q hg q => ⟨i, j, rfl, rfl, q _ fun F => by cases hg; exact is_bl⟩
def negC : D → Option D
  | .int i => some (.int (-i))
  | _ => none
theorem io_neg : UnR X (unaryOp .USub) (r1O P negC) := fun pins s σ H x u Q I rx ⟨F, dx, d, e, i1, hd, q⟩ => by
  cases dx with
  | int i =>
    have e1 : x = .int i := i1
    subst e1
    cases hd
    exact un_neg pins s σ H _ u Q I rx ⟨i, rfl, q.int e⟩
  | _ => cases hd
/-! ### a[b] of lists, tuples, texts -/
def itemD : D → D → Option D
  | .lst xs, .int i => atI xs i
  | .tup xs, .int i => atI xs i
  | .str z, .int i => if z.length ≤ 1000000 then (atI z.cps.toList i).map fun c => .str ⟨#[c]⟩ else none
  | _, _ => none
theorem IsL.atI {ds : List D} {vs : List V} {i : Int} {d : D} (h : IsL P F ds vs) (e : atI ds i = some d) : ∃ v, L2.atI vs i = some v ∧ Is P F d v := by
  unfold L2.atI at e ⊢
  rw [h.length] at e
  cases q : ixN vs.length i with
  | none =>
    rw [q] at e
    cases e
  | some j =>
    rw [q] at e
    exact h.get e
theorem pd_ix (ha : PE X a (tV P F0 H0 W fa)) (hb : PE X b (tV P F0 H0 W fb)) (hs : PlainIx b) : PE X (.Subscript a b pos) (tE P F0 H0 W (fun ρ => do let x ← fa ρ; let y ← fb ρ; opt (itemD x y))) :=
  (pe_ix ix_seq ha hb hs).imp fun σ H Q z => by
  obtain ⟨F, ρ, er, z⟩ := two_of z
  refine ⟨F, ρ, er, z.imp fun x H1 ⟨F1, ρ1, er1, z1⟩ => ⟨F1, ρ1, er1, z1.imp ?_⟩⟩
  rintro y H2 ⟨F2, dx, dy, s2, i1, i2, z2⟩
  obtain ⟨d, hd, q⟩ := opt_of z2
  unfold itemD at hd
  split at hd
  · obtain ⟨p, vs, rfl, h1, h2⟩ := i1
    obtain ⟨v, h3, h4⟩ := h2.atI hd
    exact .inl ⟨p, vs, _, v, rfl, i2, .inl h1, h3, Out.here q s2 h4⟩
  · obtain ⟨p, vs, rfl, h0, h1, h2⟩ := i1
    obtain ⟨v, h3, h4⟩ := h2.atI hd
    exact .inr (.inl ⟨p, vs, _, v, rfl, i2, .inl h1, h3, Out.here q s2 h4⟩)
  · rename_i z i
    split at hd
    · rename_i hl
      cases hc : atI z.cps.toList i with
      | none =>
        rw [hc] at hd
        cases hd
      | some ch =>
        rw [hc] at hd
        cases hd
        exact .inr (.inr ⟨z, i, ch, i1, i2, Nat.le_trans hl (by decide), hc, Out.str q s2⟩)
    · cases hd
  · cases hd
/-! ### o.f -/
def fldD (nm : Nat → List Str) (f : Str) : D → Option D
  | .obj c xs => ((nm c).zip xs).lookup f
  | _ => none
theorem IsL.lookup {f : Str} {d : D} : ∀ {ks : List Str} {ds : List D} {vs : List V}, IsL P F ds vs → (ks.zip ds).lookup f = some d → ∃ v, (ks.zip vs).lookup f = some v ∧ Is P F d v
  | [], _, _, _, e => by simp at e
  | _ :: _, [], _, _, e => by simp at e
  | k :: ks, d0 :: ds, _, h, e => by
    rw [IsL] at h
    obtain ⟨v, r, rfl, h2, h3⟩ := h
    have e' : (match f == k with | true => some d0 | false => (ks.zip ds).lookup f) = some d := e
    show ∃ v', (match f == k with | true => some v | false => (ks.zip r).lookup f) = some v' ∧ _
    cases q : f == k with
    | true =>
      rw [q] at e'
      cases e'
      exact ⟨v, rfl, h2⟩
    | false =>
      rw [q] at e'
      exact IsL.lookup h3 e'
theorem pd_fld {fl : Str} (ha : PE X a (tV P F0 H0 W fa)) (hcl : ∀ c d, ((P.nm c).zip d).lookup fl ≠ (none : Option D) → Cls X.K (P.C c) ∧ NoAttr X.K (P.C c) fl) (hb : attributeBase a fl X.env (eval a X.env) = eval a X.env := by rfl) :
    PE X (.Attribute a fl pos) (tE P F0 H0 W (fun ρ => do let x ← fa ρ; opt (fldD P.nm fl x))) := (pe_fld ha hb).imp fun σ H Q ⟨F, ρ, er, z⟩ => by
  refine ⟨F, ρ, er, (PostG.bind (rel := rVw P) z).imp ?_⟩
  rintro v H1 ⟨F1, d, g, i, q⟩
  obtain ⟨d', hd, q'⟩ := opt_of q
  cases d with
  | obj c xs =>
    have hd' : ((P.nm c).zip xs).lookup fl = some d' := hd
    obtain ⟨p, dx, vs, rfl, h1, h2, h3⟩ := i
    obtain ⟨v, h4, h5⟩ := h3.lookup hd'
    obtain ⟨k1, k2⟩ := hcl c xs (by rw [hd']; simp)
    exact ⟨p, _, dx, _, v, rfl, h1, k1, k2, h4, Out.here q' g.s h5⟩
  | _ => cases hd
/-! ### calls of built-ins -/
variable {rc : List D → Option D}
theorem pd_callB (hc : CallR X (.builtin id) (rcO P rc)) (hg : Gl X x) (hm : X.mg x = none) (hv : bootBuiltins x = some (.builtin id)) (ha : PA X (e :: es) (tW P F0 H0 W fs)) (hn : x ≠ "__name__" := by decide) (hdb : (x == ("__debug__" : Str)) = false := by decide)
    (he : starEach (e :: es) X.env = (false, eval e X.env) :: starEach es X.env := by rfl) (hpl : (backTo pos (starEach es X.env)).any (·.1) = false := by rfl) : PE X (.Call (.Name x p) (e :: es) [] pos) (tE P F0 H0 W (fun ρ => do let xs ← fs ρ; opt (rc xs))) :=
  (pe_callB hc hg hm hv ha hn hdb he hpl).imp fun σ H Q ⟨F, ρ, er, z⟩ => by
  refine ⟨F, ρ, er, (PostG.bind (rel := rVs P) z).imp ?_⟩
  rintro vs H1 ⟨F1, ds, g, i, q⟩
  obtain ⟨d, hd, q⟩ := opt_of q
  exact ⟨F1, ds, d, g.s, i, hd, q⟩
theorem pd_callTy (hc : CallR X (.type T) (rcO P rc)) (hg : Gl X x) (hm : X.mg x = none) (hv : bootBuiltins x = some (.type T)) (ha : PA X (e :: es) (tW P F0 H0 W fs)) (hn : x ≠ "__name__" := by decide) (hdb : (x == ("__debug__" : Str)) = false := by decide)
    (he : starEach (e :: es) X.env = (false, eval e X.env) :: starEach es X.env := by rfl) (hpl : (backTo pos (starEach es X.env)).any (·.1) = false := by rfl) : PE X (.Call (.Name x p) (e :: es) [] pos) (tE P F0 H0 W (fun ρ => do let xs ← fs ρ; opt (rc xs))) :=
  (pe_callTy hc hg hm hv ha hn hdb he hpl).imp fun σ H Q ⟨F, ρ, er, z⟩ => by
  refine ⟨F, ρ, er, (PostG.bind (rel := rVs P) z).imp ?_⟩
  rintro vs H1 ⟨F1, ds, g, i, q⟩
  obtain ⟨d, hd, q⟩ := opt_of q
  exact ⟨F1, ds, d, g.s, i, hd, q⟩
end
end DL
namespace DL
open PySem L2

/-! ### statements -/
inductive RS where
  | nx (ρ : Env) | rt (d : D) | bk (ρ : Env) | ct (ρ : Env) | err (c : Nat) (p : Option D) (ρ : Env) | bad
def PostS (P : Pm) (F0 : Fz) (H0 : Hp) (W : WX) (F : Hp) (r : RS) (N : Ends) : Prop :=
  match r with
  | .nx ρ => ∀ σ F' H', ER P F0 H0 F' ρ σ H' → Ex F F' → N.nx σ H'
  | .rt d => ∀ v F' H', Grow P F0.F H0 F' H' → Ex F F' → Is P F' d v → N.rt v H'
  | .bk ρ => ∀ σ F' H', ER P F0 H0 F' ρ σ H' → Ex F F' → N.bk σ H'
  | .ct ρ => ∀ σ F' H', ER P F0 H0 F' ρ σ H' → Ex F F' → N.ct σ H'
  | .err c p ρ => ∀ σ F' H' x, ER P F0 H0 F' ρ σ H' → Ex F F' → ErrAt P F' H' c p x → W (P.xc c) x σ H'
  | .bad => False
def tS (P : Pm) (F0 : Fz) (H0 : Hp) (W : WX) (g : Env → RS) : TS := fun N σ H => ∃ F ρ, ER P F0 H0 F ρ σ H ∧ PostS P F0 H0 W F (g ρ) N
def bindS {α : Type} (r : Res α) (ρ : Env) (k : α → RS) : RS := match r with
  | .ok a => k a
  | .err c p => .err c p ρ
  | .bad => .bad
def seqS (r : RS) (k : Env → RS) : RS := match r with
  | .nx ρ => k ρ
  | r => r
section
variable {P : Pm} {F0 : Fz} {H0 F F1 H H1 : Hp} {W : WX} {σ : St} {ρ : Env} {N : Ends}
theorem PostS.shift {r : RS} (h : PostS P F0 H0 W F r N) (e : Ex F F1) : PostS P F0 H0 W F1 r N := by
  cases r with
  | nx ρ => exact fun σ F' H' er x => h σ F' H' er (e.trans x)
  | rt d => exact fun v F' H' g x i => h v F' H' g (e.trans x) i
  | bk ρ => exact fun σ F' H' er x => h σ F' H' er (e.trans x)
  | ct ρ => exact fun σ F' H' er x => h σ F' H' er (e.trans x)
  | err c p ρ => exact fun σ F' H' y er x q => h σ F' H' y er (e.trans x) q
  | bad => exact h
theorem PostS.bind {α β : Type} {rel : Rel α β} {r : Res α} {k : α → RS} (er : ER P F0 H0 F ρ σ H) (h : PostS P F0 H0 W F (bindS r ρ k) N) :
    PostG P W rel r F σ H (fun v H1 => ∃ F1 a, Grow P F H F1 H1 ∧ rel F1 H1 a v ∧ PostS P F0 H0 W F1 (k a) N) := by
  cases r with
  | ok a => exact fun v F' H' g q => ⟨F', a, g, q, PostS.shift (r := k a) h g.f⟩
  | err c p => exact fun F' H' x g q => h σ F' H' x (er.grow g) g.f q
  | bad => exact h
end
section
variable {X : Cx} {P : Pm} {F0 : Fz} {H0 : Hp} {W : WX} {a b c e o : Expr} {es : List Expr} {fa fb fc : Env → Res D} {gc : Env → Res Bool} {fs : Env → Res (List D)} {pos p apos : Pos} {st : Stmt} {sts tts : List Stmt} {g g1 g2 : Env → RS}
theorem sd_nil : PSs X [] (tS P F0 H0 W .nx) := pss_nil.imp fun N σ H ⟨F, ρ, er, z⟩ => z σ F H er (.refl F)
theorem PostS.seq {F : Hp} {r : RS} {N : Ends} (z : PostS P F0 H0 W F (seqS r g2) N) : PostS P F0 H0 W F r { N with nx := tS P F0 H0 W g2 N } := by
  cases r with
  | nx ρ' => exact fun σ' F' H' er' x => ⟨F', ρ', er', PostS.shift (r := g2 ρ') z x⟩
  | rt d => exact z
  | bk ρ' => exact z
  | ct ρ' => exact z
  | err c p ρ' => exact z
  | bad => exact z
theorem sd_cons (h1 : PS X st (tS P F0 H0 W g1)) (h2 : PSs X sts (tS P F0 H0 W g2)) : PSs X (st :: sts) (tS P F0 H0 W (fun ρ => seqS (g1 ρ) g2)) := (pss_cons h1 h2).imp fun N σ H ⟨F, ρ, er, z⟩ =>
  ⟨F, ρ, er, PostS.seq (r := g1 ρ) z⟩
theorem sd_one (h1 : PS X st (tS P F0 H0 W g1)) : PSs X [st] (tS P F0 H0 W g1) := pss_one h1
theorem sd_pass : PS X (.Pass pos) (tS P F0 H0 W .nx) := ps_pass.imp fun N σ H ⟨F, ρ, er, z⟩ => z σ F H er (.refl F)
theorem sd_break : PS X (.Break pos) (tS P F0 H0 W .bk) := ps_break.imp fun N σ H ⟨F, ρ, er, z⟩ => z σ F H er (.refl F)
theorem sd_cont : PS X (.Continue pos) (tS P F0 H0 W .ct) := ps_continue.imp fun N σ H ⟨F, ρ, er, z⟩ => z σ F H er (.refl F)
theorem sd_ret (h : PE X e (tE P F0 H0 W fa)) : PS X (.Return (some e) pos) (tS P F0 H0 W (fun ρ => bindS (fa ρ) ρ .rt)) := (ps_ret h).imp fun N σ H ⟨F, ρ, er, z⟩ => by
  refine ⟨F, ρ, er, (PostS.bind (rel := rIs P) er z).imp ?_⟩
  rintro v H1 ⟨F1, d, g, i, q⟩
  exact q v F1 H1 (er.g.trans g) (.refl F1) i
theorem sd_expr (h : PE X e (tE P F0 H0 W fa)) (hs : swapsWith e none pos.line X.env = pure false := by rfl) : PS X (.Expr e pos) (tS P F0 H0 W (fun ρ => bindS (fa ρ) ρ fun _ => .nx ρ)) := (ps_expr h hs).imp fun N σ H ⟨F, ρ, er, z⟩ => by
  refine ⟨F, ρ, er, (PostS.bind (rel := rIs P) er z).imp ?_⟩
  rintro v H1 ⟨F1, d, g, i, q⟩
  exact q σ F1 H1 (er.grow g) (.refl F1)
theorem sd_if (hc : PT X c (tT P F0 H0 W gc)) (h1 : PSs X sts (tS P F0 H0 W g1)) (h2 : PSs X tts (tS P F0 H0 W g2)) : PS X (.If c sts tts pos) (tS P F0 H0 W (fun ρ => bindS (gc ρ) ρ fun k => if k = true then g1 ρ else g2 ρ)) :=
  (ps_if hc h1 h2).imp fun N σ H ⟨F, ρ, er, z⟩ => by
  refine ⟨F, ρ, er, (PostS.bind (rel := rBo) er z).imp ?_⟩
  rintro v H1 ⟨F1, d, g, i, q⟩
  subst i
  split
  · rename_i hv
    rw [if_pos hv] at q
    exact ⟨F1, ρ, er.grow g, q⟩
  · rename_i hv
    rw [if_neg hv] at q
    exact ⟨F1, ρ, er.grow g, q⟩
theorem sd_set {i : Nat} {x : Str} {pos' : Pos} (hN : X.N.Nodup) (hi : X.N[i]? = some x) (hx : Loc X.env.scope x) (he : PE X e (tE P F0 H0 W fa)) (hs : swapsWith e (some (.Name x pos')) pos.line X.env = pure false := by rfl) (hi0 : F0.S = none ∨ i ≠ 0 := by first | exact Or.inl rfl | exact Or.inr (by decide)) (hf : X.fn x = true ∨ X.env.scope.names.lookup x = some .local := by first | exact .inl rfl | exact .inr rfl | assumption) :
    PS X (.Assign [.Name x pos'] e pos) (tS P F0 H0 W (fun ρ => bindS (fa ρ) ρ fun d => .nx (ρ.set i (some (.sh d))))) := (ps_set hN hi hx he hs hf).imp fun N σ H ⟨F, ρ, er, z⟩ => by
  refine ⟨F, ρ, er, (PostS.bind (rel := rIs P) er z).imp ?_⟩
  rintro v H1 ⟨F1, d, g, j, q⟩
  exact q _ F1 H1 ((er.grow g).put i j hi0) (.refl F1)
/-! ### while -/
/-- a turn has ended -/
def loopK (r : RS) (k : Env → RS) : RS := match r with
  | .nx ρ => k ρ
  | .ct ρ => k ρ
  | .bk ρ => .nx ρ
  | r => r
def whileD (gc : Env → Res Bool) (gb : Env → RS) : Nat → Env → RS
  | 0, _ => .bad
  | n + 1, ρ => bindS (gc ρ) ρ fun k => if k = true then loopK (gb ρ) (whileD gc gb n) else .nx ρ
theorem PostS.loop {F : Hp} {r : RS} {k : Env → RS} {N : Ends} (z : PostS P F0 H0 W F (loopK r k) N) :
    PostS P F0 H0 W F r { N with nx := fun σ H => ∃ F' ρ, ER P F0 H0 F' ρ σ H ∧ Ex F F' ∧ PostS P F0 H0 W F' (k ρ) N, ct := fun σ H => ∃ F' ρ, ER P F0 H0 F' ρ σ H ∧ Ex F F' ∧ PostS P F0 H0 W F' (k ρ) N, bk := N.nx } := by
  cases r with
  | nx ρ' => exact fun σ' F' H' er' x => ⟨F', ρ', er', x, PostS.shift (r := k ρ') z x⟩
  | rt d => exact z
  | bk ρ' => exact z
  | ct ρ' => exact fun σ' F' H' er' x => ⟨F', ρ', er', x, PostS.shift (r := k ρ') z x⟩
  | err c p ρ' => exact z
  | bad => exact z
theorem sd_while (n : Nat) (hp : PassesOwn (model X.prog X.w) X.A X.env X.xe) (hc : PT X c (tT P F0 H0 W gc)) (hb : PSs X sts (tS P F0 H0 W g)) : PS X (.While c sts [] pos) (tS P F0 H0 W (whileD gc g n)) :=
  (ps_while hp hc hb).imp fun N σ H h => by
  refine ⟨fun m σ H => ∃ F ρ, ER P F0 H0 F ρ σ H ∧ PostS P F0 H0 W F (whileD gc g m ρ) N, ⟨n, h⟩, ?_⟩
  rintro m σ H ⟨F, ρ, er, z⟩
  cases m with
  | zero => exact z.elim
  | succ m =>
    refine ⟨F, ρ, er, (PostS.bind (rel := rBo) er z).imp ?_⟩
    rintro v H1 ⟨F1, d, gr, i, q⟩
    subst i
    split
    · rename_i hv
      rw [if_pos hv] at q
      refine ⟨fun σ H => ∃ F ρ, ER P F0 H0 F ρ σ H ∧ Ex F1 F ∧ PostS P F0 H0 W F (whileD gc g m ρ) N, fun σ' H' ⟨F', ρ', er', _, n'⟩ => ⟨m, Nat.lt_succ_self m, F', ρ', er', n'⟩, F1, ρ, er.grow gr, ?_⟩
      exact PostS.loop q
    · rename_i hv
      rw [if_neg hv] at q
      exact q σ F1 H1 (er.grow gr) (.refl F1)
/-! ### targets -/
def tGt (P : Pm) (F0 : Fz) (H0 : Hp) (vs : List Nat) (h : D → Env → Option Env) : TG := fun v σ H Q => ∃ F ρ d ρ', ER P F0 H0 F ρ σ H ∧ Is P F d v ∧ h d ρ = some ρ' ∧ ∀ σ', ER P F0 H0 F ρ' σ' H → wipe σ' vs = wipe σ vs → Q σ' H
def tGts (P : Pm) (F0 : Fz) (H0 : Hp) (us : List Nat) (h : List D → Env → Option Env) : TGs := fun vs σ H Q => ∃ F ρ ds ρ', ER P F0 H0 F ρ σ H ∧ IsL P F ds vs ∧ h ds ρ = some ρ' ∧ ∀ σ', ER P F0 H0 F ρ' σ' H → wipe σ' us = wipe σ us → Q σ' H
def hName (i : Nat) : D → Env → Option Env := fun d ρ => some (ρ.set i (some (.sh d)))
def hNil : List D → Env → Option Env := fun ds ρ => match ds with
  | [] => some ρ
  | _ => none
def hCons (h : D → Env → Option Env) (hs : List D → Env → Option Env) : List D → Env → Option Env := fun ds ρ => match ds with
  | d :: r => (h d ρ).bind (hs r)
  | [] => none
def hTup (hs : List D → Env → Option Env) : D → Env → Option Env := fun d ρ => match d with
  | .tup ds => hs ds ρ
  | _ => none
variable {h : D → Env → Option Env} {hs : List D → Env → Option Env} {us : List Nat}
theorem wipe_set {σ : St} {i : Nat} {v : Option V} : ∀ {us : List Nat}, i ∈ us → wipe (σ.set i v) us = wipe σ us
  | u :: us, h => by
    by_cases q : i ∈ us
    · show (wipe (σ.set i v) us).set u none = (wipe σ us).set u none
      rw [wipe_set q]
    · have e : i = u := by
        rcases List.mem_cons.mp h with z | z
        · exact z
        · exact absurd z q
      subst e
      show (wipe (σ.set i v) us).set i none = (wipe σ us).set i none
      have k : ∀ (us : List Nat), wipe (σ.set i v) us = wipe σ us ∨ wipe (σ.set i v) us = (wipe σ us).set i v := by
        intro us
        induction us with
        | nil => exact .inr rfl
        | cons w ws ih =>
          show (wipe (σ.set i v) ws).set w none = (wipe σ ws).set w none ∨ (wipe (σ.set i v) ws).set w none = ((wipe σ ws).set w none).set i v
          rcases ih with z | z
          · exact .inl (by rw [z])
          · by_cases hw : w = i
            · subst hw
              exact .inl (by rw [z, List.set_set])
            · exact .inr (by rw [z, List.set_comm _ _ (fun q => hw q.symm)])
      rcases k us with z | z
      · rw [z]
      · rw [z, List.set_set]
theorem _root_.L2.PG.imp {t t' : TG} (h : PG X e t) (q : ∀ v σ H Q, t' v σ H Q → t v σ H Q) : PG X e t' := ⟨fun pins s σ H v u Q I r z => h.run pins s σ H v u Q I r (q v σ H Q z)⟩
theorem _root_.L2.PGs.imp {t t' : TGs} (h : PGs X es t) (q : ∀ v σ H Q, t' v σ H Q → t v σ H Q) : PGs X es t' := ⟨fun pins s σ H v u Q I r z => h.run pins s σ H v u Q I r (q v σ H Q z)⟩
theorem gd_name {us : List Nat} {i : Nat} {x : Str} (hN : X.N.Nodup) (hi : X.N[i]? = some x) (hx : Loc X.env.scope x) (hu : i ∈ us := by decide) (hi0 : F0.S = none ∨ i ≠ 0 := by first | exact Or.inl rfl | exact Or.inr (by decide)) (hf : X.fn x = true ∨ X.env.scope.names.lookup x = some .local := by first | exact .inl rfl | exact .inr rfl | assumption) : PG X (.Name x pos) (tGt P F0 H0 us (hName i)) :=
  (pg_name hN hi hx hf).imp fun v σ H Q ⟨F, ρ, d, ρ', er, i1, e, q⟩ => by
  cases e
  exact q _ (er.put i i1 hi0) (wipe_set hu)
theorem gd_nil : PGs X [] (tGts P F0 H0 us hNil) := pgs_nil.imp fun vs σ H Q ⟨F, ρ, ds, ρ', er, i1, e, q⟩ => by
  cases ds with
  | nil =>
    rw [IsL] at i1
    cases e
    exact ⟨i1, q _ er rfl⟩
  | cons d r => cases e
theorem gd_cons (h1 : PG X e (tGt P F0 H0 us h)) (h2 : PGs X es (tGts P F0 H0 us hs)) (hq : (assignEach (e :: es) X.env).map (·.2) = assign e X.env :: (assignEach es X.env).map (·.2) := by rfl) : PGs X (e :: es) (tGts P F0 H0 us (hCons h hs)) :=
  (pgs_cons h1 h2 hq).imp fun vs σ H Q ⟨F, ρ, ds, ρ', er, i1, e, q⟩ => by
  cases ds with
  | nil => cases e
  | cons d r =>
    rw [IsL] at i1
    obtain ⟨v, r', rfl, i2, i3⟩ := i1
    have e' : (h d ρ).bind (hs r) = some ρ' := e
    cases hd : h d ρ with
    | none =>
      rw [hd] at e'
      cases e'
    | some ρ1 =>
      rw [hd] at e'
      exact ⟨v, r', rfl, F, ρ, d, ρ1, er, i2, hd, fun σ' er' w1 => ⟨F, ρ1, r, ρ', er', i3, e', fun σ2 er2 w2 => q σ2 er2 (w2.trans w1)⟩⟩
theorem gd_tup {k n : Nat} (hc : X.calm = true) (h : PGs X es (tGts P F0 H0 us hs)) (hn : (assignEach es X.env).length = n := by rfl) (hst : (assignEach es X.env).findIdx? (·.1) = none := by rfl) :
    PG X (.Tuple es k pos) (tGt P F0 H0 us (hTup fun ds ρ => if ds.length = n then hs ds ρ else none)) := (pg_tup hc h hn hst).imp fun v σ H Q ⟨F, ρ, d, ρ', er, i1, e, q⟩ => by
  cases d with
  | tup ds =>
    have e' : (if ds.length = n then hs ds ρ else none) = some ρ' := e
    split at e'
    · rename_i hl
      rw [Is] at i1
      obtain ⟨a, vs, rfl, h1, h2⟩ := i1
      exact ⟨a, vs, rfl, .inl (er.s.rd h1), by rw [← h2.length]; exact hl, F, ρ, ds, ρ', er, h2, e', q⟩
    · cases e'
  | _ => cases e
/-! ### for -/
def ItD (P : Pm) : Rel (List D) It := fun F _ items J => ∀ i F1 H1, Ex F F1 → Sb P F1 H1 →
  (∀ d, items[i]? = some d → J.go i H1 ∧ ∀ x H2, J.yld i H1 x H2 → ∃ F2, Grow P F1 H1 F2 H2 ∧ Is P F2 d x) ∧ (items.length ≤ i → J.stop i H1)
def tI (P : Pm) (F0 : Fz) (H0 : Hp) (W : WX) (f : Env → Res (List D)) : TI := fun σ H R => ∃ F ρ, ER P F0 H0 F ρ σ H ∧ PostG P W (ItD P) (f ρ) F σ H R
def forD (h : D → Env → Option Env) (gb : Env → RS) : List D → Env → RS
  | [], ρ => .nx ρ
  | d :: r, ρ => match h d ρ with
    | none => .bad
    | some ρ1 => loopK (gb ρ1) (forD h gb r)
theorem sd_for {tg iter : Expr} {fi : Env → Res (List D)} (hp : PassesOwn (model X.prog X.w) X.A X.env X.xe) (hc : X.calm = true) (hi : PI X tg iter (tI P F0 H0 W fi)) (hg : PG X tg (tGt P F0 H0 us h)) (hb : PSs X sts (tS P F0 H0 W g))
    (hs : ∀ x, foldedSetIterable iter X.env x = pure x := by intro _; rfl) : PS X (.For tg iter sts [] pos) (tS P F0 H0 W (fun ρ => bindS (fi ρ) ρ fun items => forD h g items ρ)) :=
  (ps_for hp hc hi hg hb hs).imp fun N σ H ⟨F, ρ, er, z⟩ => by
  refine ⟨F, ρ, er, (PostS.bind (rel := ItD P) er z).imp ?_⟩
  rintro J H1 ⟨FJ, items, gr, hJ, q⟩
  refine ⟨fun i m σ H => m = items.length - i ∧ ∃ F ρ, ER P F0 H0 F ρ σ H ∧ Ex FJ F ∧ PostS P F0 H0 W F (forD h g (items.drop i) ρ) N, ⟨_, rfl, FJ, ρ, er.grow gr, .refl FJ, q⟩, ?_⟩
  rintro i m σ H ⟨rfl, F, ρ, er, ej, q⟩
  obtain ⟨j1, j2⟩ := hJ i F H ej er.s
  rcases Nat.lt_or_ge i items.length with hi | hi
  · obtain ⟨k1, k2⟩ := j1 items[i] (List.getElem?_eq_getElem hi)
    rw [List.drop_eq_getElem_cons hi] at q
    cases hh : h items[i] ρ with
    | none =>
      have q3 : PostS P F0 H0 W F (match h items[i] ρ with | none => .bad | some ρ1 => loopK (g ρ1) (forD h g (items.drop (i + 1)))) N := q
      rw [hh] at q3
      exact q3.elim
    | some ρ1 =>
      have q3 : PostS P F0 H0 W F (match h items[i] ρ with | none => .bad | some ρ1 => loopK (g ρ1) (forD h g (items.drop (i + 1)))) N := q
      rw [hh] at q3
      replace q3 : PostS P F0 H0 W F (loopK (g ρ1) (forD h g (items.drop (i + 1)))) N := q3
      refine .inr ⟨k1, fun σ H => ∃ F2 ρ, ER P F0 H0 F2 ρ σ H ∧ Ex F F2 ∧ PostS P F0 H0 W F2 (forD h g (items.drop (i + 1)) ρ) N, fun σ' H' ⟨F', ρ', er', x, n'⟩ => ⟨items.length - (i + 1), by omega, rfl, F', ρ', er', ej.trans x, n'⟩, ?_⟩
      intro x H2 hy
      obtain ⟨F2, g2, i2⟩ := k2 x H2 hy
      refine ⟨F2, ρ, items[i], ρ1, er.grow g2, i2, hh, fun σ' er' _ => ⟨F2, ρ1, er', ?_⟩⟩
      have q4 := PostS.loop (q3.shift g2.f)
      cases hg : g ρ1 with
      | nx ρ' =>
        rw [hg] at q4
        exact fun σ' F' H' er' y => by
          obtain ⟨F3, ρ3, e3, x3, z3⟩ := q4 σ' F' H' er' y
          exact ⟨F3, ρ3, e3, g2.f.trans x3, z3⟩
      | ct ρ' =>
        rw [hg] at q4
        exact fun σ' F' H' er' y => by
          obtain ⟨F3, ρ3, e3, x3, z3⟩ := q4 σ' F' H' er' y
          exact ⟨F3, ρ3, e3, g2.f.trans x3, z3⟩
      | bk ρ' =>
        rw [hg] at q4
        exact q4
      | rt d =>
        rw [hg] at q4
        exact q4
      | err c p ρ' =>
        rw [hg] at q4
        exact q4
      | bad =>
        rw [hg] at q4
        exact q4
  · rw [List.drop_eq_nil_of_le hi] at q
    exact .inl ⟨j2 hi, q σ F H er (.refl F)⟩
end
end DL
namespace DL
open PySem L2

/-! ### a def by its body -/
def env0 (n : Nat) (ds : List D) : Env := ds.map (fun d => some (.sh d)) ++ List.replicate (n - ds.length) none
def runB (g : Env → RS) (n : Nat) (ds : List D) : Res D := match g (env0 n ds) with
  | .rt d => .ok d
  | .nx _ => .ok .non
  | .err c p _ => .err c p
  | _ => .bad
section
variable {P : Pm} {F H : Hp} {N : List Str} {ds : List D} {vs : List V}
theorem er_start (s : Sb P F H) (i : IsL P F ds vs) : ER P ⟨F, none⟩ H F (env0 N.length ds) (L2.start N vs) H where
  g := .refl s
  self := fun x hx => by cases hx
  len := by
    unfold env0 L2.start
    simp [i.length]
  sh := fun j d e => by
    unfold env0 at e
    unfold L2.start
    have hj : j < ds.length := by
      rcases Nat.lt_or_ge j ds.length with q | q
      · exact q
      · rw [List.getElem?_append_right (by simpa using q)] at e
        rw [List.getElem?_replicate] at e
        split at e <;> cases e
    rw [List.getElem?_append_left (by simpa using hj), List.getElem?_map] at e
    cases hd : ds[j]? with
    | none =>
      rw [hd] at e
      cases e
    | some d' =>
      rw [hd] at e
      cases e
      obtain ⟨v, h1, h2⟩ := i.get hd
      refine ⟨v, ?_, h2⟩
      rw [List.getElem?_append_left (by simpa [← i.length] using hj), List.getElem?_map, h1]
      rfl
  bw := fun j d e => by
    unfold env0 at e
    exfalso
    rcases Nat.lt_or_ge j ds.length with q | q
    · rw [List.getElem?_append_left (by simpa using q), List.getElem?_map] at e
      cases hd : ds[j]? with
      | none =>
        rw [hd] at e
        cases e
      | some d' =>
        rw [hd] at e
        cases e
    · rw [List.getElem?_append_right (by simpa using q)] at e
      rw [List.getElem?_replicate] at e
      split at e <;> cases e
  ow := fun j d e => by
    unfold env0 at e
    exfalso
    rcases Nat.lt_or_ge j ds.length with q | q
    · rw [List.getElem?_append_left (by simpa using q), List.getElem?_map] at e
      cases hd : ds[j]? with
      | none =>
        rw [hd] at e
        cases e
      | some d' =>
        rw [hd] at e
        cases e
    · rw [List.getElem?_append_right (by simpa using q)] at e
      rw [List.getElem?_replicate] at e
      split at e <;> cases e
  nd := fun j k d e a h1 => by
    unfold env0 at h1
    exfalso
    rcases Nat.lt_or_ge j ds.length with q | q
    · rw [List.getElem?_append_left (by simpa using q), List.getElem?_map] at h1
      cases hd : ds[j]? with
      | none =>
        rw [hd] at h1
        cases h1
      | some d' =>
        rw [hd] at h1
        cases h1
    · rw [List.getElem?_append_right (by simpa using q)] at h1
      rw [List.getElem?_replicate] at h1
      split at h1 <;> cases h1
end
section
variable {prog : Program} {w : World} {K : PySem.W.Frag} {mg : Str → Option Value} {base : Heap} {P : Pm}
theorem fnd {x qual : Str} {st : Stmt} {f : Addr} {fd : FuncData} {N ps : List Str} {k : Nat} {g : Env → RS} (Fu : Fun K x qual st f fd) (S : FnScope N ps (defScope st))
    (hbody : ∀ (cdv : Value) (A : Around) (outer : List PySem.Env) (s : Shared) (H F0 : Hp) (E : XK), Room k (A.deeper (PyProof.Rows.envOfC qual (defScope st) s.heap.objs.size f cdv)) →
      PSs (cxOf (L2.CX prog w) prog w K mg base N qual (defScope st) f cdv A outer s H E) (defBody st) (tS P ⟨F0, none⟩ H (WE0 E) g)) :
    FnOk prog w K mg base (L2.CX prog w) (k + 1) f fd ps (spD P ps.length (runB g N.length)) := by
  refine Fu.okX S (fun vs H Q E ⟨F, ds, _, i, hl, _⟩ => by rw [← i.length]; exact hl) (fun cdv A outer s H vs Q E hr h => ?_)
  obtain ⟨F, ds, sx, i, hl, z⟩ := h
  refine ⟨_, hbody cdv A outer s H F E hr, F, env0 N.length ds, er_start sx i, ?_⟩
  unfold runB at z
  cases hg : g (env0 N.length ds) with
  | nx ρ =>
    rw [hg] at z
    exact fun σ F' H' er _ => z .non F' H' er.g is_non
  | rt d =>
    rw [hg] at z
    exact fun v F' H' gr _ i' => z v F' H' gr i'
  | bk ρ =>
    rw [hg] at z
    exact z.elim
  | ct ρ =>
    rw [hg] at z
    exact z.elim
  | err c p ρ =>
    rw [hg] at z
    exact fun σ F' H' y er _ q => z F' H' y er.g q
  | bad =>
    rw [hg] at z
    exact z.elim
/-! ### __init__ by its body: self is one's own -/
def env0I (c n : Nat) (ds : List D) : Env := some (.ow (.obj c [])) :: env0 (n - 1) ds
def selfF (c : Nat) : Env → Res (List D)
  | some (.ow (.obj c' xs)) :: _ => if c' = c then .ok xs else .bad
  | some (.sh (.obj c' xs)) :: _ => if c' = c then .ok xs else .bad
  | _ => .bad
def runI (c : Nat) (g : Env → RS) (n : Nat) (ds : List D) : Res (List D) := match g (env0I c n ds) with
  | .nx ρ => selfF c ρ
  | .err c p _ => .err c p
  | _ => .bad
theorem selfF_of {c : Nat} {ρ : Env} {xs : List D} (h : selfF c ρ = .ok xs) : ρ[0]? = some (some (.ow (.obj c xs))) ∨ ρ[0]? = some (some (.sh (.obj c xs))) := by
  unfold selfF at h
  split at h
  · split at h
    · rename_i q
      cases h
      subst q
      exact .inl rfl
    · cases h
  · split at h
    · rename_i q
      cases h
      subst q
      exact .inr rfl
    · cases h
  · cases h
theorem selfF_noerr {c : Nat} {ρ : Env} {e : Nat} {p : Option D} : selfF c ρ ≠ .err e p := by
  unfold selfF
  split <;> (try split) <;> (intro h; cases h)
theorem env0_nob {n j : Nat} {ds : List D} {d : D} (e : (env0 n ds)[j]? = some (some (.bw d))) : False := by
  unfold env0 at e
  rcases Nat.lt_or_ge j ds.length with q | q
  · rw [List.getElem?_append_left (by simpa using q), List.getElem?_map] at e
    cases hd : ds[j]? with
    | none =>
      rw [hd] at e
      cases e
    | some d' =>
      rw [hd] at e
      cases e
  · rw [List.getElem?_append_right (by simpa using q)] at e
    rw [List.getElem?_replicate] at e
    split at e <;> cases e
theorem er_startI {F H : Hp} {N : List Str} {ds : List D} {vs : List V} {x dx : Addr} {c : Nat} (hN : N ≠ []) (s : Sb P F H) (i : IsL P F ds vs) (hx : H x = some (.ins (P.C c) dx [])) (hf : F x = none) :
    ER P ⟨F, some x⟩ (minus H x) F (env0I c N.length ds) (L2.start N (.ref x :: vs)) H := by
  obtain ⟨n0, N', rfl⟩ : ∃ n0 N', N = n0 :: N' := by
    cases N with
    | nil => exact absurd rfl hN
    | cons a b => exact ⟨a, b, rfl⟩
  have e0 : L2.start (n0 :: N') (.ref x :: vs) = some (V.ref x) :: L2.start N' vs := by
    unfold L2.start
    simp
  have e1 : env0I c (n0 :: N').length ds = some (.ow (.obj c [])) :: env0 N'.length ds := rfl
  have er := er_start (N := N') s i
  rw [e0, e1]
  exact {
    g := ⟨.refl F, minus_ex.t, s, fun _ _ e => .inl e⟩
    self := fun y hy => by cases hy; rfl
    len := by simp [er.len]
    sh := fun j d e => by
      cases j with
      | zero => cases e
      | succ j => exact er.sh j d e
    bw := fun j d e => by
      exfalso
      cases j with
      | zero => cases e
      | succ j => exact env0_nob e
    ow := fun j d e => by
      cases j with
      | zero =>
        cases e
        exact ⟨x, rfl, .of minus_same, hf, dx, [], by simpa using hx, by simp, by rw [IsL]⟩
      | succ j =>
        obtain ⟨a, _, _, _, h4⟩ := er.ow j d e
        exfalso
        have := er.ow j d e
        obtain ⟨a, h1, h2, h3, h4⟩ := this
        obtain ⟨o, ho, hdo⟩ := h4.there
        exact h2.no ho (isD_T hdo)
    nd := fun j k d e a h1 h2 h3 h4 => by
      cases j with
      | zero =>
        cases k with
        | zero => rfl
        | succ k =>
          obtain ⟨a', q1, q2, q3, q4⟩ := er.ow k e h2
          obtain ⟨o, ho, hdo⟩ := q4.there
          exact (q2.no ho (isD_T hdo)).elim
      | succ j =>
        obtain ⟨a', q1, q2, q3, q4⟩ := er.ow j d h1
        obtain ⟨o, ho, hdo⟩ := q4.there
        exact (q2.no ho (isD_T hdo)).elim }
theorem fndI {c : Nat} {x qual : Str} {st : Stmt} {f : Addr} {fd : FuncData} {N ps : List Str} {k : Nat} {g : Env → RS} {n : Nat} (hn : ps.length = n + 1) (hN : N ≠ []) (Fu : Fun K x qual st f fd) (S : FnScope N ps (defScope st))
    (hbody : ∀ (cdv : Value) (A : Around) (outer : List PySem.Env) (s : Shared) (H F0 H0 : Hp) (x : Addr) (E : XK), Room k (A.deeper (PyProof.Rows.envOfC qual (defScope st) s.heap.objs.size f cdv)) →
      PSs (cxOf (L2.CX prog w) prog w K mg base N qual (defScope st) f cdv A outer s H E) (defBody st) (tS P ⟨F0, some x⟩ H0 (WE0 E) g)) :
    FnOk prog w K mg base (L2.CX prog w) (k + 1) f fd ps (spI P c n (runI c g N.length)) := by
  refine Fu.okX S (fun vs H Q E ⟨x, dx, args, F, ds, e, _, _, _, i, hl, _⟩ => by rw [e, List.length_cons, ← i.length, hl, hn]) (fun cdv A outer s H vs Q E hr h => ?_)
  obtain ⟨x, dx, args, F, ds, rfl, hx, hf, sx, i, hl, z⟩ := h
  refine ⟨_, hbody cdv A outer s H F (minus H x) x E hr, F, env0I c N.length ds, er_startI hN sx i hx hf, ?_⟩
  unfold runI at z
  cases hg : g (env0I c N.length ds) with
  | nx ρ =>
    rw [hg] at z
    intro σ F' H' er _
    replace z : PostG P (WE0 E) (fun F' _ fs v => v = .non ∧ Is P F' (.obj c fs) (.ref x)) (selfF c ρ) F [] (minus H x) Q := z
    have hx0 := er.self x rfl
    cases hs : selfF c ρ with
    | bad =>
      rw [hs] at z
      exact z.elim
    | err e p => exact absurd hs selfF_noerr
    | ok xs =>
      rw [hs] at z
      rcases selfF_of hs with q | q
      · obtain ⟨a, h1, h2, h3, h4⟩ := er.ow 0 _ q
        rw [hx0] at h1
        cases h1
        obtain ⟨F2, e1, e2, i2, n2⟩ := h4.still er.s h3
        refine z .non F2 H' ⟨er.g.f.trans e1, er.g.h, e2, fun b o hb => ?_⟩ ⟨rfl, i2⟩
        rcases n2 b o hb with y | y
        · exact er.g.n b o y
        · exact .inr (y ▸ .of minus_same)
      · obtain ⟨v, h1, h2⟩ := er.sh 0 _ q
        rw [hx0] at h1
        cases h1
        exact z .non F' H' er.g ⟨rfl, h2⟩
  | rt d =>
    rw [hg] at z
    exact z.elim
  | bk ρ =>
    rw [hg] at z
    exact z.elim
  | ct ρ =>
    rw [hg] at z
    exact z.elim
  | err e p ρ =>
    rw [hg] at z
    exact fun σ F' H' y er _ q => z F' H' y er.g q
  | bad =>
    rw [hg] at z
    exact z.elim
end
end DL
namespace DL
open PySem L2

section
variable {P : Pm} {F0 : Fz} {H0 F F' H H' : Hp} {ρ : Env} {σ : St}
theorem Own.at {a : Addr} (e : H' a = H a) : ∀ {d : D}, Own P F H a d → Own P F H' a d
  | .lst xs, ⟨vs, h1, h2⟩ => ⟨vs, e.trans h1, h2⟩
  | .dK ks xs, ⟨vs, h1, h2, h3⟩ => ⟨vs, e.trans h1, h2, h3⟩
  | .dT ks xs, ⟨vs, h1, h2, h3⟩ => ⟨vs, e.trans h1, h2, h3⟩
  | .obj c xs, ⟨dx, vs, h1, h2, h3⟩ => ⟨dx, vs, e.trans h1, h2, h3⟩
  | .non, h => h.elim
  | .bl _, h => h.elim
  | .int _, h => h.elim
  | .str _, h => h.elim
  | .tup _, h => h.elim
  | .scr _, h => h.elim
theorem lt_of_get {α : Type} {l : List α} {i : Nat} {x : α} (h : l[i]? = some x) : i < l.length := by
  rcases Nat.lt_or_ge i l.length with q | q
  · exact q
  · rw [List.getElem?_eq_none q] at h
    cases h
theorem IsL.unnil {vs : List V} (h : IsL P F [] vs) : vs = [] := by
  rw [IsL] at h
  exact h
theorem IsL.uncons {d : D} {ds : List D} {vs : List V} (h : IsL P F (d :: ds) vs) : ∃ v r, vs = v :: r ∧ Is P F d v ∧ IsL P F ds r := by
  rw [IsL] at h
  exact h
/-- a name gets a new object, one's own -/
theorem ER.putO (r : ER P F0 H0 F ρ σ H) (g : Grow P F H F' H') (i : Nat) {d : D} {p : Addr} (hp : NoD H p) (hf : F' p = none) (ho : Own P F' H' p d) (hi0 : F0.S = none ∨ i ≠ 0) :
    ER P F0 H0 F' (ρ.set i (some (.ow d))) (σ.set i (some (.ref p))) H' := by
  have r' := r.grow g
  exact {
    g := r'.g
    self := fun x hx => by
      rcases hi0 with q | q
      · rw [q] at hx
        cases hx
      · rw [List.getElem?_set_ne q]
        exact r.self x hx
    len := by simp [r.len]
    sh := fun j e q => by
      by_cases hj : i = j
      · subst hj
        have hl : i < ρ.length := by simpa using lt_of_get q
        rw [get_set_self hl] at q
        cases q
      · rw [List.getElem?_set_ne hj] at q
        rw [List.getElem?_set_ne hj]
        exact r'.sh j e q
    bw := fun j e q => by
      by_cases hj : i = j
      · subst hj
        have hl : i < ρ.length := by simpa using lt_of_get q
        rw [get_set_self hl] at q
        cases q
      · rw [List.getElem?_set_ne hj] at q
        rw [List.getElem?_set_ne hj]
        exact r'.bw j e q
    ow := fun j e q => by
      by_cases hj : i = j
      · subst hj
        have hl : i < ρ.length := by simpa using lt_of_get q
        rw [get_set_self hl] at q
        cases q
        exact ⟨p, get_set_self (r.len ▸ hl), r.g.h.backN hp, hf, ho⟩
      · rw [List.getElem?_set_ne hj] at q
        rw [List.getElem?_set_ne hj]
        exact r'.ow j e q
    nd := fun j k d' e' a q1 q2 q3 q4 => by
      by_cases hj : i = j
      · by_cases hk : i = k
        · exact hj.symm.trans hk
        · exfalso
          subst hj
          have hl : i < ρ.length := by simpa using lt_of_get q1
          rw [get_set_self (r.len ▸ hl)] at q3
          cases q3
          rw [List.getElem?_set_ne hk] at q2 q4
          obtain ⟨a', h1, h2, h3, h4⟩ := r.ow k e' q2
          rw [q4] at h1
          cases h1
          obtain ⟨o, h5, hdo⟩ := h4.there
          exact hp.no h5 (isD_T hdo)
      · by_cases hk : i = k
        · exfalso
          subst hk
          have hl : i < ρ.length := by simpa using lt_of_get q2
          rw [get_set_self (r.len ▸ hl)] at q4
          cases q4
          rw [List.getElem?_set_ne hj] at q1 q3
          obtain ⟨a', h1, h2, h3, h4⟩ := r.ow j d' q1
          rw [q3] at h1
          cases h1
          obtain ⟨o, h5, hdo⟩ := h4.there
          exact hp.no h5 (isD_T hdo)
        · rw [List.getElem?_set_ne hj] at q1 q3
          rw [List.getElem?_set_ne hk] at q2 q4
          exact r.nd j k d' e' a q1 q2 q3 q4 }
/-- an object of one's own is changed -/
theorem ER.mut (r : ER P F0 H0 F ρ σ H) {i : Nat} {d d' : D} {a : Addr} {o : HO} (hr : ρ[i]? = some (some (.ow d))) (hs : σ[i]? = some (some (.ref a))) (ho : Own P F (upd H a o) a d') :
    ER P F0 H0 F (ρ.set i (some (.ow d'))) σ (upd H a o) := by
  obtain ⟨a', h1, h2, h3, h4⟩ := r.ow i d hr
  rw [hs] at h1
  cases h1
  have hl := lt_of_get hr
  exact {
    g := by
      obtain ⟨u0, hu0, hd0⟩ := h4.there
      exact ⟨r.g.f, ⟨fun b u e n => by rw [upd_ne (h2.ne e n)]; exact r.g.h.at_ b u e n⟩, ⟨fun b u e => by rw [upd_ne (ne_of_none e h3)]; exact r.g.s.ex b u e, r.g.s.nt, Tabs.upd r.g.s.tabs hu0 hd0⟩, r.g.n⟩
    self := r.self
    len := by simp [r.len]
    sh := fun j e q => by
      by_cases hj : i = j
      · subst hj
        rw [get_set_self hl] at q
        cases q
      · rw [List.getElem?_set_ne hj] at q
        exact r.sh j e q
    bw := fun j e q => by
      by_cases hj : i = j
      · subst hj
        rw [get_set_self hl] at q
        cases q
      · rw [List.getElem?_set_ne hj] at q
        exact r.bw j e q
    ow := fun j e q => by
      by_cases hj : i = j
      · subst hj
        rw [get_set_self hl] at q
        cases q
        exact ⟨a, hs, h2, h3, ho⟩
      · rw [List.getElem?_set_ne hj] at q
        obtain ⟨b, k1, k2, k3, k4⟩ := r.ow j e q
        refine ⟨b, k1, k2, k3, k4.at (upd_ne fun z => ?_)⟩
        subst z
        exact hj (r.nd i j d e b hr q hs k1)
    nd := fun j k d1 e1 b q1 q2 q3 q4 => by
      by_cases hj : i = j
      · by_cases hk : i = k
        · exact hj.symm.trans hk
        · subst hj
          rw [List.getElem?_set_ne hk] at q2
          exact r.nd i k d e1 b hr q2 q3 q4
      · rw [List.getElem?_set_ne hj] at q1
        by_cases hk : i = k
        · subst hk
          exact r.nd j i d1 d b q1 hr q3 q4
        · rw [List.getElem?_set_ne hk] at q2
          exact r.nd j k d1 e1 b q1 q2 q3 q4 }
def frz (i : Nat) (ρ : Env) : Env := match ρ[i]? with
  | some (some (.ow d)) => ρ.set i (some (.sh d))
  | _ => ρ
/-- an object of one's own is kept still from now on -/
theorem ER.freeze (r : ER P F0 H0 F ρ σ H) (i : Nat) : ∃ F', Ex F F' ∧ ER P F0 H0 F' (frz i ρ) σ H := by
  unfold frz
  split
  · rename_i d q
    obtain ⟨a, h1, h2, h3, h4⟩ := r.ow i d q
    obtain ⟨F2, e1, e2, i2, n2⟩ := h4.still r.s h3
    have hl := lt_of_get q
    refine ⟨F2, e1, ?_⟩
    exact {
      g := ⟨r.g.f.trans e1, r.g.h, e2, fun b o hb => by
        rcases n2 b o hb with y | y
        · exact r.g.n b o y
        · exact .inr (y ▸ h2)⟩
      self := r.self
      len := by simp [r.len]
      sh := fun j e z => by
        by_cases hj : i = j
        · subst hj
          rw [get_set_self hl] at z
          cases z
          exact ⟨.ref a, h1, i2⟩
        · rw [List.getElem?_set_ne hj] at z
          obtain ⟨v, k1, k2⟩ := r.sh j e z
          exact ⟨v, k1, k2.mono e1 e⟩
      bw := fun j e z => by
        by_cases hj : i = j
        · subst hj
          rw [get_set_self hl] at z
          cases z
        · rw [List.getElem?_set_ne hj] at z
          exact r.bw j e z
      ow := fun j e z => by
        by_cases hj : i = j
        · subst hj
          rw [get_set_self hl] at z
          cases z
        · rw [List.getElem?_set_ne hj] at z
          obtain ⟨b, k1, k2, k3, k4⟩ := r.ow j e z
          refine ⟨b, k1, k2, ?_, k4.mono e1 (.refl H)⟩
          cases hb : F2 b with
          | none => rfl
          | some o =>
            rcases n2 b o hb with y | y
            · rw [k3] at y
              cases y
            · subst y
              exact absurd (r.nd i j d e b q z h1 k1) hj
      nd := fun j k d1 e1 b q1 q2 q3 q4 => by
        by_cases hj : i = j
        · subst hj
          rw [get_set_self hl] at q1
          cases q1
        · by_cases hk : i = k
          · subst hk
            rw [get_set_self hl] at q2
            cases q2
          · rw [List.getElem?_set_ne hj] at q1
            rw [List.getElem?_set_ne hk] at q2
            exact r.nd j k d1 e1 b q1 q2 q3 q4 }
  · exact ⟨F, .refl F, r⟩
end
section
variable {X : Cx} {P : Pm} {F0 : Fz} {H0 : Hp} {W : WX} {a b c e o : Expr} {es : List Expr} {fa fb fc : Env → Res D} {gc : Env → Res Bool} {fs : Env → Res (List D)} {pos p apos : Pos} {st : Stmt} {sts tts : List Stmt} {g g1 g2 : Env → RS}
theorem sd_frz (i : Nat) (h : PSs X sts (tS P F0 H0 W g)) : PSs X sts (tS P F0 H0 W (fun ρ => g (frz i ρ))) := h.imp fun N σ H ⟨F, ρ, er, z⟩ => by
  obtain ⟨F', e, er'⟩ := er.freeze i
  exact ⟨F', frz i ρ, er', PostS.shift (r := g (frz i ρ)) z e⟩
theorem sd_frz1 (i : Nat) (h : PS X st (tS P F0 H0 W g)) : PS X st (tS P F0 H0 W (fun ρ => g (frz i ρ))) := h.imp fun N σ H ⟨F, ρ, er, z⟩ => by
  obtain ⟨F', e, er'⟩ := er.freeze i
  exact ⟨F', frz i ρ, er', PostS.shift (r := g (frz i ρ)) z e⟩
/-- x = a new object, which will be changed by x -/
theorem sd_setN {i : Nat} {x : Str} {pos' : Pos} (hN : X.N.Nodup) (hi : X.N[i]? = some x) (hx : Loc X.env.scope x) (he : PE X e (tN P F0 H0 W fa)) (hs : swapsWith e (some (.Name x pos')) pos.line X.env = pure false := by rfl) (hi0 : F0.S = none ∨ i ≠ 0 := by first | exact Or.inl rfl | exact Or.inr (by decide)) (hf : X.fn x = true ∨ X.env.scope.names.lookup x = some .local := by first | exact .inl rfl | exact .inr rfl | assumption) :
    PS X (.Assign [.Name x pos'] e pos) (tS P F0 H0 W (fun ρ => bindS (fa ρ) ρ fun d => .nx (ρ.set i (some (.ow d))))) := (ps_set hN hi hx he hs hf).imp fun N σ H ⟨F, ρ, er, z⟩ => by
  refine ⟨F, ρ, er, ?_⟩
  refine (PostS.bind (rel := rNw P H) er z).imp ?_
  rintro v H1 ⟨F1, d, g, ⟨q, rfl, h1, h2, h3⟩, z⟩
  exact z _ F1 H1 (er.putO g i h1 h2 h3 hi0) (.refl F1)
/-- x.append(e) -/
def appD (i : Nat) (ρ : Env) (d : D) : RS := match ρ[i]? with
  | some (some (.ow (.lst xs))) => if small (xs.length + 1) = true then .nx (ρ.set i (some (.ow (.lst (xs ++ [d]))))) else .bad
  | _ => .bad
def isOw (i : Nat) (ρ : Env) : Res Unit := match ρ[i]? with
  | some (some (.ow (.lst _))) => .ok ()
  | _ => .bad
theorem isOw_cases (i : Nat) (ρ : Env) : (isOw i ρ = .bad) ∨ ∃ xs, isOw i ρ = .ok () ∧ ρ[i]? = some (some (.ow (.lst xs))) := by
  unfold isOw
  split
  · rename_i xs q
    exact .inr ⟨xs, rfl, q⟩
  · exact .inl rfl
theorem sd_append (i : Nat) {x : Str} {p1 apos cpos : Pos} (he : PE X e (tE P F0 H0 W fa)) (hN : X.N[i]? = some x := by rfl) (hv : Vis X.env.scope x := by first | exact Or.inl rfl | exact Or.inr (Or.inl rfl) | exact Or.inr (Or.inr rfl)) (hd : (x == ("__debug__" : Str)) = false := by decide)
    (hcd : (x == ("__classdict__" : Str)) = false := by decide)
    (hbase : attributeBase (.Name x p1) "append" X.env (eval (.Name x p1) X.env) = eval (.Name x p1) X.env := by rfl)
    (hfew : ((backTo cpos (starEach [e] X.env)).all (fun x => !x.1) && (backToKw cpos (keywordEach [] X.env)).all (fun x => x.1.isSome)
      && decide (([e] : List Expr).length + ([] : List Keyword).length + (if ([] : List Keyword).isEmpty then 0 else 1) < 30)) = true := by rfl)
    (hline : (apos.endLine == cpos.line) = true := by rfl) (hs1 : starEach [e] X.env = (false, eval e X.env) :: starEach [] X.env := by rfl) (hplain : (backTo cpos (starEach [] X.env)).any (·.1) = false := by rfl)
    (hs : swapsWith (.Call (.Attribute (.Name x p1) "append" apos) [e] [] cpos) none pos.line X.env = pure false := by rfl) :
    PS X (.Expr (.Call (.Attribute (.Name x p1) "append" apos) [e] [] cpos) pos) (tS P F0 H0 W (fun ρ => bindS (isOw i ρ) ρ fun _ => bindS (fa ρ) ρ fun d => appD i ρ d)) :=
  (ps_expr (pe_bm PySem.F.plainAttrs_list PySem.F.slot_list_append PySem.F.type_list_append mt_append (pe_var hN hv hd hcd) (pa_cons he pa_nil hs1) hbase hfew hline hs1 hplain) hs).imp fun N σ H ⟨F, ρ, er, z⟩ => by
  have z' : PostS P F0 H0 W F (bindS (isOw i ρ) ρ fun _ => bindS (fa ρ) ρ fun d => appD i ρ d) N := z
  rcases isOw_cases i ρ with hb | ⟨xs, hb, q⟩
  · rw [hb] at z'
    exact z'.elim
  · rw [hb] at z'
    replace z' : PostS P F0 H0 W F (bindS (fa ρ) ρ fun d => appD i ρ d) N := z'
    obtain ⟨a, h1, h2, h3, vs, h4, h5⟩ := er.ow i _ q
    refine ⟨.ref a, h1, .inl ⟨rfl, vs, SqL.of h4⟩, ?_⟩
    refine ⟨F, ρ, er, (PostS.bind (rel := rIs P) er z').imp ?_⟩
    rintro v H1 ⟨F1, d, g, j, z1⟩
    have ea : appD i ρ d = if small (xs.length + 1) = true then .nx (ρ.set i (some (.ow (.lst (xs ++ [d]))))) else .bad := by
      unfold appD
      rw [q]
    rw [ea] at z1
    by_cases hz : small (xs.length + 1) = true
    · rw [if_pos hz] at z1
      refine ⟨a, vs, v, rfl, rfl, g.h.dat h4, by have := small_lt hz; rw [h5.length] at this; omega, ?_⟩
      refine z1 σ F1 _ ((er.grow g).mut q h1 ⟨vs ++ [v], upd_same, ?_⟩) (.refl F1)
      exact (h5.mono g.f xs).append (.cons j .nil)
    · rw [if_neg hz] at z1
      exact z1.elim
/-! ### several names at once -/
def par2 (i j : Nat) (ρ : Env) : List D → RS
  | [d, e] => .nx ((ρ.set i (some (.sh d))).set j (some (.sh e)))
  | _ => .bad
theorem sd_par {i j : Nat} {x y : Str} {px py pt : Pos} {kt k2 pt2} (hc : X.calm = true) (hN : X.N.Nodup) (hi : X.N[i]? = some x) (hj : X.N[j]? = some y) (hij : i ≠ j)
    (hx : X.env.scope.names.lookup x = some .local) (hy : X.env.scope.names.lookup y = some .local) (ha : PA X [a, b] (tL P F0 H0 W fs))
    (hw : swappedStores [.Tuple [.Name x px, .Name y py] kt pt] (.Tuple [a, b] k2 pt2) X.env = pure (some [x, y])) (h0 : F0.S = none := by rfl)
    (hs : swapsWithSole [.Tuple [.Name x px, .Name y py] kt pt] (.Tuple [a, b] k2 pt2) pos.line X.env = pure false := by rfl) :
    PS X (.Assign [.Tuple [.Name x px, .Name y py] kt pt] (.Tuple [a, b] k2 pt2) pos) (tS P F0 H0 W (fun ρ => bindS (fs ρ) ρ (par2 i j ρ))) := (ps_par hc hN hi hj hij hx hy ha hw hs).imp fun N σ H ⟨F, ρ, er, z⟩ => by
  refine ⟨F, ρ, er, (PostS.bind (rel := rLs P) er z).imp ?_⟩
  rintro vs H1 ⟨F1, ds, g, q, z1⟩
  unfold par2 at z1
  split at z1
  · rename_i d e
    obtain ⟨v, r, rfl, q1, q⟩ := q.uncons
    obtain ⟨v2, r2, rfl, q2, q⟩ := q.uncons
    obtain rfl := q.unnil
    exact ⟨v, v2, rfl, z1 _ F1 H1 (((er.grow g).put i q1 (.inl h0)).put j q2 (.inl h0)) (.refl F1)⟩
  · exact z1.elim
def par3 (i j l : Nat) (ρ : Env) : List D → RS
  | [d, e, f] => .nx (((ρ.set i (some (.sh d))).set j (some (.sh e))).set l (some (.sh f)))
  | _ => .bad
theorem sd_par3 {i j l : Nat} {x y z : Str} {px py pz pt pos : Pos} {kt k2 pt2} (hc : X.calm = true) (hN : X.N.Nodup) (hi : X.N[i]? = some x) (hj : X.N[j]? = some y) (hl : X.N[l]? = some z) (hij : i ≠ j) (hil : i ≠ l) (hjl : j ≠ l)
    (hx : X.env.scope.names.lookup x = some .local) (hy : X.env.scope.names.lookup y = some .local) (hz : X.env.scope.names.lookup z = some .local) (ha : PA X [a, b, c] (tL P F0 H0 W fs))
    (hw : swappedStores [.Tuple [.Name x px, .Name y py, .Name z pz] kt pt] (.Tuple [a, b, c] k2 pt2) X.env = pure (some [x, y, z])) (h0 : F0.S = none := by rfl)
    (hs : swapsWithSole [.Tuple [.Name x px, .Name y py, .Name z pz] kt pt] (.Tuple [a, b, c] k2 pt2) pos.line X.env = pure false := by rfl) :
    PS X (.Assign [.Tuple [.Name x px, .Name y py, .Name z pz] kt pt] (.Tuple [a, b, c] k2 pt2) pos) (tS P F0 H0 W (fun ρ => bindS (fs ρ) ρ (par3 i j l ρ))) := (ps_par3 hc hN hi hj hl hij hil hjl hx hy hz ha hw hs).imp fun N σ H ⟨F, ρ, er, z⟩ => by
  refine ⟨F, ρ, er, (PostS.bind (rel := rLs P) er z).imp ?_⟩
  rintro vs H1 ⟨F1, ds, g, q, z1⟩
  unfold par3 at z1
  split at z1
  · rename_i d e f
    obtain ⟨v, r, rfl, q1, q⟩ := q.uncons
    obtain ⟨v2, r2, rfl, q2, q⟩ := q.uncons
    obtain ⟨v3, r3, rfl, q3, q⟩ := q.uncons
    obtain rfl := q.unnil
    exact ⟨v, v2, v3, rfl, z1 _ F1 H1 ((((er.grow g).put i q1 (.inl h0)).put j q2 (.inl h0)).put l q3 (.inl h0)) (.refl F1)⟩
  · exact z1.elim
/-- target = value, any target -/
theorem sd_asg {tg : Expr} {us : List Nat} {h : D → Env → Option Env} (he : PE X e (tE P F0 H0 W fa)) (hg : PG X tg (tGt P F0 H0 us h)) (hs : swapsWithSole [tg] e pos.line X.env = pure false := by rfl) (hw : swappedStores [tg] e X.env = pure none := by rfl)
    (h1 : (assignEach [tg] X.env).map (·.2) = [assign tg X.env] := by rfl) : PS X (.Assign [tg] e pos) (tS P F0 H0 W (fun ρ => bindS (fa ρ) ρ fun d => match h d ρ with | some ρ' => .nx ρ' | none => .bad)) := (ps_asg he hg hs hw h1).imp fun N σ H ⟨F, ρ, er, z⟩ => by
  refine ⟨F, ρ, er, (PostS.bind (rel := rIs P) er z).imp ?_⟩
  rintro v H1 ⟨F1, d, g, q, z1⟩
  cases hh : h d ρ with
  | none =>
    rw [hh] at z1
    exact z1.elim
  | some ρ' =>
    rw [hh] at z1
    exact ⟨F1, ρ, d, ρ', er.grow g, q, hh, fun σ' er' _ => z1 σ' F1 H1 er' (.refl F1)⟩
end
end DL
namespace DL
open PySem L2

/-! ### what is walked -/
section
variable {X : Cx} {P : Pm} {F0 : Fz} {H0 : Hp} {W : WX} {a b c e l tg : Expr} {es : List Expr} {fa fb fc : Env → Res D} {fs : Env → Res (List D)} {pos p : Pos}
theorem _root_.L2.PI.imp {t t' : TI} (h : PI X tg e t) (q : ∀ σ H R, t' σ H R → t σ H R) : PI X tg e t' := ⟨fun pins s σ H R I z => h.run pins s σ H R I (q σ H R z)⟩
def iSeq (K : PySem.W.Frag) (tl : TE) : TI := fun σ H R => tl σ H fun x H1 => (∃ a, x = .ref a ∧ (∃ xs, SqL K H1 a xs) ∧ R (Itl K a) H1) ∨ (∃ a, x = .ref a ∧ (∃ xs, SqT K H1 a xs) ∧ R (Itt K a) H1) ∨ ∃ z, x = .str z ∧ R (Its z) H1
theorem pi_seq {tl : TE} (hl : PE X l tl) : PI X tg l (iSeq X.K tl) := by
  refine ⟨fun pins s σ H R I h => ?_⟩
  refine thn (hl.run pins s σ H _ I h) fun v s1 ⟨x, H1, I1, r1, q1⟩ => ?_
  rcases q1 with ⟨a, e, ⟨xs, hq⟩, q⟩ | ⟨a, e, ⟨xs, hq⟩, q⟩ | ⟨z, e, q⟩
  · subst e
    cases r1
    obtain ⟨its, rv, p, hz⟩ := I1.list hq
    refine wpAny_pyIter_list p.isList ?_
    refine ⟨s1.heap.objs.size, [s1.heap.objs.size], _, _, H1, rfl, I1.kept (t' := s1.toks) fun b o e => Heap.get?_push_of_some _ e, turn_list a _, ⟨_, Heap.get?_push_size _ rfl, rfl, rfl⟩, fun b hb => ?_, q⟩
    have e : b = s1.heap.objs.size := by simpa using hb
    subst e
    exact I1.fpOk (Nat.le_refl _) (I1.hok.fresh (Nat.le_refl _))
  · subst e
    cases r1
    obtain ⟨its, rv, p, hz⟩ := I1.tuple hq
    refine wpAny_pyIter_tuple (show s1.heap.IsTuple a its.toArray from p) ?_
    refine ⟨s1.heap.objs.size, [s1.heap.objs.size], _, _, H1, rfl, I1.kept (t' := s1.toks) fun b o e => Heap.get?_push_of_some _ e, turn_tuple a _, ⟨_, Heap.get?_push_size _ rfl, rfl, rfl⟩, fun b hb => ?_, q⟩
    have e : b = s1.heap.objs.size := by simpa using hb
    subst e
    exact I1.fpOk (Nat.le_refl _) (I1.hok.fresh (Nat.le_refl _))
  · subst e
    obtain ⟨t, rfl⟩ := r1
    cases ha : z.cps.all (· < 128)
    · exact PySem.wpAny_pyIter_wide ha (pi_one (tk := s1.toks) I1 _ (turn_str _ z t "str_iterator" (.inr rfl)) ⟨_, Heap.get?_push_size _ rfl, rfl, rfl⟩ q)
    · exact PySem.wpAny_pyIter_ascii ha (pi_one (tk := s1.toks) I1 _ (turn_str _ z t "str_ascii_iterator" (.inl rfl)) ⟨_, Heap.get?_push_size _ rfl, rfl, rfl⟩ q)
def seqD : D → Res (List D)
  | .lst xs => .ok xs
  | .tup xs => .ok xs
  | .str z => .ok (z.cps.toList.map fun c => .str ⟨#[c]⟩)
  | _ => .bad
theorem un_lst {F : Hp} {xs : List D} {v : V} (h : Is P F (.lst xs) v) : ∃ a vs, v = .ref a ∧ Rd F a (.lst vs) ∧ IsL P F xs vs := by
  rw [Is] at h
  exact h
theorem un_tup {F : Hp} {xs : List D} {v : V} (h : Is P F (.tup xs) v) : ∃ a vs, v = .ref a ∧ Rd F a (.tup vs) ∧ IsL P F xs vs := by
  rw [Is] at h
  exact h
theorem un_str {F : Hp} {z : Str} {v : V} (h : Is P F (.str z) v) : v = .str z := by
  rw [Is] at h
  exact h
theorem un_int {F : Hp} {z : Int} {v : V} (h : Is P F (.int z) v) : v = .int z := by
  rw [Is] at h
  exact h
theorem un_bl {F : Hp} {z : Bool} {v : V} (h : Is P F (.bl z) v) : v = .bl z := by
  rw [Is] at h
  exact h
theorem un_non {F : Hp} {v : V} (h : Is P F .non v) : v = .non := by
  rw [Is] at h
  exact h
theorem itl_D {K : PySem.W.Frag} {F H : Hp} {a : Addr} {vs : List V} {ds : List D} (h : Rd F a (.lst vs)) (i : IsL P F ds vs) : ItD P F H ds (Itl K a) := fun j F1 H1 e1 e2 => by
  have hr : SqL K H1 a vs := .inl ((e2.sub e1).rd h)
  refine ⟨fun d hd => ?_, fun hl => ⟨vs, hr, by rw [← i.length]; exact hl⟩⟩
  obtain ⟨v, h1, h2⟩ := i.get hd
  refine ⟨⟨vs, v, hr, h1⟩, ?_⟩
  rintro x H2 ⟨rfl, hx⟩
  have := hx vs hr
  rw [h1] at this
  cases this
  exact ⟨F1, .refl e2, h2.mono e1 d⟩
theorem itt_D {K : PySem.W.Frag} {F H : Hp} {a : Addr} {vs : List V} {ds : List D} (h : Rd F a (.tup vs)) (i : IsL P F ds vs) : ItD P F H ds (Itt K a) := fun j F1 H1 e1 e2 => by
  have hr : SqT K H1 a vs := .inl ((e2.sub e1).rd h)
  refine ⟨fun d hd => ?_, fun hl => ⟨vs, hr, by rw [← i.length]; exact hl⟩⟩
  obtain ⟨v, h1, h2⟩ := i.get hd
  refine ⟨⟨vs, v, hr, h1⟩, ?_⟩
  rintro x H2 ⟨rfl, hx⟩
  have := hx vs hr
  rw [h1] at this
  cases this
  exact ⟨F1, .refl e2, h2.mono e1 d⟩
theorem its_D {F H : Hp} {z : Str} : ItD P F H (z.cps.toList.map fun c => D.str ⟨#[c]⟩) (Its z) := fun j F1 H1 e1 e2 => by
  refine ⟨fun d hd => ?_, fun hl => (by simpa using hl : z.cps.size ≤ j)⟩
  rw [List.getElem?_map] at hd
  cases hc : z.cps.toList[j]? with
  | none =>
    rw [hc] at hd
    cases hd
  | some c =>
    rw [hc] at hd
    cases hd
    have hj := lt_of_get hc
    refine ⟨(by simpa using hj : j < z.cps.size), ?_⟩
    rintro x H2 ⟨rfl, c', hc', rfl⟩
    have : z.cps.toList[j]? = some c' := by simpa using hc'
    rw [hc] at this
    cases this
    exact ⟨F1, .refl e2, is_str⟩
/-- for x in e: a list, a tuple, a text -/
theorem id_seq (h : PE X l (tE P F0 H0 W fa)) : PI X tg l (tI P F0 H0 W (fun ρ => fa ρ >>= seqD)) := (pi_seq h).imp fun σ H R ⟨F, ρ, er, z⟩ => by
  refine ⟨F, ρ, er, (PostG.bind (rel := rIs P) z).imp ?_⟩
  rintro v H1 ⟨F1, d, g, i, q⟩
  unfold seqD at q
  split at q
  · obtain ⟨a, vs, rfl, h1, h2⟩ := un_lst i
    exact .inl ⟨a, rfl, ⟨vs, .inl (g.s.rd h1)⟩, q.here g.s (itl_D h1 h2)⟩
  · obtain ⟨a, vs, rfl, h1, h2⟩ := un_tup i
    exact .inr (.inl ⟨a, rfl, ⟨vs, .inl (g.s.rd h1)⟩, q.here g.s (itt_D h1 h2)⟩)
  · exact .inr (.inr ⟨_, un_str i, q.here g.s its_D⟩)
  · exact q.elim
/-! ### ranges -/
def rngD (lo hi : Int) : List D := (List.range (hi - lo).toNat).map fun k => .int (lo + (k : Nat))
theorem itr_D {F H : Hp} {lo hi : Int} : ItD P F H (rngD lo hi) (Itr lo (hi - lo).toNat) := fun j F1 H1 e1 e2 => by
  refine ⟨fun d hd => ?_, fun hl => (by simp [rngD] at hl; omega : (hi - lo).toNat ≤ j)⟩
  unfold rngD at hd
  rw [List.getElem?_map] at hd
  cases hc : (List.range (hi - lo).toNat)[j]? with
  | none =>
    rw [hc] at hd
    cases hd
  | some c =>
    rw [hc] at hd
    cases hd
    have hj := lt_of_get hc
    rw [List.getElem?_eq_getElem hj] at hc
    simp at hc hj
    subst hc
    refine ⟨(by omega : j < (hi - lo).toNat), ?_⟩
    rintro x H2 ⟨rfl, rfl⟩
    exact ⟨F1, .refl e2, is_int⟩
def rng1 : List D → Res (List D)
  | [.int j] => if -(2 ^ 62) ≤ j ∧ j < 2 ^ 62 then .ok (rngD 0 j) else .bad
  | _ => .bad
def rng2 : List D → Res (List D)
  | [.int i, .int j] => if -(2 ^ 62) ≤ i ∧ i < 2 ^ 62 ∧ -(2 ^ 62) ≤ j ∧ j < 2 ^ 62 then .ok (rngD i j) else .bad
  | _ => .bad
theorem id_range1 (hg : Gl X "range") (hm : X.mg "range" = none) (ha : PA X [a] (tL P F0 H0 W fs)) (hs : starEach [a] X.env = [(false, eval a X.env)] := by rfl) : PI X tg (.Call (.Name "range" p) [a] [] pos) (tI P F0 H0 W (fun ρ => fs ρ >>= rng1)) :=
  (pi_range1 hg hm ha hs).imp fun σ H R ⟨F, ρ, er, z⟩ => by
  refine ⟨F, ρ, er, (PostG.bind (rel := rLs P) z).imp ?_⟩
  rintro vs H1 ⟨F1, ds, g, i, q⟩
  unfold rng1 at q
  split at q
  · rename_i j
    obtain ⟨v, r, rfl, i1, i⟩ := i.uncons
    obtain rfl := i.unnil
    rw [Is] at i1
    subst i1
    split at q
    · rename_i hj
      refine ⟨j, rfl, hj.1, hj.2, ?_⟩
      have := q.here g.s (itr_D (lo := 0) (hi := j))
      simpa using this
    · exact q.elim
  · exact q.elim
theorem id_range2 (hg : Gl X "range") (hm : X.mg "range" = none) (ha : PA X [a, b] (tL P F0 H0 W fs)) (hs : starEach [a, b] X.env = [(false, eval a X.env), (false, eval b X.env)] := by rfl) (hs2 : starEach [b] X.env = [(false, eval b X.env)] := by rfl) : PI X tg (.Call (.Name "range" p) [a, b] [] pos) (tI P F0 H0 W (fun ρ => fs ρ >>= rng2)) :=
  (pi_range2 hg hm ha hs hs2).imp fun σ H R ⟨F, ρ, er, z⟩ => by
  refine ⟨F, ρ, er, (PostG.bind (rel := rLs P) z).imp ?_⟩
  rintro vs H1 ⟨F1, ds, g, i, q⟩
  unfold rng2 at q
  split at q
  · rename_i j k
    obtain ⟨v, r, rfl, i1, i⟩ := i.uncons
    obtain ⟨v2, r2, rfl, i2, i⟩ := i.uncons
    obtain rfl := i.unnil
    rw [Is] at i1 i2
    subst i1 i2
    split at q
    · rename_i hj
      exact ⟨j, k, rfl, hj, q.here g.s itr_D⟩
    · exact q.elim
  · exact q.elim
/-! ### zip, enumerate -/
def zipL (xs ys : List D) : List D := (xs.zip ys).map fun q => .tup [q.1, q.2]
theorem zipL_get {xs ys : List D} {j : Nat} {d : D} (h : (zipL xs ys)[j]? = some d) : ∃ x y, xs[j]? = some x ∧ ys[j]? = some y ∧ d = .tup [x, y] := by
  unfold zipL at h
  rw [List.getElem?_map] at h
  cases hz : (xs.zip ys)[j]? with
  | none =>
    rw [hz] at h
    cases h
  | some q =>
    rw [hz] at h
    cases h
    rw [List.getElem?_zip_eq_some] at hz
    exact ⟨q.1, q.2, hz.1, hz.2, rfl⟩
theorem zipL_len {xs ys : List D} : (zipL xs ys).length = min xs.length ys.length := by simp [zipL]
theorem pair_D {F1 H1 : Hp} {x y : D} {vx vy : V} {T : Addr} (e2 : Sb P F1 H1) (hT : H1 T = none) (hx : Is P F1 x vx) (hy : Is P F1 y vy) : ∃ F2, Grow P F1 H1 F2 (upd H1 T (.tup [vx, vy])) ∧ Is P F2 (.tup [x, y]) (.ref T) :=
  ⟨upd F1 T (.tup [vx, vy]), .new e2 hT, by rw [Is]; exact ⟨T, _, rfl, .inl upd_same, .cons (hx.mono (.new (e2.back hT)) x) (.cons (hy.mono (.new (e2.back hT)) y) .nil)⟩⟩
def zipD : List D → Res (List D)
  | [.lst xs, .lst ys] => .ok (zipL xs ys)
  | [.tup xs, .tup ys] => .ok (zipL xs ys)
  | _ => .bad
theorem id_zip {elts : List Expr} {kk : Nat} {tpos : Pos} (hg : Gl X "zip") (hm : X.mg "zip" = none) (ha : PA X [a, b] (tL P F0 H0 W fs)) (hs : starEach [a, b] X.env = (false, eval a X.env) :: starEach [b] X.env := by rfl) (hpl : (backTo pos (starEach [b] X.env)).any (·.1) = false := by rfl) :
    PI X (.Tuple elts kk tpos) (.Call (.Name "zip" p) [a, b] [] pos) (tI P F0 H0 W (fun ρ => fs ρ >>= zipD)) := (RZ.pi_zipA hg hm ha hs hpl).imp fun σ H R ⟨F, ρ, er, z⟩ => by
  refine ⟨F, ρ, er, (PostG.bind (rel := rLs P) z).imp ?_⟩
  rintro vs H1 ⟨F1, ds, g, i, q⟩
  unfold zipD at q
  split at q
  · rename_i xs ys
    obtain ⟨v, r, rfl, i1, i⟩ := i.uncons
    obtain ⟨v2, r2, rfl, i2, i⟩ := i.uncons
    obtain rfl := i.unnil
    rw [Is] at i1 i2
    obtain ⟨a1, vs1, rfl, h1, j1⟩ := i1
    obtain ⟨a2, vs2, rfl, h2, j2⟩ := i2
    refine ⟨a1, a2, vs1, vs2, rfl, .inl ⟨.inl (g.s.rd h1), .inl (g.s.rd h2), q.here g.s fun j F2 H2 e1 e2 => ?_⟩⟩
    have hr1 : SqL X.K H2 a1 vs1 := .inl ((e2.sub e1).rd h1)
    have hr2 : SqL X.K H2 a2 vs2 := .inl ((e2.sub e1).rd h2)
    refine ⟨fun d hd => ?_, fun hl => ⟨vs1, vs2, hr1, hr2, ?_⟩⟩
    · obtain ⟨x, y, hx, hy, rfl⟩ := zipL_get hd
      obtain ⟨vx, k1, k2⟩ := j1.get hx
      obtain ⟨vy, l1, l2⟩ := j2.get hy
      refine ⟨⟨vs1, vs2, vx, vy, hr1, hr2, k1, l1⟩, ?_⟩
      rintro v H3 ⟨T, x', y', rfl, hT, rfl, hx', hy'⟩
      have e3 := hx' vs1 hr1
      have e4 := hy' vs2 hr2
      rw [k1] at e3
      rw [l1] at e4
      cases e3
      cases e4
      exact pair_D e2 hT (k2.mono e1 x) (l2.mono e1 y)
    · rw [zipL_len, j1.length, j2.length] at hl
      omega
  · rename_i xs ys
    obtain ⟨v, r, rfl, i1, i⟩ := i.uncons
    obtain ⟨v2, r2, rfl, i2, i⟩ := i.uncons
    obtain rfl := i.unnil
    rw [Is] at i1 i2
    obtain ⟨a1, vs1, rfl, h1, j1⟩ := i1
    obtain ⟨a2, vs2, rfl, h2, j2⟩ := i2
    refine ⟨a1, a2, vs1, vs2, rfl, .inr ⟨.inl (g.s.rd h1), .inl (g.s.rd h2), q.here g.s fun j F2 H2 e1 e2 => ?_⟩⟩
    have hr1 : SqT X.K H2 a1 vs1 := .inl ((e2.sub e1).rd h1)
    have hr2 : SqT X.K H2 a2 vs2 := .inl ((e2.sub e1).rd h2)
    refine ⟨fun d hd => ?_, fun hl => ⟨vs1, vs2, hr1, hr2, ?_⟩⟩
    · obtain ⟨x, y, hx, hy, rfl⟩ := zipL_get hd
      obtain ⟨vx, k1, k2⟩ := j1.get hx
      obtain ⟨vy, l1, l2⟩ := j2.get hy
      refine ⟨⟨vs1, vs2, vx, vy, hr1, hr2, k1, l1⟩, ?_⟩
      rintro v H3 ⟨T, x', y', rfl, hT, rfl, hx', hy'⟩
      have e3 := hx' vs1 hr1
      have e4 := hy' vs2 hr2
      rw [k1] at e3
      rw [l1] at e4
      cases e3
      cases e4
      exact pair_D e2 hT (k2.mono e1 x) (l2.mono e1 y)
    · rw [zipL_len, j1.length, j2.length] at hl
      omega
  · exact q.elim
def enuL (xs : List D) : List D := xs.zipIdx.map fun q => .tup [.int (q.2 : Nat), q.1]
def enuD : List D → Res (List D)
  | [.lst xs] => .ok (enuL xs)
  | _ => .bad
theorem id_enum {elts : List Expr} {kk : Nat} {tpos : Pos} (hg : Gl X "enumerate") (hm : X.mg "enumerate" = none) (ha : PA X [a] (tL P F0 H0 W fs)) (hs : starEach [a] X.env = [(false, eval a X.env)] := by rfl) :
    PI X (.Tuple elts kk tpos) (.Call (.Name "enumerate" p) [a] [] pos) (tI P F0 H0 W (fun ρ => fs ρ >>= enuD)) := (pi_enum hg hm ha hs).imp fun σ H R ⟨F, ρ, er, z⟩ => by
  refine ⟨F, ρ, er, (PostG.bind (rel := rLs P) z).imp ?_⟩
  rintro vs H1 ⟨F1, ds, g, i, q⟩
  unfold enuD at q
  split at q
  · rename_i xs
    obtain ⟨v, r, rfl, i1, i⟩ := i.uncons
    obtain rfl := i.unnil
    rw [Is] at i1
    obtain ⟨a1, vs1, rfl, h1, j1⟩ := i1
    refine ⟨a1, vs1, rfl, .inl (g.s.rd h1), q.here g.s fun j F2 H2 e1 e2 => ?_⟩
    have hr1 : SqL X.K H2 a1 vs1 := .inl ((e2.sub e1).rd h1)
    refine ⟨fun d hd => ?_, fun hl => ⟨vs1, hr1, ?_⟩⟩
    · unfold enuL at hd
      rw [List.getElem?_map] at hd
      cases hz : xs.zipIdx[j]? with
      | none =>
        rw [hz] at hd
        cases hd
      | some q =>
        rw [hz] at hd
        cases hd
        rw [List.getElem?_zipIdx] at hz
        cases hx : xs[j]? with
        | none =>
          rw [hx] at hz
          cases hz
        | some x =>
          rw [hx] at hz
          simp at hz
          subst hz
          obtain ⟨vx, k1, k2⟩ := j1.get hx
          refine ⟨⟨vs1, vx, hr1, k1⟩, ?_⟩
          rintro v H3 ⟨T, x', rfl, hT, rfl, hx'⟩
          have e3 := hx' vs1 hr1
          rw [k1] at e3
          cases e3
          exact pair_D e2 hT is_int (k2.mono e1 x)
    · rw [← j1.length]
      simpa [enuL] using hl
  · exact q.elim
end
end DL
namespace DL
open PySem L2

def noErr {α : Type} : Res α → Res α
  | .ok a => .ok a
  | _ => .bad
theorem PostG.noErr {α β : Type} {P : Pm} {W W' : WX} {rel : Rel α β} {r : Res α} {F H : Hp} {σ σ' : St} {Q : β → Hp → Prop} (h : PostG P W rel (DL.noErr r) F σ H Q) : PostG P W' rel r F σ' H Q := by
  cases r with
  | ok a => exact h
  | err c p => exact h.elim
  | bad => exact h.elim
def wipeE (ρ : Env) : List Nat → Env
  | [] => ρ
  | v :: vs => (wipeE ρ vs).set v none
section
variable {P : Pm} {F0 : Fz} {H0 F H : Hp} {ρ : Env} {σ : St}
theorem wipeE_length : ∀ us : List Nat, (wipeE ρ us).length = ρ.length
  | [] => rfl
  | v :: us => by
    show ((wipeE ρ us).set v none).length = _
    rw [List.length_set, wipeE_length us]
theorem wipeE_some {i : Nat} {x : B} : ∀ {us : List Nat}, (wipeE ρ us)[i]? = some (some x) → ρ[i]? = some (some x) ∧ i ∉ us
  | [], h => ⟨h, by simp⟩
  | v :: us, h => by
    have h' : ((wipeE ρ us).set v none)[i]? = some (some x) := h
    by_cases q : v = i
    · subst q
      have hl : v < (wipeE ρ us).length := by simpa using lt_of_get h'
      rw [get_set_self hl] at h'
      cases h'
    · rw [List.getElem?_set_ne q] at h'
      obtain ⟨h1, h2⟩ := wipeE_some h'
      exact ⟨h1, by simp [h2, Ne.symm q]⟩
theorem wipe_keep {i : Nat} : ∀ {us : List Nat}, i ∉ us → (wipe σ us)[i]? = σ[i]?
  | [], _ => rfl
  | v :: us, h => by
    show ((wipe σ us).set v none)[i]? = _
    rw [List.getElem?_set_ne (fun q => h (by simp [q]))]
    exact wipe_keep fun q => h (List.mem_cons_of_mem _ q)
theorem wipe_twice (us : List Nat) : wipe (wipe σ us) us = wipe σ us := by
  apply List.ext_getElem?
  intro i
  by_cases q : i ∈ us
  · have k : ∀ (us : List Nat) (τ : St), i ∈ us → (wipe τ us)[i]? = if i < τ.length then some none else none := by
      intro us
      induction us with
      | nil => intro τ h; cases h
      | cons v vs ih =>
        intro τ h
        show ((wipe τ vs).set v none)[i]? = _
        by_cases e : v = i
        · subst e
          rw [List.getElem?_set]
          simp [wipe_length]
        · rw [List.getElem?_set_ne e]
          exact ih τ (by simpa [Ne.symm e] using h)
    rw [k us _ q, k us _ q, wipe_length]
  · rw [wipe_keep q]
theorem ER.wiped (r : ER P F0 H0 F ρ σ H) (us : List Nat) (h0 : F0.S = none ∨ 0 ∉ us) : ER P F0 H0 F (wipeE ρ us) (wipe σ us) H where
  g := r.g
  self := fun x hx => by
    rcases h0 with q | q
    · rw [q] at hx
      cases hx
    · rw [wipe_keep q]
      exact r.self x hx
  len := by rw [wipeE_length, wipe_length, r.len]
  sh := fun i d e => by
    obtain ⟨h1, h2⟩ := wipeE_some e
    rw [wipe_keep h2]
    exact r.sh i d h1
  bw := fun i d e => by
    obtain ⟨h1, h2⟩ := wipeE_some e
    rw [wipe_keep h2]
    exact r.bw i d h1
  ow := fun i d e => by
    obtain ⟨h1, h2⟩ := wipeE_some e
    rw [wipe_keep h2]
    exact r.ow i d h1
  nd := fun i j d e a q1 q2 q3 q4 => by
    obtain ⟨h1, h2⟩ := wipeE_some q1
    obtain ⟨h3, h4⟩ := wipeE_some q2
    rw [wipe_keep h2] at q3
    rw [wipe_keep h4] at q4
    exact r.nd i j d e a h1 h3 q3 q4
theorem Tabs.put {T : List (Addr × Str)} {H : Hp} {a : Addr} {o : HO} (t : LamX.Tabs T H) (h : H a = none ∨ ∃ u, H a = some u ∧ isD u = true) : LamX.Tabs T (L2.upd H a o) := by
  rcases h with h | ⟨u, h, hd⟩
  · exact t.ext (Ex.new h)
  · exact Tabs.upd t h hd
theorem Grow.put {H1 F1 F' H' : Hp} {p : Addr} {o : HO} (gg : Grow P F1 H1 F' H') (hD : NoD H1 p) (f4 : F' p = none) (hu : H' p = none ∨ ∃ u, H' p = some u ∧ isD u = true) : Grow P F1 H1 F' (upd H' p o) :=
  ⟨gg.f, ⟨fun b u e n => by rw [upd_ne (hD.ne e n)]; exact gg.h.at_ b u e n⟩, ⟨fun b u e => by rw [upd_ne (ne_of_none e f4)]; exact gg.s.ex b u e, gg.s.nt, Tabs.put gg.s.tabs hu⟩, gg.n⟩
/-- an object that is nobody's by name is changed -/
theorem ER.other (r : ER P F0 H0 F ρ σ H) {p : Addr} {o : HO} (hu : H p = none ∨ ∃ u, H p = some u ∧ isD u = true) (h0 : NoD H0 p) (hf : F p = none) (hn : ∀ (i : Nat) (d : D), ρ[i]? = some (some (B.ow d)) → σ[i]? ≠ some (some (V.ref p))) : ER P F0 H0 F ρ σ (upd H p o) where
  g := r.g.put h0 hf hu
  self := r.self
  len := r.len
  sh := r.sh
  bw := r.bw
  ow := fun i d e => by
    obtain ⟨a, h1, h2, h3, h4⟩ := r.ow i d e
    exact ⟨a, h1, h2, h3, h4.at (upd_ne fun z => hn i d e (by rw [h1, z]))⟩
  nd := r.nd
end
/-- the items of a comprehension -/
def lcD (h : D → Env → Option Env) (gt : Env → Res Bool) (fe : Env → Res D) (ρ : Env) : List D → Res (List D)
  | [] => .ok []
  | d :: r => match h d ρ with
    | none => .bad
    | some ρ1 => do
      let k ← noErr (gt ρ1)
      if k = true then (do let y ← noErr (fe ρ1); let ys ← lcD h gt fe ρ r; .ok (y :: ys)) else lcD h gt fe ρ r
section
variable {X : Cx} {P : Pm} {F0 : Fz} {H0 : Hp} {W : WX} {elt tg iter : Expr} {ifs : List Expr} {scope : Scope} {own : List (Str × Nat)} {pos : Pos} {fi : Env → Res (List D)} {h : D → Env → Option Env} {gt : Env → Res Bool} {fe : Env → Res D}
abbrev W0 : WX := fun _ _ _ _ => False
theorem Res.bind_eq_ok {α β : Type} {r : Res α} {k : α → Res β} {b : β} (h : (r >>= k) = .ok b) : ∃ a, r = .ok a ∧ k a = .ok b := by
  cases r with
  | ok a => exact ⟨a, rfl, h⟩
  | err c p => cases h
  | bad => cases h
theorem lc_of {F H : Hp} {ρ : Env} {σ : St} {Q : VK} {us : List Nat} (h0 : F0.S = none ∨ 0 ∉ us) (er : ER P F0 H0 F ρ σ H)
    (z : PostG P W (rNw P H) (do let items ← fi ρ; let ys ← lcD h gt fe (wipeE ρ us) items; mkL ys) F σ H Q) :
    tLc (tI P F0 H0 W fi) (tGt P F0 H0 us h) (tT P F0 H0 W0 gt) (tE P F0 H0 W0 fe) us σ H Q := by
  refine ⟨F, ρ, er, (PostG.bind (rel := ItD P) z).imp ?_⟩
  rintro J H1 ⟨FJ, items, gr, hJ, z1⟩
  intro Dn hD
  have erJ := er.grow gr
  cases hy : lcD h gt fe (wipeE ρ us) items with
  | bad =>
    rw [hy] at z1
    exact z1.elim
  | err c p =>
    exfalso
    revert hy
    clear z1 hJ
    suffices ∀ items, lcD h gt fe (wipeE ρ us) items ≠ .err c p from this items
    intro items
    induction items with
    | nil => intro q; cases q
    | cons d r ih =>
      intro q
      have q' : (match h d (wipeE ρ us) with
        | none => Res.bad
        | some ρ1 => do
          let k ← noErr (gt ρ1)
          if k = true then (do let y ← noErr (fe ρ1); let ys ← lcD h gt fe (wipeE ρ us) r; .ok (y :: ys)) else lcD h gt fe (wipeE ρ us) r) = .err c p := q
      cases hh : h d (wipeE ρ us) with
      | none =>
        rw [hh] at q'
        cases q'
      | some ρ1 =>
        rw [hh] at q'
        cases hg : gt ρ1 with
        | ok k =>
          have q2 : (if k = true then (do let y ← noErr (fe ρ1); let ys ← lcD h gt fe (wipeE ρ us) r; .ok (y :: ys)) else lcD h gt fe (wipeE ρ us) r) = .err c p := by
            have := q'
            simp only [hg] at this
            exact this
          split at q2
          · cases hf : fe ρ1 with
            | ok y =>
              rw [hf] at q2
              cases hr : lcD h gt fe (wipeE ρ us) r with
              | ok ys =>
                rw [hr] at q2
                cases q2
              | err c' p' =>
                rw [hr] at q2
                cases q2
                exact ih hr
              | bad =>
                rw [hr] at q2
                cases q2
            | err c' p' =>
              rw [hf] at q2
              cases q2
            | bad =>
              rw [hf] at q2
              cases q2
          · exact ih q2
        | err c' p' =>
          simp only [hg] at q'
          cases q'
        | bad =>
          simp only [hg] at q'
          cases q'
  | ok ys =>
    rw [hy] at z1
    replace z1 : PostG P W (rNw P H) (mkL ys) FJ σ H1 Q := z1
    unfold mkL at z1
    by_cases hsm : small ys.length = true
    case neg =>
      rw [if_neg hsm] at z1
      exact z1.elim
    rw [if_pos hsm] at z1
    have hne : ∀ (i : Nat) (d : D), (wipeE ρ us)[i]? = some (some (B.ow d)) → (wipe σ us)[i]? ≠ some (some (V.ref Dn)) := fun i d e q => by
      obtain ⟨a, k1, k2, k3, k4⟩ := (erJ.wiped us h0).ow i d e
      rw [q] at k1
      cases k1
      obtain ⟨o, ho, _⟩ := k4.there
      rw [hD] at ho
      cases ho
    have hFD : FJ Dn = none := gr.s.back hD
    have h0D : NoD H0 Dn := erJ.g.h.back hD
    refine ⟨fun i m H' => m = items.length - i ∧ ∃ F' accD acc rest, Grow P FJ H1 F' H' ∧ ER P F0 H0 F' (wipeE ρ us) (wipe σ us) H' ∧ F' Dn = none ∧ H' Dn = some (.lst acc) ∧ IsL P F' accD acc ∧ lcD h gt fe (wipeE ρ us) (items.drop i) = .ok rest ∧ accD ++ rest = ys, ⟨_, rfl, FJ, [], [], ys, .junk gr.s (.new hD), (erJ.wiped us h0).other (.inl hD) h0D hFD hne, hFD, upd_same, .nil, hy, rfl⟩, ?_⟩
    rintro i m H' ⟨rfl, F', accD, acc, rest, g1, er1, f1, d1, i1, l1, e1⟩
    obtain ⟨j1, j2⟩ := hJ i F' H' g1.f g1.s
    rcases Nat.lt_or_ge i items.length with hi | hi
    · obtain ⟨k1, k2⟩ := j1 items[i] (List.getElem?_eq_getElem hi)
      rw [List.drop_eq_getElem_cons hi] at l1
      have l2 : (match h items[i] (wipeE ρ us) with
        | none => Res.bad
        | some ρ1 => do
          let k ← noErr (gt ρ1)
          if k = true then (do let y ← noErr (fe ρ1); let ys ← lcD h gt fe (wipeE ρ us) (items.drop (i + 1)); .ok (y :: ys)) else lcD h gt fe (wipeE ρ us) (items.drop (i + 1))) = .ok rest := l1
      cases hh : h items[i] (wipeE ρ us) with
      | none =>
        rw [hh] at l2
        cases l2
      | some ρ1 =>
        rw [hh] at l2
        obtain ⟨k, hk, l3⟩ := Res.bind_eq_ok (r := noErr (gt ρ1)) l2
        refine .inr ⟨k1, fun H' => ∃ F' accD acc rest, Grow P FJ H1 F' H' ∧ ER P F0 H0 F' (wipeE ρ us) (wipe σ us) H' ∧ F' Dn = none ∧ H' Dn = some (.lst acc) ∧ IsL P F' accD acc ∧ lcD h gt fe (wipeE ρ us) (items.drop (i + 1)) = .ok rest ∧ accD ++ rest = ys, fun H' n' => ⟨_, by omega, rfl, n'⟩, ?_⟩
        intro x H2 hyl
        obtain ⟨F2, g2, i2⟩ := k2 x H2 hyl
        refine ⟨F2, wipeE ρ us, items[i], ρ1, er1.grow g2, i2, hh, fun σ2 er2 w2 => ⟨w2.trans (wipe_twice us), ?_⟩⟩
        refine ⟨F2, ρ1, er2, ?_⟩
        have hgt : gt ρ1 = .ok k := by
          cases hg : gt ρ1 with
          | ok k' =>
            rw [hg] at hk
            exact hk
          | err c p =>
            rw [hg] at hk
            cases hk
          | bad =>
            rw [hg] at hk
            cases hk
        rw [hgt]
        intro b F3 H3 g3 hb
        subst hb
        have er3 := (er1.grow g2).grow g3
        have fd3 : ∀ {Fa Ha Fb Hb : Hp}, Grow P Fa Ha Fb Hb → Fa Dn = none → (∃ ys, Ha Dn = some (.lst ys)) → Fb Dn = none := fun {Fa Ha Fb Hb} g q1 q2 => by
          cases q : Fb Dn with
          | none => rfl
          | some o =>
            rcases g.n Dn o q with y | y
            · rw [q1] at y
              cases y
            · obtain ⟨ys, q2⟩ := q2
              exact (y.no q2 rfl).elim
        have n0 : ∃ ys, H' Dn = some (.lst ys) := ⟨_, d1⟩
        have f2 := fd3 g2 f1 n0
        have d2 : H2 Dn = some (.lst acc) := g2.h.dat d1
        have n2 : ∃ ys, H2 Dn = some (.lst ys) := ⟨_, d2⟩
        have f3 := fd3 g3 f2 n2
        have d3 : H3 Dn = some (.lst acc) := g3.h.dat d2
        have n3 : ∃ ys, H3 Dn = some (.lst ys) := ⟨_, d3⟩
        have hir := i1.mono (g2.f.trans g3.f) accD
        by_cases hb : b = true
        · rw [if_pos hb]
          rw [if_pos hb] at l3
          obtain ⟨y, hy1, l4⟩ := Res.bind_eq_ok (r := noErr (fe ρ1)) l3
          obtain ⟨ys', hy2, l5⟩ := Res.bind_eq_ok (r := lcD h gt fe (wipeE ρ us) (items.drop (i + 1))) l4
          cases l5
          have hfe : fe ρ1 = .ok y := by
            cases hg : fe ρ1 with
            | ok k' =>
              rw [hg] at hy1
              exact hy1
            | err c p =>
              rw [hg] at hy1
              cases hy1
            | bad =>
              rw [hg] at hy1
              cases hy1
          refine ⟨F3, ρ1, er2.grow g3, ?_⟩
          rw [hfe]
          intro v F4 H4 g4 i4
          have f4 := fd3 g4 f3 n3
          have d4 : H4 Dn = some (.lst acc) := g4.h.dat d3
          refine ⟨acc, d4, ?_, F4, accD ++ [y], acc ++ [v], ys', ?_, (er3.grow g4).other (.inr ⟨_, d4, rfl⟩) h0D f4 hne, f4, upd_same, (hir.mono g4.f accD).append (.cons i4 .nil), hy2, by rw [← e1]; simp⟩
          · have hlen : acc.length ≤ ys.length := by
              rw [← e1, ← i1.length]
              simp
            exact Nat.lt_of_le_of_lt hlen (small_lt hsm)
          · have gg := ((g1.trans g2).trans g3).trans g4
            exact gg.put (.of hD) f4 (.inr ⟨_, d4, rfl⟩)
        · rw [if_neg hb]
          rw [if_neg hb] at l3
          exact ⟨F3, accD, acc, rest, (g1.trans g2).trans g3, er3, f3, d3, hir, l3, e1⟩
    · rw [List.drop_eq_nil_of_le hi] at l1
      cases l1
      rw [List.append_nil] at e1
      subst e1
      exact .inl ⟨j2 hi, z1 _ F' H' g1 ⟨Dn, rfl, gr.h.back hD, f1, acc, d1, i1⟩⟩
theorem nd_lc {us : List Nat} (hc : X.calm = true) (hN : X.N.Nodup) (hi : PI X tg iter (tI P F0 H0 W fi)) (ok : BlkOk X.N X.env.scope scope own) (hu : own.map (·.2) = us)
    (hg : ∀ (s : Shared) (H : Hp) (C : Addr) (cl : List (Str × Addr)) (fp : List Addr), PG (X.blk s H scope (PySem.compEnvC scope cl C X.env) fp) tg (tGt P F0 H0 us h))
    (ht : ∀ (s : Shared) (H : Hp) (C : Addr) (cl : List (Str × Addr)) (fp : List Addr), PTs (X.blk s H scope (PySem.compEnvC scope cl C X.env) fp) ifs (tT P F0 H0 W0 gt))
    (he : ∀ (s : Shared) (H : Hp) (C : Addr) (cl : List (Str × Addr)) (fp : List Addr), PE (X.blk s H scope (PySem.compEnvC scope cl C X.env) fp) elt (tE P F0 H0 W0 fe)) (h0 : F0.S = none ∨ 0 ∉ us := by first | exact Or.inl rfl | exact Or.inr (by decide))
    (hs : ∀ x, foldedSetIterable iter X.env x = pure x := by intro _; rfl) :
    PE X (.ListComp elt [⟨tg, iter, ifs, 0⟩] scope pos) (tN P F0 H0 W (fun ρ => do let items ← fi ρ; let ys ← lcD h gt fe (wipeE ρ us) items; mkL ys)) :=
  (pe_lc hc hN hi ok hg ht he hs).imp fun σ H Q ⟨F, ρ, er, z⟩ => by
  rw [hu]
  exact lc_of h0 er z
end
end DL
namespace DL
open PySem L2

/-! ### == of data -/
mutual
def toPD : D → Option PyData
  | .non => some .none
  | .bl b => some (.bool b)
  | .int i => some (.int i)
  | .str s => some (.str s)
  | .lst xs => (toPDs xs).map .list
  | .tup xs => (toPDs xs).map .tuple
  | .dK _ _ => none
  | .dT _ _ => none
  | .obj _ _ => none
  | .scr _ => none
def toPDs : List D → Option (List PyData)
  | [] => some []
  | d :: ds => (toPD d).bind fun x => (toPDs ds).map fun xs => x :: xs
end
section
variable {P : Pm} {F H : Hp} {K : PySem.W.Frag}
mutual
theorem Is.dp (e : Sb P F H) : ∀ (d : D) {v : V} {pd : PyData}, Is P F d v → toPD d = some pd → Dp K H v pd
  | .non, _, _, h, q => by rw [Is] at h; rw [toPD] at q; cases q; rw [h]; exact .non
  | .bl b, _, _, h, q => by rw [Is] at h; rw [toPD] at q; cases q; rw [h]; exact .bl b
  | .int i, _, _, h, q => by rw [Is] at h; rw [toPD] at q; cases q; rw [h]; exact .int i
  | .str s, _, _, h, q => by rw [Is] at h; rw [toPD] at q; cases q; rw [h]; exact .str s
  | .lst xs, _, _, h, q => by
    rw [Is] at h
    obtain ⟨a, vs, rfl, h2, h3⟩ := h
    rw [toPD] at q
    cases hx : toPDs xs with
    | none => rw [hx] at q; cases q
    | some ys =>
      rw [hx] at q
      cases q
      exact .lst (.inl (e.rd h2)) (IsL.dp e xs h3 hx)
  | .tup xs, _, _, h, q => by
    rw [Is] at h
    obtain ⟨a, vs, rfl, h2, h3⟩ := h
    rw [toPD] at q
    cases hx : toPDs xs with
    | none => rw [hx] at q; cases q
    | some ys =>
      rw [hx] at q
      cases q
      exact .tup (.inl (e.rd h2)) (IsL.dp e xs h3 hx)
  | .dK ks xs, _, _, h, q => by rw [toPD] at q; cases q
  | .dT ks xs, _, _, h, q => by rw [toPD] at q; cases q
  | .obj c xs, _, _, h, q => by rw [toPD] at q; cases q
  | .scr ns, _, _, h, q => by rw [toPD] at q; cases q
theorem IsL.dp (e : Sb P F H) : ∀ (ds : List D) {vs : List V} {ps : List PyData}, IsL P F ds vs → toPDs ds = some ps → DpAll K H vs ps
  | [], _, _, h, q => by rw [IsL] at h; rw [toPDs] at q; cases q; rw [h]; exact .nil
  | d :: ds, _, _, h, q => by
    rw [IsL] at h
    obtain ⟨v, r, rfl, h2, h3⟩ := h
    rw [toPDs] at q
    cases hd : toPD d with
    | none => rw [hd] at q; cases q
    | some x =>
      cases hx : toPDs ds with
      | none => rw [hd, hx] at q; cases q
      | some xs =>
        rw [hd, hx] at q
        cases q
        exact .cons (Is.dp e d h2 hd) (IsL.dp e ds h3 hx)
end
theorem Vw.dp (e : Sb P F H) : ∀ (d : D) {v : V} {pd : PyData}, Vw P F H d v → toPD d = some pd → Dp K H v pd
  | .non, _, _, h, q => by rw [toPD] at q; cases q; rw [show _ = V.non from h]; exact .non
  | .bl b, _, _, h, q => by rw [toPD] at q; cases q; rw [show _ = V.bl b from h]; exact .bl b
  | .int i, _, _, h, q => by rw [toPD] at q; cases q; rw [show _ = V.int i from h]; exact .int i
  | .str s, _, _, h, q => by rw [toPD] at q; cases q; rw [show _ = V.str s from h]; exact .str s
  | .lst xs, _, _, ⟨a, vs, h1, h2, h3⟩, q => by
    subst h1
    rw [toPD] at q
    cases hx : toPDs xs with
    | none => rw [hx] at q; cases q
    | some ys =>
      rw [hx] at q
      cases q
      exact .lst (.inl h2) (IsL.dp e xs h3 hx)
  | .tup xs, _, _, ⟨a, vs, h1, h0, h2, h3⟩, q => by
    subst h1
    rw [toPD] at q
    cases hx : toPDs xs with
    | none => rw [hx] at q; cases q
    | some ys =>
      rw [hx] at q
      cases q
      exact .tup (.inl h2) (IsL.dp e xs h3 hx)
  | .dK ks xs, _, _, h, q => by rw [toPD] at q; cases q
  | .dT ks xs, _, _, h, q => by rw [toPD] at q; cases q
  | .obj c xs, _, _, h, q => by rw [toPD] at q; cases q
  | .scr ns, _, _, h, q => by rw [toPD] at q; cases q
end
def eqP (x y : D) : Option Bool := (toPD x).bind fun a => (toPD y).bind fun b => if SeqAt.shaped a = true ∧ SeqAt.shaped b = true then some (PyData.eqv a b) else none
def eqD (x y : D) : Option D := (eqP x y).map .bl
def neD (x y : D) : Option D := (eqP x y).map fun b => .bl (!b)
section
variable {X : Cx} {P : Pm} {F0 : Fz} {H0 : Hp} {W : WX} {a b c e o : Expr} {es : List Expr} {fa fb fc : Env → Res D} {fs : Env → Res (List D)} {pos p apos : Pos} {σ : St} {H F : Hp}
theorem eqP_of {x y : D} {b : Bool} (h : eqP x y = some b) : ∃ p q, toPD x = some p ∧ toPD y = some q ∧ SeqAt.shaped p = true ∧ SeqAt.shaped q = true ∧ PyData.eqv p q = b := by
  unfold eqP at h
  cases hx : toPD x with
  | none => rw [hx] at h; cases h
  | some p =>
    cases hy : toPD y with
    | none => rw [hx, hy] at h; cases h
    | some q =>
      rw [hx, hy] at h
      have h' : (if SeqAt.shaped p = true ∧ SeqAt.shaped q = true then some (PyData.eqv p q) else none) = some b := h
      split at h'
      · rename_i hs
        cases h'
        exact ⟨p, q, rfl, rfl, hs.1, hs.2, rfl⟩
      · cases h'
theorem io_eq (hu : X.A.units + 64 < cLine) : OpR X (compareOp .Eq) (r2O P eqD) := fun pins s σ H x y u v Q I rx ry ⟨F, dx, dy, d, e, i1, i2, hd, q⟩ => by
  unfold eqD at hd
  cases hb : eqP dx dy with
  | none => rw [hb] at hd; cases hd
  | some b =>
    rw [hb] at hd
    cases hd
    obtain ⟨p1, p2, h1, h2, h3, h4, rfl⟩ := eqP_of hb
    exact op_eqD hu pins s σ H x y u v Q I rx ry ⟨p1, p2, i1.dp e dx h1, i2.dp e dy h2, h3, h4, q.bl e⟩
theorem io_ne (hu : X.A.units + 64 < cLine) : OpR X (compareOp .NotEq) (r2O P neD) := fun pins s σ H x y u v Q I rx ry ⟨F, dx, dy, d, e, i1, i2, hd, q⟩ => by
  unfold neD at hd
  cases hb : eqP dx dy with
  | none => rw [hb] at hd; cases hd
  | some b =>
    rw [hb] at hd
    cases hd
    obtain ⟨p1, p2, h1, h2, h3, h4, rfl⟩ := eqP_of hb
    exact op_neD hu pins s σ H x y u v Q I rx ry ⟨p1, p2, i1.dp e dx h1, i2.dp e dy h2, h3, h4, q.bl e⟩
/-! ### // -/
def fdivC (i j : Int) : Option D := if j ≠ 0 ∧ j.natAbs.log2 < 9000 then some (.int (i.fdiv j)) else none
theorem op_fdivNW : OpR X (binaryOp .FloorDiv) (rI (fun _ j => j ≠ 0 ∧ j.natAbs.log2 < 9000) fun i j => .int (i.fdiv j)) := opI fun _ _ _ _ _ _ _ hc q => PyProof.Rows.floordiv_int hc.1 q (.inl (PyProof.noPylong_of_log2 hc.2))
theorem io_fdiv : OpR X (binaryOp .FloorDiv) (r2O P (int2 fdivC)) := op_int2 op_fdivNW fun i j d H Q hg q => by
  unfold fdivC at hg
  split at hg
  · rename_i hc
    cases hg
    exact ⟨i, j, rfl, rfl, hc, q _ fun F => is_int⟩
  · cases hg
/-! ### is None -/
def isNone : D → Bool
  | .non => true
  | _ => false
theorem Vw.non {d : D} {v : V} (h : Vw P F H d v) : decide (v = .non) = isNone d := by
  cases d with
  | non => rw [show v = .non from h]; rfl
  | bl b => rw [show v = .bl b from h]; rfl
  | int b => rw [show v = .int b from h]; rfl
  | str b => rw [show v = .str b from h]; rfl
  | lst xs => obtain ⟨a, vs, rfl, _⟩ := h; rfl
  | tup xs => obtain ⟨a, vs, rfl, _⟩ := h; rfl
  | dK ks xs => obtain ⟨a, vs, rfl, _⟩ := h; rfl
  | dT ks xs => obtain ⟨a, vs, rfl, _⟩ := h; rfl
  | obj ks xs => obtain ⟨a, dx, vs, rfl, _⟩ := h; rfl
  | scr ns => obtain ⟨a, rfl, _⟩ := h; rfl
theorem pd_isN {j pos'} (ha : PE X a (tV P F0 H0 W fa)) : PC X .Is a (.Constant .none j pos') (tE P F0 H0 W (fun ρ => do let x ← fa ρ; .ok (.bl (isNone x)))) := ⟨fun pins s σ H Q I h => (pc_isN ha).run pins s σ H Q I (by
  obtain ⟨F, ρ, er, z⟩ := h
  refine ⟨F, ρ, er, (PostG.bind (rel := rVw P) z).imp ?_⟩
  rintro v H1 ⟨F1, d, g, i, q⟩
  have e : decide (v = .non) = isNone d := Vw.non i
  rw [e]
  exact q.here g.s is_bl)⟩
theorem pd_notN {j pos'} (ha : PE X a (tV P F0 H0 W fa)) : PC X .IsNot a (.Constant .none j pos') (tE P F0 H0 W (fun ρ => do let x ← fa ρ; .ok (.bl (!isNone x)))) := ⟨fun pins s σ H Q I h => (pc_notN ha).run pins s σ H Q I (by
  obtain ⟨F, ρ, er, z⟩ := h
  refine ⟨F, ρ, er, (PostG.bind (rel := rVw P) z).imp ?_⟩
  rintro v H1 ⟨F1, d, g, i, q⟩
  have e : decide (v = .non) = isNone d := Vw.non i
  rw [e]
  exact q.here g.s is_bl)⟩
/-! ### built-ins -/
theorem VwL.uncons {d : D} {ds : List D} {vs : List V} (h : VwL P F H (d :: ds) vs) : ∃ v r, vs = v :: r ∧ Vw P F H d v ∧ VwL P F H ds r := h
theorem VwL.unnil {vs : List V} (h : VwL P F H [] vs) : vs = [] := h
def cAbs : List D → Option D
  | [.int i] => some (.int (if i < 0 then -i else i))
  | _ => none
theorem ic_abs : CallR X (.builtin "abs") (rcO P cAbs) := fun pins s σ H xs us Q I rx ⟨F, ds, d, e, i, hd, q⟩ => by
  unfold cAbs at hd
  split at hd
  · cases hd
    obtain ⟨v, r, rfl, i1, i⟩ := i.uncons
    obtain rfl := i.unnil
    exact call_abs pins s σ H _ us Q I rx ⟨_, by rw [show v = V.int _ from i1], q.int e⟩
  · cases hd
def cInt : List D → Option D
  | [.int i] => some (.int i)
  | [.bl b] => some (.int (if b then 1 else 0))
  | _ => none
theorem ic_int : CallR X (.type "int") (rcO P cInt) := fun pins s σ H xs us Q I rx ⟨F, ds, d, e, i, hd, q⟩ => by
  unfold cInt at hd
  split at hd
  · cases hd
    obtain ⟨v, r, rfl, i1, i⟩ := i.uncons
    obtain rfl := i.unnil
    exact call_int1 pins s σ H _ us Q I rx (.inl ⟨_, by rw [show v = V.int _ from i1], q.int e⟩)
  · cases hd
    obtain ⟨v, r, rfl, i1, i⟩ := i.uncons
    obtain rfl := i.unnil
    exact call_int1 pins s σ H _ us Q I rx (.inr ⟨_, by rw [show v = V.bl _ from i1], q.int e⟩)
  · cases hd
def cLen : List D → Option D
  | [.lst xs] => some (.int (xs.length : Nat))
  | [.tup xs] => some (.int (xs.length : Nat))
  | [.str z] => if z.length ≤ 1000000 then some (.int (z.length : Nat)) else none
  | _ => none
theorem ic_len : CallR X (.builtin "len") (rcO P cLen) := fun pins s σ H xs us Q I rx ⟨F, ds, d, e, i, hd, q⟩ => by
  unfold cLen at hd
  split at hd
  · cases hd
    obtain ⟨v, r, rfl, i1, i⟩ := i.uncons
    obtain rfl := i.unnil
    obtain ⟨a, vs, rfl, h1, h2⟩ := i1
    exact call_len_seq pins s σ H _ us Q I rx ⟨a, vs, rfl, .inl (.inl h1), by rw [← h2.length]; exact q.int e⟩
  · cases hd
    obtain ⟨v, r, rfl, i1, i⟩ := i.uncons
    obtain rfl := i.unnil
    obtain ⟨a, vs, rfl, h0, h1, h2⟩ := i1
    exact call_len_seq pins s σ H _ us Q I rx ⟨a, vs, rfl, .inr (.inl h1), by rw [← h2.length]; exact q.int e⟩
  · split at hd
    · rename_i hl
      cases hd
      obtain ⟨v, r, rfl, i1, i⟩ := i.uncons
      obtain rfl := i.unnil
      exact call_len_str pins s σ H _ us Q I rx ⟨_, by rw [show v = V.str _ from i1], Nat.le_trans hl (by decide), q.int e⟩
    · cases hd
  · cases hd
/-- bools -/
def bls : List D → Option (List Bool)
  | [] => some []
  | .bl b :: r => (bls r).map fun bs => b :: bs
  | _ => none
theorem bls_of : ∀ {ds : List D} {bs : List Bool} {vs : List V}, bls ds = some bs → IsL P F ds vs → vs = bs.map V.bl
  | [], bs, vs, h, i => by
    cases h
    exact i.unnil
  | d :: r, bs, vs, h, i => by
    obtain ⟨v, r', rfl, i1, i2⟩ := i.uncons
    cases d with
    | bl b =>
      have h' : (bls r).map (fun bs => b :: bs) = some bs := h
      cases hr : bls r with
      | none => rw [hr] at h'; cases h'
      | some bs' =>
        rw [hr] at h'
        cases h'
        rw [un_bl i1, bls_of hr i2]
        rfl
    | _ => cases h
def cAny : List D → Option D
  | [.lst xs] => (bls xs).map fun bs => .bl (bs.any id)
  | _ => none
def cAll : List D → Option D
  | [.lst xs] => (bls xs).map fun bs => .bl (bs.all id)
  | _ => none
theorem ic_any (hc : X.calm = true) : CallR X (.builtin "any") (rcO P cAny) := fun pins s σ H xs us Q I rx ⟨F, ds, d, e, i, hd, q⟩ => by
  unfold cAny at hd
  split at hd
  · rename_i ys
    cases hb : bls ys with
    | none => rw [hb] at hd; cases hd
    | some bs =>
      rw [hb] at hd
      cases hd
      obtain ⟨v, r, rfl, i1, i⟩ := i.uncons
      obtain rfl := i.unnil
      obtain ⟨a, vs, rfl, h1, h2⟩ := i1
      exact cr_any hc pins s σ H _ us Q I rx ⟨a, bs, rfl, by rw [← bls_of hb h2]; exact .inl h1, q.bl e⟩
  · cases hd
theorem ic_all (hc : X.calm = true) : CallR X (.builtin "all") (rcO P cAll) := fun pins s σ H xs us Q I rx ⟨F, ds, d, e, i, hd, q⟩ => by
  unfold cAll at hd
  split at hd
  · rename_i ys
    cases hb : bls ys with
    | none => rw [hb] at hd; cases hd
    | some bs =>
      rw [hb] at hd
      cases hd
      obtain ⟨v, r, rfl, i1, i⟩ := i.uncons
      obtain rfl := i.unnil
      obtain ⟨a, vs, rfl, h1, h2⟩ := i1
      exact cr_all hc pins s σ H _ us Q I rx ⟨a, bs, rfl, by rw [← bls_of hb h2]; exact .inl h1, q.bl e⟩
  · cases hd
/-! ### isinstance -/
/-- what the text says of an own class, for isinstance -/
structure IsiC (K : PySem.W.Frag) (C : Addr) : Prop where
  cl : Cls K C
  ha : PySem.W.findIn K (.ref C) "__class__" = some (some (.builtin "object.__class__"))
  hn : PySem.W.specialIn K (.builtin "object.__class__") "__get__" = some (some (.builtin "getset_descriptor.__get__"))
  htk : PySem.W.takesIn K (.builtin "object.__class__") = some true
  hm : PySem.W.mroIn K C (.type "object") = some true
/-- the type of data -/
def tyD (P : Pm) : D → Value
  | .non => .type "NoneType"
  | .bl _ => .type "bool"
  | .int _ => .type "int"
  | .str _ => .type "str"
  | .lst _ => .type "list"
  | .tup _ => .type "tuple"
  | .dK _ _ => .type "dict"
  | .dT _ _ => .type "dict"
  | .obj c _ => .ref (P.C c)
  | .scr _ => .type "list"
theorem Vw.ty {K : PySem.W.Frag} (hI : ∀ c, IsiC K (P.C c)) {d : D} {v : V} (h : Vw P F H d v) (hs : ∀ ns, d ≠ .scr ns) : TyX K H v (tyD P d) := by
  cases d with
  | non => rw [show v = .non from h]; exact .base .non
  | bl b => rw [show v = .bl b from h]; exact .base (.bl b)
  | int b => rw [show v = .int b from h]; exact .base (.int b)
  | str b => rw [show v = .str b from h]; exact .base (.str b)
  | lst xs =>
    obtain ⟨a, vs, rfl, h1 | ⟨o, h1⟩, _⟩ := h
    · exact .base (.lst h1)
    · exact .base (.frz h1)
  | tup xs =>
    obtain ⟨a, vs, rfl, _, h1 | ⟨o, h1⟩, _⟩ := h
    · exact .base (.tup h1)
    · exact .fTuple h1
  | dK ks xs =>
    obtain ⟨a, vs, rfl, h1 | ⟨o, h1⟩, _⟩ := h
    · exact .base (.dK h1)
    · exact .fDict h1
  | dT ks xs =>
    obtain ⟨a, vs, rfl, h1, _⟩ := h
    exact .base (.dT h1)
  | obj c xs =>
    obtain ⟨a, dx, vs, rfl, h1, _⟩ := h
    exact .base (.ins h1 (hI c).cl (hI c).ha (hI c).hn (hI c).htk (hI c).hm)
  | scr ns => exact absurd rfl (hs ns)
end
end DL
namespace PySem
namespace ErrX
open PySem.W PySem.Calls PyProof.Rows PySem.HandSPX
/-! ### an own error over ListError over ValueError: super().__init__('..'); self.f = v -/
abbrev iArgs (f : Str) (p1 p2 : Pos) : Arguments := { posonlyargs := [], args := [{ arg := "self", annotation := none, pos := p1 }, { arg := f, annotation := none, pos := p2 }], vararg := none, kwonlyargs := [], kw_defaults := [], kwarg := none, defaults := [] }
abbrev iSuper (msg : Str) (j : Nat) (q0 q1 q2 q3 q4 q5 : Pos) : Stmt := .Expr (.Call (.Attribute (.Call (.Name "super" q0) [] [] q1) "__init__" q2) [.Constant (.str msg) j q3] [] q4) q5
abbrev iSet (f : Str) (r1 r2 r3 r4 : Pos) : Stmt := .Assign [.Attribute (.Name "self" r1) f r2] (.Name f r3) r4
abbrev iSc (f : Str) : Scope := { kind := .function, names := [(PySem.Str.ofString "self", .local), (f, .local), (PySem.Str.ofString "__class__", .free), (PySem.Str.ofString "super", .globalImplicit)], isGenerator := false, isCoroutine := false, more := [] }
/-- what the text of __init__ shows by itself (rfl, each) -/
structure ErrEv (fd : FuncData) (fI : Addr) (f msg : Str) (j : Nat) (q0 q1 q2 q3 q4 q5 r1 r2 r3 r4 : Pos) : Prop where
  he : ∃ pl : Sem Bool, ∀ L : Addr, eval (.Call (.Attribute (.Call (.Name "super" q0) [] [] q1) "__init__" q2) [.Constant (.str msg) j q3] [] q4) (callEnv fd L fI) = (do
      let ov ← attributeBase (.Call (.Name "super" q0) [] [] q1) "__init__" (callEnv fd L fI) (eval (.Call (.Name "super" q0) [] [] q1) (callEnv fd L fI))
      standAt q2.atName
      let (f, first) ← holding [ov] (getMethod ov "__init__" pl)
      callWith q4 f first (backTo q4 (starEach [.Constant (.str msg) j q3] (callEnv fd L fI))) [])
  hi : ∀ L : Addr, interactive (callEnv fd L fI) = false
  hs : ∀ L : Addr, swapsWith (.Call (.Attribute (.Call (.Name "super" q0) [] [] q1) "__init__" q2) [.Constant (.str msg) j q3] [] q4) none q5.line (callEnv fd L fI) = pure false
  hs2 : ∀ L : Addr, swapsWith (.Name f r3) (some (.Attribute (.Name "self" r1) f r2)) r4.line (callEnv fd L fI) = pure false
  st : ∀ L : Addr, starEach [.Constant (.str msg) j q3] (callEnv fd L fI) = (false, eval (.Constant (.str msg) j q3) (callEnv fd L fI)) :: starEach [] (callEnv fd L fI)
  bind : ∀ u v : Value, bindArgs fd ⟨[u, v], []⟩ = pure [(("self" : Str), u), (f, v)]
/-- what the text says of such a class at C: f its field, msg its message, x its name -/
structure ErrTxt (prog : Program) (K : Frag) (mg : Str → Option Value) (x f : Str) (C fI : Addr) : Prop where
  gC : mg x = some (.ref C)
  cls : ∃ nm q N bs bm sn sub ab col dd k0 k1 k2 k3 k5, K.lookup C = some (excClassObj nm q C N bs bm true sn sub ab col dd k0 k1 k2 k3 k5 "ValueError.__new__") ∧ refsVE bm = true
  sa : findIn K (.ref C) "__setattr__" = some (some (.builtin "object.__setattr__"))
  ga : findIn K (.ref C) "__getattribute__" = some (some (.builtin "BaseException.__getattribute__"))
  gg : findIn K (.ref C) "__getattr__" = some none
  noN : findIn K (.ref C) f = some none
  iC : findIn K (.ref C) "__init__" = some (some (.ref fI))
  tC : typeIn K (.ref fI) = some (.type "function")
  kC : keepIn K (.ref C) = true
  exC : subIn K (.ref C) (.type "BaseException") = some true
  veC : subIn K (.ref C) (.type "ValueError") = some true
  tyC : typeIn K (.ref C) = some (.type "type")
  hdC : hasDictIn K C = true
  mro : mroIn K C (.ref C) = some true
  sup : ks_superIn K C C "__init__" = some (some (.builtin "ValueError.__init__"))
  opq : nsIn K cStatics "thirdparty.any" = some none
  hsup : mg "super" = none
  htop : (prog.main.scope.names.lookup ("super" : Str)).isSome = false
  fn : ∃ (oc : Value) (od : Option Addr) (q msg : Str) (j : Nat) (doc pm : Value) (an : Option Addr) (ct : Value) (osl : Array (Option Value)) (cc cda : Addr) (p1 p2 q0 q1 q2 q3 q4 q5 r1 r2 r3 r4 : Pos) (ccl cl : Value) (cdd cld : Option Addr) (vs : Array Value) (ccs csl : Array (Option Value)) (file : Str) (tf : Tok),
    K.lookup fI = some ⟨oc, od, .func (ksFn "__init__" q (iArgs f p1 p2) [iSuper msg j q0 q1 q2 q3 q4 q5, iSet f r1 r2 r3 r4] (iSc f) .none .none doc pm an (.ref cda) ct cc), osl⟩ ∧ codeIn K (.ref cda) q = true ∧
    K.lookup cda = some ⟨ccl, cdd, .fields vs, ccs⟩ ∧ vs[2]? = some (.str file tf) ∧ ((prog.main.file : Str) == file) = true ∧ K.lookup cc = some ⟨cl, cld, .cell (some (.ref C)), csl⟩ ∧
    ErrEv (ksFn "__init__" q (iArgs f p1 p2) [iSuper msg j q0 q1 q2 q3 q4 q5, iSet f r1 r2 r3 r4] (iSc f) .none .none doc pm an (.ref cda) ct cc) fI f msg j q0 q1 q2 q3 q4 q5 r1 r2 r3 r4
/-- what __init__ leaves of a fresh exception at x -/
structure InitEnd (h h' : Heap) (x C dx t1 : Addr) (f : Str) (v : Value) : Prop where
  keep : ∀ b o, b ≠ x → h.get? b = some o → h'.get? b = some o
  obj : h'.get? x = some { cls := .ref C, dict := some dx, data := .fields #[.ref t1, .none, .none, .none, .bool false, .none] }
  dbig : h.objs.size ≤ dx
  dne : dx ≠ x
  ns : h'.Ns1 dx (fun y => if y = f then some v else none)
/-- a made error -/
structure OwnMade (h h' : Heap) (e C d : Addr) (f : Str) (v : Value) : Prop where
  keep : ∀ b o, h.get? b = some o → h'.get? b = some o
  new : h.objs.size ≤ e
  obj : ∃ oe vs, h'.get? e = some oe ∧ oe.cls = .ref C ∧ oe.dict = some d ∧ oe.data = .fields vs ∧ vs[1]? = some .none
  dbig : h.objs.size ≤ d
  dne : d ≠ e
  ns : h'.Ns1 d (fun y => if y = f then some v else none)
section
variable {prog : Program} {w : World} {A : Around} {E : Value → Shared → Prop} {h : Heap} {g : Array GenState} {d : Drawn} {t : Nat} {os : OsState}
variable {nm q : Str} {C N : Addr} {bs bm : List Value} {hdct : Bool} {sn : List Str} {sub : List Value} {ab : Bool} {col : Option Bool} {dd : Option Addr} {k0 k1 k2 k3 k5 : Option Value}
/-- the bound ValueError.__init__ is called -/
theorem call_mw {u e t0 : Addr} {rest : List Value} {Q : Value → Shared → Prop}
    (hC : h.get? C = some (excClassObj nm q C N bs bm hdct sn sub ab col dd k0 k1 k2 k3 k5 "ValueError.__new__")) (he : h.get? e = some (excO C t0)) (hu : h.get? u = some (kxs_mw "ValueError.__init__" e)) (hrest : rest.length ≤ sizeLine)
    (hq : ∀ h' t1, (∀ b o, b ≠ e → h.get? b = some o → h'.get? b = some o) → h'.get? e = some (excO C t1) → Q .none ⟨h', g, d, t, os⟩) :
    wpAny (model prog w) A (call (.ref u) rest) Q E ⟨h, g, d, t, os⟩ := by
  refine wpAny_call (codeAny_of_tree ?_)
  show wpAny _ A.in1 (callAny (.ref u) ⟨rest, []⟩) _ _ _
  simp only [callAny]
  refine wpAny_bind (wpAny_load hu ?_)
  simp only [kxs_mw, show (Value.type "method-wrapper" == Value.type "method" || Value.type "method-wrapper" == Value.type "builtin_function_or_method" || Value.type "method-wrapper" == Value.type "method-wrapper") = true by decide, if_true]
  refine W.KFB.if_so (by decide) ?_
  refine wpAny_bind (PySem.W.check_bound_init F.excBase_ValueError.toExcCallFacts hC he rfl ?_)
  refine wpAny_bind (wpAny_pure (wpAny_pure ?_))
  refine ⟨Code.quiet_builtin _ (by decide +kernel), codeAny_builtin F.excBase_ValueError.initEntry ?_⟩
  rw [Around.under_plainId F.excBase_ValueError.init.plain _]
  wp_walk
  refine hq _ h.objs.size (fun b o hb ho => ?_) ?_
  · rw [Heap.get?_update_other _ _ (Ne.symm hb)]
    exact Heap.get?_push_of_some _ ho
  · rw [Heap.get?_update_self _ (Heap.get?_push_of_some _ he) rfl]
    rfl
end
section
variable {prog : Program} {w : World} {A : Around} {E : Value → Shared → Prop} {R : Result → Shared → Prop} {s : Shared} {K : Frag} {mg mb : Str → Option Value} {C fI : Addr} {xn f : Str}
theorem at_of {M : Model} {c : Code} {α : Type} {t : Sem α} {Q : α → Shared → Prop} (h : wpAny M A t Q E s) : _root_.PySem.wpAt M A c t Q E s := fun Γ p _ hΓ => h Γ p hΓ
theorem err_init (T : ErrTxt prog K mg xn f C fI) (hfs : ¬ f = "self") (hfc : ¬ f = "__class__") (hfp : ¬ f = "super") (hfd : (f == ("__debug__" : Str)) = false) {x t0 : Addr} {v : Value} (X : K.In s.heap) (G : s.heap.Ns mainGlobals mg) (GB : s.heap.Ns builtinsNs mb) (hmb : mb "super" = some (.type "super")) (hlim : s.heap.NoLimit) (hx : s.heap.get? x = some (excO C t0)) (hnx : K.lookup x = none) (hroom : A.depth < recursionLimit)
    (hq : ∀ h' tk dx t1, InitEnd s.heap h' x C dx t1 f v → R (.ok (.ret .none)) { s with heap := h', toks := tk }) :
    codeAny (model prog w) A (.call (.ref fI) ⟨[.ref x, v], []⟩) R s := by
  obtain ⟨oc, od, q, msg, j, doc, pm, an, ct, osl, cc, cda, p1, p2, q0, q1, q2, q3, q4, q5, r1, r2, r3, r4, ccl, cl, cdd, cld, vs, ccs, csl, file, tf, ho, hcd, hcode, hvs, hfile, hcell, hev⟩ := T.fn
  obtain ⟨nm, qq, N, bs, bm, sn, sub, ab, col, dd, k0, k1, k2, k3, k5, hC, hbm⟩ := T.cls
  have hcl : clsIn K C = some { name := nm, bases := bs, mro := .ref C :: bm, ns := N, qualname := qq, hasDict := true, slotNames := sn, subclasses := sub, abstract := ab, collection := col, hasDel := false } := by unfold clsIn; rw [hC] <;> rfl
  have l1 : (iSc f).names.lookup ("self" : Str) = some .local := by simp [iSc, List.lookup]
  have hfs' : (f == ("self" : Str)) = false := beq_eq_false_iff_ne.mpr hfs
  have hfc' : (("__class__" : Str) == f) = false := beq_eq_false_iff_ne.mpr (Ne.symm hfc)
  have hfp' : (("super" : Str) == f) = false := beq_eq_false_iff_ne.mpr (Ne.symm hfp)
  have l2 : (iSc f).names.lookup f = some .local := by simp [iSc, List.lookup, hfs']
  have c1 : (("__class__" : Str) == ("self" : Str)) = false := by decide
  have c2 : (("super" : Str) == ("self" : Str)) = false := by decide
  have c3 : (("super" : Str) == ("__class__" : Str)) = false := by decide
  have l3 : (iSc f).names.lookup ("__class__" : Str) = some .free := by simp [iSc, List.lookup, c1, hfc']
  have l4 : (iSc f).names.lookup ("super" : Str) = some .globalImplicit := by simp [iSc, List.lookup, c2, c3, hfp']
  refine ks_codeAny_call_defAt (fd := ksFn "__init__" q (iArgs f p1 p2) [iSuper msg j q0 q1 q2 q3 q4 q5, iSet f r1 r2 r3 r4] (iSc f) .none .none doc pm an (.ref cda) ct cc) (body := [iSuper msg j q0 q1 q2 q3 q4 q5, iSet f r1 r2 r3 r4]) (binds := [("self", .ref x), (f, v)]) hroom (X _ _ ho) rfl hlim (codeRec_of X hcd) rfl (BindsTo.of_eq (hev.bind _ _)) ?_ ?_ (fun h₁ hns hk₁ => ?_)
  · intro y hy
    have hy' : y ∈ (iSc f).names := hy
    simp only [iSc, List.mem_cons, List.not_mem_nil, or_false] at hy'
    rcases hy' with rfl | rfl | rfl | rfl <;> (intro z; cases z)
  · intro y hy
    simp only [List.mem_cons, List.not_mem_nil, or_false] at hy
    rcases hy with rfl | rfl
    · exact l1
    · exact l2
  · have nself : (fun y => [(("self" : Str), Value.ref x), (f, v)].reverse.lookup y) "self" = some (.ref x) := by
      have : (("self" : Str) == f) = false := beq_eq_false_iff_ne.mpr (Ne.symm hfs)
      simp [List.lookup, this]
    have nf : (fun y => [(("self" : Str), Value.ref x), (f, v)].reverse.lookup y) f = some v := by simp [List.lookup]
    generalize hm : (fun y => [(("self" : Str), Value.ref x), (f, v)].reverse.lookup y) = m at hns nself nf
    have X₁ : K.In h₁ := X.keeps hk₁
    have hx₁ := hk₁ _ _ hx
    have hxL : s.heap.objs.size ≠ x := Nat.ne_of_gt (Heap.lt_size hx)
    obtain ⟨hp, gn, dr, tk, os⟩ := s
    -- super().__init__('..')
    obtain ⟨pl, he⟩ := hev.he
    refine ks_wpAt_execs_cons (ks_wpAt_Expr_any (ks_wpAt_MethodCall (pl := pl) ?_ (he _)) (hev.hi _) (hev.hs _))
    · refine ks_wpAt_super_base (f := fI) (cc := cda) l4 l3 (by decide) rfl (X₁ _ _ ho) rfl rfl rfl (X₁ _ _ hcode) rfl hvs hfile T.htop ?_
      refine ks_loadName_global rfl l4 (loadGlobal_builtin (G.keeps hk₁) T.hsup (GB.keeps hk₁) hmb ⟨rfl, ?_⟩)
      refine wpAny_loadName_free rfl l3 rfl ⟨_, X₁ _ _ hcell, rfl⟩ ?_
      refine wpAny_loadName_local rfl l1 hns nself ?_
      refine ks_wpAny_isType_cls (X₁ _ _ hC) rfl ⟨rfl, ?_⟩
      refine ks_wpAny_call_super (X₁ _ _ hC) rfl hx₁ rfl (fun c e => by cases e) (looks_mroIn X₁ T.mro) (fun h₂ e2 k₂ => ?_)
      have X₂ : K.In h₂ := X₁.keeps k₂
      have hx₂ := k₂ _ _ hx₁
      have I₂ : InstAt h₂ x (excO C t0) C none := ⟨hx₂, rfl, rfl, trivial⟩
      have hI : Looks (model prog w) h₂ (isInstance (.ref x) (.type "ValueError")) true := I₂.type.andThen (looks_subIn X₂ T.veC)
      have hm2 := T.sup
      unfold ks_superIn at hm2
      rw [hcl] at hm2
      refine kxs_getMethod kxs_ValueError e2 (looks_opaque X₂ T.opq) (l₀ := .ref C :: bm) ?_ rfl X₂ hm2 hI (ks_ne X₂ I₂ hcl) (by decide) ?_
      · exact fun A Q E s k q => wpAny_bind ((looks_clsIn X₂ hcl) A _ E s k (wpAny_pure q))
      show wpAny _ _ (callWith q4 (.ref h₂.objs.size) [] _ []) _ _ _
      refine kxs_callWith (i := "ValueError.__init__") (x := x) (u := h₂.objs.size) ?_ ?_
      · rw [hev.st]
        rfl
      · rw [hev.st]
        refine evalArgs_plain ?_
        refine Calls.spliced_cons (wpAny_Constant_str (x := msg) (k := j) (pos := q3) (Calls.spliced_nil ?_))
        refine ⟨Heap.get?_push_at rfl rfl, ?_⟩
        have kP : ∀ b o, h₂.get? b = some o → (h₂.push (kxs_mw "ValueError.__init__" x)).get? b = some o := fun b o e => Heap.get?_push_of_some _ e
        refine call_mw (t0 := t0) (kP _ _ (X₂ _ _ hC)) (kP _ _ hx₂) (Heap.get?_push_at rfl rfl) (by show 1 ≤ sizeLine; decide) fun h₃ t1 k₃ hx₃ => ?_
        show _root_.PySem.wpAt _ _ _ (execs _ _) _ _ _
        -- self.f = v
        have keep0 : ∀ b o, b ≠ x → hp.get? b = some o → h₃.get? b = some o := fun b o hb e => k₃ b o hb (kP _ _ (k₂ _ _ (hk₁ _ _ e)))
        have keep1 : ∀ b o, b ≠ x → h₁.get? b = some o → h₃.get? b = some o := fun b o hb e => k₃ b o hb (kP _ _ (k₂ _ _ e))
        have X₃ : K.In h₃ := fun a o e => k₃ a o (fun z => by rw [z, hnx] at e; cases e) (kP _ _ (X₂ a o e))
        have hns₃ : h₃.Ns hp.objs.size m := by
          obtain ⟨oL, es, ep, hL, r⟩ := hns
          exact ⟨oL, es, ep, keep1 _ _ hxL hL, r⟩
        refine ks_wpAt_execs_cons (ks_wpAt_Assign_Attr (at_of ?_) (hev.hs2 _))
        refine wpAny_Name (wpAny_loadName_local rfl l2 hns₃ nf ?_) hfd
        refine wpAny_Name (wpAny_loadName_local rfl l1 hns₃ nself ?_) (by decide)
        refine set_plain X₃ (ox := excO C t1) (od := none) ⟨hx₃, rfl, rfl, trivial⟩ T.sa ?_
        refine exc_osa X₃ hx₃ hcl (show refsVE (.ref C :: bm) = true from hbm) rfl T.noN (fun h₄ tk₄ dx k₄ dn dne hx₄ hn₄ => ?_)
        show _root_.PySem.wpAt _ _ _ (execs _ _) _ _ _
        refine at_of (wpAny_execs_nil ?_)
        refine hq h₄ tk₄ dx t1 ⟨fun b o hb e => k₄ b o hb (keep0 b o hb e), hx₄, ?_, dne, hn₄⟩
        have z1 : hp.objs.size < h₃.objs.size := hns₃.lt
        exact Nat.le_of_lt (Nat.lt_of_lt_of_le z1 dn)
end
end ErrX
end PySem
namespace PySem
namespace ErrX
open PySem.W PySem.Calls PyProof.Rows PySem.HandSPX
section
variable {prog : Program} {w : World} {A : Around} {E : Value → Shared → Prop} {R : Result → Shared → Prop} {s : Shared} {K : Frag} {mg mb : Str → Option Value} {C fI : Addr} {xn f : Str}
/-- f is a plain name -/
structure FldOk (f : Str) : Prop where
  ns : ¬ f = "self"
  nc : ¬ f = "__class__"
  np : ¬ f = "super"
  nd : (f == ("__debug__" : Str)) = false
theorem err_made (T : ErrTxt prog K mg xn f C fI) (hf : FldOk f) {v : Value} (X : K.In s.heap) (G : s.heap.Ns mainGlobals mg) (GB : s.heap.Ns builtinsNs mb) (hmb : mb "super" = some (.type "super")) (hlim : s.heap.NoLimit) (hroom : A.depth + 1 < recursionLimit)
    (hq : ∀ h' tk e d, OwnMade s.heap h' e C d f v → R (.ok (.ret (.ref e))) { s with heap := h', toks := tk }) :
    codeAny (model prog w) A (.call (.ref C) ⟨[v], []⟩) R s := by
  obtain ⟨nm, qq, N, bs, bm, sn, sub, ab, col, dd, k0, k1, k2, k3, k5, hC, hbm⟩ := T.cls
  obtain ⟨hp, gn, dr, tk, os⟩ := s
  have kq : ∀ b o, hp.get? b = some o → ((hp.push (kdv_tup [v])).push (excO C hp.objs.size)).get? b = some o := fun b o e => Heap.get?_push_of_some _ (Heap.get?_push_of_some _ e)
  have hg2 : ((hp.push (kdv_tup [v])).push (excO C hp.objs.size)).get? (hp.objs.size + 1) = some (excO C hp.objs.size) := by heap_get
  have hnx : K.lookup (hp.objs.size + 1) = none := by
    cases e : K.lookup (hp.objs.size + 1) with
    | none => rfl
    | some o =>
      have z : hp.get? (hp.objs.size + 1) = some o := X _ _ e
      exact absurd (Nat.lt_of_succ_lt (Heap.lt_size z)) (Nat.lt_irrefl _)
  have h1 : [v].length ≤ sizeLine := by show 1 ≤ sizeLine; decide
  refine call_own F.excBase_ValueError (fun Z => refsVE_contains Z bm hbm) (X _ _ hC) (looks_findIn X T.iC) (fun self => bind_fn X self T.tC) h1 ?_
  refine err_init (s := ⟨(hp.push (kdv_tup [v])).push (excO C hp.objs.size), gn, dr, tk, os⟩) T hf.ns hf.nc hf.np hf.nd (X.keeps kq) (G.keeps kq) (GB.keeps kq) hmb (hlim.keeps kq) hg2 hnx ?_ fun h' tk' dx t1 ⟨k', hx, dn, dne, hns⟩ => ?_
  · show A.depth + 1 < recursionLimit
    exact hroom
  · have old : ∀ b o, hp.get? b = some o → h'.get? b = some o := fun b o e => k' b o (Nat.ne_of_lt (Nat.lt_succ_of_lt (Heap.lt_size e))) (kq b o e)
    have z : hp.objs.size + 1 + 1 ≤ dx := by
      first
        | (simpa only [Heap.size_push] using dn)
        | exact dn
        | (have q := dn; rw [Heap.size_push, Heap.size_push] at q; exact q)
    exact ⟨rfl, hq h' tk' (hp.objs.size + 1) dx ⟨old, Nat.le_succ _, ⟨_, _, hx, rfl, rfl, rfl, rfl⟩, Nat.le_trans (Nat.le_trans (Nat.le_succ _) (Nat.le_succ _)) z, dne, hns⟩⟩
end
end ErrX
end PySem
namespace DL
open PySem L2 PySem.ErrX
theorem relO_one {v : V} {v' : Value} {f : Str} (r : RelV v v') (y : Str) : RelO (List.lookup y [(f, v)]) (if y = f then some v' else none) := by
  by_cases hw : y = f
  · subst hw
    rw [if_pos rfl, show List.lookup y [(y, v)] = some v by simp [List.lookup]]
    exact r
  · have qw : (y == f) = false := by simpa using hw
    rw [if_neg hw, show List.lookup y [(f, v)] = none by simp [List.lookup, qw]]
    trivial
section
variable {X : Cx} {C fI : Addr} {xn f : Str}
/-- an own error made of one value -/
def tMkE (C : Addr) (f : Str) (ta : TA) : L2.St → Hp → XK → Prop := fun σ H Q => ta σ H fun vs H1 => ∃ v, vs = [v] ∧ ∀ d, H1 d = none → Q (.ref C) (some d) (upd H1 d (.xd [(f, v)]))
theorem pmk_err {a : Expr} {ta : TA} {p pos : Pos} {k : Nat} (T : ErrTxt X.prog X.K X.mg xn f C fI) (hfo : FldOk f) (hr : Room k X.A) (ha : PA X [a] ta) (hg : Gl X xn) (hdb : (xn == ("__debug__" : Str)) = false)
    (he : starEach (a :: []) X.env = (false, eval a X.env) :: starEach [] X.env := by rfl) (hpl : (backTo pos (starEach [] X.env)).any (·.1) = false := by rfl) :
    PMk X (.Call (.Name xn p) [a] [] pos) (tMkE C f ta) := by
  intro pins s σ H Q I h
  refine wpAny_Call_Name_kw (ld_glob I hg T.gC ?_ hdb)
  refine PySem.W.callWith_K (h₀ := X.base) I.ok.mod.kin T.kC (thn (ha.run pos pins s σ H _ I h) fun us s1 hh => ?_) he hpl
  obtain ⟨vs, H1, I1, r1, v, ev, q1⟩ := hh
  subst ev
  refine ⟨I1.kIn, ?_⟩
  cases r1 with
  | cons rv rn =>
    rename_i v' us'
    cases rn
    show wpAny _ _ (call (.ref C) [v']) _ _ _
    have hlim := I1.nolimit
    obtain ⟨mb, hmb1, hmb2⟩ := I1.ok.mod.blt
    have G1 := I1.ok.mod.glob.keeps I1.bk
    have G2 := hmb1.keeps I1.bk
    obtain ⟨hp, g, dr, tk, os⟩ := s1
    refine wpAny_call (err_made T hfo I1.kIn G1 G2 ((hmb2 "super" (by decide)).trans (by decide +kernel)) hlim (by have := hr.dp; omega) fun h' tk' e d M => ?_)
    show MkP X pins σ Q (.ref e) ⟨h', g, dr, tk', os⟩
    obtain ⟨oe, fv, hoe, hc, hd, hdat, h1⟩ := M.obj
    obtain ⟨G', g1, g2⟩ := restrict h' fun b => decide (b ≠ e)
    have gk : ∀ b, b ≠ e → G'.get? b = h'.get? b := fun b hb => g1 b (decide_eq_true hb)
    have ge : G'.get? e = none := g2 e (by simp)
    have old : ∀ b o, hp.get? b = some o → G'.get? b = some o := fun b o q => (gk b (Nat.ne_of_lt (Nat.lt_of_lt_of_le (Heap.lt_size q) M.new))).trans (M.keep b o q)
    have ob : ObjOk X.prog X.w (upd H1 d (.xd [(f, v)])) G' d (.xd [(f, v)]) := ⟨_, M.ns.at (fun o q => (gk d M.dne).trans q), fun y => relO_one rv y⟩
    have J : Inv X pins σ (upd H1 d (.xd [(f, v)])) ⟨G', g, dr, tk', os⟩ := I1.laid (t' := tk') old M.dbig ob
    refine ⟨e, oe, fv, ⟨G', g, dr, tk', os⟩, _, .ref C, some d, rfl, J, fun b o q => ?_, ge, hoe, ⟨hc, hd⟩, hdat, h1, ?_, rfl, I1.bare, raises_own T.exC T.tyC, q1 d (I1.hok.fresh M.dbig)⟩
    · by_cases hb : b = e
      · have q' : G'.get? b = some o := q
        rw [hb, ge] at q'
        cases q'
      · exact (gk b hb).symm.trans q
    · rw [upd_ne (Ne.symm M.dne)]
      exact I1.hok.fresh M.new
/-- e.f of the error that the suite holds -/
def tFE (C : Addr) (f : Str) (a : Addr) (cls : Value) (d : Option Addr) (te : TE) : TE := fun σ H Q => te σ H fun x H1 => x = .ref a ∧ cls = .ref C ∧ ∃ (dd : Addr) (v : V), d = some dd ∧ H1 dd = some (.xd [(f, v)]) ∧ Q v H1
theorem pe_fe {a : Addr} {oe : Obj} {cls : Value} {d : Option Addr} {pn : List (Addr × Obj)} {e : Expr} {te : TE} {pos : Pos} (T : ErrTxt X.prog X.K X.mg xn f C fI) (hz : Zc cls d oe) (hf : ∃ vs, oe.data = .fields vs) (he : PE (X.suite a ((a, oe) :: pn)) e te)
    (hb : attributeBase e f X.env (eval e X.env) = eval e X.env := by rfl) : PE (X.suite a ((a, oe) :: pn)) (.Attribute e f pos) (tFE C f a cls d te) := by
  refine ⟨fun pins s σ H Q I h => ?_⟩
  refine attr_of hb (thn (he.run pins s σ H _ I h) fun u s1 hh => ?_)
  obtain ⟨x, H1, I1, rx, ex, ec, dd, v, ed, ea, q⟩ := hh
  subst ex
  obtain rfl : u = Value.ref a := rx
  subst ec
  subst ed
  obtain ⟨ha, _⟩ := I1.pin (a, oe) (List.mem_append_left _ List.mem_cons_self)
  obtain ⟨vs, hd⟩ := hf
  obtain ⟨mA, hns, hr⟩ := (I1.hok dd _ ea : ObjOk X.prog X.w H1 s1.heap dd (.xd [(f, v)]))
  obtain ⟨od, ho, hl⟩ := lookIn_ns hns
  obtain ⟨u, hu, ru⟩ := RelO.some_of (v := v) (o := mA f) (by rw [← (show List.lookup f [(f, v)] = some v by simp [List.lookup])]; exact hr f)
  have J : PySem.W.InstAt s1.heap a oe C (some od) := ⟨ha, hz.1, by unfold PySem.W.notCls; rw [hd] <;> rfl, by rw [hz.2]; exact ho⟩
  exact HandSPX.exc_get I1.kIn J T.ga T.gg T.exC (PySem.W.findObj_own T.hdC T.noN rfl (by rw [hl, hu])) (handed_of ru) ⟨v, H1, I1.tok _, ru, q⟩
end
end DL
namespace DL
open PySem L2 PySem.ErrX
section
variable {X : Cx} {P : Pm} {F0 : Fz} {H0 : Hp} {W : WX} {a b c e o : Expr} {es : List Expr} {fa fb fc : Env → Res D} {fs : Env → Res (List D)} {pos p apos : Pos} {st : Stmt} {sts tts : List Stmt} {g g1 g2 : Env → RS}
/-- code that is never come to -/
theorem sd_never : PS X st (tS P F0 H0 W (fun _ => .bad)) := ps_never.imp fun N σ H ⟨F, ρ, er, z⟩ => z
/-- raise Own(e) -/
theorem sd_raise {cn : Nat} {xn f : Str} {C fI : Addr} {k : Nat} {pos2 : Pos} (hc : X.calm = true) (tk : Takes X W) (T : ErrTxt X.prog X.K X.mg xn f C fI) (hxc : P.xc cn = .ref C) (hxf : P.xf cn = f) (hfo : FldOk f) (hr : Room k X.A) (ha : PE X a (tE P F0 H0 W fa)) (hg : Gl X xn) (hdb : (xn == ("__debug__" : Str)) = false)
    (he : starEach (a :: []) X.env = (false, eval a X.env) :: starEach [] X.env := by rfl) (hpl : (backTo pos (starEach [] X.env)).any (·.1) = false := by rfl) :
    PS X (.Raise (some (.Call (.Name xn p) [a] [] pos)) none pos2) (tS P F0 H0 W (fun ρ => bindS (fa ρ) ρ fun d => .err cn (some d) ρ)) :=
  (ps_raise hc tk (pmk_err T hfo hr (pa_cons ha pa_nil he) hg hdb he hpl)).imp fun N σ H ⟨F, ρ, er, z⟩ => by
  refine ⟨F, ρ, er, (PostS.bind (rel := rIs P) er z).imp ?_⟩
  rintro v H1 ⟨F1, d, g, i, q⟩
  refine ⟨v, rfl, fun dct hd => ?_⟩
  have er1 := (er.grow g).grow (Grow.junk g.s (.new hd) : Grow P F1 H1 F1 (upd H1 dct (.xd [(f, v)])))
  have := q σ F1 _ (some dct) er1 (.refl F1) ⟨dct, v, rfl, by rw [hxf]; exact upd_same, i⟩
  rw [hxc] at this
  exact this
/-! ### try: body, except X as n: return e -/
def tryD (gb : Env → RS) (c : Nat) (gs : Option D → Env → Res D) : Env → RS := fun ρ => match gb ρ with
  | .err c' p ρ' => if c' = c then bindS (gs p ρ') ρ' .rt else .bad
  | r => r
/-- an expression of a suite that holds the error number c -/
def tX (P : Pm) (F0 : Fz) (H0 : Hp) (c i : Nat) (a : Addr) (cls : Value) (x : Option Addr) (fx : Option D → Env → Res D) : TE := fun σ H Q => ∃ F ρ p, ER P F0 H0 F ρ σ H ∧ σ[i]? = some (some (.ref a)) ∧ cls = P.xc c ∧ ErrAt P F H c p x ∧ PostG P W0 (rIs P) (fx p ρ) F σ H Q
theorem ER.drop {F H : Hp} {ρ : Env} {σ : L2.St} (r : ER P F0 H0 F ρ σ H) (i : Nat) (v : Option V) (h0 : F0.S = none ∨ i ≠ 0) : ER P F0 H0 F (ρ.set i none) (σ.set i v) H where
  g := r.g
  self := fun x hx => by
    rcases h0 with q | q
    · rw [q] at hx
      cases hx
    · rw [List.getElem?_set_ne q]
      exact r.self x hx
  len := by simp [r.len]
  sh := fun j d q => by
    by_cases hj : i = j
    · subst hj
      have hl : i < ρ.length := by simpa using lt_of_get q
      rw [get_set_self hl] at q
      cases q
    · rw [List.getElem?_set_ne hj] at q ⊢
      exact r.sh j d q
  bw := fun j d q => by
    by_cases hj : i = j
    · subst hj
      have hl : i < ρ.length := by simpa using lt_of_get q
      rw [get_set_self hl] at q
      cases q
    · rw [List.getElem?_set_ne hj] at q ⊢
      exact r.bw j d q
  ow := fun j d q => by
    by_cases hj : i = j
    · subst hj
      have hl : i < ρ.length := by simpa using lt_of_get q
      rw [get_set_self hl] at q
      cases q
    · rw [List.getElem?_set_ne hj] at q ⊢
      exact r.ow j d q
  nd := fun j k d e a q1 q2 q3 q4 => by
    by_cases hj : i = j
    · subst hj
      have hl : i < ρ.length := by simpa using lt_of_get q1
      rw [get_set_self hl] at q1
      cases q1
    · by_cases hk : i = k
      · subst hk
        have hl : i < ρ.length := by simpa using lt_of_get q2
        rw [get_set_self hl] at q2
        cases q2
      · rw [List.getElem?_set_ne hj] at q1 q3
        rw [List.getElem?_set_ne hk] at q2 q4
        exact r.nd j k d e a q1 q2 q3 q4
theorem tryD_err {gb : Env → RS} {cn : Nat} {gs : Option D → Env → Res D} {ρ ρ' : Env} {c' : Nat} {p : Option D} (h : gb ρ = .err c' p ρ') : tryD gb cn gs ρ = if c' = cn then bindS (gs p ρ') ρ' .rt else .bad := by
  unfold tryD
  rw [h]
section
variable {gb : Env → RS} {gs : Option D → Env → Res D} {cn i : Nat} {x n : Str} {cv : Value} {np rp pos' : Pos} {body : List Stmt}
theorem PostS.try_ {F : Hp} {ρ : Env} {N : Ends} {ts : Addr → Value → Option Addr → TS} {W' : WX} (z : PostS P F0 H0 W F (tryD gb cn gs ρ) N)
    (hW : ∀ p ρ' σ F' H' x, ER P F0 H0 F' ρ' σ H' → Ex F F' → ErrAt P F' H' cn p x → PostS P F0 H0 W F (bindS (gs p ρ') ρ' .rt) N → W' (P.xc cn) x σ H') : PostS P F0 H0 W' F (gb ρ) N := by
  cases hg : gb ρ with
  | nx ρ' =>
    have e : tryD gb cn gs ρ = .nx ρ' := by unfold tryD; rw [hg]
    rw [e] at z
    exact z
  | rt d =>
    have e : tryD gb cn gs ρ = .rt d := by unfold tryD; rw [hg]
    rw [e] at z
    exact z
  | bk ρ' =>
    have e : tryD gb cn gs ρ = .bk ρ' := by unfold tryD; rw [hg]
    rw [e] at z
    exact z
  | ct ρ' =>
    have e : tryD gb cn gs ρ = .ct ρ' := by unfold tryD; rw [hg]
    rw [e] at z
    exact z
  | bad =>
    have e : tryD gb cn gs ρ = .bad := by unfold tryD; rw [hg]
    rw [e] at z
    exact z
  | err c' p ρ' =>
    rw [tryD_err hg] at z
    by_cases hc : c' = cn
    · rw [if_pos hc] at z
      subst hc
      exact fun σ F' H' y er ex q => hW p ρ' σ F' H' y er ex q z
    · rw [if_neg hc] at z
      exact z.elim
theorem sd_tryAs {te : Expr} (hs : X.stack = X.env :: X.outer) (hf : X.env.frame = some X.env.locals) (hN : X.N.Nodup) (hi : X.N[i]? = some n) (hln : X.env.kindOf n = some .local) (hcv : Names X x cv) (hex : PySem.W.exmOne X.K (P.xc cn) cv = some true) (h0 : F0.S = none := by rfl)
    (hb : ∀ (W : WX) (pn : List (Addr × Obj)) (xe : Value → Shared → Prop), Takes (X.tr pn xe) W → PassesOwn (model X.prog X.w) X.A X.env xe → PSs (X.tr pn xe) body (tS P F0 H0 W gb))
    (hsu : ∀ (a : Addr) (oe : Obj) (cls : Value) (d : Option Addr) (pn : List (Addr × Obj)), Zc cls d oe → (∃ vs, oe.data = .fields vs) → PE (X.suite a ((a, oe) :: pn)) te (tX P F0 H0 cn i a cls d fun p ρ => noErr (gs p ρ)))
    (tk : Takes X (fun _ _ _ _ => False) := by exact L2.takes0) :
    PS X (.Try body [.ExceptHandler (some (.Name x np)) (some n) [.Return (some te) rp] pos'] [] [] pos) (tS P F0 H0 W (tryD gb cn fun p ρ => if i < ρ.length then noErr (gs p (ρ.set i none)) else .bad)) :=
  (ps_try_as (tb := fun W => tS P F0 H0 W gb) (ts := fun a cls d => tRet (tX P F0 H0 cn i a cls d fun p ρ => noErr (gs p ρ))) (Wout := fun _ _ _ _ => False) hs hf hN hi hln hcv tk hb (fun a oe cls d pn hz hd => pss_one (ps_ret (hsu a oe cls d pn hz hd)))).imp fun N σ H ⟨F, ρ, er, z⟩ => by
  refine ⟨F, ρ, er, PostS.try_ (ts := fun _ _ _ => tNext) z ?_⟩
  rintro p ρ' σ' F' H' y er' ex' q z'
  refine ⟨true, hex, fun _ a ha => ?_, fun q => by cases q⟩
  by_cases hl : i < ρ'.length
  · rw [if_pos hl] at z'
    refine ⟨F', ρ'.set i none, p, er'.drop i (some (.ref a)) (.inl h0), get_set_self (er'.len ▸ hl), rfl, q, ?_⟩
    show PostG P W0 (rIs P) (noErr (gs p (ρ'.set i none))) F' _ H' N.rt
    cases hr : gs p (ρ'.set i none) with
    | ok d =>
      rw [hr] at z'
      exact fun v F2 H2 g2 i2 => z' v F2 H2 (er'.g.trans g2) (ex'.trans g2.f) i2
    | err c p =>
      rw [hr] at z'
      exact z'.elim
    | bad =>
      rw [hr] at z'
      exact z'.elim
  · rw [if_neg hl] at z'
    exact z'.elim
/-- except X: return e -/
theorem sd_try {te : Expr} (hs : X.stack = X.env :: X.outer) (hf : X.env.frame = some X.env.locals) (hcv : Names X x cv) (hex : PySem.W.exmOne X.K (P.xc cn) cv = some true) {gt : Env → Res D}
    (hb : ∀ (W : WX) (pn : List (Addr × Obj)) (xe : Value → Shared → Prop), Takes (X.tr pn xe) W → PassesOwn (model X.prog X.w) X.A X.env xe → PSs (X.tr pn xe) body (tS P F0 H0 W gb))
    (hsu : ∀ (a : Addr) (oe : Obj) (cls : Value) (d : Option Addr) (pn : List (Addr × Obj)), Zc cls d oe → (∃ vs, oe.data = .fields vs) → PE (X.suite a ((a, oe) :: pn)) te (tE P F0 H0 W0 gt))
    (tk : Takes X (fun _ _ _ _ => False) := by exact L2.takes0) :
    PS X (.Try body [.ExceptHandler (some (.Name x np)) none [.Return (some te) rp] pos'] [] [] pos) (tS P F0 H0 W (tryD gb cn fun _ ρ => noErr (gt ρ))) :=
  (ps_try_only (tb := fun W => tS P F0 H0 W gb) (ts := fun _ _ _ => tRet (tE P F0 H0 W0 gt)) (Wout := fun _ _ _ _ => False) hs hf hcv tk hb (fun a oe cls d pn hz hd => pss_one (ps_ret (hsu a oe cls d pn hz hd)))).imp fun N σ H ⟨F, ρ, er, z⟩ => by
  refine ⟨F, ρ, er, PostS.try_ (ts := fun _ _ _ => tNext) z ?_⟩
  rintro p ρ' σ' F' H' y er' ex' q z'
  refine ⟨true, hex, fun _ a ha => ?_, fun q => by cases q⟩
  refine ⟨F', ρ', er', ?_⟩
  cases hr : gt ρ' with
  | ok d =>
    rw [hr] at z'
    exact fun v F2 H2 g2 i2 => z' v F2 H2 (er'.g.trans g2) (ex'.trans g2.f) i2
  | err c p =>
    rw [hr] at z'
    exact z'.elim
  | bad =>
    rw [hr] at z'
    exact z'.elim
end
/-! ### what a suite says -/
section
variable {cn i : Nat} {x n f : Str} {ad : Addr} {oe : Obj} {cls : Value} {d : Option Addr} {pn : List (Addr × Obj)} {C fI : Addr}
def payD (p : Option D) : Res D := match p with
  | some d => .ok d
  | none => .bad
theorem xd_fe {p1 pos : Pos} (T : ErrTxt X.prog X.K X.mg x f C fI) (hxc : P.xc cn = .ref C) (hxf : P.xf cn = f) (hz : Zc cls d oe) (hf : ∃ vs, oe.data = .fields vs) (hN : X.N[i]? = some n) (hv : Vis X.env.scope n) (hd : (n == ("__debug__" : Str)) = false := by decide) (hcd : (n == ("__classdict__" : Str)) = false := by decide)
    (hb : attributeBase (.Name n p1) f X.env (eval (.Name n p1) X.env) = eval (.Name n p1) X.env := by rfl) :
    PE (X.suite ad ((ad, oe) :: pn)) (.Attribute (.Name n p1) f pos) (tX P F0 H0 cn i ad cls d fun p _ => noErr (payD p)) :=
  (pe_fe T hz hf (pe_var (X := X.suite ad ((ad, oe) :: pn)) hN hv hd hcd) hb).imp fun σ H Q ⟨F, ρ, p, er, hi, hc, he, z⟩ => by
  cases p with
  | none => exact z.elim
  | some dd =>
    obtain ⟨a1, v, h1, h2, h3⟩ := he
    rw [hxf] at h2
    exact ⟨.ref ad, hi, rfl, hc.trans hxc, a1, v, h1, h2, PostG.here (rel := rIs P) z er.s h3⟩
theorem xd_lift {te : Expr} {gt : Env → Res D} (h : PE (X.suite ad ((ad, oe) :: pn)) te (tE P F0 H0 W0 gt)) : PE (X.suite ad ((ad, oe) :: pn)) te (tX P F0 H0 cn i ad cls d fun _ ρ => noErr (gt ρ)) :=
  h.imp fun σ H Q ⟨F, ρ, p, er, hi, hc, he, z⟩ => ⟨F, ρ, er, PostG.noErr z⟩
/-- (constant, e.f) -/
theorem xd_pair {e1 e2 : Expr} {k : Nat} {pos : Pos} {dv : D} {vv : V} {gx : Option D → Env → Res D} (h1 : PE (X.suite ad ((ad, oe) :: pn)) e1 (tC vv)) (hv : ∀ F, Is P F dv vv) (h2 : PE (X.suite ad ((ad, oe) :: pn)) e2 (tX P F0 H0 cn i ad cls d fun p ρ => noErr (gx p ρ)))
    (hs1 : starEach [e1, e2] X.env = (false, eval e1 X.env) :: starEach [e2] X.env := by rfl) (hs2 : starEach [e2] X.env = (false, eval e2 X.env) :: starEach [] X.env := by rfl) :
    PE (X.suite ad ((ad, oe) :: pn)) (.Tuple [e1, e2] k pos) (tX P F0 H0 cn i ad cls d fun p ρ => noErr (do let y ← gx p ρ; .ok (.tup [dv, y]))) :=
  (pe_tup (pa_cons h1 (pa_cons h2 pa_nil hs2) hs1)).imp fun σ H Q ⟨F, ρ, p, er, hi, hc, he, z⟩ => by
  refine ⟨F, ρ, p, er, hi, hc, he, ?_⟩
  replace z : PostG P W0 (rIs P) (noErr (do let y ← gx p ρ; .ok (.tup [dv, y]))) F σ H Q := z
  show PostG P W0 (rIs P) (noErr (gx p ρ)) F σ H _
  cases hr : gx p ρ with
  | ok y =>
    rw [hr] at z
    intro v F' H' g i2
    refine ⟨by show 2 ≤ sizeLine; decide, fun q hq => ?_⟩
    exact z _ (upd F' q (.tup [vv, v])) _ (g.trans (.new g.s hq)) (by show Is P _ (.tup [dv, y]) _; rw [Is]; exact ⟨q, _, rfl, .inl upd_same, .cons (hv _) (.cons (i2.mono (.new (g.s.back hq)) y) .nil)⟩)
  | err c p =>
    rw [hr] at z
    exact z.elim
  | bad =>
    rw [hr] at z
    exact z.elim
end
end
end DL
namespace DL
open PySem L2 PySem.ErrX
section
variable {X : Cx} {P : Pm} {F0 : Fz} {H0 : Hp} {W : WX} {a b c e o : Expr} {es : List Expr} {fa fb fc : Env → Res D} {fs : Env → Res (List D)} {pos p apos : Pos} {st : Stmt} {sts tts : List Stmt} {g g1 g2 : Env → RS} {F H : Hp} {σ : L2.St}
/-! ### isinstance(e, T) -/
def notScr : D → Bool
  | .scr _ => false
  | _ => true
def isiD (ib : D → Option Bool) (x : D) : Res D := if notScr x = true then (match ib x with
  | some b => .ok (.bl b)
  | none => .bad) else .bad
theorem pd_isi {x2 : Str} {tv : V} {u : Value} {ib : D → Option Bool} {p1 p2 : Pos} (hI : ∀ c, IsiC X.K (P.C c)) (kit : ∀ d b, ib d = some b → PySem.W.kitOne X.K (tyD P d) u = some b) (hcl : ClsV tv u) (ht : PE X (.Name x2 p2) (tC tv)) (ha : PE X a (tV P F0 H0 W fa)) (hg : Gl X "isinstance") (hm : X.mg "isinstance" = none)
    (h1 : starEach [a, .Name x2 p2] X.env = (false, eval a X.env) :: starEach [.Name x2 p2] X.env := by rfl) (h2 : (backTo pos (starEach [.Name x2 p2] X.env)).any (·.1) = false := by rfl) (h3 : starEach [.Name x2 p2] X.env = (false, eval (.Name x2 p2) X.env) :: starEach [] X.env := by rfl) :
    PE X (.Call (.Name "isinstance" p1) [a, .Name x2 p2] [] pos) (tE P F0 H0 W (fun ρ => do let x ← fa ρ; isiD ib x)) :=
  (pe_callB call_isi hg hm (by decide +kernel) (pa_cons ha (pa_cons ht pa_nil h3) h1) (by decide) (by decide) h1 h2).imp fun σ H Q ⟨F, ρ, er, z⟩ => by
  refine ⟨F, ρ, er, (PostG.bind (rel := rVw P) z).imp ?_⟩
  rintro v H1 ⟨F1, d, g, i, q⟩
  unfold isiD at q
  split at q
  · rename_i hns
    cases hb : ib d with
    | none =>
      rw [hb] at q
      exact q.elim
    | some b =>
      rw [hb] at q
      exact ⟨v, tv, _, u, b, rfl, hcl, i.ty hI (fun ns e => by subst e; cases hns), kit d b hb, q.here g.s is_bl⟩
  · exact q.elim
/-! ### self.f = e -/
def setF (nm : Nat → List Str) (f : Str) (ρ : Env) (i : Nat) (d : D) : RS := match ρ[i]? with
  | some (some (.ow (.obj c xs))) => if (nm c)[xs.length]? = some f ∧ xs.length < 100 then .nx (ρ.set i (some (.ow (.obj c (xs ++ [d]))))) else .bad
  | _ => .bad
theorem putF_new {f : Str} {v : V} : ∀ {fs : List (Str × V)}, (∀ q ∈ fs, q.1 ≠ f) → putF f v fs = fs ++ [(f, v)]
  | [], _ => rfl
  | q :: r, h => by
    have h1 := h q List.mem_cons_self
    obtain ⟨k, w⟩ := q
    show (if k = f then (k, v) :: r else (k, w) :: putF f v r) = _
    rw [if_neg h1, putF_new fun z hz => h z (List.mem_cons_of_mem _ hz)]
    rfl
theorem zip_snoc {α β : Type} {v : β} {k : α} : ∀ {ks : List α} {vs : List β}, ks[vs.length]? = some k → ks.zip (vs ++ [v]) = ks.zip vs ++ [(k, v)]
  | [], vs, h => by simp at h
  | k0 :: ks, [], h => by
    simp at h
    subst h
    simp
  | k0 :: ks, v0 :: vs, h => by
    simp at h
    simp [zip_snoc h]
theorem sd_fld {i : Nat} {x f : Str} {p1 pos' : Pos} (hcl : ∀ c, f ∈ P.nm c → Cls X.K (P.C c) ∧ NoAttr X.K (P.C c) f) (hnd : ∀ c, (P.nm c).Nodup) (hv : PE X e (tE P F0 H0 W fa)) (hN : X.N[i]? = some x := by rfl) (hvi : Vis X.env.scope x := by first | exact Or.inl rfl | exact Or.inr (Or.inl rfl) | exact Or.inr (Or.inr rfl)) (hd : (x == ("__debug__" : Str)) = false := by decide)
    (hcd : (x == ("__classdict__" : Str)) = false := by decide) (hs : swapsWith e (some (.Attribute (.Name x p1) f pos')) pos.line X.env = pure false := by rfl) :
    PS X (.Assign [.Attribute (.Name x p1) f pos'] e pos) (tS P F0 H0 W (fun ρ => bindS (fa ρ) ρ fun d => setF P.nm f ρ i d)) := (ps_fld (pe_var hN hvi hd hcd) hv hs).imp fun N σ H ⟨F, ρ, er, z⟩ => by
  refine ⟨F, ρ, er, (PostS.bind (rel := rIs P) er z).imp ?_⟩
  rintro v H1 ⟨F1, d, g, j, z1⟩
  unfold setF at z1
  split at z1
  · rename_i c xs q
    obtain ⟨ad, h1, h2, h3, dx, vs, h4, h5, h6⟩ := (er.grow g).ow i _ q
    split at z1
    · rename_i hk
      have hk1 : (P.nm c)[vs.length]? = some f := by rw [← h6.length]; exact hk.1
      obtain ⟨k1, k2⟩ := hcl c (List.mem_of_getElem? hk1)
      refine ⟨.ref ad, h1, ad, P.C c, dx, _, rfl, h4, k1, k2, ?_, ?_⟩
      · rw [List.length_zip, ← h6.length]
        exact Nat.lt_of_le_of_lt (Nat.min_le_right _ _) (Nat.lt_trans hk.2 (by decide))
      · have e1 : putF f v ((P.nm c).zip vs) = (P.nm c).zip (vs ++ [v]) := by
          rw [zip_snoc hk1]
          refine putF_new fun q hq hqf => ?_
          obtain ⟨n, hn⟩ := List.getElem?_of_mem hq
          rw [List.getElem?_zip_eq_some] at hn
          have hlt : n < vs.length := lt_of_get hn.2
          have e3 : (P.nm c)[n]? = some f := by rw [hn.1, hqf]
          have : n = vs.length := nodup_ix (hnd c) e3 hk1
          omega
        rw [e1]
        refine z1 σ F1 _ ((er.grow g).mut q h1 ⟨dx, vs ++ [v], upd_same, ?_, h6.append (.cons j .nil)⟩) (.refl F1)
        have := lt_of_get hk1
        simp
        omega
    · exact z1.elim
  · exact z1.elim
/-! ### texts -/
def small2 (n m : Nat) : Bool := decide (n + m ≤ 1000000)
/-- + of ints, texts, lists, tuples -/
def addD : D → D → Option D
  | .int i, .int j => some (.int (i + j))
  | .str x, .str y => if small2 x.length y.length = true then some (.str (x ++ y)) else none
  | _, _ => none
theorem io_addS : OpR X (binaryOp .Add) (r2O P addD) := fun pins s σ H x y u v Q I rx ry ⟨F, dx, dy, d, e, i1, i2, hd, q⟩ => by
  unfold addD at hd
  split at hd
  · cases hd
    exact op_add pins s σ H x y u v Q I rx ry ⟨_, _, i1, i2, q.int e⟩
  · split at hd
    · rename_i hz
      cases hd
      exact op_add_str pins s σ H x y u v Q I rx ry ⟨_, _, i1, i2, Nat.le_trans (of_decide_eq_true hz) (by decide), q.str e⟩
    · cases hd
  · cases hd
/-- list + list: a new list -/
def catD : D → D → Option D
  | .lst xs, .lst ys => if small2 xs.length ys.length = true then some (.lst (xs ++ ys)) else none
  | _, _ => none
theorem notIn_sign {c : Nat} {z : Str} : True := trivial
def inS : D → D → Option D
  | .str ⟨cs⟩, .str z => match cs.toList with
    | [c] => some (.bl (decide (c ∈ z.cps.toList)))
    | _ => none
  | _, _ => none
def notInS : D → D → Option D
  | .str ⟨cs⟩, .str z => match cs.toList with
    | [c] => some (.bl (!decide (c ∈ z.cps.toList)))
    | _ => none
  | _, _ => none
theorem arr_one {cs : Array Nat} {c : Nat} (h : cs.toList = [c]) : cs = #[c] := by
  cases cs
  simp at h
  subst h
  rfl
theorem io_inS : OpR X (compareOp .In) (r2O P inS) := fun pins s σ H x y u v Q I rx ry ⟨F, dx, dy, d, e, i1, i2, hd, q⟩ => by
  unfold inS at hd
  split at hd
  · split at hd
    · rename_i c hc
      cases hd
      have := arr_one hc
      subst this
      exact op_in_sign pins s σ H x y u v Q I rx ry ⟨c, _, i1, i2, q.bl e⟩
    · cases hd
  · cases hd
theorem io_notInS : OpR X (compareOp .NotIn) (r2O P notInS) := fun pins s σ H x y u v Q I rx ry ⟨F, dx, dy, d, e, i1, i2, hd, q⟩ => by
  unfold notInS at hd
  split at hd
  · split at hd
    · rename_i c hc
      cases hd
      have := arr_one hc
      subst this
      exact op_notIn_sign pins s σ H x y u v Q I rx ry ⟨c, _, i1, i2, q.bl e⟩
    · cases hd
  · cases hd
/-! ### slices of texts and lists -/
abbrev rOp : Rel (Option Int) (Option Int) := fun _ _ d v => v = d
abbrev tOp' (P : Pm) (F0 : Fz) (H0 : Hp) (W : WX) (f : Env → Res (Option Int)) : TO := tG P F0 H0 W rOp f
def ptI : D → Res (Option Int)
  | .int i => .ok (some i)
  | _ => .bad
theorem _root_.L2.PO.imp {e : Option Expr} {t t' : TO} (h : PO X e t) (q : ∀ σ H Q, t' σ H Q → t σ H Q) : PO X e t' := ⟨fun pins s σ H Q I z => h.run pins s σ H Q I (q σ H Q z)⟩
theorem po_no : PO X none (tOp' P F0 H0 W (fun _ => .ok none)) := po_none.imp fun σ H Q ⟨F, ρ, er, z⟩ => z.here er.s rfl
theorem po_so (h : PE X e (tE P F0 H0 W fa)) : PO X (some e) (tOp' P F0 H0 W (fun ρ => fa ρ >>= ptI)) := (po_some h).imp fun σ H Q ⟨F, ρ, er, z⟩ => by
  refine ⟨F, ρ, er, (PostG.bind (rel := rIs P) z).imp ?_⟩
  rintro v H1 ⟨F1, d, g, i, q⟩
  unfold ptI at q
  split at q
  · exact ⟨_, un_int i, q.here g.s rfl⟩
  · exact q.elim
def cutD (xs : List D) (lo hi : Option Int) : List D := (xs.drop (HT.sIx xs.length 0 lo)).take (HT.sIx xs.length xs.length hi - HT.sIx xs.length 0 lo)
def slcD (x : D) (lo hi : Option Int) : Option D := match x with
  | .str z => if z.length ≤ 1000000 then some (.str (cutS z lo hi)) else none
  | .lst xs => some (.lst (cutD xs lo hi))
  | .tup xs => some (.tup (cutD xs lo hi))
  | _ => none
theorem IsL.cut {ds : List D} {vs : List V} (h : IsL P F ds vs) (lo hi : Option Int) : IsL P F (cutD ds lo hi) (cutV vs lo hi) := by
  unfold cutD cutV
  rw [h.length]
  exact (h.drop _).take _
theorem pd_slc {lo hi : Option Expr} {fl fh : Env → Res (Option Int)} {p2 : Pos} (ha : PE X a (tV P F0 H0 W fa)) (hl : PO X lo (tOp' P F0 H0 W fl)) (hh : PO X hi (tOp' P F0 H0 W fh)) :
    PE X (.Subscript a (.Slice lo hi none p2) pos) (tE P F0 H0 W (fun ρ => do let x ← fa ρ; let l ← fl ρ; let h ← fh ρ; opt (slcD x l h))) :=
  (pe_slice ((sl_str.or sl_list).or sl_tupA) ha hl hh).imp fun σ H Q ⟨F, ρ, er, z⟩ => by
  refine ⟨F, ρ, er, (PostG.bind (rel := rVw P) z).imp ?_⟩
  rintro x H1 ⟨F1, d, g1, i1, z1⟩
  refine ⟨F1, ρ, er.grow g1, (PostG.bind (rel := rOp) z1).imp ?_⟩
  rintro l H2 ⟨F2, l', g2, rfl, z2⟩
  refine ⟨F2, ρ, (er.grow g1).grow g2, (PostG.bind (rel := rOp) z2).imp ?_⟩
  rintro h H3 ⟨F3, h', g3, rfl, z3⟩
  obtain ⟨dr, hd, q⟩ := opt_of z3
  have i3 : Vw P F3 H3 d x := (i1.mono g2.f g2.h d).mono g3.f g3.h d
  unfold slcD at hd
  split at hd
  · split at hd
    · rename_i hz
      cases hd
      exact .inl (.inl ⟨_, i3, Nat.le_trans hz (by decide), Out.str q g3.s⟩)
    · cases hd
  · cases hd
    obtain ⟨ad, vs, rfl, h1, h2⟩ := i3
    exact .inl (.inr ⟨ad, vs, rfl, .inl h1, Out.lst q g3.s (h2.cut _ _)⟩)
  · cases hd
    obtain ⟨ad, vs, rfl, h0, h1, h2⟩ := i3
    refine .inr ⟨ad, vs, rfl, .inl h1, fun hw => ?_, fun _ => Out.tup q g3.s (h2.cut _ _)⟩
    have ew : cutV vs l h = vs := by
      unfold cutV
      rw [hw.1, hw.2]
      simp
    have h5 := h2.cut l h
    rw [ew] at h5
    exact Out.here q g3.s (by rw [Is]; exact ⟨ad, vs, rfl, h0, h5⟩)
  · cases hd
end
end DL
namespace DL
open PySem L2 PySem.ErrX
section
variable {X : Cx} {P : Pm} {F0 : Fz} {H0 : Hp} {W : WX} {a b c e o : Expr} {es : List Expr} {fa fb fc : Env → Res D} {fs : Env → Res (List D)} {pos p apos : Pos} {st : Stmt} {sts tts : List Stmt} {g g1 g2 : Env → RS} {F H : Hp} {σ : L2.St}
/-! ### e.split(sep) -/
def strD : D → Res Str
  | .str x => .ok x
  | _ => .bad
abbrev rSt : Rel Str V := fun _ _ d v => v = .str d
theorem strD_of {d : D} {v : V} {Q : V → Hp → Prop} (s : Sb P F H) (i : Is P F d v) (h : PostG P W rSt (strD d) F σ H Q) : ∃ x, v = .str x ∧ Q v H := by
  cases d with
  | str x => exact ⟨x, un_str i, h.here s (un_str i)⟩
  | _ => exact h.elim
def splD (x y : Str) : Res D := if (y.length == 0) = false ∧ x.length ≤ 1000000 then .ok (.lst ((Txt.split x y).map .str)) else .bad
theorem isL_strs {ys : List Str} : IsL P F (ys.map D.str) (ys.map V.str) := by
  induction ys with
  | nil => exact .nil
  | cons y ys ih => exact .cons is_str ih
theorem nd_split {apos pos : Pos} (ho : PE X o (tE P F0 H0 W fa)) (he : PE X e (tE P F0 H0 W fb))
    (hbase : attributeBase o "split" X.env (eval o X.env) = eval o X.env := by rfl)
    (hfew : ((backTo pos (starEach [e] X.env)).all (fun x => !x.1) && (backToKw pos (keywordEach [] X.env)).all (fun x => x.1.isSome)
      && decide (([e] : List Expr).length + ([] : List Keyword).length + (if ([] : List Keyword).isEmpty then 0 else 1) < 30)) = true := by rfl)
    (hline : (apos.endLine == pos.line) = true := by rfl) (hs1 : starEach [e] X.env = (false, eval e X.env) :: starEach [] X.env := by rfl) (hplain : (backTo pos (starEach [] X.env)).any (·.1) = false := by rfl) :
    PE X (.Call (.Attribute o "split" apos) [e] [] pos) (tN P F0 H0 W (fun ρ => do let x ← fa ρ; let s ← strD x; let y ← fb ρ; let t ← strD y; splD s t)) :=
  (pe_bm PySem.F.plainAttrs_str PySem.F.slot_str_split PySem.F.type_str_split mt_split ho (pa_cons he pa_nil hs1) hbase hfew hline hs1 hplain).imp fun σ H Q ⟨F, ρ, er, z⟩ => by
  refine ⟨F, ρ, er, (PostG.bind (rel := rIs P) z).imp ?_⟩
  rintro x H1 ⟨F1, d, g1, i1, z1⟩
  obtain ⟨x', rfl, F1', s', g1', e1', z1'⟩ := strD_of g1.s i1 (PostG.bind (rel := rSt) z1)
  cases e1'
  have er1 := (er.grow g1).grow g1'
  refine ⟨rfl, F1', ρ, er1, (PostG.bind (rel := rIs P) z1').imp ?_⟩
  rintro y H2 ⟨F2, d2, g2, i2, z2⟩
  obtain ⟨y', rfl, F3, t', g3, e3, z3⟩ := strD_of g2.s i2 (PostG.bind (rel := rSt) z2)
  cases e3
  unfold splD at z3
  by_cases hz : (y'.length == 0) = false ∧ x'.length ≤ 1000000
  · rw [if_pos hz] at z3
    refine ⟨x', y', rfl, rfl, hz.1, Nat.le_trans (Nat.add_le_add_right hz.2 2) (by decide), fun p hp => ?_⟩
    exact z3 _ F3 _ (.junk g3.s (.new hp)) ⟨p, rfl, (((g1.trans g1').trans g2).trans g3).h.back hp, g3.s.back hp, _, upd_same, isL_strs⟩
  · rw [if_neg hz] at z3
    exact z3.elim
/-! ### int(e), str(e) -/
def cInt2 : List D → Option D
  | [.int i] => some (.int i)
  | [.bl b] => some (.int (if b then 1 else 0))
  | [.str x] => if x.length ≤ 640 then (PySem.intText? x).map .int else none
  | _ => none
theorem ic_int2 : CallR X (.type "int") (rcO P cInt2) := fun pins s σ H xs us Q I rx ⟨F, ds, d, e, i, hd, q⟩ => by
  unfold cInt2 at hd
  split at hd
  · cases hd
    obtain ⟨v, r, rfl, i1, i⟩ := i.uncons
    obtain rfl := i.unnil
    exact call_int1 pins s σ H _ us Q I rx (.inl ⟨_, by rw [show v = V.int _ from i1], q.int e⟩)
  · cases hd
    obtain ⟨v, r, rfl, i1, i⟩ := i.uncons
    obtain rfl := i.unnil
    exact call_int1 pins s σ H _ us Q I rx (.inr ⟨_, by rw [show v = V.bl _ from i1], q.int e⟩)
  · rename_i x
    split at hd
    · rename_i hl
      cases hn : PySem.intText? x with
      | none =>
        rw [hn] at hd
        cases hd
      | some n =>
        rw [hn] at hd
        cases hd
        obtain ⟨v, r, rfl, i1, i⟩ := i.uncons
        obtain rfl := i.unnil
        exact call_int_str pins s σ H _ us Q I rx ⟨x, n, by rw [show v = V.str _ from i1], hn, hl, q.int e⟩
    · cases hd
  · cases hd
/-! ### an own function called somewhere below -/
theorem run_at {k n : Nat} {f : Addr} {fd : FuncData} {ps : List Str} {G : List D → Res D} {A' : Around} {pins : List (Addr × Obj)} {s : Shared} {Q : VK} {us : List Value} {vs : List V} {ds : List D} (Fn : FnOk X.prog X.w X.K X.mg X.base (L2.CX X.prog X.w) k f fd ps (spD P n G)) (sb : Sub X k A') (hb : Binds X.K fd ps [])
    (tk : Takes X W) (I : Inv X pins σ H s) (r : Vals vs us) (sx : Sb P F H) (i : IsL P F ds vs) (z : PostG P W (rIs P) (fnG n G ds) F σ H Q) : wpAny (model X.prog X.w) A' (call (.ref f) us) (EP X pins σ Q) X.xe s := by
  have h : spD P n G vs H Q (WE W σ) := by
    have := fnG_of (dvs := []) (dds := []) (n := n) (G := G) (E := WE W σ) Dfl.nil sx i (by rw [List.append_nil]; exact z.sig)
    rw [List.append_nil] at this
    exact this
  have hl : (us ++ []).length = ps.length := by rw [List.append_nil, ← r.length]; exact Fn.len _ _ _ _ h
  have e0 : Env0 X.prog X.w X.K X.mg X.base A' X.stack s H := { I.env0 with frames := by rw [sb.fr]; exact I.env0.frames }
  have hbb := hb s us I.kIn hl
  rw [List.append_nil] at hbb
  refine wpAny_call (codeAny_mono (Fn.run A' X.stack s H ⟨us, []⟩ us vs Q (WE W σ) sb.room e0 hbb r h) fun r s' hq => ?_)
  cases r with
  | error e => exact passAt tk σ pins H s e s' I hq
  | ok fl =>
    cases fl with
    | ret u => exact I.after hq
    | next => exact False.elim hq
    | brk => exact False.elim hq
    | cont => exact False.elim hq
theorem sub_here {k : Nat} (hr : Room k X.A) : Sub X k X.A := ⟨hr, rfl⟩
/-- an own class's method by its name -/
structure OwnM (K : PySem.W.Frag) (C : Addr) (m : Str) (f : Addr) : Prop where
  at_ : PySem.W.findIn K (.ref C) m = some (some (.ref f))
  fn : PySem.W.isFn K (.ref f) = true
theorem inst_at {pins : List (Addr × Obj)} {s : Shared} {ad C dx : Addr} {fs : List (Str × V)} (I : Inv X pins σ H s) (h : H ad = some (.ins C dx fs)) : ∃ ox od, PySem.W.InstAt s.heap ad ox C od := by
  obtain ⟨mA, ho, _⟩ := ins_get I.hok h
  obtain ⟨od, h1, _⟩ := lookIn_ns ho.ns
  exact ⟨_, some od, ho.obj, rfl, rfl, h1⟩
/-! ### - and str of numbers: ints and instances of the class number 0 -/
def negN (G : List D → Res D) : D → Res D
  | .int i => .ok (.int (-i))
  | .obj 0 xs => fnG 1 G [.obj 0 xs]
  | _ => .bad
theorem CmpBack_of {Q : VK} {pins : List (Addr × Obj)} {u : Value} {s : Shared} (h : EP X pins σ Q u s) : PySem.W.CmpBack (EP X pins σ Q) u s := by
  obtain ⟨v, H', I, r, q⟩ := h
  cases u with
  | notImplemented => cases v <;> (first | (obtain ⟨t, e⟩ := r; cases e) | cases r)
  | _ => exact ⟨v, H', I, r, q⟩
theorem pd_neg {k : Nat} {f : Addr} {fd : FuncData} {ps : List Str} {G : List D → Res D} (Fn : FnOk X.prog X.w X.K X.mg X.base (L2.CX X.prog X.w) k f fd ps (spD P 1 G)) (M : OwnM X.K (P.C 0) "__neg__" f) (hr : Room k X.A) (hb : Binds X.K fd ps []) (tk : Takes X W) (ha : PE X a (tE P F0 H0 W fa)) :
    PE X (.UnaryOp .USub a pos) (tE P F0 H0 W (fun ρ => do let x ← fa ρ; negN G x)) := by
  refine ⟨fun pins s σ H Q I h => ?_⟩
  refine PyProof.Rows.UnaryOp_ (thn (ha.run pins s σ H _ I (tG.bind (rel := rIs P) (f := fa) (k := fun _ x => negN G x) h)) ?_)
  rintro v s1 ⟨x, H1, I1, r1, F1, ρ, d, er, i1, q1⟩
  unfold negN at q1
  split at q1
  · have ex := un_int i1
    subst ex
    exact un_neg pins s1 σ H1 _ v Q I1 r1 ⟨_, rfl, q1.here er.s is_int⟩
  · obtain ⟨ad, dx, vs, rfl, h1, h2, h3⟩ := obj_of i1
    obtain rfl : v = Value.ref ad := r1
    obtain ⟨ox, od, J⟩ := inst_at I1 (er.s.ex _ _ h1)
    obtain ⟨m, Fr⟩ := I1.fr
    refine PySem.W.ksp_neg Fr I1.ok.mod.kin J M.at_ M.fn ?_
    exact run_at (vs := [.ref ad]) (ds := [_]) Fn (sub_here hr) hb tk I1 (.cons rfl .nil) er.s (.cons i1 .nil) q1
  · exact q1.elim
def strN (G : List D → Res D) : D → Res D
  | .int i => if i.natAbs.log2 < 1920 then .ok (.str (toString i)) else .bad
  | .obj 0 xs => do let y ← fnG 1 G [.obj 0 xs]; let z ← strD y; .ok (.str z)
  | _ => .bad
theorem pd_strN {p1 : Pos} {k : Nat} {f : Addr} {fd : FuncData} {ps : List Str} {G : List D → Res D} (Fn : FnOk X.prog X.w X.K X.mg X.base (L2.CX X.prog X.w) k f fd ps (spD P 1 G)) (M : OwnM X.K (P.C 0) "__str__" f) (hr : Room (k + 2) X.A) (hb : Binds X.K fd ps []) (tk : Takes X W) (hg : Gl X "str") (hm : X.mg "str" = none) (ha : PE X a (tE P F0 H0 W fa))
    (he : starEach [a] X.env = (false, eval a X.env) :: starEach [] X.env := by rfl) (hpl : (backTo pos (starEach [] X.env)).any (·.1) = false := by rfl) :
    PE X (.Call (.Name "str" p1) [a] [] pos) (tE P F0 H0 W (fun ρ => do let x ← fa ρ; strN G x)) := by
  refine ⟨fun pins s σ H Q I h => ?_⟩
  refine wpAny_Call_Name_kw (ld_blt (u := .type "str") I hg hm (by decide +kernel) ?_)
  obtain ⟨F, ρ, er, z⟩ := h
  refine PyProof.Rows.callWith_type1 (thn ((pa_cons ha pa_nil he).run pos pins s σ H (fun vs H1 => ∃ v, vs = [v] ∧ ∃ F1 d, Grow P F H F1 H1 ∧ Is P F1 d v ∧ PostG P W (rIs P) (strN G d) F1 σ H1 Q) I ⟨F, ρ, er, (PostG.bind (rel := rIs P) z).imp fun v H1 q => ⟨v, rfl, q⟩⟩) ?_) he hpl
  rintro us s1 ⟨vs, H1, I1, r1, v, rfl, F1, d, g1, i1, q1⟩
  obtain ⟨u, rfl, rv⟩ := Vals.one r1
  unfold strN at q1
  split at q1
  · have ex := un_int i1
    subst ex
    split at q1
    · rename_i hl
      exact call_str_int pins s1 σ H1 _ _ Q I1 r1 ⟨_, rfl, hl, q1.here g1.s is_str⟩
    · exact q1.elim
  · obtain ⟨ad, dx, vs, rfl, h1, h2, h3⟩ := obj_of i1
    obtain rfl : u = Value.ref ad := rv
    obtain ⟨ox, od, J⟩ := inst_at I1 (g1.s.ex _ _ h1)
    refine PySem.W.kso_call ?_ I1.kIn J M.at_ M.fn ?_
    · have := (hr.in1.in1).units0
      exact this
    · refine thn (run_at (A' := X.A.in1.in1) (vs := [.ref ad]) (ds := [_]) Fn ((sub_here hr).in1.in1) hb tk I1 (.cons rfl .nil) g1.s (.cons i1 .nil) (PostG.bind (rel := rIs P) q1)) ?_
      rintro w s2 ⟨v2, H2, I2, r2, F2, d2, g2, i2, q2⟩
      obtain ⟨x', rfl, F3, t', g3, e3, z3⟩ := strD_of g2.s i2 (PostG.bind (rel := rSt) q2)
      cases e3
      obtain ⟨t, rfl⟩ := r2
      exact ⟨.str x', H2, I2, ⟨t, rfl⟩, z3.here g3.s is_str⟩
  · exact q1.elim
end
end DL
namespace DL
open PySem L2 PySem.ErrX
section
variable {X : Cx} {P : Pm} {F0 : Fz} {H0 : Hp} {W : WX} {a b c e o : Expr} {es : List Expr} {fa fb fc : Env → Res D} {fs : Env → Res (List D)} {pos p apos : Pos} {st : Stmt} {sts tts : List Stmt} {g g1 g2 : Env → RS} {F H : Hp} {σ : L2.St}
/-! ### + of ints, texts, lists, tuples -/
theorem Inv.rdl {pins : List (Addr × Obj)} {s : Shared} {l : Addr} {xs : List V} (I : Inv X pins σ H s) (h : Rd H l (.lst xs)) : xs.length ≤ sizeLine ∧ ∃ (its : List Value) (n : Nat), Vals xs its ∧ s.heap.get? l = some { cls := .type "list", data := .seq its.toArray n } :=
  (h.ok I.hok : ObjOk X.prog X.w H s.heap l (.lst xs))
def rCatR : R2 := fun x y H Q => ∃ l b xs zs, x = .ref l ∧ y = .ref b ∧ Rd H l (.lst xs) ∧ Rd H b (.lst zs) ∧ xs.length + zs.length ≤ sizeLine ∧ ∀ p, H p = none → Q (.ref p) (upd H p (.lst (xs ++ zs)))
theorem op_catR : OpR X (binaryOp .Add) rCatR := by
  intro pins s σ H x y v u Q I rx ry h
  obtain ⟨l, b, xs, zs, rfl, rfl, hH, hB, hz, q⟩ := h
  cases rx
  cases ry
  obtain ⟨z1, its1, n1, v1, e1⟩ := Inv.rdl I hH
  obtain ⟨z2, its2, n2, v2, e2⟩ := Inv.rdl I hB
  refine PySem.P.add_list e1 e2 ?_ (by rw [List.size_toArray, List.size_toArray, ← v1.length, ← v2.length]; exact hz)
  rw [show its1.toArray ++ its2.toArray = (its1 ++ its2).toArray by simp]
  exact ⟨.ref _, _, I.lnew (t' := s.toks) (v1.append v2) (by rw [List.length_append]; exact hz), rfl, q _ I.fresh⟩
def addA : D → D → Option D
  | .int i, .int j => some (.int (i + j))
  | .str x, .str y => if small2 x.length y.length = true then some (.str (x ++ y)) else none
  | .lst xs, .lst ys => if small2 xs.length ys.length = true then some (.lst (xs ++ ys)) else none
  | .tup xs, .tup ys => if small2 xs.length ys.length = true then some (.tup (xs ++ ys)) else none
  | _, _ => none
theorem io_addA : OpR X (binaryOp .Add) (r2O P addA) := fun pins s σ H x y u v Q I rx ry ⟨F, dx, dy, d, e, i1, i2, hd, q⟩ => by
  unfold addA at hd
  split at hd
  · cases hd
    exact op_add pins s σ H x y u v Q I rx ry ⟨_, _, i1, i2, q.int e⟩
  · split at hd
    · rename_i hz
      cases hd
      exact op_add_str pins s σ H x y u v Q I rx ry ⟨_, _, i1, i2, Nat.le_trans (of_decide_eq_true hz) (by decide), q.str e⟩
    · cases hd
  · split at hd
    · rename_i hz
      cases hd
      obtain ⟨a1, vs1, rfl, h1, j1⟩ := i1
      obtain ⟨a2, vs2, rfl, h2, j2⟩ := i2
      exact op_catR pins s σ H _ _ u v Q I rx ry ⟨a1, a2, vs1, vs2, rfl, rfl, h1, h2, by rw [← j1.length, ← j2.length]; exact Nat.le_trans (of_decide_eq_true hz) (by decide), q.lst e (j1.append j2)⟩
    · cases hd
  · split at hd
    · rename_i hz
      cases hd
      obtain ⟨a1, vs1, rfl, f1, h1, j1⟩ := i1
      obtain ⟨a2, vs2, rfl, f2, h2, j2⟩ := i2
      refine op_catA pins s σ H _ _ u v Q I rx ry ⟨a1, a2, vs1, vs2, rfl, rfl, .inl h1, .inl h2, by rw [← j1.length, ← j2.length]; exact Nat.le_trans (of_decide_eq_true hz) (by decide), fun h0 => ?_, fun _ h0 => ?_, fun _ _ => q.tup e (j1.append j2)⟩
      · have hj := j1.append j2
        rw [h0] at hj
        exact q.here e (by rw [Is]; exact ⟨a2, vs2, rfl, f2, hj⟩)
      · have hj := j1.append j2
        rw [h0, List.append_nil] at hj
        exact q.here e (by rw [Is]; exact ⟨a1, vs1, rfl, f1, hj⟩)
    · cases hd
  · cases hd
/-! ### list(e), tuple(e) of lists and tuples -/
def cList : List D → Option D
  | [.lst xs] => some (.lst xs)
  | [.tup xs] => some (.lst xs)
  | _ => none
theorem ic_list : CallR X (.type "list") (rcO P cList) := fun pins s σ H xs us Q I rx ⟨F, ds, d, e, i, hd, q⟩ => by
  unfold cList at hd
  split at hd
  · cases hd
    obtain ⟨v, r, rfl, i1, i⟩ := i.uncons
    obtain rfl := i.unnil
    obtain ⟨ad, vs, rfl, h1, h2⟩ := i1
    exact call_list_of pins s σ H _ us Q I rx ⟨ad, vs, rfl, .inl (.inl h1), q.lst e h2⟩
  · cases hd
    obtain ⟨v, r, rfl, i1, i⟩ := i.uncons
    obtain rfl := i.unnil
    obtain ⟨ad, vs, rfl, h0, h1, h2⟩ := i1
    exact call_list_of pins s σ H _ us Q I rx ⟨ad, vs, rfl, .inr (.inl h1), q.lst e h2⟩
  · cases hd
def cTup : List D → Option D
  | [.lst xs] => some (.tup xs)
  | [.tup xs] => some (.tup xs)
  | _ => none
theorem ic_tup : CallR X (.type "tuple") (rcO P cTup) := fun pins s σ H xs us Q I rx ⟨F, ds, d, e, i, hd, q⟩ => by
  unfold cTup at hd
  split at hd
  · cases hd
    obtain ⟨v, r, rfl, i1, i⟩ := i.uncons
    obtain rfl := i.unnil
    obtain ⟨ad, vs, rfl, h1, h2⟩ := i1
    exact call_tuple_of pins s σ H _ us Q I rx ⟨ad, vs, rfl, .inl ⟨.inl h1, q.tup e h2⟩⟩
  · cases hd
    obtain ⟨v, r, rfl, i1, i⟩ := i.uncons
    obtain rfl := i.unnil
    obtain ⟨ad, vs, rfl, h0, h1, h2⟩ := i1
    exact call_tuple_of pins s σ H _ us Q I rx ⟨ad, vs, rfl, .inr ⟨.inl h1, q.here e (by rw [Is]; exact ⟨ad, vs, rfl, h0, h2⟩)⟩⟩
  · cases hd
/-! ### f-strings -/
def fmtD : D → Res Str
  | .str y => if y.length ≤ 1000000 then .ok y else .bad
  | .int i => if i.natAbs.log2 < 1920 then .ok (toString i) else .bad
  | _ => .bad
/-- a part of an f-string -/
structure PF (X : Cx) (P : Pm) (F0 : Fz) (H0 : Hp) (W : WX) (e : Expr) (t : TE) (f : Env → Res Str) : Prop where
  pe : PE X e t
  rd : ∀ σ H (Q : V → Hp → Prop), tG P F0 H0 W rSt f σ H Q → t σ H Q
theorem pf_fmt {pos : Pos} (he : PE X e (tE P F0 H0 W fa)) : PF X P F0 H0 W (.FormattedValue e (-1) none pos) (tFmt (tE P F0 H0 W fa)) (fun ρ => fa ρ >>= fmtD) := ⟨pe_fmt he, fun σ H Q ⟨F, ρ, er, z⟩ => by
  refine ⟨F, ρ, er, (PostG.bind (rel := rIs P) z).imp ?_⟩
  rintro v H1 ⟨F1, d, g, i, q⟩
  unfold fmtD at q
  split at q
  · split at q
    · rename_i hl
      exact .inl ⟨_, un_str i, Nat.le_trans hl (by decide), q.here g.s rfl⟩
    · exact q.elim
  · split at q
    · rename_i hl
      exact .inr ⟨_, un_int i, hl, q.here g.s rfl⟩
    · exact q.elim
  · exact q.elim⟩
theorem pf_str {x : Str} {j : Nat} {pos : Pos} : PF X P F0 H0 W (.Constant (.str x) j pos) (tC (.str x)) (fun _ => .ok x) := ⟨pe_str, fun σ H Q ⟨F, ρ, er, z⟩ => PostG.here (rel := rSt) z er.s rfl⟩
theorem pd_f1 {f1 : Env → Res Str} {t1 : TE} {pos : Pos} (h : PF X P F0 H0 W e t1 f1) : PE X (.JoinedStr [e] pos) (tE P F0 H0 W (fun ρ => do let x ← f1 ρ; .ok (.str x))) := (pe_joined1 h.pe).imp fun σ H Q ⟨F, ρ, er, z⟩ => by
  refine h.rd σ H Q ⟨F, ρ, er, (PostG.bind (rel := rSt) z).imp ?_⟩
  rintro v H1 ⟨F1, d, g, rfl, q⟩
  exact q.here g.s is_str
def ckS (x : Str) : Res Str := if x.length ≤ 1000000 then .ok x else .bad
abbrev rStr : Rel Str Str := fun _ _ d v => v = d
theorem ckS_of {x : Str} {Q : Str → Hp → Prop} (s : Sb P F H) (h : PostG P W rStr (ckS x) F σ H Q) : x.length ≤ sizeLine ∧ Q x H := by
  unfold ckS at h
  by_cases hl : x.length ≤ 1000000
  · rw [if_pos hl] at h
    exact ⟨Nat.le_trans hl (by decide), h.here s rfl⟩
  · rw [if_neg hl] at h
    exact h.elim
theorem pd_f3 {e1 e2 e3 : Expr} {f1 f2 f3 : Env → Res Str} {t1 t2 t3 : TE} {pos : Pos} (h1 : PF X P F0 H0 W e1 t1 f1) (h2 : PF X P F0 H0 W e2 t2 f2) (h3 : PF X P F0 H0 W e3 t3 f3) :
    PE X (.JoinedStr [e1, e2, e3] pos) (tE P F0 H0 W (fun ρ => do let x ← f1 ρ; let u ← ckS (Str.empty ++ x); let y ← f2 ρ; let v ← ckS (u ++ y); let z ← f3 ρ; let w ← ckS (v ++ z); .ok (.str w))) :=
  (pe_joined (.cons h1.pe (.cons h2.pe (.cons h3.pe .nil)))).imp fun σ H Q ⟨F, ρ, er, z⟩ => by
  refine h1.rd σ H _ ⟨F, ρ, er, (PostG.bind (rel := rSt) z).imp ?_⟩
  rintro v1 H1 ⟨F1, x, g1, rfl, z1⟩
  obtain ⟨l1, F1', u, g1', rfl, z1'⟩ := ckS_of g1.s (PostG.bind (rel := rStr) z1)
  refine ⟨x, rfl, l1, h2.rd σ H1 _ ⟨F1', ρ, (er.grow g1).grow g1', (PostG.bind (rel := rSt) z1').imp ?_⟩⟩
  rintro v2 H2 ⟨F2, y, g2, rfl, z2⟩
  obtain ⟨l2, F2', v, g2', rfl, z2'⟩ := ckS_of g2.s (PostG.bind (rel := rStr) z2)
  refine ⟨y, rfl, l2, h3.rd σ H2 _ ⟨F2', ρ, (((er.grow g1).grow g1').grow g2).grow g2', (PostG.bind (rel := rSt) z2').imp ?_⟩⟩
  rintro v3 H3 ⟨F3, w, g3, rfl, z3⟩
  obtain ⟨l3, F3', v, g3', rfl, z3'⟩ := ckS_of g3.s (PostG.bind (rel := rStr) z3)
  exact ⟨w, rfl, l3, z3'.here g3'.s is_str⟩
end
end DL
namespace DL
open PySem L2

/-! ### the functions' shapes, by name -/
abbrev fK (d : D) : Env → Res D := fun _ => .ok d
abbrev fOp (r : D → D → Option D) (a b : Env → Res D) : Env → Res D := fun ρ => do let x ← a ρ; let y ← b ρ; opt (r x y)
abbrev fU (r : D → Option D) (a : Env → Res D) : Env → Res D := fun ρ => do let x ← a ρ; opt (r x)
abbrev fM (r : D → Res D) (a : Env → Res D) : Env → Res D := fun ρ => do let x ← a ρ; r x
abbrev fIsN (a : Env → Res D) : Env → Res D := fun ρ => do let x ← a ρ; .ok (.bl (isNone x))
abbrev fNotN (a : Env → Res D) : Env → Res D := fun ρ => do let x ← a ρ; .ok (.bl (!isNone x))
abbrev tB' (a : Env → Res D) : Env → Res Bool := fun ρ => a ρ >>= bo
abbrev tNot' (a : Env → Res Bool) : Env → Res Bool := fun ρ => do let x ← a ρ; .ok (!x)
abbrev tAnd' (a b : Env → Res Bool) : Env → Res Bool := fun ρ => do let x ← a ρ; if x = true then b ρ else .ok false
abbrev tOr' (a b : Env → Res Bool) : Env → Res Bool := fun ρ => do let x ← a ρ; if x = true then .ok true else b ρ
abbrev vAnd (a b : Env → Res D) : Env → Res D := fun ρ => do let x ← a ρ; let k ← bo x; if k = true then b ρ else .ok (.bl false)
abbrev vOr (a b : Env → Res D) : Env → Res D := fun ρ => do let x ← a ρ; let k ← bo x; if k = true then .ok (.bl true) else b ρ
abbrev vNot (a : Env → Res D) : Env → Res D := fun ρ => do let x ← a ρ; let k ← bo x; .ok (.bl (!k))
abbrev fIf (c : Env → Res Bool) (a b : Env → Res D) : Env → Res D := fun ρ => do let k ← c ρ; if k = true then a ρ else b ρ
abbrev lNil : Env → Res (List D) := fun _ => .ok []
abbrev lCons (a : Env → Res D) (l : Env → Res (List D)) : Env → Res (List D) := fun ρ => do let x ← a ρ; let xs ← l ρ; .ok (x :: xs)
abbrev fLst (l : Env → Res (List D)) : Env → Res D := fun ρ => l ρ >>= mkL
abbrev fTup (l : Env → Res (List D)) : Env → Res D := fun ρ => l ρ >>= mkT
abbrev fCall (n : Nat) (G : List D → Res D) (l : Env → Res (List D)) : Env → Res D := fun ρ => do let xs ← l ρ; fnG n G xs
abbrev fMk (c n : Nat) (G : List D → Res (List D)) (l : Env → Res (List D)) : Env → Res D := fun ρ => do let xs ← l ρ; mkG c n G xs
abbrev fB (rc : List D → Option D) (l : Env → Res (List D)) : Env → Res D := fun ρ => do let xs ← l ρ; opt (rc xs)
abbrev fSlc (a : Env → Res D) (l h : Env → Res (Option Int)) : Env → Res D := fun ρ => do let x ← a ρ; let u ← l ρ; let v ← h ρ; opt (slcD x u v)
abbrev oNo : Env → Res (Option Int) := fun _ => .ok none
abbrev oSo (a : Env → Res D) : Env → Res (Option Int) := fun ρ => a ρ >>= ptI
abbrev fSplit (a b : Env → Res D) : Env → Res D := fun ρ => do let x ← a ρ; let s ← strD x; let y ← b ρ; let t ← strD y; splD s t
abbrev fLc (fi : Env → Res (List D)) (h : D → Env → Option Env) (gt : Env → Res Bool) (fe : Env → Res D) (us : List Nat) : Env → Res D := fun ρ => do let items ← fi ρ; let ys ← lcD h gt fe (wipeE ρ us) items; mkL ys
abbrev iSq (a : Env → Res D) : Env → Res (List D) := fun ρ => a ρ >>= seqD
abbrev iR1 (l : Env → Res (List D)) : Env → Res (List D) := fun ρ => l ρ >>= rng1
abbrev tYes' : Env → Res Bool := fun _ => .ok true
abbrev zF (a : Env → Res D) : Env → Res Str := fun ρ => a ρ >>= fmtD
abbrev zS (x : Str) : Env → Res Str := fun _ => .ok x
abbrev fF1 (f1 : Env → Res Str) : Env → Res D := fun ρ => do let x ← f1 ρ; .ok (.str x)
abbrev fF3 (f1 f2 f3 : Env → Res Str) : Env → Res D := fun ρ => do let x ← f1 ρ; let u ← ckS (Str.empty ++ x); let y ← f2 ρ; let v ← ckS (u ++ y); let z ← f3 ρ; let w ← ckS (v ++ z); .ok (.str w)
abbrev sSeq (g1 g2 : Env → RS) : Env → RS := fun ρ => seqS (g1 ρ) g2
abbrev sRet (a : Env → Res D) : Env → RS := fun ρ => bindS (a ρ) ρ .rt
abbrev sIf (c : Env → Res Bool) (g1 g2 : Env → RS) : Env → RS := fun ρ => bindS (c ρ) ρ fun k => if k = true then g1 ρ else g2 ρ
abbrev sSet (i : Nat) (a : Env → Res D) : Env → RS := fun ρ => bindS (a ρ) ρ fun d => .nx (ρ.set i (some (.sh d)))
abbrev sSetO (i : Nat) (a : Env → Res D) : Env → RS := fun ρ => bindS (a ρ) ρ fun d => .nx (ρ.set i (some (.ow d)))
abbrev sFor (fi : Env → Res (List D)) (h : D → Env → Option Env) (g : Env → RS) : Env → RS := fun ρ => bindS (fi ρ) ρ fun items => forD h g items ρ
abbrev sApp (i : Nat) (a : Env → Res D) : Env → RS := fun ρ => bindS (isOw i ρ) ρ fun _ => bindS (a ρ) ρ fun d => appD i ρ d
abbrev sPar (i j : Nat) (l : Env → Res (List D)) : Env → RS := fun ρ => bindS (l ρ) ρ (par2 i j ρ)
abbrev sAsg (a : Env → Res D) (h : D → Env → Option Env) : Env → RS := fun ρ => bindS (a ρ) ρ fun d => match h d ρ with | some ρ' => .nx ρ' | none => .bad
abbrev sRaise (c : Nat) (a : Env → Res D) : Env → RS := fun ρ => bindS (a ρ) ρ fun d => .err c (some d) ρ
abbrev sFld (nm : Nat → List Str) (f : Str) (i : Nat) (a : Env → Res D) : Env → RS := fun ρ => bindS (a ρ) ρ fun d => setF nm f ρ i d
abbrev sFrz (i : Nat) (g : Env → RS) : Env → RS := fun ρ => g (frz i ρ)
abbrev sBad : Env → RS := fun _ => .bad
abbrev sTryAs (gb : Env → RS) (c i : Nat) (gs : Option D → Env → Res D) : Env → RS := tryD gb c fun p ρ => if i < ρ.length then noErr (gs p (ρ.set i none)) else .bad

section
variable {X : Cx} {P : Pm} {F0 : Fz} {H0 : Hp} {W : WX} {a b c e o : Expr} {es : List Expr} {fa fb fc : Env → Res D} {fs : Env → Res (List D)} {pos p apos : Pos} {st : Stmt} {sts tts : List Stmt} {g g1 g2 : Env → RS} {F H : Hp} {σ : L2.St}
variable {k n : Nat} {x : Str} {G : List D → Res D} {GI : List D → Res (List D)}
/-! ### what the program's own things keep -/
structure CalD (prog : Program) (w : World) (K : PySem.W.Frag) (mg : Str → Option Value) (base : Heap) (P : Pm) (k : Nat) (x : Str) (n : Nat) (G : List D → Res D) : Prop where
  ex : ∃ f fd ps, FnOk prog w K mg base (L2.CX prog w) k f fd ps (spD P n G) ∧ mg x = some (.ref f) ∧ PySem.W.keepIn K (.ref f) = true ∧ Binds K fd ps []
theorem pd_cal (c : CalD X.prog X.w X.K X.mg X.base P k x n G) (hr : Room k X.A) (tk : Takes X W) (ha : PA X (e :: es) (tL P F0 H0 W fs)) (hg : Gl X x := by rfl) (hdb : (x == ("__debug__" : Str)) = false := by decide) (he : starEach (e :: es) X.env = (false, eval e X.env) :: starEach es X.env := by rfl) (hpl : (backTo pos (starEach es X.env)).any (·.1) = false := by rfl) :
    PE X (.Call (.Name x p) (e :: es) [] pos) (tE P F0 H0 W (fCall n G fs)) := by
  obtain ⟨f, fd, ps, h1, h2, h3, h4⟩ := c.ex
  have := pd_call (p := p) h1 hr hg h2 h3 h4 .nil Dfl.nil tk ha hdb he hpl
  simpa only [List.append_nil] using this
structure MkD (prog : Program) (w : World) (K : PySem.W.Frag) (mg : Str → Option Value) (base : Heap) (P : Pm) (k : Nat) (x : Str) (cn n : Nat) (G : List D → Res (List D)) : Prop where
  ex : ∃ f fd ps, Mk K (P.C cn) f ∧ FnOk prog w K mg base (L2.CX prog w) k f fd ps (spI P cn n G) ∧ mg x = some (.ref (P.C cn)) ∧ Binds K fd ps []
theorem pd_mk {cn : Nat} (c : MkD X.prog X.w X.K X.mg X.base P k x cn n GI) (hr : Room (k + 1) X.A) (tk : Takes X W) (ha : PA X (e :: es) (tL P F0 H0 W fs)) (hg : Gl X x := by rfl) (hdb : (x == ("__debug__" : Str)) = false := by decide) (he : starEach (e :: es) X.env = (false, eval e X.env) :: starEach es X.env := by rfl) (hpl : (backTo pos (starEach es X.env)).any (·.1) = false := by rfl) :
    PE X (.Call (.Name x p) (e :: es) [] pos) (tE P F0 H0 W (fMk cn n GI fs)) := by
  obtain ⟨f, fd, ps, h0, h1, h2, h4⟩ := c.ex
  have := pd_make (p := p) h0 h1 hr hg h2 h4 .nil Dfl.nil tk ha hdb he hpl
  simpa only [List.append_nil] using this
structure OwnD (prog : Program) (w : World) (K : PySem.W.Frag) (mg : Str → Option Value) (base : Heap) (P : Pm) (k : Nat) (m : Str) (cn n : Nat) (G : List D → Res D) : Prop where
  ex : ∃ f fd ps, FnOk prog w K mg base (L2.CX prog w) k f fd ps (spD P n G) ∧ OwnM K (P.C cn) m f ∧ Binds K fd ps []
theorem pd_ngD (c : OwnD X.prog X.w X.K X.mg X.base P k "__neg__" 0 1 G) (hr : Room k X.A) (tk : Takes X W) (ha : PE X a (tE P F0 H0 W fa)) : PE X (.UnaryOp .USub a pos) (tE P F0 H0 W (fM (negN G) fa)) := by
  obtain ⟨f, fd, ps, h0, h1, h2⟩ := c.ex
  exact pd_neg h0 h1 hr h2 tk ha
theorem pd_stD {p1 : Pos} (c : OwnD X.prog X.w X.K X.mg X.base P k "__str__" 0 1 G) (hr : Room (k + 2) X.A) (tk : Takes X W) (hm : X.mg "str" = none) (ha : PE X a (tE P F0 H0 W fa)) (hg : Gl X "str" := by rfl) (he : starEach [a] X.env = (false, eval a X.env) :: starEach [] X.env := by rfl) (hpl : (backTo pos (starEach [] X.env)).any (·.1) = false := by rfl) :
    PE X (.Call (.Name "str" p1) [a] [] pos) (tE P F0 H0 W (fM (strN G) fa)) := by
  obtain ⟨f, fd, ps, h0, h1, h2⟩ := c.ex
  exact pd_strN h0 h1 hr h2 tk hg hm ha he hpl
/-! ### comparisons as tests, as values -/
theorem td_pc {cop : CmpOp} {f : Env → Res D} (h : PC X cop a b (tE P F0 H0 W f)) (hm : behindInMarks cop b = false) : PT X (.Compare a [cop] [b] pos) (tT P F0 H0 W (tB' f)) := (pt_cmp h hm).imp fun _ _ _ z => tB_of z
theorem pd_pcv {cop : CmpOp} {f : Env → Res D} (h : PC X cop a b (tE P F0 H0 W f)) (hm : behindInMarks cop b = false) : PE X (.Compare a [cop] [b] pos) (tE P F0 H0 W f) := pe_cmp h hm
theorem td_yes : PTs X [] (tT P F0 H0 W tYes') := ⟨fun pins s σ H Q I ⟨F, ρ, er, z⟩ => pts_nil.run pins s σ H Q I (z.here er.s rfl)⟩
/-! ### the script -/
def cLenS : List D → Option D
  | [.scr ns] => some (.int (ns.length : Nat))
  | _ => none
theorem ic_lenS (hK : P.K = X.K) : CallR X (.builtin "len") (rcO P cLenS) := fun pins s σ H xs us Q I rx ⟨F, ds, d, e, i, hd, q⟩ => by
  unfold cLenS at hd
  split at hd
  · cases hd
    obtain ⟨v, r, rfl, i1, i⟩ := i.uncons
    obtain rfl := i.unnil
    obtain ⟨a, rfl, h1⟩ := i1
    rw [hK] at h1
    exact call_len_seq pins s σ H _ us Q I rx ⟨a, _, rfl, .inl h1, by simpa using q.here e is_int⟩
  · cases hd
def itemS : D → D → Option D
  | .scr ns, .int i => (atI ns i).map .int
  | _, _ => none
theorem atI_map {α β : Type} {f : α → β} {xs : List α} {i : Int} {v : α} (h : atI xs i = some v) : atI (xs.map f) i = some (f v) := by
  unfold atI at h ⊢
  rw [List.length_map]
  cases hj : ixN xs.length i with
  | none =>
    rw [hj] at h
    cases h
  | some j =>
    rw [hj] at h
    have h' : xs[j]? = some v := h
    show (xs.map f)[j]? = some (f v)
    rw [List.getElem?_map, h']
    rfl
theorem pd_ixS (hK : P.K = X.K) (ha : PE X a (tV P F0 H0 W fa)) (hb : PE X b (tV P F0 H0 W fb)) (hs : PlainIx b) : PE X (.Subscript a b pos) (tE P F0 H0 W (fOp itemS fa fb)) :=
  (pe_ix ix_seq ha hb hs).imp fun σ H Q z => by
  obtain ⟨F, ρ, er, z⟩ := two_of z
  refine ⟨F, ρ, er, z.imp fun x H1 ⟨F1, ρ1, er1, z1⟩ => ⟨F1, ρ1, er1, z1.imp ?_⟩⟩
  rintro y H2 ⟨F2, dx, dy, s2, i1, i2, z2⟩
  obtain ⟨d, hd, q⟩ := opt_of z2
  unfold itemS at hd
  split at hd
  · rename_i ns i
    obtain ⟨p, rfl, h1⟩ := i1
    rw [hK] at h1
    obtain rfl : y = .int i := i2
    cases hz : atI ns i with
    | none =>
      rw [hz] at hd
      cases hd
    | some z =>
      rw [hz] at hd
      cases hd
      exact .inl ⟨p, _, i, .int z, rfl, rfl, h1, atI_map hz, q _ F2 H2 (.refl s2) is_int⟩
  · cases hd
end
section
variable {prog : Program} {w : World} {K : PySem.W.Frag} {mg : Str → Option Value} {base : Heap} {P : Pm}
/-- an __init__ with defaults -/
theorem fndJ {c : Nat} {x qual : Str} {params : Arguments} {body : List Stmt} {scope : Scope} {dvs : List V} {kws : List (Str × V)} {f : Addr} {fd : FuncData} {N ps : List Str} {k : Nat} {g : Env → RS} {n : Nat} (hn : ps.length = n + 1) (hN : N ≠ []) (Fu : FunD K x qual params body scope dvs kws f fd) (S : FnScope N ps scope)
    (hbody : ∀ (cdv : Value) (A : Around) (outer : List PySem.Env) (s : Shared) (H F0 H0 : Hp) (x : Addr) (E : XK), Room k (A.deeper (PyProof.Rows.envOfC qual scope s.heap.objs.size f cdv)) →
      PSs (cxOf (L2.CX prog w) prog w K mg base N qual scope f cdv A outer s H E) body (tS P ⟨F0, some x⟩ H0 (WE0 E) g)) :
    FnOk prog w K mg base (L2.CX prog w) (k + 1) f fd ps (spI P c n (runI c g N.length)) := by
  refine Fu.ok S (fun vs H Q E ⟨x, dx, args, F, ds, e, _, _, _, i, hl, _⟩ => by rw [e, List.length_cons, ← i.length, hl, hn]) (fun cdv A outer s H vs Q E hr h => ?_)
  obtain ⟨x, dx, args, F, ds, rfl, hx, hf, sx, i, hl, z⟩ := h
  refine ⟨_, hbody cdv A outer s H F (minus H x) x E hr, F, env0I c N.length ds, er_startI hN sx i hx hf, ?_⟩
  unfold runI at z
  cases hg : g (env0I c N.length ds) with
  | nx ρ =>
    rw [hg] at z
    intro σ F' H' er _
    replace z : PostG P (WE0 E) (fun F' _ fs v => v = .non ∧ Is P F' (.obj c fs) (.ref x)) (selfF c ρ) F [] (minus H x) Q := z
    have hx0 := er.self x rfl
    cases hs : selfF c ρ with
    | bad =>
      rw [hs] at z
      exact z.elim
    | err e p => exact absurd hs selfF_noerr
    | ok xs =>
      rw [hs] at z
      rcases selfF_of hs with q | q
      · obtain ⟨a, h1, h2, h3, h4⟩ := er.ow 0 _ q
        rw [hx0] at h1
        cases h1
        obtain ⟨F2, e1, e2, i2, n2⟩ := h4.still er.s h3
        refine z .non F2 H' ⟨er.g.f.trans e1, er.g.h, e2, fun b o hb => ?_⟩ ⟨rfl, i2⟩
        rcases n2 b o hb with y | y
        · exact er.g.n b o y
        · exact .inr (y ▸ .of minus_same)
      · obtain ⟨v, h1, h2⟩ := er.sh 0 _ q
        rw [hx0] at h1
        cases h1
        exact z .non F' H' er.g ⟨rfl, h2⟩
  | rt d =>
    rw [hg] at z
    exact z.elim
  | bk ρ =>
    rw [hg] at z
    exact z.elim
  | ct ρ =>
    rw [hg] at z
    exact z.elim
  | err e p ρ =>
    rw [hg] at z
    exact fun σ F' H' y er _ q => z F' H' y er.g q
  | bad =>
    rw [hg] at z
    exact z.elim
/-- a def, its name, its promise -/
theorem calD {x y qual : Str} {st : Stmt} {f : Addr} {fd : FuncData} {N ps : List Str} {k : Nat} {g : Env → RS} (Fu : Fun K x qual st f fd) (S : FnScope N ps (defScope st)) (hm : mg y = some (.ref f)) (hb : Binds K fd ps [])
    (hbody : ∀ (cdv : Value) (A : Around) (outer : List PySem.Env) (s : Shared) (H F0 : Hp) (E : XK), Room k (A.deeper (PyProof.Rows.envOfC qual (defScope st) s.heap.objs.size f cdv)) →
      PSs (cxOf (L2.CX prog w) prog w K mg base N qual (defScope st) f cdv A outer s H E) (defBody st) (tS P ⟨F0, none⟩ H (WE0 E) g)) :
    CalD prog w K mg base P (k + 1) y ps.length (runB g N.length) := ⟨f, fd, ps, fnd Fu S hbody, hm, Fu.kp, hb⟩
theorem ownD {c : Nat} {x qual : Str} {st : Stmt} {f : Addr} {fd : FuncData} {N ps : List Str} {k : Nat} {g : Env → RS} (Fu : Fun K x qual st f fd) (S : FnScope N ps (defScope st)) (hm : OwnM K (P.C c) x f) (hb : Binds K fd ps [])
    (hbody : ∀ (cdv : Value) (A : Around) (outer : List PySem.Env) (s : Shared) (H F0 : Hp) (E : XK), Room k (A.deeper (PyProof.Rows.envOfC qual (defScope st) s.heap.objs.size f cdv)) →
      PSs (cxOf (L2.CX prog w) prog w K mg base N qual (defScope st) f cdv A outer s H E) (defBody st) (tS P ⟨F0, none⟩ H (WE0 E) g)) :
    OwnD prog w K mg base P (k + 1) x c ps.length (runB g N.length) := ⟨f, fd, ps, fnd Fu S hbody, hm, hb⟩
theorem mkD {c : Nat} {x y qual : Str} {params : Arguments} {body : List Stmt} {scope : Scope} {dvs : List V} {kws : List (Str × V)} {f : Addr} {fd : FuncData} {N ps : List Str} {k : Nat} {g : Env → RS} {n : Nat} (hn : ps.length = n + 1) (hN : N ≠ []) (Fu : FunD K x qual params body scope dvs kws f fd) (S : FnScope N ps scope) (M : Mk K (P.C c) f) (hm : mg y = some (.ref (P.C c))) (hb : Binds K fd ps [])
    (hbody : ∀ (cdv : Value) (A : Around) (outer : List PySem.Env) (s : Shared) (H F0 H0 : Hp) (x : Addr) (E : XK), Room k (A.deeper (PyProof.Rows.envOfC qual scope s.heap.objs.size f cdv)) →
      PSs (cxOf (L2.CX prog w) prog w K mg base N qual scope f cdv A outer s H E) body (tS P ⟨F0, some x⟩ H0 (WE0 E) g)) :
    MkD prog w K mg base P (k + 1) y c n (runI c g N.length) := ⟨f, fd, ps, M, fndJ hn hN Fu S hbody, hm, hb⟩
/-- the law's head: what a law's def must answer -/

def noT (H : Hp) : Hp := fun b => match H b with
  | some o => if isT o = true then none else some o
  | none => none
theorem noT_of {H : Hp} {a : Addr} {o : HO} (h : noT H a = some o) : H a = some o ∧ isT o = false := by
  unfold noT at h
  split at h
  · rename_i o' e
    split at h
    · cases h
    · rename_i n
      cases h
      exact ⟨e, by simpa using n⟩
  · cases h
theorem noT_at {H : Hp} {a : Addr} {o : HO} (h : H a = some o) (hn : isT o = false) : noT H a = some o := by
  unfold noT
  rw [h]
  exact if_neg (by rw [hn]; simp)
theorem noT_sb {H : Hp} (t : LamX.Tabs P.T H) : Sb P (noT H) H := ⟨fun a o h => (noT_of h).1, fun a o h => (noT_of h).2, t⟩
theorem noT_sq {H : Hp} {a : Addr} {xs : List V} (h : SqL K H a xs) : SqL K (noT H) a xs := by
  rcases h with (h | ⟨o, h⟩) | h
  · exact .inl (.inl (noT_at h rfl))
  · exact .inl (.inr ⟨o, noT_at h rfl⟩)
  · exact .inr h
theorem law_post {G : List D → Res D} (hp : P.K = K) (hG : ∀ ns : List Int, ns.length ≤ 63 → G [.scr ns] = .ok (.bl true)) (H : Hp) (a : Addr) (ns : List Int) (hl : ns.length ≤ 63) (hT : LamX.Tabs P.T H) (hS : SqL K H a (ns.map V.int)) :
    spD P 1 G [.ref a] H (fun v _ => v = .bl true) fun _ _ _ => False := by
  refine ⟨noT H, [.scr ns], noT_sb hT, .cons (by rw [Is]; exact ⟨a, rfl, hp ▸ noT_sq hS⟩) .nil, rfl, ?_⟩
  rw [hG ns hl]
  intro v F' H' _ h
  exact un_bl h
end
end DL
namespace DL
open PySem L2
abbrev dSub : D → D → Option D := int2 fun i j => some (.int (i - j))
abbrev dLt : D → D → Option D := int2 fun i j => some (.bl (decide (i < j)))
abbrev dLe : D → D → Option D := int2 fun i j => some (.bl (decide (i ≤ j)))
abbrev dGt : D → D → Option D := int2 fun i j => some (.bl (decide (j < i)))
abbrev dGe : D → D → Option D := int2 fun i j => some (.bl (decide (j ≤ i)))
/-- turns that a while is given -/
def big : Nat := 10 ^ 400
def ib_int : D → Option Bool
  | .int _ => some true
  | .bl _ => some true
  | .scr _ => none
  | _ => some false
def ib_bool : D → Option Bool
  | .bl _ => some true
  | .scr _ => none
  | _ => some false
def ib_Ratio : D → Option Bool
  | .obj _ _ => some true
  | .scr _ => none
  | _ => some false
section
variable {X : Cx} {P : Pm} {F0 : Fz} {H0 : Hp} {W : WX} {pos : Pos}
theorem pd_gl {x z : Str} (hg : Gl X x) (hm : ∃ t, X.mg x = some (.str z t)) (hd : (x == ("__debug__" : Str)) = false) : PE X (.Name x pos) (tE P F0 H0 W (fK (.str z))) := by
  obtain ⟨t, ht⟩ := hm
  exact pd_const (pe_glob hg ht (v := .str z) ⟨t, rfl⟩ hd) fun F => by rw [Is]
end
/-- no built-in's object is one of the class at C -/
structure NoB (K : PySem.W.Frag) (C : Addr) : Prop where
  n1 : PySem.W.kitOne K (.type "NoneType") (.ref C) = some false
  n2 : PySem.W.kitOne K (.type "bool") (.ref C) = some false
  n3 : PySem.W.kitOne K (.type "int") (.ref C) = some false
  n4 : PySem.W.kitOne K (.type "str") (.ref C) = some false
  n5 : PySem.W.kitOne K (.type "list") (.ref C) = some false
  n6 : PySem.W.kitOne K (.type "tuple") (.ref C) = some false
  n7 : PySem.W.kitOne K (.type "dict") (.ref C) = some false
section
variable {K : PySem.W.Frag} {P : Pm} {C : Addr}
theorem kit_int (h : ∀ c, PySem.W.kitOne K (.ref (P.C c)) (.type "int") = some false) : ∀ d b, ib_int d = some b → PySem.W.kitOne K (tyD P d) (.type "int") = some b := by
  intro d b hb
  cases d <;> simp only [ib_int, Option.some.injEq] at hb <;> (try subst hb) <;> first | exact kit_ty rfl | exact h _ | cases hb
theorem kit_bool (h : ∀ c, PySem.W.kitOne K (.ref (P.C c)) (.type "bool") = some false) : ∀ d b, ib_bool d = some b → PySem.W.kitOne K (tyD P d) (.type "bool") = some b := by
  intro d b hb
  cases d <;> simp only [ib_bool, Option.some.injEq] at hb <;> (try subst hb) <;> first | exact kit_ty rfl | exact h _ | cases hb
theorem kit_Ratio (hC : ∀ c, P.C c = C) (h : NoB K C) : ∀ d b, ib_Ratio d = some b → PySem.W.kitOne K (tyD P d) (.ref C) = some b := by
  intro d b hb
  cases d <;> simp only [ib_Ratio, Option.some.injEq] at hb <;> (try subst hb) <;> first | exact h.n1 | exact h.n2 | exact h.n3 | exact h.n4 | exact h.n5 | exact h.n6 | exact h.n7 | cases hb | skip
  show PySem.W.kitOne K (.ref (P.C _)) (.ref C) = some true
  rw [hC]
  unfold PySem.W.kitOne
  rw [if_pos (by simp)]
end
end DL
namespace PySem
namespace ErrX
open PySem.W PySem.Calls PyProof.Rows
theorem asInt_ref {x : Addr} {ox : Obj} {M : Model} {A : Around} {E : Value → Shared → Prop} {s : Shared} {Q : Option Int → Shared → Prop} (at_ : s.heap.get? x = some ox) (hd : ∀ i u, ox.data ≠ .prim (.int i u)) (hq : Q none s) : wpAny M A (asInt? (.ref x)) Q E s := by
  simp only [asInt?]
  refine wpAny_bind (wpAny_load at_ ?_)
  split
  · rename_i i u h
    exact absurd h (hd i u)
  · exact wpAny_pure hq
theorem decl_ref {name : String} {f : Int → Int → Sem Fin} {r : Bool} {a : Int} {t : Tok} {x : Addr} {ox : Obj} {M : Model} {A : Around} {E : Value → Shared → Prop} {s : Shared} {Q : Fin → Shared → Prop} (at_ : s.heap.get? x = some ox) (hd : ∀ i u, ox.data ≠ .prim (.int i u)) (hq : Q (.done (.ret .notImplemented)) s) :
    wpAny M A (Builtin.Int.intBinary name f r ⟨[.int a t, .ref x], []⟩) Q E s := by
  unfold Builtin.Int.intBinary
  have e1 : slotArgs name 1 { pos := [Value.int a t, Value.ref x] } = pure (Value.int a t, [Value.ref x]) := rfl
  have e2 : Builtin.Int.intOfSelf (Value.int a t) = pure a := rfl
  rw [e1, pure_bind]
  dsimp only
  rw [e2, pure_bind]
  refine wpAny_bind (asInt_ref at_ hd ?_)
  dsimp only
  exact wpAny_bind (wpAny_rule (wpAny_pure hq))
section
variable {prog : Program} {w : World} {A : Around} {E : Value → Shared → Prop} {s : Shared} {K : Frag} {x C L f : Addr} {h₀ : Heap} {m : Str → Option Value} {ox : Obj} {od : Option Obj}
/-- what an int and an instance of an own class need for a binary operator: the int's way declines, the class's reflected one is taken -/
structure RBin (op : Operator) (idl : String) : Prop where
  fills : fillsNumberSlot (.type "int") op.info.2 = pure true
  slot : Slot "int" (PySem.dunder op.info.2) idl
  decl : ∀ {prog : Program} {w : World} {A : Around} {E : Value → Shared → Prop} {s : Shared} {Q : Value → Shared → Prop} {a : Int} {t : Tok} {x : Addr} {ox : Obj}, s.heap.get? x = some ox → (∀ i u, ox.data ≠ .prim (.int i u)) → Q .notImplemented s → wpAny (model prog w) A (call (.builtin idl) [.int a t, .ref x]) Q E s
theorem rbin_K {op : Operator} {idl : String} {a : Int} {t : Tok} {Q : Value → Shared → Prop} (R : RBin op idl) (F : Fr h₀ L s.heap m) (X₀ : K.In h₀) (I : InstAt s.heap x ox C od) (hd : ∀ i u, ox.data ≠ .prim (.int i u)) (hc : selfFirst K C = true) {g : Addr}
    (hs : findIn K (.ref C) (PySem.dunder op.info.2) = some (some (.ref g))) (hr : findIn K (.ref C) (dunderR op.info.2) = some (some (.ref f))) (hf : isFn K (.ref f) = true) (hsub : subIn K (.ref C) (.type "int") = some false)
    (h : wpAny (model prog w) A (call (.ref f) [.ref x, .int a t]) (W.CmpBack Q) E s) : wpAny (model prog w) A (binaryOp op (.int a t) (.ref x)) Q E s := by
  have X := X₀.keeps F.keep
  obtain ⟨cd, rest, hcd, hm⟩ := ksp_first hc
  obtain ⟨fl, sl, dc⟩ := R
  rcases hi : op.info with ⟨sym, nm'⟩
  rw [hi] at hs hr fl sl
  dsimp only at hs hr fl sl
  have one := ksp_try X I hr hf h
  have L1 : Looks (model prog w) s.heap (typeOf (.ref x)) (.ref C) := I.type
  have L3 : Looks (model prog w) s.heap (fillsNumberSlot (.ref C) nm') true := fills_K X hcd hm hs
  have L5 : Looks (model prog w) s.heap (isSubtype (.ref C) (.type "int")) false := looks_subIn X hsub
  have hne : (Value.type "int" == Value.ref C) = false := Bool.eq_false_iff.mpr fun q => by cases beq_iff_eq.mp q
  have ha : s.TypeIs (.int a t) "int" := typeIs_int s a t
  simp only [binaryOp, hi]
  refine wpAny_holding (wpAny_bind ?_)
  unfold binaryOp1
  refine wpAny_bind (wpAny_typeOf ha (wpAny_bind (L1.at (wpAny_bind (wpAny_of_eq fl ?_)))))
  simp only [hne, Bool.false_eq_true, if_false]
  refine wpAny_bind (L3.at ?_)
  simp only [Bool.and_self, if_true]
  refine wpAny_bind (L5.at ?_)
  have hpy : numberSlotInPython (.type "int") nm' = pure false := rfl
  simp only [Bool.false_eq_true, if_false, pure_bind, Bool.not_false, Bool.and_self, if_true, hpy]
  have t1 : wpAny (model prog w) A (tryMethod (.int a t) (PySem.dunder nm') (.ref x)) (fun r s' => r = none ∧ s' = s) E s := by
    unfold tryMethod
    refine wpAny_bind (wpAny_callSpecial?_slot ha sl (dc I.at_ hd ?_))
    exact wpAny_pure ⟨rfl, rfl⟩
  refine wpAny_bind (wpAny_mono t1 (fun r s' hr' => ?_) fun _ _ e => e)
  obtain ⟨rfl, rfl⟩ := hr'
  refine wpAny_bind (wpAny_mono one (fun r s' hr' => ?_) fun _ _ e => e)
  obtain ⟨v, rfl, hq⟩ := hr'
  exact wpAny_bind (wpAny_rule (wpAny_pure (wpAny_pure hq)))
theorem decl_call {id : String} {name : String} {ff : Int → Int → Sem Fin} {nm : Str} (slot : Slot "int" nm id) (entry : entryFor table id = some (Builtin.Int.intBinary name ff)) (args : ∀ (a : Int) (t : Tok) (x : Addr), argsOk id ⟨[.int a t, .ref x], []⟩)
    {prog : Program} {w : World} {A : Around} {E : Value → Shared → Prop} {s : Shared} {Q : Value → Shared → Prop} {a : Int} {t : Tok} {x : Addr} {ox : Obj} (at_ : s.heap.get? x = some ox) (hd : ∀ i u, ox.data ≠ .prim (.int i u)) (hq : Q .notImplemented s) :
    wpAny (model prog w) A (call (.builtin id) [.int a t, .ref x]) Q E s := by
  refine call_meets slot (typeIs_int s a t) entry (args a t x) (S := fun _ R s => (∃ ox : Obj, s.heap.get? x = some ox ∧ ∀ i u, ox.data ≠ .prim (.int i u)) ∧ R (.ok (.ret .notImplemented)) s) ?_ ⟨⟨ox, at_, hd⟩, hq⟩
  intro prog w A R s ⟨⟨o, h1, h2⟩, h3⟩
  exact decl_ref h1 h2 h3
end
end ErrX
end PySem
namespace DL
open PySem L2
theorem rb_add : PySem.ErrX.RBin .Add "int.__add__" := ⟨F.fills_int_add, F.slot_int_add, fun h1 h2 h3 => PySem.ErrX.decl_call F.slot_int_add F.entry_int_add (fun _ _ _ => F.args_int_add_2 _ _) h1 h2 h3⟩
theorem rb_sub : PySem.ErrX.RBin .Sub "int.__sub__" := ⟨F.fills_int_sub, F.slot_int_sub, fun h1 h2 h3 => PySem.ErrX.decl_call F.slot_int_sub F.entry_int_sub (fun _ _ _ => F.args_int_sub_2 _ _) h1 h2 h3⟩
theorem rb_mul : PySem.ErrX.RBin .Mult "int.__mul__" := ⟨F.fills_int_mul, F.slot_int_mul, fun h1 h2 h3 => PySem.ErrX.decl_call F.slot_int_mul F.entry_int_mul (fun _ _ _ => F.args_int_mul_2 _ _) h1 h2 h3⟩
/-- what the top tells of a class of numbers, for one operator -/
structure NumC (K : PySem.W.Frag) (C : Addr) (m mr : Str) : Prop where
  sf : PySem.W.selfFirst K C = true
  a1 : ∃ fo, PySem.W.findIn K (.type "int") m = some fo
  a2 : ∃ ro, PySem.W.findIn K (.type "int") mr = some ro
  s1 : PySem.W.subIn K (.type "int") (.ref C) = some false
  s2 : PySem.W.subIn K (.ref C) (.type "int") = some false
def opN (gi : Int → Int → Option D) (G GR : List D → Res D) : D → D → Res D
  | .int i, .int j => opt (gi i j)
  | .obj 0 xs, .int j => fnG 2 G [.obj 0 xs, .int j]
  | .obj 0 xs, .obj 0 ys => fnG 2 G [.obj 0 xs, .obj 0 ys]
  | .int i, .obj 0 ys => fnG 2 GR [.obj 0 ys, .int i]
  | _, _ => .bad
@[simp] abbrev fN (r : D → D → Res D) (a b : Env → Res D) : Env → Res D := fun ρ => do let x ← a ρ; let y ← b ρ; r x y
section
variable {X : Cx} {P : Pm} {F0 : Fz} {H0 : Hp} {W : WX} {a b : Expr} {fa fb : Env → Res D} {pos : Pos} {σ : L2.St} {H F : Hp} {k kr : Nat} {op : Operator} {idl : String} {m mr : Str} {gi : Int → Int → Option D} {G GR : List D → Res D}
theorem two_ofE {kk : D → D → Res D} {Q : VK} (h : tE P F0 H0 W (fun ρ => do let x ← fa ρ; let y ← fb ρ; kk x y) σ H Q) :
    tE P F0 H0 W fa σ H fun x H1 => tE P F0 H0 W fb σ H1 fun y H2 => ∃ F dx dy, Sb P F H2 ∧ Is P F dx x ∧ Is P F dy y ∧ PostG P W (rIs P) (kk dx dy) F σ H2 Q := by
  obtain ⟨F, ρ, er, z⟩ := h
  refine ⟨F, ρ, er, (PostG.bind (rel := rIs P) z).imp ?_⟩
  rintro x H1 ⟨F1, dx, g1, i1, z1⟩
  refine ⟨F1, ρ, er.grow g1, (PostG.bind (rel := rIs P) z1).imp ?_⟩
  rintro y H2 ⟨F2, dy, g2, i2, z2⟩
  exact ⟨F2, dx, dy, g2.s, i1.mono g2.f dx, i2, z2⟩
theorem ins_data {pins : List (Addr × Obj)} {s : Shared} {ad C dx : Addr} {fs : List (Str × V)} (I : Inv X pins σ H s) (h : H ad = some (.ins C dx fs)) : ∃ ox od, PySem.W.InstAt s.heap ad ox C od ∧ ∀ i u, ox.data ≠ .prim (.int i u) := by
  obtain ⟨mA, ho, _⟩ := ins_get I.hok h
  obtain ⟨od, h1, _⟩ := lookIn_ns ho.ns
  exact ⟨_, some od, ⟨ho.obj, rfl, rfl, h1⟩, fun i u e => by cases e⟩
theorem pd_opN (R : PySem.ErrX.RBin op idl) (hd : PySem.dunder op.info.2 = m) (hdr : PySem.dunderR op.info.2 = mr) (N : NumC X.K (P.C 0) m mr) (hi : OpR X (binaryOp op) (r2O P (int2 gi)))
    (c : OwnD X.prog X.w X.K X.mg X.base P k m 0 2 G) (cr : OwnD X.prog X.w X.K X.mg X.base P kr mr 0 2 GR) (hr : Room k X.A) (hrr : Room kr X.A) (tk : Takes X W) (ha : PE X a (tE P F0 H0 W fa)) (hb : PE X b (tE P F0 H0 W fb)) :
    PE X (.BinOp a op b pos) (tE P F0 H0 W (fN (opN gi G GR) fa fb)) := by
  obtain ⟨f, fd, ps, c1, c2, c3⟩ := c.ex
  obtain ⟨fr, fdr, psr, d1, d2, d3⟩ := cr.ex
  obtain ⟨fo, hfo⟩ := N.a1
  obtain ⟨ro, hro⟩ := N.a2
  refine ⟨fun pins s σ H Q I h => ?_⟩
  refine wpAny_BinOp (binT ha hb I (two_ofE h) fun v u s2 x y H2 I2 rx ry ⟨F, dx, dy, e, i1, i2, q⟩ => ?_)
  unfold opN at q
  split at q
  · exact od_of hi pins s2 σ F H2 x y v u _ _ Q I2 rx ry e (i1.vw e _) (i2.vw e _) q
  · obtain ⟨ad, dd, vs, rfl, h1, h2, h3⟩ := obj_of i1
    obtain rfl : v = Value.ref ad := rx
    obtain ⟨ox, od, J, _⟩ := ins_data I2 (e.ex _ _ h1)
    obtain ⟨mm, Fr⟩ := I2.fr
    obtain rfl := un_int i2
    obtain ⟨t, rfl⟩ := ry
    refine PySem.W.ksp_binT Fr I2.ok.mod.kin J (T := "int") rfl N.sf (by rw [hd]; exact c2.at_) c2.fn (by rw [hdr]; exact d2.at_) (.inr ⟨fr, rfl⟩) (by rw [hd]; exact hfo) (by rw [hdr]; exact hro) N.s1 ?_
    exact wpAny_mono (run_at (vs := [.ref ad, .int _]) (ds := [_, _]) c1 (sub_here hr) c3 tk I2 (.cons rfl (.cons ⟨t, rfl⟩ .nil)) e (.cons i1 (.cons i2 .nil)) q) (fun _ _ z => CmpBack_of z) fun _ _ z => z
  · obtain ⟨ad, dd, vs, rfl, h1, h2, h3⟩ := obj_of i1
    obtain ⟨bd, dd', vs', rfl, h1', h2', h3'⟩ := obj_of i2
    obtain rfl : v = Value.ref ad := rx
    obtain rfl : u = Value.ref bd := ry
    obtain ⟨ox, od, J, _⟩ := ins_data I2 (e.ex _ _ h1)
    obtain ⟨ox', od', J', _⟩ := ins_data I2 (e.ex _ _ h1')
    obtain ⟨mm, Fr⟩ := I2.fr
    refine PySem.W.binop_K Fr I2.ok.mod.kin J J'.type N.sf (by rw [hd]; exact c2.at_) c2.fn ?_
    exact wpAny_mono (run_at (vs := [.ref ad, .ref bd]) (ds := [_, _]) c1 (sub_here hr) c3 tk I2 (.cons rfl (.cons rfl .nil)) e (.cons i1 (.cons i2 .nil)) q) (fun _ _ z => CmpBack_of z) fun _ _ z => z
  · obtain ⟨bd, dd', vs', rfl, h1', h2', h3'⟩ := obj_of i2
    obtain rfl : u = Value.ref bd := ry
    obtain rfl := un_int i1
    obtain ⟨t, rfl⟩ := rx
    obtain ⟨ox', od', J', hp⟩ := ins_data I2 (e.ex _ _ h1')
    obtain ⟨mm, Fr⟩ := I2.fr
    refine PySem.ErrX.rbin_K R Fr I2.ok.mod.kin J' hp N.sf (by rw [hd]; exact c2.at_) (by rw [hdr]; exact d2.at_) d2.fn N.s2 ?_
    exact wpAny_mono (run_at (vs := [.ref bd, .int _]) (ds := [_, _]) d1 (sub_here hrr) d3 tk I2 (.cons rfl (.cons ⟨t, rfl⟩ .nil)) e (.cons i2 (.cons i1 .nil)) q) (fun _ _ z => CmpBack_of z) fun _ _ z => z
  · exact q.elim
end
end DL
namespace PySem
namespace ErrX
open PySem.W PySem.Calls PyProof.Rows
section
variable {prog : Program} {w : World} {A : Around} {E : Value → Shared → Prop} {s : Shared} {K : Frag} {x C L f : Addr} {h₀ : Heap} {m : Str → Option Value} {ox : Obj} {od : Option Obj}
/-- an int == an instance of an own class: the class answers -/
theorem req_K {a : Int} {t : Tok} {Q : Value → Shared → Prop} (hu : A.units < cLine) (Fm : Fr h₀ L s.heap m) (X₀ : K.In h₀) (I : InstAt s.heap x ox C od) (hd : ∀ i u, ox.data ≠ .prim (.int i u)) (hs : findIn K (.ref C) "__eq__" = some (some (.ref f))) (hf : isFn K (.ref f) = true) (hsub : subIn K (.ref C) (.type "int") = some false)
    (h : wpAny (model prog w) A (call (.ref f) [.ref x, .int a t]) (W.CmpBack Q) E s) : wpAny (model prog w) A (richCompare .Eq (.int a t) (.ref x)) Q E s := by
  have X := X₀.keeps Fm.keep
  have one : wpAny (model prog w) A (tryCompare (.ref x) "__eq__" (.int a t)) (fun r s' => ∃ v, r = some v ∧ Q v s') E s := by
    unfold tryCompare
    refine wpAny_bind (ifBound_K X I hs hf (wpAny_mono h (fun v s' hv => ?_) fun _ _ e => e))
    cases v <;> first | exact hv.elim | exact wpAny_pure ⟨_, rfl, hv⟩
  have ha : s.TypeIs (.int a t) "int" := typeIs_int s a t
  have t1 : wpAny (model prog w) A (tryCompare (.int a t) "__eq__" (.ref x)) (fun r s' => r = none ∧ s' = s) E s := by
    unfold tryCompare
    refine wpAny_bind (wpAny_callSpecialIfBound?_slot ha F.slot_int_eq (decl_call F.slot_int_eq F.entry_int_eq (fun _ _ _ => F.args_int_eq_2 _ _) I.at_ hd ?_))
    exact wpAny_pure ⟨rfl, rfl⟩
  have hne : (Value.type "int" != Value.ref C) = true := rfl
  have L5 : Looks (model prog w) s.heap (isSubtype (.ref C) (.type "int")) false := looks_subIn X hsub
  unfold richCompare
  have o1 : oneThing? .Eq (.int a t) (.ref x) = none := rfl
  simp only [o1]
  refine wpAny_holding (wpAny_bind (wpAny_cRoomFor hu ?_))
  refine wpAny_bind (wpAny_typeOf ha (wpAny_bind (I.type.here ?_)))
  simp only [hne, if_true]
  refine wpAny_bind (L5.here ?_)
  simp only [Bool.false_eq_true, if_false, Bool.not_false, if_true]
  refine wpAny_bind (wpAny_mono t1 (fun r s' z => ?_) fun _ _ e => e)
  obtain ⟨rfl, rfl⟩ := z
  refine wpAny_bind (wpAny_mono one (fun r s' z => ?_) fun _ _ e => e)
  obtain ⟨v, rfl, hq⟩ := z
  exact wpAny_pure hq
/-- not, of what the class's __eq__ tells -/
def NotBack (Q : Value → Shared → Prop) (v : Value) (s' : Shared) : Prop := ∃ b, v = .bool b ∧ Q (.bool (!b)) s'
theorem objNe_call {b : Value} {Q : Value → Shared → Prop} (hu : A.in1.units < cLine) (X : K.In s.heap) (I : InstAt s.heap x ox C od) (hs : findIn K (.ref C) "__eq__" = some (some (.ref f))) (hf : isFn K (.ref f) = true) (hm : mroIn K C (.type "object") = some true)
    (h : wpAny (model prog w) A.in1 (call (.ref f) [.ref x, b]) (NotBack Q) E s) : wpAny (model prog w) A (call (.builtin "object.__ne__") [.ref x, b]) Q E s := by
  refine wpAny_call (codeAny_call_builtin F.cmp_object.ne.plain F.cmpEntry_ne (PySem.W.check_slot F.cmpKind_ne F.cmpSplit_ne (I.type.andThen (PySem.W.looks_mroIn X hm)) (F.cmpArgs_ne _ _) ?_))
  unfold Builtin.«object.__ne__»
  have e1 : slotArgs "__ne__" 1 { pos := [Value.ref x, b] } = pure (Value.ref x, [b]) := rfl
  rw [e1, pure_bind]
  dsimp only
  refine wpAny_bind (wpAny_cRoomFor hu ?_)
  refine wpAny_bind (ifBound_K X I hs hf (wpAny_mono h (fun v s' hv => ?_) fun _ _ e => e))
  obtain ⟨k, rfl, hq⟩ := hv
  dsimp only
  exact wpAny_bind (wpAny_of_eq (rfl : truthy (.bool k) = pure k) (wpAny_pure hq))
theorem bound_ne {M : Model} {args : List Value} {Q : Option Value → Shared → Prop} (X : K.In s.heap) (I : InstAt s.heap x ox C od) (hs : findIn K (.ref C) "__ne__" = some (some (.builtin "object.__ne__")))
    (h : wpAny M A (call (.builtin "object.__ne__") (.ref x :: args)) (fun v => Q (some v)) E s) : wpAny M A (callSpecialIfBound? (.ref x) "__ne__" args) Q E s := by
  have fin : wpAny M A (call (.builtin "object.__ne__") ([.ref x] ++ args) >>= fun v => pure (some v)) Q E s := wpAny_bind (wpAny_mono h (fun _ _ z => wpAny_pure z) fun _ _ z => z)
  unfold callSpecialIfBound? bindSpecialIfBound?
  refine wpAny_holding (wpAny_bind (wpAny_bind (wpAny_bind (I.type.here ((looks_findIn X hs).here (wpAny_bind (wpAny_askSetting (wpAny_ite ?_))))))))
  split
  · exact wpAny_bind (wpAny_of_eq (F.cmp_object.ne.bind _) (wpAny_pure (by exact fin)))
  · exact wpAny_tryCatch (wpAny_bind (wpAny_of_eq (F.cmp_object.ne.bind _) (wpAny_pure (by exact fin))))
theorem try_ne {b : Value} {Q : Value → Shared → Prop} (hu : A.in1.units < cLine) (X : K.In s.heap) (I : InstAt s.heap x ox C od) (hs : findIn K (.ref C) "__eq__" = some (some (.ref f))) (hf : isFn K (.ref f) = true) (hn : findIn K (.ref C) "__ne__" = some (some (.builtin "object.__ne__"))) (hm : mroIn K C (.type "object") = some true)
    (h : wpAny (model prog w) A.in1 (call (.ref f) [.ref x, b]) (NotBack Q) E s) : wpAny (model prog w) A (tryCompare (.ref x) "__ne__" b) (fun r s' => ∃ v, r = some v ∧ Q v s') E s := by
  unfold tryCompare
  have z := objNe_call (Q := fun v s' => (∃ k, v = .bool k) ∧ Q v s') hu X I hs hf hm (wpAny_mono h (fun v s' ⟨k, e, q⟩ => ⟨k, e, ⟨!k, rfl⟩, q⟩) fun _ _ e => e)
  refine wpAny_bind (bound_ne X I hn (wpAny_mono z (fun v s' hz => ?_) fun _ _ e => e))
  obtain ⟨⟨k, rfl⟩, q⟩ := hz
  exact wpAny_pure ⟨_, rfl, q⟩
/-- an instance != something -/
theorem ne_K {b tb : Value} {Q : Value → Shared → Prop} (hu : A.units < cLine) (hu1 : A.in1.units < cLine) (Fm : Fr h₀ L s.heap m) (X₀ : K.In h₀) (I : InstAt s.heap x ox C od) (hb : Looks (model prog w) s.heap (typeOf b) tb) (hnf : notFirst K C tb = true) (hs : findIn K (.ref C) "__eq__" = some (some (.ref f))) (hf : isFn K (.ref f) = true) (hn : findIn K (.ref C) "__ne__" = some (some (.builtin "object.__ne__"))) (hm : mroIn K C (.type "object") = some true)
    (h : wpAny (model prog w) A.in1 (call (.ref f) [.ref x, b]) (NotBack Q) E s) : wpAny (model prog w) A (richCompare .NotEq (.ref x) b) Q E s := by
  have X := X₀.keeps Fm.keep
  have one := try_ne hu1 X I hs hf hn hm h
  unfold richCompare
  simp only [oneThing_ref]
  refine wpAny_holding (wpAny_bind (wpAny_cRoomFor hu (wpAny_bind (I.type.here (wpAny_bind (hb.here ?_))))))
  have fin : wpAny (model prog w) A (tryCompare (.ref x) "__ne__" b) (fun r s' => ∃ v, r = some v ∧ Q v s') E s := one
  split
  · rename_i q
    have e : subIn K tb (.ref C) = some false := by
      rcases Bool.or_eq_true_iff.mp hnf with z | z
      · rw [beq_iff_eq.mp z] at q
        simp at q
      · exact beq_iff_eq.mp z
    refine wpAny_bind ((looks_subIn X e).here ?_)
    refine wpAny_bind (wpAny_mono fin (fun r s' z => ?_) fun _ _ e => e)
    obtain ⟨v, rfl, hq⟩ := z
    exact wpAny_pure hq
  · refine wpAny_bind (wpAny_pure (wpAny_bind (wpAny_mono fin (fun r s' z => ?_) fun _ _ e => e)))
    obtain ⟨v, rfl, hq⟩ := z
    exact wpAny_pure hq
/-- an int != an instance -/
theorem rne_K {a : Int} {t : Tok} {Q : Value → Shared → Prop} (hu : A.units < cLine) (hu1 : A.in1.units < cLine) (Fm : Fr h₀ L s.heap m) (X₀ : K.In h₀) (I : InstAt s.heap x ox C od) (hd : ∀ i u, ox.data ≠ .prim (.int i u)) (hs : findIn K (.ref C) "__eq__" = some (some (.ref f))) (hf : isFn K (.ref f) = true) (hn : findIn K (.ref C) "__ne__" = some (some (.builtin "object.__ne__"))) (hm : mroIn K C (.type "object") = some true) (hsub : subIn K (.ref C) (.type "int") = some false)
    (h : wpAny (model prog w) A.in1 (call (.ref f) [.ref x, .int a t]) (NotBack Q) E s) : wpAny (model prog w) A (richCompare .NotEq (.int a t) (.ref x)) Q E s := by
  have X := X₀.keeps Fm.keep
  have one := try_ne hu1 X I hs hf hn hm h
  have ha : s.TypeIs (.int a t) "int" := typeIs_int s a t
  have t1 : wpAny (model prog w) A (tryCompare (.int a t) "__ne__" (.ref x)) (fun r s' => r = none ∧ s' = s) E s := by
    unfold tryCompare
    refine wpAny_bind (wpAny_callSpecialIfBound?_slot ha F.slot_int_ne (decl_call F.slot_int_ne F.entry_int_ne (fun _ _ _ => F.args_int_ne_2 _ _) I.at_ hd ?_))
    exact wpAny_pure ⟨rfl, rfl⟩
  have hne : (Value.type "int" != Value.ref C) = true := rfl
  have L5 : Looks (model prog w) s.heap (isSubtype (.ref C) (.type "int")) false := looks_subIn X hsub
  unfold richCompare
  have o1 : oneThing? .NotEq (.int a t) (.ref x) = none := rfl
  simp only [o1]
  refine wpAny_holding (wpAny_bind (wpAny_cRoomFor hu ?_))
  refine wpAny_bind (wpAny_typeOf ha (wpAny_bind (I.type.here ?_)))
  simp only [hne, if_true]
  refine wpAny_bind (L5.here ?_)
  simp only [Bool.false_eq_true, if_false, Bool.not_false, if_true]
  refine wpAny_bind (wpAny_mono t1 (fun r s' z => ?_) fun _ _ e => e)
  obtain ⟨rfl, rfl⟩ := z
  refine wpAny_bind (wpAny_mono one (fun r s' z => ?_) fun _ _ e => e)
  obtain ⟨v, rfl, hq⟩ := z
  exact wpAny_pure hq
end
end ErrX
end PySem
namespace DL
open PySem L2
def eqN (G : List D → Res D) : D → D → Res D
  | .obj 0 xs, y => if notScr y = true then fnG 2 G [.obj 0 xs, y] else .bad
  | .int i, .obj 0 ys => fnG 2 G [.obj 0 ys, .int i]
  | x, y => opt (eqD x y)
def notB (r : D) : Res D := match r with
  | .bl b => .ok (.bl (!b))
  | _ => .bad
def neN (G : List D → Res D) : D → D → Res D
  | .obj 0 xs, y => if notScr y = true then (do let r ← fnG 2 G [.obj 0 xs, y]; notB r) else .bad
  | .int i, .obj 0 ys => do let r ← fnG 2 G [.obj 0 ys, .int i]; notB r
  | x, y => opt (neD x y)
/-- what the top tells of a class with an __eq__ -/
structure EqC (K : PySem.W.Frag) (P : Pm) : Prop where
  nf : ∀ d, notScr d = true → PySem.W.notFirst K (P.C 0) (tyD P d) = true
  isi : ∀ c, IsiC K (P.C c)
  ne : PySem.W.findIn K (.ref (P.C 0)) "__ne__" = some (some (.builtin "object.__ne__"))
  s2 : PySem.W.subIn K (.ref (P.C 0)) (.type "int") = some false
section
variable {X : Cx} {P : Pm} {F0 : Fz} {H0 : Hp} {W : WX} {a b : Expr} {fa fb : Env → Res D} {pos : Pos} {σ : L2.St} {H F : Hp} {k : Nat} {G : List D → Res D}
theorem ty_looks {pins : List (Addr × Obj)} {s : Shared} {d : D} {v : V} {u : Value} (E : EqC X.K P) (I : Inv X pins σ H s) (e : Sb P F H) (i : Is P F d v) (r : RelV v u) (hs : notScr d = true) : PySem.W.Looks (model X.prog X.w) s.heap (typeOf u) (tyD P d) := by
  obtain ⟨Pp, kx, hp, _⟩ := kit_of I r ((i.vw e d).ty E.isi (fun ns q => by subst q; cases hs))
  exact kx.ty _ _ I.kIn hp
theorem pc_eqN (E : EqC X.K P) (c : OwnD X.prog X.w X.K X.mg X.base P k "__eq__" 0 2 G) (hr : Room k X.A) (tk : Takes X W) (ha : PE X a (tE P F0 H0 W fa)) (hb : PE X b (tE P F0 H0 W fb)) : PC X .Eq a b (tE P F0 H0 W (fN (eqN G) fa fb)) := by
  obtain ⟨f, fd, ps, c1, c2, c3⟩ := c.ex
  refine ⟨fun pins s σ H Q I h => binT ha hb I (two_ofE h) fun v u s2 x y H2 I2 rx ry ⟨F, dx, dy, e, i1, i2, q⟩ => ?_⟩
  unfold eqN at q
  split at q
  · split at q
    · rename_i hns
      obtain ⟨ad, dd, vs, rfl, h1, h2, h3⟩ := obj_of i1
      obtain rfl : v = Value.ref ad := rx
      obtain ⟨ox, od, J, _⟩ := ins_data I2 (e.ex _ _ h1)
      obtain ⟨mm, Fr⟩ := I2.fr
      refine PySem.W.cmp_K (op := .Eq) hr.units0 Fr I2.ok.mod.kin J (ty_looks E I2 e i2 ry hns) (E.nf _ hns) c2.at_ c2.fn ?_
      exact wpAny_mono (run_at (vs := [.ref ad, y]) (ds := [_, _]) c1 (sub_here hr) c3 tk I2 (.cons rfl (.cons ry .nil)) e (.cons i1 (.cons i2 .nil)) q) (fun _ _ z => CmpBack_of z) fun _ _ z => z
    · exact q.elim
  · obtain ⟨bd, dd', vs', rfl, h1', h2', h3'⟩ := obj_of i2
    obtain rfl : u = Value.ref bd := ry
    obtain rfl := un_int i1
    obtain ⟨t, rfl⟩ := rx
    obtain ⟨ox', od', J', hp⟩ := ins_data I2 (e.ex _ _ h1')
    obtain ⟨mm, Fr⟩ := I2.fr
    refine PySem.ErrX.req_K hr.units0 Fr I2.ok.mod.kin J' hp c2.at_ c2.fn E.s2 ?_
    exact wpAny_mono (run_at (vs := [.ref bd, .int _]) (ds := [_, _]) c1 (sub_here hr) c3 tk I2 (.cons rfl (.cons ⟨t, rfl⟩ .nil)) e (.cons i2 (.cons i1 .nil)) q) (fun _ _ z => CmpBack_of z) fun _ _ z => z
  · exact od_of (io_eq hr.units) pins s2 σ F H2 x y v u _ _ Q I2 rx ry e (i1.vw e _) (i2.vw e _) q
theorem notB_of {pins : List (Addr × Obj)} {r : D} {v : V} {w : Value} {s : Shared} {Q : VK} (I : Inv X pins σ H s) (e : Sb P F H) (i : Is P F r v) (rv : RelV v w) (q : PostG P W (rIs P) (notB r) F σ H Q) : PySem.ErrX.NotBack (EP X pins σ Q) w s := by
  unfold notB at q
  split at q
  · rename_i bb
    obtain rfl := un_bl i
    obtain rfl : w = Value.bool bb := rv
    exact ⟨bb, rfl, .bl (!bb), H, I, rfl, q.here e is_bl⟩
  · exact q.elim
theorem pc_neN (E : EqC X.K P) (c : OwnD X.prog X.w X.K X.mg X.base P k "__eq__" 0 2 G) (hr : Room (k + 1) X.A) (tk : Takes X W) (ha : PE X a (tE P F0 H0 W fa)) (hb : PE X b (tE P F0 H0 W fb)) : PC X .NotEq a b (tE P F0 H0 W (fN (neN G) fa fb)) := by
  obtain ⟨f, fd, ps, c1, c2, c3⟩ := c.ex
  refine ⟨fun pins s σ H Q I h => binT ha hb I (two_ofE h) fun v u s2 x y H2 I2 rx ry ⟨F, dx, dy, e, i1, i2, q⟩ => ?_⟩
  unfold neN at q
  split at q
  · split at q
    · rename_i hns
      obtain ⟨ad, dd, vs, rfl, h1, h2, h3⟩ := obj_of i1
      obtain rfl : v = Value.ref ad := rx
      obtain ⟨ox, od, J, _⟩ := ins_data I2 (e.ex _ _ h1)
      obtain ⟨mm, Fr⟩ := I2.fr
      refine PySem.ErrX.ne_K hr.units0 hr.in1.units0 Fr I2.ok.mod.kin J (ty_looks E I2 e i2 ry hns) (E.nf _ hns) c2.at_ c2.fn E.ne (E.isi 0).hm ?_
      have z := run_at (W := W) (vs := [.ref ad, y]) (ds := [_, _]) c1 (sub_here hr).in1 c3 tk I2 (.cons rfl (.cons ry .nil)) e (.cons i1 (.cons i2 .nil)) (PostG.bind (rel := rIs P) q)
      refine wpAny_mono z (fun w s' hz => ?_) fun _ _ z => z
      obtain ⟨vv, H', I', r', F', d', g', i', q'⟩ := hz
      exact notB_of I' g'.s i' r' q'
    · exact q.elim
  · obtain ⟨bd, dd', vs', rfl, h1', h2', h3'⟩ := obj_of i2
    obtain rfl : u = Value.ref bd := ry
    obtain rfl := un_int i1
    obtain ⟨t, rfl⟩ := rx
    obtain ⟨ox', od', J', hp⟩ := ins_data I2 (e.ex _ _ h1')
    obtain ⟨mm, Fr⟩ := I2.fr
    refine PySem.ErrX.rne_K hr.units0 hr.in1.units0 Fr I2.ok.mod.kin J' hp c2.at_ c2.fn E.ne (E.isi 0).hm E.s2 ?_
    have z := run_at (W := W) (vs := [.ref bd, .int _]) (ds := [_, _]) c1 (sub_here hr).in1 c3 tk I2 (.cons rfl (.cons ⟨t, rfl⟩ .nil)) e (.cons i2 (.cons i1 .nil)) (PostG.bind (rel := rIs P) q)
    refine wpAny_mono z (fun w s' hz => ?_) fun _ _ z => z
    obtain ⟨vv, H', I', r', F', d', g', i', q'⟩ := hz
    exact notB_of I' g'.s i' r' q'
  · exact od_of (io_ne hr.units) pins s2 σ F H2 x y v u _ _ Q I2 rx ry e (i1.vw e _) (i2.vw e _) q
end
end DL
namespace DL
open PySem L2

section
variable {X : Cx} {P : Pm} {F0 : Fz} {H0 : Hp} {W : WX} {a b c e o : Expr} {es : List Expr} {fa fb fc : Env → Res D} {ga gb gc : Env → Res Bool} {fs : Env → Res (List D)} {pos p apos : Pos} {σ : St} {H F : Hp}
/-- a if c else b, as a test -/
theorem td_ifx (hc : PT X c (tT P F0 H0 W gc)) (ha : PT X a (tT P F0 H0 W ga)) (hb : PT X b (tT P F0 H0 W gb)) : PT X (.IfExp c a b pos) (tT P F0 H0 W (fun ρ => do let k ← gc ρ; if k = true then ga ρ else gb ρ)) := by
  refine ⟨fun pins s σ H Q I h => ?_⟩
  obtain ⟨F, ρ, er, z⟩ := h
  show wpAny _ _ (isTrue c X.env (eval c X.env) >>= fun k => if k = true then isTrue a X.env (eval a X.env) else isTrue b X.env (eval b X.env)) _ _ s
  refine wpAny_bind (thn (hc.run pins s σ H _ I ⟨F, ρ, er, PostG.bind (rel := rBo) z⟩) ?_)
  rintro k s1 ⟨H1, I1, F1, d, g, i, q⟩
  subst i
  by_cases hv : k = true
  · rw [if_pos hv] at q ⊢
    exact ha.run pins s1 σ H1 Q I1 ⟨F1, ρ, er.grow g, q⟩
  · rw [if_neg hv] at q ⊢
    exact hb.run pins s1 σ H1 Q I1 ⟨F1, ρ, er.grow g, q⟩
/-! ### products of great numbers -/
def mulB (i j : Int) : Option D := if i.natAbs.log2 + j.natAbs.log2 < 1000000 ∨ (-(2 ^ 64) < i ∧ i < 2 ^ 64) ∨ (-(2 ^ 64) < j ∧ j < 2 ^ 64) then some (.int (i * j)) else none
theorem io_mulB : OpR X (binaryOp .Mult) (r2O P (int2 mulB)) := fun pins s σ H x y u v Q I rx ry h => by
  obtain ⟨F, dx, dy, d, e, i1, i2, hd, q⟩ := h
  obtain ⟨i, j, rfl, rfl, hg⟩ := int2_of hd
  have e1 : x = .int i := i1
  have e2 : y = .int j := i2
  subst e1 e2
  unfold mulB at hg
  split at hg
  · rename_i hc
    cases hg
    rcases hc with hc | hc
    · exact op_mulW pins s σ H _ _ u v Q I rx ry ⟨i, j, rfl, rfl, hc, q.here e is_int⟩
    · exact op_mul pins s σ H _ _ u v Q I rx ry ⟨i, j, rfl, rfl, hc, q.here e is_int⟩
  · cases hg
/-! ### x in a list -/
def inD (x y : D) : Option D := (toPD x).bind fun a => match y with
  | .lst ys => (toPDs ys).bind fun bs => if SeqAt.shaped a = true ∧ SeqAt.shaped (.list bs) = true then some (.bl (bs.any fun z => PyData.eqv z a)) else none
  | _ => none
theorem inD_of {x y d : D} (h : inD x y = some d) : ∃ a ys bs, toPD x = some a ∧ y = .lst ys ∧ toPDs ys = some bs ∧ SeqAt.shaped a = true ∧ SeqAt.shaped (.list bs) = true ∧ d = .bl (bs.any fun z => PyData.eqv z a) := by
  unfold inD at h
  cases ha : toPD x with
  | none =>
    rw [ha] at h
    cases h
  | some a =>
    rw [ha] at h
    cases y with
    | lst ys =>
      cases hb : toPDs ys with
      | none =>
        have h' : (toPDs ys).bind (fun bs => if SeqAt.shaped a = true ∧ SeqAt.shaped (.list bs) = true then some (D.bl (bs.any fun z => PyData.eqv z a)) else none) = some d := h
        rw [hb] at h'
        cases h'
      | some bs =>
        have h' : (toPDs ys).bind (fun bs => if SeqAt.shaped a = true ∧ SeqAt.shaped (.list bs) = true then some (D.bl (bs.any fun z => PyData.eqv z a)) else none) = some d := h
        rw [hb] at h'
        replace h' : (if SeqAt.shaped a = true ∧ SeqAt.shaped (.list bs) = true then some (D.bl (bs.any fun z => PyData.eqv z a)) else none) = some d := h'
        split at h'
        · rename_i hc
          cases h'
          exact ⟨a, ys, bs, rfl, rfl, hb, hc.1, hc.2, rfl⟩
        · cases h'
    | _ => cases h
theorem toPD_lst {ys : List D} {bs : List PyData} (h : toPDs ys = some bs) : toPD (.lst ys) = some (.list bs) := by
  rw [toPD, h]
  rfl
theorem io_inD (hu : X.A.units + 65 < cLine) : OpR X (compareOp .In) (r2O P inD) := fun pins s σ H x y u v Q I rx ry h => by
  obtain ⟨F, dx, dy, d, e, i1, i2, hd, q⟩ := h
  obtain ⟨pa, ys, bs, h1, rfl, h2, h3, h4, rfl⟩ := inD_of hd
  exact op_inD hu pins s σ H x y u v Q I rx ry ⟨pa, bs, i1.dp e dx h1, i2.dp e _ (toPD_lst h2), h3, h4, q.bl e⟩
/-! ### raise T('..') of a built-in class -/
theorem sd_raiseB {T N I : String} {x m : Str} {j cn : Nat} {p2 pos' : Pos} (hc : X.calm = true) (tk : Takes X W) (B : ExcB T N I) (hxc : P.xc cn = .type T) (hm : X.mg x = none) (hv : bootBuiltins x = some (.type T)) (hg : Gl X x := by rfl) (hn : x ≠ "__name__" := by decide) (hdb : (x == ("__debug__" : Str)) = false := by decide) :
    PS X (.Raise (some (.Call (.Name x p) [.Constant (.str m) j p2] [] pos)) none pos') (tS P F0 H0 W (fun ρ => .err cn none ρ)) := (ps_raiseB hc tk B hg hm hv hn hdb).imp fun N σ H ⟨F, ρ, er, z⟩ => by
  rw [← hxc]
  exact z σ F H none er (.refl F) rfl
end
/-! ### x(lambda: e), where x is: try: a() / except T: return True / return False -/
abbrev rzBody (a e : Str) (j j2 : Nat) (p1 p2 p3 p4 p5 p6 p7 p8 p9 p10 : Pos) : List Stmt := [.Try [.Expr (.Call (.Name a p1) [] [] p2) p3] [.ExceptHandler (some (.Name e p4)) none [.Return (some (.Constant (.bool true) j p5)) p6] p7] [] [] p8, .Return (some (.Constant (.bool false) j2 p9)) p10]
def TTr (K : PySem.W.Frag) (cv : Value) : (XK → Hp → VK → Prop) → Hp → VK → Prop := fun tl H Q => tl (fun cls _ H' => PySem.W.exmOne K cls cv = some true ∧ Q (.bl true) H') H (fun _ H' => Q (.bl false) H')
section
variable {X : Cx}
theorem raises_gives {Ng : List Str} {x a e q : Str} {sg : Scope} {g : Addr} {cdg cv : Value} {j j2 : Nat} {p1 p2 p3 p4 p5 p6 p7 p8 p9 p10 : Pos} (hge : sg.names.lookup e = some .globalImplicit) (hme : X.mg e = some cv ∨ (X.mg e = none ∧ bootBuiltins e = some cv ∧ e ≠ "__name__")) (hde : (e == ("__debug__" : Str)) = false)
    (h0 : ∀ f : Addr, (L2.start Ng [V.ref f])[0]? = some (some (V.ref f))) : LamX.GivesTo X Ng x sg g cdg (rzBody a e j j2 p1 p2 p3 p4 p5 p6 p7 p8 p9 p10) a q (TTr X.K cv) := by
  intro f c' s H Q tl act hc h
  refine ⟨_, pss_cons (ps_try_only (X := (cxOf C8.CX0 X.prog X.w X.K X.mg X.base Ng x sg g cdg X.A X.stack s H C8.E0).nox) (c := cv)
      (tb := fun W D σ H => ∃ Ech : XK, (∀ cls d σ' H', Ech cls d H' → W cls d σ' H') ∧ σ[0]? = some (some (.ref f)) ∧ H c' = some (LamX.CodeO c' q) ∧ tl Ech H (fun _ H1 => D.nx σ H1))
      rfl rfl ⟨hge, hde, hme⟩ LamX.takes0 (fun W pn xe tk _ => ?_) (fun _ _ _ _ _ _ _ => pss_one (ps_ret pe_bl))) (pss_one (ps_ret pe_bl)), ?_⟩
  · refine ⟨fun pins s' σ H' D I h' => ?_⟩
    obtain ⟨Ech, hW, h1, h2, h3⟩ := h'
    exact (pss_one (ps_expr (act W pn xe Ech p1 p2 tk hW))).run pins s' σ H' D I ⟨h1, h2, h3⟩
  · refine ⟨fun cls _ H' => PySem.W.exmOne X.K cls cv = some true ∧ Q (.bl true) H', fun cls d σ' H' z => ⟨true, z.1, fun _ _ _ => z.2, fun w => by cases w⟩, h0 f, hc, h⟩
end
def rzD (cz : Nat) : Res D → Res D
  | .ok _ => .ok (.bl false)
  | .err c _ => if c = cz then .ok (.bl true) else .bad
  | .bad => .bad
/-- the tables of code: where the def's own one is -/
structure TabAt (P : Pm) (base : Heap) (mg : Str → Option Value) (c t : Addr) (q : Str) : Prop where
  tb : LamX.TabB base mg c t
  mem : (t, q) ∈ P.T
  one : ∀ p ∈ P.T, p.1 = t → p.2 = q
/-- the def that takes the lambda -/
structure RzD (K : PySem.W.Frag) (mg : Str → Option Value) (x a e : Str) (cv : Value) : Prop where
  ex : ∃ (st : Stmt) (g : Addr) (fd : FuncData) (Ng : List Str) (j j2 : Nat) (p1 p2 p3 p4 p5 p6 p7 p8 p9 p10 : Pos), Fun K x x st g fd ∧ mg x = some (.ref g) ∧ Binds K fd [a] [] ∧ FnScope Ng [a] (defScope st) ∧ Ng[0]? = some a ∧ Vis (defScope st) a ∧
    defBody st = rzBody a e j j2 p1 p2 p3 p4 p5 p6 p7 p8 p9 p10 ∧ (defScope st).names.lookup e = some .globalImplicit ∧ ∀ f : Addr, (L2.start Ng [V.ref f])[0]? = some (some (V.ref f))
  cl : mg e = some cv ∨ (mg e = none ∧ bootBuiltins e = some cv ∧ e ≠ "__name__")
  nd : (e == ("__debug__" : Str)) = false
section
variable {X : Cx} {P : Pm} {F0 : Fz} {H0 : Hp} {W : WX}
theorem pd_raises {x a e : Str} {cv : Value} {cz k : Nat} {c t : Addr} {params : Arguments} {body : Expr} {scope : Scope} {p lpos pos : Pos} {fb : Env → Res D} (R : RzD X.K X.mg x a e cv) (hex : PySem.W.exmOne X.K (P.xc cz) cv = some true) (TA : TabAt P X.base X.mg c t (X.env.qual ++ "<lambda>")) (hcode : X.env.code = .ref c)
    (hr : Room (k + 2) X.A) (L : LamX.LamS X.env.scope scope) (hdef : defaultsOf params X.env = ([], []))
    (hbind : ∀ (q : Str) (cl : List (Str × Addr)) (pm cv ctv : Value), bindArgs (PySem.W.kla_fn "<lambda>" q params body scope cl pm cv ctv) ⟨[], []⟩ = pure [])
    (hbody : ∀ (A : Around) (outer : List PySem.Env) (s : Shared) (H : Hp) (E : XK) (f c' : Addr), Room k (A.deeper (LamX.lamEnv X scope s.heap.objs.size f c')) → Takes (LamX.lamCx X A outer s H E scope f c') (WE0 E) → PE (LamX.lamCx X A outer s H E scope f c') body (tE P F0 H0 (WE0 E) fb))
    (hg : Gl X x := by rfl) (hdb : (x == ("__debug__" : Str)) = false := by decide) (hd : (a == ("__debug__" : Str)) = false := by decide) (hcd : (a == ("__classdict__" : Str)) = false := by decide) :
    PE X (.Call (.Name x p) [.Lambda params body scope lpos] [] pos) (tE P F0 H0 W (fun ρ => rzD cz (fb ρ))) := by
  obtain ⟨st, g, fd, Ng, j, j2, p1, p2, p3, p4, p5, p6, p7, p8, p9, p10, Fu, hm, hb, Sg, hN0, hva, hbg, hge, h0⟩ := R.ex
  obtain ⟨oc, od, kV, doc, pm, an, cdv, ct, osl, rfl, lk, hcd'⟩ := Fu.ex
  have hG : LamX.GivesTo X Ng x (defScope st) g cdv (defBody st) a (X.env.qual ++ "<lambda>") (TTr X.K cv) := by
    rw [hbg]
    exact raises_gives hge R.cl R.nd h0
  refine (LamX.pe_lamcall (T := P.T) (t := fun E => tE P F0 H0 (WE0 E) fb) hg hm Fu.kp lk hcd' hb Sg hN0 hva hG TA.tb hcode TA.mem TA.one hr L hdef hbind (fun A outer s H E f c' hr' => hbody A outer s H E f c' hr' (takes_of rfl rfl rfl rfl)) hdb hd hcd).imp fun σ H Q ⟨F, ρ, er, z⟩ => ?_
  replace z : PostG P W (rIs P) (rzD cz (fb ρ)) F σ H Q := z
  refine ⟨er.s.tabs, fun H1 e1 t1 => ?_⟩
  have eT : ExT H H1 := ⟨fun a o h n => e1 a o h fun ps hp => by
    subst hp
    cases n⟩
  have g1 : Grow P F H F H1 := ⟨.refl F, eT, er.s.ext' eT t1, fun _ _ e => .inl e⟩
  refine ⟨F, ρ, er.grow g1, ?_⟩
  cases hf : fb ρ with
  | ok d =>
    rw [hf] at z
    exact fun v F' H' g i => z (.bl false) F' H' (g1.trans g) is_bl
  | err c p =>
    rw [hf] at z
    by_cases hz : c = cz
    · have e2 : rzD cz (.err c p) = .ok (.bl true) := if_pos hz
      rw [e2] at z
      exact fun F' H' y g q => ⟨hz ▸ hex, z (.bl true) F' H' (g1.trans g) is_bl⟩
    · have e2 : rzD cz (.err c p) = .bad := if_neg hz
      rw [e2] at z
      exact z.elim
  | bad =>
    rw [hf] at z
    exact z.elim
end
end DL
namespace DL
open PySem L2

/-! ### methods, defaults, keywords, a def whose code object is known -/
section
variable {X : Cx} {P : Pm} {F0 : Fz} {H0 : Hp} {W : WX} {a b c e o : Expr} {es : List Expr} {fa fb fc : Env → Res D} {fs : Env → Res (List D)} {pos p apos : Pos} {σ : St} {H F : Hp} {k n : Nat} {x m : Str} {G : List D → Res D} {GI : List D → Res (List D)}
structure MetD (prog : Program) (w : World) (K : PySem.W.Frag) (mg : Str → Option Value) (base : Heap) (P : Pm) (k : Nat) (m : Str) (cn n : Nat) (G : List D → Res D) : Prop where
  ex : ∃ f fd ps, FnOk prog w K mg base (L2.CX prog w) k f fd ps (spD P n G) ∧ Cls K (P.C cn) ∧ Meth K (P.C cn) m f ∧ Binds K fd ps [] ∧ m ∉ P.nm cn
abbrev fMet (cn n : Nat) (G : List D → Res D) (fa : Env → Res D) (fs : Env → Res (List D)) : Env → Res D := fun ρ => do let x ← fa ρ; let y ← isO cn x; let xs ← fs ρ; fnG n G (y :: xs)
theorem pd_met {cn : Nat} {pl : Sem Bool} (c : MetD X.prog X.w X.K X.mg X.base P k m cn n G) (hr : Room k X.A) (tk : Takes X W) (ho : PE X o (tE P F0 H0 W fa)) (ha : PA X (e :: es) (tL P F0 H0 W fs))
    (hst : starEach (e :: es) X.env = (false, eval e X.env) :: starEach es X.env := by rfl) (hpl : (backTo pos (starEach es X.env)).any (·.1) = false := by rfl)
    (ht : eval (.Call (.Attribute o m apos) (e :: es) [] pos) X.env = (do
      let ov ← eval o X.env
      standAt apos.atName
      let (f, first) ← holding [ov] (getMethod ov m pl)
      callWith pos f first (backTo pos (starEach (e :: es) X.env)) (backToKw pos (keywordEach [] X.env))) := by rfl) :
    PE X (.Call (.Attribute o m apos) (e :: es) [] pos) (tE P F0 H0 W (fMet cn n G fa fs)) := by
  obtain ⟨f, fd, ps, h1, h2, h3, h4, h5⟩ := c.ex
  have := pd_meth ho h2 h3 h5 h1 hr h4 .nil Dfl.nil tk ha hst hpl ht
  simpa only [List.append_nil, List.cons_append] using this
/-- o.m() -/
theorem pd_met0 {cn : Nat} {pl : Sem Bool} (c : MetD X.prog X.w X.K X.mg X.base P k m cn n G) (hr : Room k X.A) (tk : Takes X W) (ho : PE X o (tE P F0 H0 W fa))
    (ht : eval (.Call (.Attribute o m apos) [] [] pos) X.env = (do
      let ov ← eval o X.env
      standAt apos.atName
      let (f, first) ← holding [ov] (getMethod ov m pl)
      callWith pos f first (backTo pos (starEach [] X.env)) (backToKw pos (keywordEach [] X.env))) := by rfl) :
    PE X (.Call (.Attribute o m apos) [] [] pos) (tE P F0 H0 W (fMet cn n G fa (fun _ => .ok []))) := by
  obtain ⟨f, fd, ps, h1, h2, h3, h4, h5⟩ := c.ex
  have := pd_meth0 ho h2 h3 h5 h1 hr h4 .nil Dfl.nil tk ht
  exact this
theorem metD {prog : Program} {w : World} {K : PySem.W.Frag} {mg : Str → Option Value} {base : Heap} {c : Nat} {x qual : Str} {st : Stmt} {f : Addr} {fd : FuncData} {N ps : List Str} {k : Nat} {g : Env → RS} (Fu : Fun K x qual st f fd) (S : FnScope N ps (defScope st)) (hc : Cls K (P.C c)) (hm : Meth K (P.C c) x f) (hb : Binds K fd ps []) (hn : x ∉ P.nm c)
    (hbody : ∀ (cdv : Value) (A : Around) (outer : List PySem.Env) (s : Shared) (H F0 : Hp) (E : XK), Room k (A.deeper (PyProof.Rows.envOfC qual (defScope st) s.heap.objs.size f cdv)) →
      PSs (cxOf (L2.CX prog w) prog w K mg base N qual (defScope st) f cdv A outer s H E) (defBody st) (tS P ⟨F0, none⟩ H (WE0 E) g)) :
    MetD prog w K mg base P (k + 1) x c ps.length (runB g N.length) := ⟨f, fd, ps, fnd Fu S hbody, hc, hm, hb, hn⟩
/-- C(e, ..), the rest by defaults -/
structure MkDd (prog : Program) (w : World) (K : PySem.W.Frag) (mg : Str → Option Value) (base : Heap) (P : Pm) (k : Nat) (x : Str) (cn n : Nat) (dds : List D) (G : List D → Res (List D)) : Prop where
  ex : ∃ f fd ps dv dvs, Mk K (P.C cn) f ∧ FnOk prog w K mg base (L2.CX prog w) k f fd ps (spI P cn n G) ∧ mg x = some (.ref (P.C cn)) ∧ Binds K fd ps dv ∧ Vals dvs dv ∧ Dfl P dvs dds
abbrev fMkd (cn n : Nat) (dds : List D) (G : List D → Res (List D)) (fs : Env → Res (List D)) : Env → Res D := fun ρ => do let xs ← fs ρ; mkG cn n G (xs ++ dds)
theorem pd_mkd {cn : Nat} {dds : List D} (c : MkDd X.prog X.w X.K X.mg X.base P k x cn n dds GI) (hr : Room (k + 1) X.A) (tk : Takes X W) (ha : PA X (e :: es) (tL P F0 H0 W fs)) (hg : Gl X x := by rfl) (hdb : (x == ("__debug__" : Str)) = false := by decide) (he : starEach (e :: es) X.env = (false, eval e X.env) :: starEach es X.env := by rfl) (hpl : (backTo pos (starEach es X.env)).any (·.1) = false := by rfl) :
    PE X (.Call (.Name x p) (e :: es) [] pos) (tE P F0 H0 W (fMkd cn n dds GI fs)) := by
  obtain ⟨f, fd, ps, dv, dvs, h0, h1, h2, h4, h5, h6⟩ := c.ex
  exact pd_make (p := p) h0 h1 hr hg h2 h4 h5 h6 tk ha hdb he hpl
/-- C(k = e, ..), all by keywords -/
structure MkDk (prog : Program) (w : World) (K : PySem.W.Frag) (mg : Str → Option Value) (base : Heap) (P : Pm) (k : Nat) (x : Str) (cn n : Nat) (ks : List Str) (pr : {α : Type} → List α → List α) (G : List D → Res (List D)) : Prop where
  ex : ∃ f fd ps, Mk K (P.C cn) f ∧ FnOk prog w K mg base (L2.CX prog w) k f fd ps (spI P cn n G) ∧ mg x = some (.ref (P.C cn)) ∧ KBn K fd ps 1 ks (fun us ws => us ++ pr ws) (fun us ws => us ++ pr ws)
  rel : ∀ {F : Hp} {ds : List D} {vs : List V}, IsL P F ds vs → IsL P F (pr ds) (pr vs)
abbrev fMkk (cn n m : Nat) (pr : {α : Type} → List α → List α) (G : List D → Res (List D)) (fs : Env → Res (List D)) : Env → Res D := fun ρ => do let xs ← fs ρ; if xs.length = m then noErr (mkG cn n G (pr xs)) else .bad
theorem PK.imp {kws : List Keyword} {t t' : TA} (h : PK X kws t) (q : ∀ σ H Q, t' σ H Q → t σ H Q) : PK X kws t' := ⟨fun p pins s σ H Q I z => h.run p pins s σ H Q I (q σ H Q z)⟩
theorem kd_nil : PK X [] (tL P F0 H0 W (fun _ => .ok [])) := PK.imp pk_nil fun σ H Q ⟨F, ρ, er, z⟩ => z.here er.s .nil
theorem kd_cons {nm : Option Str} {kpos : Pos} {kws : List Keyword} (ha : PE X e (tE P F0 H0 W fa)) (hr : PK X kws (tL P F0 H0 W fs)) : PK X (⟨nm, e, kpos⟩ :: kws) (tL P F0 H0 W (fun ρ => do let x ← fa ρ; let xs ← fs ρ; .ok (x :: xs))) := PK.imp (pk_cons ha hr) fun σ H Q ⟨F, ρ, er, z⟩ => by
  refine ⟨F, ρ, er, (PostG.bind (rel := rIs P) z).imp ?_⟩
  rintro v H1 ⟨F1, d, g, i, q⟩
  refine ⟨F1, ρ, er.grow g, (PostG.bind (rel := rLs P) q).imp ?_⟩
  rintro vs H2 ⟨F2, ds, g2, i2, q2⟩
  exact q2.here g2.s (.cons (i.mono g2.f d) i2)
theorem pd_mkk {cn : Nat} {ks : List Str} {pr : {α : Type} → List α → List α} {kws : List Keyword} (c : MkDk X.prog X.w X.K X.mg X.base P k x cn n ks pr GI) (hr : Room (k + 1) X.A) (hkw : PK X kws (tL P F0 H0 W fs)) (hg : Gl X x := by rfl)
    (hall : (backToKw pos (keywordEach kws X.env)).all (·.1.isSome) = true := by rfl) (hks : (backToKw pos (keywordEach kws X.env)).filterMap (·.1) = ks := by rfl) (hdb : (x == ("__debug__" : Str)) = false := by decide)
    (hpl : ((backTo pos (starEach [] X.env)).any (·.1) || (backToKw pos (keywordEach kws X.env)).any (·.1.isNone)) = false := by rfl) :
    PE X (.Call (.Name x p) [] kws pos) (tE P F0 H0 W (fMkk cn n ks.length pr GI fs)) := by
  obtain ⟨f, fd, ps, h0, h1, h2, h3⟩ := c.ex
  refine (pe_makeK0 (p := p) h0 h1 hr hg h2 h3 (passL (X := X)) hkw hall hks hdb hpl).imp fun σ H Q ⟨F, ρ, er, z⟩ => ?_
  show tL P F0 H0 W fs σ H _
  refine ⟨F, ρ, er, (PostG.bind (rel := rLs P) z).imp ?_⟩
  rintro zs H1 ⟨F1, ds, g, i, q⟩
  by_cases hl : ds.length = ks.length
  · rw [if_pos hl] at q
    refine ⟨rfl, by rw [← i.length]; exact hl, fun x dx hx hdx hne => ?_⟩
    have q' : PostG P (WE0 fun cls d H' => (fun _ _ _ _ => False : WX) cls d [] H') (rIs P) (mkG cn n GI (pr ds ++ [])) F1 [] H1 Q := by
      rw [List.append_nil]
      exact PostG.noErr q
    have := mkG_of (W := fun _ _ _ _ => False) (σ := []) (dvs := []) (dds := []) Dfl.nil g.s (c.rel i) q' x dx hx hdx hne
    simpa only [List.append_nil, List.cons_append, List.nil_append] using this
  · rw [if_neg hl] at q
    exact q.elim
/-- two keywords, turned -/
theorem rev_rel {F : Hp} : ∀ {ds : List D} {vs : List V}, IsL P F ds vs → IsL P F ds.reverse vs.reverse
  | [], _, h => by
    obtain rfl := h.unnil
    exact .nil
  | d :: ds, _, h => by
    obtain ⟨v, r, rfl, h1, h2⟩ := h.uncons
    rw [List.reverse_cons, List.reverse_cons]
    exact (rev_rel h2).append (.cons h1 .nil)
theorem vals_rev : ∀ {vs : List V} {us : List Value}, Vals vs us → Vals vs.reverse us.reverse
  | _, _, .nil => .nil
  | _, _, .cons r t => by
    rw [List.reverse_cons, List.reverse_cons]
    exact (vals_rev t).append (.cons r .nil)
theorem kb_rev {K : PySem.W.Frag} {x qual : Str} {params : Arguments} {body : List Stmt} {scope : Scope} {dvs : List V} {kws : List (Str × V)} {f : Addr} {fd : FuncData} {ps ks : List Str} (F : FunD K x qual params body scope dvs kws f fd) (hd : dvs ≠ [])
    (h : ∀ (T : Addr) (kV doc pm : Value) (an : Option Addr) (cdv ct : Value) (us its ws : List Value), us.length = 1 → its.length = dvs.length → ws.length = ks.length →
      ∃ k, bindArgs (PySem.W.fnOf x qual params body scope (.ref T) kV doc pm an cdv ct) ⟨us, ks.zip ws⟩ = seqItems? (.ref T) >>= k ∧ k (some its.toArray) = pure (ps.zip (us ++ ws.reverse))) :
    KBn K fd ps 1 ks (fun us ws => us ++ ws.reverse) (fun us ws => us ++ ws.reverse) := by
  obtain ⟨oc, od, dV, kV, doc, pm, an, cdv, ct, osl, rfl, lk, hcd, hD, hK⟩ := F.ex
  rcases hD with ⟨e, _⟩ | ⟨_, T, o, its, m, rfl, lT, oT, rT⟩
  · exact absurd e hd
  · refine ⟨fun s us ws X' l1 l2 => ?_, fun r1 r2 => r1.append (vals_rev r2)⟩
    obtain ⟨k, e1, e2⟩ := h T kV doc pm an cdv ct us its ws l1 rT.length.symm l2
    refine BindsTo.of_looks fun M => ?_
    rw [e1]
    exact looks_items X' lT oT (.of_pure e2)
/-- a def whose code object stands at c -/
theorem fndC {prog : Program} {w : World} {K : PySem.W.Frag} {mg : Str → Option Value} {base : Heap} {x qual : Str} {st : Stmt} {f cA : Addr} {oc kV doc pm ct : Value} {od an : Option Addr} {osl : Array (Option Value)} {N ps : List Str} {k : Nat} {g : Env → RS}
    (lk : K.lookup f = some ⟨oc, od, .func (PySem.W.fnOf x qual (defArgs st) (defBody st) (defScope st) .none kV doc pm an (.ref cA) ct), osl⟩) (hcd : PySem.W.codeIn K (.ref cA) qual = true) (S : FnScope N ps (defScope st))
    (hbody : ∀ (A : Around) (outer : List PySem.Env) (s : Shared) (H F0 : Hp) (E : XK), Room k (A.deeper (PyProof.Rows.envOfC qual (defScope st) s.heap.objs.size f (.ref cA))) →
      PSs (cxOf (L2.CX prog w) prog w K mg base N qual (defScope st) f (.ref cA) A outer s H E) (defBody st) (tS P ⟨F0, none⟩ H (WE0 E) g)) :
    FnOk prog w K mg base (L2.CX prog w) (k + 1) f (PySem.W.fnOf x qual (defArgs st) (defBody st) (defScope st) .none kV doc pm an (.ref cA) ct) ps (spD P ps.length (runB g N.length)) := by
  refine fn_of lk hcd S (fun vs H Q E ⟨F, ds, _, i, hl, _⟩ => by rw [← i.length]; exact hl) fun A outer s H vs Q E hr h => ?_
  obtain ⟨F, ds, sx, i, hl, z⟩ := h
  refine ⟨_, hbody A outer s H F E hr, F, env0 N.length ds, er_start sx i, ?_⟩
  unfold runB at z
  cases hg : g (env0 N.length ds) with
  | nx ρ =>
    rw [hg] at z
    exact fun σ F' H' er _ => z .non F' H' er.g is_non
  | rt d =>
    rw [hg] at z
    exact fun v F' H' gr _ i' => z v F' H' gr i'
  | bk ρ =>
    rw [hg] at z
    exact z.elim
  | ct ρ =>
    rw [hg] at z
    exact z.elim
  | err e p ρ =>
    rw [hg] at z
    exact fun σ F' H' y er _ q => z F' H' y er.g q
  | bad =>
    rw [hg] at z
    exact z.elim
end
end DL
namespace DL
open PySem L2
theorem units65 {k : Nat} {A : Around} (r : Room k A) : A.units + 65 < cLine := by
  have := r.un
  omega
/-- the left one is an instance of class 0 -/
def opL (G : List D → Res D) : D → D → Res D
  | .obj 0 xs, .int j => fnG 2 G [.obj 0 xs, .int j]
  | .obj 0 xs, .obj 0 ys => fnG 2 G [.obj 0 xs, .obj 0 ys]
  | _, _ => .bad
section
variable {X : Cx} {P : Pm} {F0 : Fz} {H0 : Hp} {W : WX} {a b : Expr} {fa fb : Env → Res D} {pos : Pos} {σ : L2.St} {H F : Hp} {k kr : Nat} {op : Operator} {m mr : Str} {G : List D → Res D}
theorem pd_opL (hd : PySem.dunder op.info.2 = m) (hdr : PySem.dunderR op.info.2 = mr) (N : NumC X.K (P.C 0) m mr) (hR : ∃ fr, PySem.W.findIn X.K (.ref (P.C 0)) mr = some (some (.ref fr)))
    (c : OwnD X.prog X.w X.K X.mg X.base P k m 0 2 G) (hr : Room k X.A) (tk : Takes X W) (ha : PE X a (tE P F0 H0 W fa)) (hb : PE X b (tE P F0 H0 W fb)) :
    PE X (.BinOp a op b pos) (tE P F0 H0 W (fN (opL G) fa fb)) := by
  obtain ⟨f, fd, ps, c1, c2, c3⟩ := c.ex
  obtain ⟨fr, d2⟩ := hR
  obtain ⟨fo, hfo⟩ := N.a1
  obtain ⟨ro, hro⟩ := N.a2
  refine ⟨fun pins s σ H Q I h => ?_⟩
  refine wpAny_BinOp (binT ha hb I (two_ofE h) fun v u s2 x y H2 I2 rx ry ⟨F, dx, dy, e, i1, i2, q⟩ => ?_)
  unfold opL at q
  split at q
  · obtain ⟨ad, dd, vs, rfl, h1, h2, h3⟩ := obj_of i1
    obtain rfl : v = Value.ref ad := rx
    obtain ⟨ox, od, J, _⟩ := ins_data I2 (e.ex _ _ h1)
    obtain ⟨mm, Fr⟩ := I2.fr
    obtain rfl := un_int i2
    obtain ⟨t, rfl⟩ := ry
    refine PySem.W.ksp_binT Fr I2.ok.mod.kin J (T := "int") rfl N.sf (by rw [hd]; exact c2.at_) c2.fn (by rw [hdr]; exact d2) (.inr ⟨fr, rfl⟩) (by rw [hd]; exact hfo) (by rw [hdr]; exact hro) N.s1 ?_
    exact wpAny_mono (run_at (vs := [.ref ad, .int _]) (ds := [_, _]) c1 (sub_here hr) c3 tk I2 (.cons rfl (.cons ⟨t, rfl⟩ .nil)) e (.cons i1 (.cons i2 .nil)) q) (fun _ _ z => CmpBack_of z) fun _ _ z => z
  · obtain ⟨ad, dd, vs, rfl, h1, h2, h3⟩ := obj_of i1
    obtain ⟨bd, dd', vs', rfl, h1', h2', h3'⟩ := obj_of i2
    obtain rfl : v = Value.ref ad := rx
    obtain rfl : u = Value.ref bd := ry
    obtain ⟨ox, od, J, _⟩ := ins_data I2 (e.ex _ _ h1)
    obtain ⟨ox', od', J', _⟩ := ins_data I2 (e.ex _ _ h1')
    obtain ⟨mm, Fr⟩ := I2.fr
    refine PySem.W.binop_K Fr I2.ok.mod.kin J J'.type N.sf (by rw [hd]; exact c2.at_) c2.fn ?_
    exact wpAny_mono (run_at (vs := [.ref ad, .ref bd]) (ds := [_, _]) c1 (sub_here hr) c3 tk I2 (.cons rfl (.cons rfl .nil)) e (.cons i1 (.cons i2 .nil)) q) (fun _ _ z => CmpBack_of z) fun _ _ z => z
  · exact q.elim
end
@[simp] abbrev tIfx (c a b : Env → Res Bool) : Env → Res Bool := fun ρ => do let k ← c ρ; if k = true then a ρ else b ρ
@[simp] abbrev fRz (cz : Nat) (f : Env → Res D) : Env → Res D := fun ρ => rzD cz (f ρ)
@[simp] abbrev sPar3 (i j l : Nat) (f : Env → Res (List D)) : Env → RS := fun ρ => bindS (f ρ) ρ (par3 i j l ρ)
@[simp] abbrev sRaiseB (c : Nat) : Env → RS := fun ρ => .err c none ρ
@[simp] abbrev iZip (f : Env → Res (List D)) : Env → Res (List D) := fun ρ => f ρ >>= zipD
@[simp] abbrev iEnu (f : Env → Res (List D)) : Env → Res (List D) := fun ρ => f ρ >>= enuD
end DL
namespace DL
open PySem L2
theorem seq_nx (ρ : Env) (g : Env → RS) : seqS (.nx ρ) g = g ρ := rfl
theorem seq_rt (d : D) (g : Env → RS) : seqS (.rt d) g = .rt d := rfl
theorem seq_err (c : Nat) (p : Option D) (ρ : Env) (g : Env → RS) : seqS (.err c p ρ) g = .err c p ρ := rfl
theorem bnd_ok {α : Type} (d : α) (ρ : Env) (k : α → RS) : bindS (.ok d) ρ k = k d := rfl
theorem bnd_err {α : Type} (c : Nat) (p : Option D) (ρ : Env) (k : α → RS) : bindS (Res.err c p : Res α) ρ k = .err c p ρ := rfl
theorem loop_nx (ρ : Env) (g : Env → RS) : loopK (.nx ρ) g = g ρ := rfl
theorem loop_rt (d : D) (g : Env → RS) : loopK (.rt d) g = .rt d := rfl
theorem for_nil (h : D → Env → Option Env) (g : Env → RS) (ρ : Env) : forD h g [] ρ = .nx ρ := rfl
theorem for_cons (h : D → Env → Option Env) (g : Env → RS) (d : D) (r : List D) (ρ : Env) : forD h g (d :: r) ρ = match h d ρ with | none => .bad | some ρ1 => loopK (g ρ1) (forD h g r) := rfl
theorem int_i (i : Int) : cInt2 [.int i] = some (.int i) := rfl
theorem mod_ok {i j : Int} (h : j ≠ 0) : modC i j = some (.int (i.fmod j)) := if_neg h
theorem fdiv_ok {i j : Int} (h : j ≠ 0) (h2 : j.natAbs.log2 < 9000) : fdivC i j = some (.int (i.fdiv j)) := if_pos ⟨h, h2⟩
theorem mul_ok {i j : Int} (h : i.natAbs.log2 + j.natAbs.log2 < 1000000) : mulC i j = some (.int (i * j)) := if_pos h
theorem log2_lt {n k : Nat} (h : n < 2 ^ k) (hk : 0 < k) : n.log2 < k := by
  by_cases h0 : n = 0
  · subst h0
    simpa using hk
  · exact (Nat.log2_lt h0).mpr h
/-- the greatest common divisor by rests -/
theorem gcd_loop (body : Env → RS) (hb : ∀ a b : Nat, b ≠ 0 → body [some (.sh (.int a)), some (.sh (.int b))] = .nx [some (.sh (.int b)), some (.sh (.int ((a % b : Nat) : Int)))]) :
    ∀ (n a b : Nat), b < n → whileD (tB' (fOp dGt (peek 1) (fK (.int 0)))) body n [some (.sh (.int a)), some (.sh (.int b))] = .nx [some (.sh (.int (Nat.gcd a b))), some (.sh (.int 0))]
  | 0, a, b, h => by omega
  | n + 1, a, b, h => by
    by_cases hz : b = 0
    · subst hz
      rw [Nat.gcd_zero_right]
      rfl
    · have hlt : a % b < b := Nat.mod_lt _ (by omega)
      have ih := gcd_loop body hb n b (a % b) (by omega)
      rw [Nat.gcd_comm b, ← Nat.gcd_rec, Nat.gcd_comm b] at ih
      have hd : decide ((0 : Int) < (b : Int)) = true := by simp; omega
      rw [← ih, whileD]
      simp only [tB', fOp, peek, fK, List.getElem?_cons_succ, List.getElem?_cons_zero, Res.bind_ok, dGt, int2, opt, bo, bnd_ok, hd, if_true, hb a b hz, loop_nx]
end DL
namespace DL
open PySem L2 PySem.PyData
theorem beq_s (x y : Str) : (x == y) = decide (x = y) := by
  by_cases h : x = y
  · subst h
    simp
  · rw [decide_eq_false h]
    exact beq_eq_false_iff_ne.mpr h
theorem beq_i (x y : Int) : (x == y) = decide (x = y) := by
  by_cases h : x = y
  · subst h
    simp
  · rw [decide_eq_false h]
    exact beq_eq_false_iff_ne.mpr h
theorem eq_ii (i j : Int) : eqD (.int i) (.int j) = some (.bl (decide (i = j))) := by
  simp [eqD, eqP, toPD, SeqAt.shaped, PyData.canLay0, PyData.depth, PyData.eqv, beq_i]
theorem ne_ii (i j : Int) : neD (.int i) (.int j) = some (.bl (!decide (i = j))) := by
  simp [neD, eqP, toPD, SeqAt.shaped, PyData.canLay0, PyData.depth, PyData.eqv, beq_i]
theorem eq_ss {x y : Str} (hx : strOk x = true) (hy : strOk y = true) : eqD (.str x) (.str y) = some (.bl (decide (x = y))) := by
  simp [eqD, eqP, toPD, SeqAt.shaped, PyData.canLay0, PyData.depth, PyData.eqv, hx, hy, beq_s]
theorem ne_ss {x y : Str} (hx : strOk x = true) (hy : strOk y = true) : neD (.str x) (.str y) = some (.bl (!decide (x = y))) := by
  simp [neD, eqP, toPD, SeqAt.shaped, PyData.canLay0, PyData.depth, PyData.eqv, hx, hy, beq_s]
theorem toPDs_str (xs : List Str) : toPDs (xs.map .str) = some (xs.map .str) := by
  induction xs with
  | nil => rfl
  | cons a r ih => simp [toPDs, toPD, ih]
theorem canLay_strs : ∀ (xs : List Str), (∀ x ∈ xs, strOk x = true) → PyData.canLayAll0 (xs.map .str) = true
  | [], _ => rfl
  | x :: r, h => by
    simp [PyData.canLayAll0, PyData.canLay0, h x List.mem_cons_self, canLay_strs r fun y hy => h y (List.mem_cons_of_mem _ hy)]
theorem depth_strs : ∀ (xs : List Str), PyData.depthAll (xs.map .str) ≤ 1
  | [] => by simp [PyData.depthAll]
  | x :: r => by
    have := depth_strs r
    simp [PyData.depthAll, PyData.depth]
    omega
theorem eqvAll_strs : ∀ (xs ys : List Str), PyData.eqvAll (xs.map .str) (ys.map .str) = decide (xs = ys)
  | [], [] => rfl
  | [], _ :: _ => rfl
  | _ :: _, [] => rfl
  | x :: r, y :: q => by
    simp [PyData.eqvAll, PyData.eqv, eqvAll_strs r q, beq_s]
theorem eqP_strs {xs ys : List Str} (hx : ∀ x ∈ xs, strOk x = true) (hy : ∀ x ∈ ys, strOk x = true) : eqP (.lst (xs.map .str)) (.lst (ys.map .str)) = some (decide (xs = ys)) := by
  have h1 := depth_strs xs
  have h2 := depth_strs ys
  simp only [eqP, toPD, toPDs_str, Option.map_some, Option.bind_some]
  have s1 : SeqAt.shaped (.list (xs.map .str)) = true := by
    simp [SeqAt.shaped, PyData.canLay0, PyData.depth, canLay_strs xs hx]
    omega
  have s2 : SeqAt.shaped (.list (ys.map .str)) = true := by
    simp [SeqAt.shaped, PyData.canLay0, PyData.depth, canLay_strs ys hy]
    omega
  rw [if_pos ⟨s1, s2⟩, PyData.eqv, eqvAll_strs]
end DL
namespace DL.K2
open PySem L2
def nmv : Nat → List Str := fun _ => ["top", "bottom"]
def g__law_cell : Env → RS := (sSeq (sIf (tB' (fOp dLt (peek 1) (fB cLenS (lCons (peek 0) lNil))))
  (sRet (fOp itemS (peek 0) (peek 1)))
  .nx)
  (sRet (fK (.int 0))))
def G__law_cell : List D → Res D := runB g__law_cell 2
def fr__law_row_0 : Env → RS := (sFor (iSq (look 1)) (hName 3)
  (sSeq (sApp 2 (fOp (int2 modC) (fB cInt2 (lCons (peek 0) lNil)) (peek 3)))
  (sSet 0 (fOp (int2 fdivC) (peek 0) (peek 3)))))
def fr__law_row_1 : Env → RS := (sFor (iR1 (lCons (fB cLen (lCons (peek 1) lNil)) lNil)) (hName 5)
  (sSeq (sSet 6 (fOp addA (fOp (int2 modC) (fB cInt2 (lCons (fOp (int2 powC) (fOp addA (fOp addA (peek 4) (fOp (int2 mulB) (fK (.int 7919)) (peek 5))) (fK (.int 104729))) (fK (.int 5))) lNil)) (fK (.int 2147483647))) (peek 5)))
  (sApp 2 (fOp (int2 modC) (fB cInt2 (lCons (fOp (int2 modC) (fB cInt2 (lCons (fOp (int2 mulB) (peek 6) (fK (.int 40692))) lNil)) (fK (.int 2147483629))) lNil)) (fOp itemD (peek 1) (peek 5))))))
def g__law_row : Env → RS := (sSeq (sSetO 2 (fLst lNil))
  (sSeq (sIf (tB' (fOp dGe (peek 0) (fOp (int2 powC) (fK (.int 10)) (fK (.int 18)))))
  (sSeq fr__law_row_0
  (sFrz 2 (sRet (look 2))))
  .nx)
  (sSeq (sSet 4 (fOp (int2 modC) (fB cInt2 (lCons (peek 0) lNil)) (fK (.int 2147483647))))
  (sSeq fr__law_row_1
  (sFrz 2 (sRet (look 2)))))))
def G__law_row : List D → Res D := runB g__law_row 7
def g__law_drawn : Env → RS := (sSeq (sSet 2 (fCall 2 G__law_row (lCons (look 1) (lCons (fLst (lCons (fK (.int 5)) (lCons (fK (.int 3)) (lCons (fOp (int2 powC) (fK (.int 10)) (fK (.int 9))) lNil)))) lNil))))
  (sSeq (sSet 3 (fOp itemD (fLst (lCons (look 0) (lCons (fOp dSub (fOp (int2 modC) (fB cInt2 (lCons (peek 0) lNil)) (fK (.int 7))) (fK (.int 3))) (lCons (fK (.int 0)) (lCons (look 0) (lCons (fOp (int2 mulB) (peek 0) (fOp itemD (peek 2) (fK (.int 2)))) lNil)))))) (fOp itemD (peek 2) (fK (.int 0)))))
  (sSeq (sSet 4 (fOp itemD (fLst (lCons (fOp addA (fOp itemD (peek 2) (fK (.int 2))) (fK (.int 1))) (lCons (fOp dSub (fU negC (fK (.int 1))) (fOp (int2 modC) (fOp itemD (peek 2) (fK (.int 2))) (fK (.int 5)))) (lCons (fOp addA (fK (.int 1)) (fOp (int2 modC) (fOp itemD (peek 2) (fK (.int 2))) (fK (.int 6)))) lNil)))) (fOp itemD (peek 2) (fK (.int 1)))))
  (sRet (fTup (lCons (fOp (int2 mulB) (fOp (int2 modC) (fB cInt2 (lCons (peek 3) lNil)) (fOp (int2 powC) (fK (.int 10)) (fK (.int 30)))) (fOp itemD (fLst (lCons (fK (.int 1)) (lCons (fU negC (fK (.int 1))) lNil))) (fOp (int2 modC) (fOp itemD (peek 2) (fK (.int 2))) (fK (.int 2))))) (lCons (look 4) lNil)))))))
def G__law_drawn : List D → Res D := runB g__law_drawn 5
def wh__law_share_0 : Env → RS := (whileD (tB' (fOp dGt (peek 1) (fK (.int 0)))) (sPar 0 1 (lCons (look 1) (lCons (fOp (int2 modC) (fB cInt2 (lCons (peek 0) lNil)) (peek 1)) lNil))) big)
def g__law_share : Env → RS := (sSeq (sPar 0 1 (lCons (fB cAbs (lCons (peek 0) lNil)) (lCons (fB cAbs (lCons (peek 1) lNil)) lNil)))
  (sSeq wh__law_share_0
  (sRet (look 0))))
def G__law_share : List D → Res D := runB g__law_share 2
def g__law_low : Env → RS := (sSeq (sSet 2 (fCall 2 G__law_share (lCons (look 0) (lCons (look 1) lNil))))
  (sSeq (sIf (tB' (fOp dLt (peek 1) (fK (.int 0))))
  (sSet 2 (fU negC (peek 2)))
  .nx)
  (sRet (fTup (lCons (fOp (int2 fdivC) (peek 0) (peek 2)) (lCons (fOp (int2 fdivC) (peek 1) (peek 2)) lNil))))))
def G__law_low : List D → Res D := runB g__law_low 3
def wh_common_0 : Env → RS := (whileD (tB' (fOp dGt (peek 1) (fK (.int 0)))) (sPar 0 1 (lCons (look 1) (lCons (fOp (int2 modC) (peek 0) (peek 1)) lNil))) big)
def g_common : Env → RS := (sSeq (sPar 0 1 (lCons (fB cAbs (lCons (peek 0) lNil)) (lCons (fB cAbs (lCons (peek 1) lNil)) lNil)))
  (sSeq wh_common_0
  (sRet (look 0))))
def G_common : List D → Res D := runB g_common 2
def g_Ratio___init__ : Env → RS := (sSeq (sIf (tB' (fOp eqD (peek 2) (fK (.int 0))))
  (sRaiseB 0)
  .nx)
  (sSeq (sSet 3 (fCall 2 G_common (lCons (look 1) (lCons (look 2) lNil))))
  (sSeq (sIf (tB' (fOp dLt (peek 2) (fK (.int 0))))
  (sSet 3 (fU negC (peek 3)))
  .nx)
  (sSeq (sFld nmv "top" 0 (fOp (int2 fdivC) (peek 1) (peek 3)))
  (sFld nmv "bottom" 0 (fOp (int2 fdivC) (peek 2) (peek 3)))))))
def G_Ratio___init__ : List D → Res (List D) := runI 0 g_Ratio___init__ 4
def g_Ratio___neg__ : Env → RS := (sRet (fMk 0 2 G_Ratio___init__ (lCons (fU negC (fU (fldD nmv "top") (peek 0))) (lCons (fU (fldD nmv "bottom") (peek 0)) lNil))))
def G_Ratio___neg__ : List D → Res D := runB g_Ratio___neg__ 1
def g__law_right : Env → RS := (sRet (vAnd (fM (isiD ib_Ratio) (peek 0)) (fOp eqD (fTup (lCons (fU (fldD nmv "top") (peek 0)) (lCons (fU (fldD nmv "bottom") (peek 0)) lNil))) (peek 1))))
def G__law_right : List D → Res D := runB g__law_right 2
def g__law_mul : Env → RS := (sRet (fCall 2 G__law_low (lCons (fOp (int2 mulB) (fOp itemD (peek 0) (fK (.int 0))) (fOp itemD (peek 1) (fK (.int 0)))) (lCons (fOp (int2 mulB) (fOp itemD (peek 0) (fK (.int 1))) (fOp itemD (peek 1) (fK (.int 1)))) lNil))))
def G__law_mul : List D → Res D := runB g__law_mul 2
def g__law_add : Env → RS := (sRet (fCall 2 G__law_low (lCons (fOp addA (fOp (int2 mulB) (fOp itemD (peek 0) (fK (.int 0))) (fOp itemD (peek 1) (fK (.int 1)))) (fOp (int2 mulB) (fOp itemD (peek 1) (fK (.int 0))) (fOp itemD (peek 0) (fK (.int 1))))) (lCons (fOp (int2 mulB) (fOp itemD (peek 0) (fK (.int 1))) (fOp itemD (peek 1) (fK (.int 1)))) lNil))))
def G__law_add : List D → Res D := runB g__law_add 2
def g_is_integer : Env → RS := (sRet (vAnd (fM (isiD ib_int) (peek 0)) (vNot (fM (isiD ib_bool) (peek 0)))))
def G_is_integer : List D → Res D := runB g_is_integer 1
def g_is_number : Env → RS := (sRet (vOr (fCall 1 G_is_integer (lCons (look 0) lNil)) (fM (isiD ib_Ratio) (peek 0))))
def G_is_number : List D → Res D := runB g_is_number 1
def g_halves_of : Env → RS := (sRet (fIf (tB' (fM (isiD ib_Ratio) (peek 0))) (fTup (lCons (fU (fldD nmv "top") (peek 0)) (lCons (fU (fldD nmv "bottom") (peek 0)) lNil))) (fTup (lCons (look 0) (lCons (fK (.int 1)) lNil)))))
def G_halves_of : List D → Res D := runB g_halves_of 1
def g_Ratio___mul__ : Env → RS := (sSeq (sIf (tNot' (tB' (fCall 1 G_is_number (lCons (look 1) lNil))))
  sBad
  .nx)
  (sSeq (sAsg (fCall 1 G_halves_of (lCons (look 1) lNil)) (hTup fun ds ρ => if ds.length = 2 then (hCons (hName 2) (hCons (hName 3) hNil)) ds ρ else none))
  (sRet (fMk 0 2 G_Ratio___init__ (lCons (fOp (int2 mulB) (fU (fldD nmv "top") (peek 0)) (peek 2)) (lCons (fOp (int2 mulB) (fU (fldD nmv "bottom") (peek 0)) (peek 3)) lNil))))))
def G_Ratio___mul__ : List D → Res D := runB g_Ratio___mul__ 4
def g_Ratio___rmul__ : Env → RS := (sRet (fN (opL G_Ratio___mul__) (look 0) (look 1)))
def G_Ratio___rmul__ : List D → Res D := runB g_Ratio___rmul__ 2
def g_Ratio___add__ : Env → RS := (sSeq (sIf (tNot' (tB' (fCall 1 G_is_number (lCons (look 1) lNil))))
  sBad
  .nx)
  (sSeq (sAsg (fCall 1 G_halves_of (lCons (look 1) lNil)) (hTup fun ds ρ => if ds.length = 2 then (hCons (hName 2) (hCons (hName 3) hNil)) ds ρ else none))
  (sRet (fMk 0 2 G_Ratio___init__ (lCons (fOp addA (fOp (int2 mulB) (fU (fldD nmv "top") (peek 0)) (peek 3)) (fOp (int2 mulB) (peek 2) (fU (fldD nmv "bottom") (peek 0)))) (lCons (fOp (int2 mulB) (fU (fldD nmv "bottom") (peek 0)) (peek 3)) lNil))))))
def G_Ratio___add__ : List D → Res D := runB g_Ratio___add__ 4
def g_Ratio___sub__ : Env → RS := (sRet (fN (opL G_Ratio___add__) (look 0) (fM (negN G_Ratio___neg__) (look 1))))
def G_Ratio___sub__ : List D → Res D := runB g_Ratio___sub__ 2
def g_Ratio___rsub__ : Env → RS := (sRet (fN (opL G_Ratio___add__) (fM (negN G_Ratio___neg__) (look 0)) (look 1)))
def G_Ratio___rsub__ : List D → Res D := runB g_Ratio___rsub__ 2
def g_Ratio___radd__ : Env → RS := (sRet (fN (opL G_Ratio___add__) (look 0) (look 1)))
def G_Ratio___radd__ : List D → Res D := runB g_Ratio___radd__ 2
def lc__law_ops_0 : Env → Res D := (fLc (iZip (lCons (fLst (lCons (fN (opN (fun i j => some (.int (i + j))) G_Ratio___add__ G_Ratio___radd__) (look 0) (look 1)) (lCons (fN (opN (fun i j => some (.int (i - j))) G_Ratio___sub__ G_Ratio___rsub__) (look 0) (look 1)) (lCons (fN (opN mulB G_Ratio___mul__ G_Ratio___rmul__) (look 0) (look 1)) lNil)))) (lCons (look 5) lNil))) (hTup fun ds ρ => if ds.length = 2 then (hCons (hName 6) (hCons (hName 7) hNil)) ds ρ else none) tYes' (fCall 2 G__law_right (lCons (look 6) (lCons (look 7) lNil))) [6, 7])
def g__law_ops : Env → RS := (sSeq (sSet 4 (fTup (lCons (fU negC (fOp itemD (peek 3) (fK (.int 0)))) (lCons (fOp itemD (peek 3) (fK (.int 1))) lNil))))
  (sSeq (sSet 5 (fLst (lCons (fCall 2 G__law_add (lCons (look 2) (lCons (look 3) lNil))) (lCons (fCall 2 G__law_add (lCons (look 2) (lCons (look 4) lNil))) (lCons (fCall 2 G__law_mul (lCons (look 2) (lCons (look 3) lNil))) lNil)))))
  (sRet lc__law_ops_0)))
def G__law_ops : List D → Res D := runB g__law_ops 8
def g_Ratio___eq__ : Env → RS := (sRet (vAnd (fCall 1 G_is_number (lCons (look 1) lNil)) (fOp eqD (fCall 1 G_halves_of (lCons (look 1) lNil)) (fTup (lCons (fU (fldD nmv "top") (peek 0)) (lCons (fU (fldD nmv "bottom") (peek 0)) lNil))))))
def G_Ratio___eq__ : List D → Res D := runB g_Ratio___eq__ 2
def g_less : Env → RS := (sSeq (sPar 2 3 (lCons (fCall 1 G_halves_of (lCons (look 0) lNil)) (lCons (fCall 1 G_halves_of (lCons (look 1) lNil)) lNil)))
  (sRet (fOp dLt (fOp (int2 mulB) (fOp itemD (peek 2) (fK (.int 0))) (fOp itemD (peek 3) (fK (.int 1)))) (fOp (int2 mulB) (fOp itemD (peek 3) (fK (.int 0))) (fOp itemD (peek 2) (fK (.int 1)))))))
def G_less : List D → Res D := runB g_less 4
def g_Ratio_over : Env → RS := (sSeq (sAsg (fCall 1 G_halves_of (lCons (look 1) lNil)) (hTup fun ds ρ => if ds.length = 2 then (hCons (hName 2) (hCons (hName 3) hNil)) ds ρ else none))
  (sRet (fMk 0 2 G_Ratio___init__ (lCons (fOp (int2 mulB) (fU (fldD nmv "top") (peek 0)) (peek 3)) (lCons (fOp (int2 mulB) (fU (fldD nmv "bottom") (peek 0)) (peek 2)) lNil)))))
def G_Ratio_over : List D → Res D := runB g_Ratio_over 4
def g__law_over : Env → RS := (sSeq (sIf (tB' (fOp eqD (fOp itemD (peek 3) (fK (.int 0))) (fK (.int 0))))
  (sRet (fRz 0 (fMet 0 2 G_Ratio_over (look 0) (lCons (look 1) lNil))))
  .nx)
  (sRet (fCall 2 G__law_right (lCons (fMet 0 2 G_Ratio_over (look 0) (lCons (look 1) lNil)) (lCons (fCall 2 G__law_low (lCons (fOp (int2 mulB) (fOp itemD (peek 2) (fK (.int 0))) (fOp itemD (peek 3) (fK (.int 1)))) (lCons (fOp (int2 mulB) (fOp itemD (peek 2) (fK (.int 1))) (fOp itemD (peek 3) (fK (.int 0)))) lNil))) lNil)))))
def G__law_over : List D → Res D := runB g__law_over 4
def g_plain : Env → RS := (sSeq (sAsg (fCall 1 G_halves_of (lCons (look 0) lNil)) (hTup fun ds ρ => if ds.length = 2 then (hCons (hName 1) (hCons (hName 2) hNil)) ds ρ else none))
  (sRet (fIf (tB' (fOp eqD (peek 2) (fK (.int 1)))) (look 1) (look 0))))
def G_plain : List D → Res D := runB g_plain 3
def fr_law_0 : Env → RS := (sFor (iSq (fLst (lCons (fTup (lCons (look 7) (lCons (look 8) (lCons (look 4) (lCons (look 5) lNil))))) (lCons (fTup (lCons (look 7) (lCons (look 3) (lCons (look 4) (lCons (look 6) lNil))))) (lCons (fTup (lCons (look 3) (lCons (look 8) (lCons (look 6) (lCons (look 5) lNil))))) (lCons (fTup (lCons (look 7) (lCons (look 9) (lCons (look 4) (lCons (look 6) lNil))))) (lCons (fTup (lCons (look 7) (lCons (look 7) (lCons (look 4) (lCons (look 4) lNil))))) lNil))))))) (hTup fun ds ρ => if ds.length = 4 then (hCons (hName 10) (hCons (hName 11) (hCons (hName 12) (hCons (hName 13) hNil)))) ds ρ else none)
  (sSeq (sIf (tB' (fOp inD (fK (.bl false)) (fCall 4 G__law_ops (lCons (look 10) (lCons (look 11) (lCons (look 12) (lCons (look 13) lNil)))))))
  (sRet (fK (.bl false)))
  .nx)
  (sSeq (sIf (tOr' (tB' (fOp neD (fN (eqN G_Ratio___eq__) (look 10) (look 11)) (fOp eqD (peek 12) (peek 13)))) (tOr' (tB' (fOp eqD (fN (neN G_Ratio___eq__) (look 10) (look 11)) (fOp eqD (peek 12) (peek 13)))) (tB' (fOp neD (fN (eqN G_Ratio___eq__) (look 11) (look 10)) (fOp eqD (peek 12) (peek 13))))))
  (sRet (fK (.bl false)))
  .nx)
  (sIf (tOr' (tB' (fOp neD (fCall 2 G_less (lCons (look 10) (lCons (look 11) lNil))) (fOp dLt (fOp (int2 mulB) (fOp itemD (peek 12) (fK (.int 0))) (fOp itemD (peek 13) (fK (.int 1)))) (fOp (int2 mulB) (fOp itemD (peek 13) (fK (.int 0))) (fOp itemD (peek 12) (fK (.int 1))))))) (tB' (fOp neD (fCall 2 G_less (lCons (look 11) (lCons (look 10) lNil))) (fOp dLt (fOp (int2 mulB) (fOp itemD (peek 13) (fK (.int 0))) (fOp itemD (peek 12) (fK (.int 1)))) (fOp (int2 mulB) (fOp itemD (peek 12) (fK (.int 0))) (fOp itemD (peek 13) (fK (.int 1))))))))
  (sRet (fK (.bl false)))
  .nx))))
def lc_law_1 : Env → Res D := (fLc (iSq (fTup (lCons (fK (.int 1)) (lCons (fK (.int 0)) (lCons (fU negC (fK (.int 1))) lNil))))) (hName 14) tYes' (fCall 2 G_less (lCons (look 3) (lCons (fOp addA (peek 3) (peek 14)) lNil))) [14])
def fr_law_2 : Env → RS := (sFor (iSq (fLst (lCons (fTup (lCons (look 7) (lCons (look 4) lNil))) (lCons (fTup (lCons (look 8) (lCons (look 5) lNil))) (lCons (fTup (lCons (look 9) (lCons (look 6) lNil))) (lCons (fTup (lCons (look 3) (lCons (look 6) lNil))) (lCons (fTup (lCons (fN (opN (fun i j => some (.int (i - j))) G_Ratio___sub__ G_Ratio___rsub__) (look 7) (look 7)) (lCons (fTup (lCons (fK (.int 0)) (lCons (fK (.int 1)) lNil))) lNil))) lNil))))))) (hTup fun ds ρ => if ds.length = 2 then (hCons (hName 15) (hCons (hName 12) hNil)) ds ρ else none)
  (sSeq (sSet 16 (fCall 1 G_plain (lCons (look 15) lNil)))
  (sSeq (sSet 17 (vAnd (fM (isiD ib_int) (peek 16)) (vAnd (vNot (fM (isiD ib_bool) (peek 16))) (fOp eqD (peek 16) (fOp itemD (peek 12) (fK (.int 0)))))))
  (sIf (tIfx (tB' (fOp eqD (fOp itemD (peek 12) (fK (.int 1))) (fK (.int 1)))) (tNot' (tB' (look 17))) (tNot' (tB' (fCall 2 G__law_right (lCons (look 16) (lCons (look 12) lNil))))))
  (sRet (fK (.bl false)))
  .nx))))
def lc_law_3 : Env → Res D := (fLc (iSq (fTup (lCons (fK (.bl true)) (lCons (fK (.str "1")) (lCons (fK .non) (lCons (fLst (lCons (fK (.int 1)) lNil)) (lCons (fTup (lCons (fK (.int 1)) (lCons (fK (.int 1)) lNil))) lNil))))))) (hName 15) tYes' (fN (eqN G_Ratio___eq__) (fMkd 0 2 [.int 1] G_Ratio___init__ (lCons (fK (.int 1)) lNil)) (look 15)) [15])
def g_law : Env → RS := (sSeq (sSet 1 (fCall 2 G__law_drawn (lCons (fCall 2 G__law_cell (lCons (look 0) (lCons (fK (.int 0)) lNil))) (lCons (fCall 2 G__law_cell (lCons (look 0) (lCons (fK (.int 1)) lNil))) lNil))))
  (sSeq (sSet 2 (fCall 2 G__law_drawn (lCons (fCall 2 G__law_cell (lCons (look 0) (lCons (fK (.int 2)) lNil))) (lCons (fCall 2 G__law_cell (lCons (look 0) (lCons (fK (.int 3)) lNil))) lNil))))
  (sSeq (sSet 3 (fOp dSub (fOp (int2 modC) (fB cInt2 (lCons (fCall 2 G__law_cell (lCons (look 0) (lCons (fK (.int 4)) lNil))) lNil)) (fOp itemD (fLst (lCons (fOp (int2 powC) (fK (.int 10)) (fK (.int 30))) (lCons (fK (.int 5)) lNil))) (fOp (int2 modC) (fB cInt2 (lCons (fCall 2 G__law_cell (lCons (look 0) (lCons (fK (.int 1)) lNil))) lNil)) (fK (.int 2))))) (fK (.int 2))))
  (sSeq (sPar3 4 5 6 (lCons (fCall 2 G__law_low (lCons (fOp itemD (peek 1) (fK (.int 0))) (lCons (fOp itemD (peek 1) (fK (.int 1))) lNil))) (lCons (fCall 2 G__law_low (lCons (fOp itemD (peek 2) (fK (.int 0))) (lCons (fOp itemD (peek 2) (fK (.int 1))) lNil))) (lCons (fTup (lCons (look 3) (lCons (fK (.int 1)) lNil))) lNil))))
  (sSeq (sAsg (fTup (lCons (fMk 0 2 G_Ratio___init__ (lCons (fOp itemD (peek 1) (fK (.int 0))) (lCons (fOp itemD (peek 1) (fK (.int 1))) lNil))) (lCons (fMkk 0 2 2 List.reverse G_Ratio___init__ (lCons (fOp itemD (peek 2) (fK (.int 1))) (lCons (fOp itemD (peek 2) (fK (.int 0))) lNil))) (lCons (fMkd 0 2 [.int 1] G_Ratio___init__ (lCons (look 3) lNil)) lNil)))) (hTup fun ds ρ => if ds.length = 3 then (hCons (hName 7) (hCons (hName 8) (hCons (hName 9) hNil))) ds ρ else none))
  (sSeq (sIf (tOr' (tNot' (tB' (fCall 2 G__law_right (lCons (look 7) (lCons (look 4) lNil))))) (tOr' (tNot' (tB' (fCall 2 G__law_right (lCons (look 8) (lCons (look 5) lNil))))) (tOr' (tNot' (tB' (fCall 2 G__law_right (lCons (look 9) (lCons (look 6) lNil))))) (tNot' (tB' (fCall 2 G__law_right (lCons (fM (negN G_Ratio___neg__) (look 7)) (lCons (fTup (lCons (fU negC (fOp itemD (peek 4) (fK (.int 0)))) (lCons (fOp itemD (peek 4) (fK (.int 1))) lNil))) lNil))))))))
  (sRet (fK (.bl false)))
  .nx)
  (sSeq fr_law_0
  (sSeq (sIf (tB' (fOp neD lc_law_1 (fLst (lCons (fK (.bl true)) (lCons (fK (.bl false)) (lCons (fK (.bl false)) lNil))))))
  (sRet (fK (.bl false)))
  .nx)
  (sSeq (sIf (tOr' (tNot' (tB' (fCall 4 G__law_over (lCons (look 7) (lCons (look 8) (lCons (look 4) (lCons (look 5) lNil))))))) (tOr' (tNot' (tB' (fCall 4 G__law_over (lCons (look 8) (lCons (look 3) (lCons (look 5) (lCons (look 6) lNil))))))) (tNot' (tB' (fCall 4 G__law_over (lCons (look 9) (lCons (look 7) (lCons (look 6) (lCons (look 4) lNil)))))))))
  (sRet (fK (.bl false)))
  .nx)
  (sSeq fr_law_2
  (sSeq (sSetO 18 (fLst (lCons (fRz 0 (fMk 0 2 G_Ratio___init__ (lCons (fOp itemD (peek 1) (fK (.int 0))) (lCons (fK (.int 0)) lNil)))) lNil)))
  (sSeq (sApp 18 (fRz 0 (fMet 0 2 G_Ratio_over (look 7) (lCons (fK (.int 0)) lNil))))
  (sSeq (sApp 18 (fRz 0 (fMet 0 2 G_Ratio_over (look 7) (lCons (fMk 0 2 G_Ratio___init__ (lCons (fK (.int 0)) (lCons (fK (.int 5)) lNil))) lNil))))
  (sSeq (sIf (tB' (fOp inD (fK (.bl false)) (peek 18)))
  (sRet (fK (.bl false)))
  .nx)
  (sRet (vAnd (vNot (fB cAny (lCons lc_law_3 lNil))) (fN (neN G_Ratio___eq__) (fMkd 0 2 [.int 1] G_Ratio___init__ (lCons (fK (.int 0)) lNil)) (fK (.bl false)))))))))))))))))))
def G_law : List D → Res D := runB g_law 19
end DL.K2
namespace DL.K2
open PySem L2
theorem abs_e (a : Int) : (if a < 0 then -a else a) = ((a.natAbs : Nat) : Int) := by
  split <;> omega
theorem fmod_n (a b : Nat) : ((a : Int).fmod (b : Int)) = ((a % b : Nat) : Int) := by
  rw [Int.fmod_eq_emod_of_nonneg _ (Int.natCast_nonneg b)]
  exact (Int.natCast_emod a b).symm
theorem share_eq (a b : Int) (h : b.natAbs < big) : G__law_share [.int a, .int b] = .ok (.int (Nat.gcd a.natAbs b.natAbs)) := by
  have hb : ∀ a b : Nat, b ≠ 0 → (sPar 0 1 (lCons (look 1) (lCons (fOp (int2 modC) (fB cInt2 (lCons (peek 0) lNil)) (peek 1)) lNil))) [some (.sh (.int a)), some (.sh (.int b))] = .nx [some (.sh (.int b)), some (.sh (.int ((a % b : Nat) : Int)))] := by
    intro a b hb
    have e := mod_ok (i := (a : Int)) (j := (b : Int)) (by omega)
    rw [fmod_n] at e
    simp [fK, fOp, fU, fM, fIsN, fNotN, tB', tNot', tAnd', tOr', vAnd, vOr, vNot, fIf, lNil, lCons, fLst, fTup, fCall, fMk, fB, fSlc, oNo, oSo, fSplit, fLc, iSq, iR1, tYes', zF, zS, fF1, fF3, sSeq, sRet, sIf, sSet, sSetO, sFor, sApp, sPar, sAsg, sRaise, sFld, sFrz, sBad, sTryAs, fN, fRz, tIfx, sPar3, sRaiseB, iZip, iEnu, fMet, fMkd, fMkk, look, peek, bo, opt, mkL, mkT, small, fnG, mkG, int2, negC, seqD, hName, hCons, hNil, hTup, par2, appD, isOw, frz, setF, ptI, isiD, notScr, env0, env0I, selfF, runB, runI, cAbs, cLen, isNone, strD, payD, tryD, noErr, cLenS, itemS, dSub, dLt, dLe, dGt, dGe, opN, opL, eqN, neN, notB, isO, zipD, zipL, par3, rzD, Res.bind_ok, Res.bind_err, Res.bind_bad, seq_nx, seq_rt, seq_err, bnd_ok, bnd_err, loop_nx, loop_rt, for_nil, for_cons, int_i, e]
  have w := gcd_loop _ hb big a.natAbs b.natAbs h
  have e0 : G__law_share [.int a, .int b] = runB (sSeq (whileD (tB' (fOp dGt (peek 1) (fK (.int 0)))) (sPar 0 1 (lCons (look 1) (lCons (fOp (int2 modC) (fB cInt2 (lCons (peek 0) lNil)) (peek 1)) lNil))) big) (sRet (look 0))) 2 [.int a.natAbs, .int b.natAbs] := by
    rw [← abs_e a, ← abs_e b]
    rfl
  rw [e0]
  show (match seqS (whileD _ _ big [some (.sh (.int a.natAbs)), some (.sh (.int b.natAbs))]) _ with
    | .rt d => Res.ok d
    | .nx _ => .ok .non
    | .err c p _ => .err c p
    | _ => .bad) = _
  rw [w]
  rfl
theorem common_eq (a b : Int) (h : b.natAbs < big) : G_common [.int a, .int b] = .ok (.int (Nat.gcd a.natAbs b.natAbs)) := by
  have hb : ∀ a b : Nat, b ≠ 0 → (sPar 0 1 (lCons (look 1) (lCons (fOp (int2 modC) (peek 0) (peek 1)) lNil))) [some (.sh (.int a)), some (.sh (.int b))] = .nx [some (.sh (.int b)), some (.sh (.int ((a % b : Nat) : Int)))] := by
    intro a b hb
    have e := mod_ok (i := (a : Int)) (j := (b : Int)) (by omega)
    rw [fmod_n] at e
    simp [fK, fOp, fU, fM, fIsN, fNotN, tB', tNot', tAnd', tOr', vAnd, vOr, vNot, fIf, lNil, lCons, fLst, fTup, fCall, fMk, fB, fSlc, oNo, oSo, fSplit, fLc, iSq, iR1, tYes', zF, zS, fF1, fF3, sSeq, sRet, sIf, sSet, sSetO, sFor, sApp, sPar, sAsg, sRaise, sFld, sFrz, sBad, sTryAs, fN, fRz, tIfx, sPar3, sRaiseB, iZip, iEnu, fMet, fMkd, fMkk, look, peek, bo, opt, mkL, mkT, small, fnG, mkG, int2, negC, seqD, hName, hCons, hNil, hTup, par2, appD, isOw, frz, setF, ptI, isiD, notScr, env0, env0I, selfF, runB, runI, cAbs, cLen, isNone, strD, payD, tryD, noErr, cLenS, itemS, dSub, dLt, dLe, dGt, dGe, opN, opL, eqN, neN, notB, isO, zipD, zipL, par3, rzD, Res.bind_ok, Res.bind_err, Res.bind_bad, seq_nx, seq_rt, seq_err, bnd_ok, bnd_err, loop_nx, loop_rt, for_nil, for_cons, int_i, e]
  have w := gcd_loop _ hb big a.natAbs b.natAbs h
  have e0 : G_common [.int a, .int b] = runB (sSeq (whileD (tB' (fOp dGt (peek 1) (fK (.int 0)))) (sPar 0 1 (lCons (look 1) (lCons (fOp (int2 modC) (peek 0) (peek 1)) lNil))) big) (sRet (look 0))) 2 [.int a.natAbs, .int b.natAbs] := by
    rw [← abs_e a, ← abs_e b]
    rfl
  rw [e0]
  show (match seqS (whileD _ _ big [some (.sh (.int a.natAbs)), some (.sh (.int b.natAbs))]) _ with
    | .rt d => Res.ok d
    | .nx _ => .ok .non
    | .err c p _ => .err c p
    | _ => .bad) = _
  rw [w]
  rfl
/-- in lowest terms, the lower one above 0 -/
def ct (a b : Int) : Int := (if b < 0 then -a else a) / (Nat.gcd a.natAbs b.natAbs : Int)
def cb (a b : Int) : Int := (b.natAbs : Int) / (Nat.gcd a.natAbs b.natAbs : Int)
theorem gcd_pos {a b : Int} (hb : b ≠ 0) : 0 < Nat.gcd a.natAbs b.natAbs := Nat.gcd_pos_of_pos_right _ (by omega)
theorem gcd_le {a b : Int} (hb : b ≠ 0) : Nat.gcd a.natAbs b.natAbs ≤ b.natAbs := Nat.gcd_le_right _ (by omega)
theorem gl {a : Int} {b : Int} : (Nat.gcd a.natAbs b.natAbs : Int) ∣ a := Int.ofNat_dvd_left.mpr (Nat.gcd_dvd_left _ _)
theorem gr {a : Int} {b : Int} : (Nat.gcd a.natAbs b.natAbs : Int) ∣ b := Int.ofNat_dvd_left.mpr (Nat.gcd_dvd_right _ _)
/-- what is divided by the signed divisor -/
theorem fd_neg {a g : Int} (hg : 0 < g) (h : g ∣ a) : a.fdiv (-g) = (-a) / g := by
  obtain ⟨k, rfl⟩ := h
  have e1 : g * k = (-g) * (-k) := by rw [Int.neg_mul_neg]
  rw [e1, Int.mul_fdiv_cancel_left _ (by omega)]
  have e2 : -((-g) * (-k)) = g * (-k) := by rw [Int.neg_mul_neg, Int.mul_neg]
  rw [e2, Int.mul_ediv_cancel_left _ (by omega)]
theorem fd_pos {a g : Int} (hg : 0 < g) : a.fdiv g = a / g := Int.fdiv_eq_ediv_of_nonneg _ (by omega)
theorem lg {a b : Int} (hb : b ≠ 0) (h : b.natAbs < big) : ((Nat.gcd a.natAbs b.natAbs : Nat) : Int).natAbs.log2 < 9000 := by
  have hl := gcd_le (a := a) hb
  exact log2_lt (by
    have : big < 2 ^ 9000 := by decide +kernel
    omega) (by decide)
theorem lgn {a b : Int} (hb : b ≠ 0) (h : b.natAbs < big) : (-((Nat.gcd a.natAbs b.natAbs : Nat) : Int)).natAbs.log2 < 9000 := by
  rw [Int.natAbs_neg]
  exact lg hb h
theorem low_eq (a b : Int) (hb : b ≠ 0) (h : b.natAbs < big) : G__law_low [.int a, .int b] = .ok (.tup [.int (ct a b), .int (cb a b)]) := by
  have hs := share_eq a b h
  have hp := gcd_pos (a := a) hb
  by_cases hn : b < 0
  · have d1 := fdiv_ok (i := a) (j := -(Nat.gcd a.natAbs b.natAbs : Int)) (by omega) (lgn hb h)
    have d2 := fdiv_ok (i := b) (j := -(Nat.gcd a.natAbs b.natAbs : Int)) (by omega) (lgn hb h)
    rw [fd_neg (by omega) gl] at d1
    rw [fd_neg (by omega) gr] at d2
    have e1 : ct a b = (-a) / (Nat.gcd a.natAbs b.natAbs : Int) := by unfold ct; rw [if_pos hn]
    have e2 : cb a b = (-b) / (Nat.gcd a.natAbs b.natAbs : Int) := by unfold cb; rw [show ((b.natAbs : Nat) : Int) = -b by omega]
    rw [e1, e2]
    unfold G__law_low g__law_low
    simp [fK, fOp, fU, fM, fIsN, fNotN, tB', tNot', tAnd', tOr', vAnd, vOr, vNot, fIf, lNil, lCons, fLst, fTup, fCall, fMk, fB, fSlc, oNo, oSo, fSplit, fLc, iSq, iR1, tYes', zF, zS, fF1, fF3, sSeq, sRet, sIf, sSet, sSetO, sFor, sApp, sPar, sAsg, sRaise, sFld, sFrz, sBad, sTryAs, fN, fRz, tIfx, sPar3, sRaiseB, iZip, iEnu, fMet, fMkd, fMkk, look, peek, bo, opt, mkL, mkT, small, fnG, mkG, int2, negC, seqD, hName, hCons, hNil, hTup, par2, appD, isOw, frz, setF, ptI, isiD, notScr, env0, env0I, selfF, runB, runI, cAbs, cLen, isNone, strD, payD, tryD, noErr, cLenS, itemS, dSub, dLt, dLe, dGt, dGe, opN, opL, eqN, neN, notB, isO, zipD, zipL, par3, rzD, Res.bind_ok, Res.bind_err, Res.bind_bad, seq_nx, seq_rt, seq_err, bnd_ok, bnd_err, loop_nx, loop_rt, for_nil, for_cons, int_i, hs, hn, d1, d2]
  · have d1 := fdiv_ok (i := a) (j := (Nat.gcd a.natAbs b.natAbs : Int)) (by omega) (lg hb h)
    have d2 := fdiv_ok (i := b) (j := (Nat.gcd a.natAbs b.natAbs : Int)) (by omega) (lg hb h)
    rw [fd_pos (by omega)] at d1 d2
    have e1 : ct a b = a / (Nat.gcd a.natAbs b.natAbs : Int) := by unfold ct; rw [if_neg hn]
    have e2 : cb a b = b / (Nat.gcd a.natAbs b.natAbs : Int) := by unfold cb; rw [show ((b.natAbs : Nat) : Int) = b by omega]
    rw [e1, e2]
    unfold G__law_low g__law_low
    simp [fK, fOp, fU, fM, fIsN, fNotN, tB', tNot', tAnd', tOr', vAnd, vOr, vNot, fIf, lNil, lCons, fLst, fTup, fCall, fMk, fB, fSlc, oNo, oSo, fSplit, fLc, iSq, iR1, tYes', zF, zS, fF1, fF3, sSeq, sRet, sIf, sSet, sSetO, sFor, sApp, sPar, sAsg, sRaise, sFld, sFrz, sBad, sTryAs, fN, fRz, tIfx, sPar3, sRaiseB, iZip, iEnu, fMet, fMkd, fMkk, look, peek, bo, opt, mkL, mkT, small, fnG, mkG, int2, negC, seqD, hName, hCons, hNil, hTup, par2, appD, isOw, frz, setF, ptI, isiD, notScr, env0, env0I, selfF, runB, runI, cAbs, cLen, isNone, strD, payD, tryD, noErr, cLenS, itemS, dSub, dLt, dLe, dGt, dGe, opN, opL, eqN, neN, notB, isO, zipD, zipL, par3, rzD, Res.bind_ok, Res.bind_err, Res.bind_bad, seq_nx, seq_rt, seq_err, bnd_ok, bnd_err, loop_nx, loop_rt, for_nil, for_cons, int_i, hs, hn, d1, d2]
theorem init_eq (a b : Int) (hb : b ≠ 0) (h : b.natAbs < big) : G_Ratio___init__ [.int a, .int b] = .ok [.int (ct a b), .int (cb a b)] := by
  have hs := common_eq a b h
  have hp := gcd_pos (a := a) hb
  have h0 : eqD (.int b) (.int 0) = some (.bl false) := by
    rw [eq_ii, decide_eq_false (by omega)]
  by_cases hn : b < 0
  · have d1 := fdiv_ok (i := a) (j := -(Nat.gcd a.natAbs b.natAbs : Int)) (by omega) (lgn hb h)
    have d2 := fdiv_ok (i := b) (j := -(Nat.gcd a.natAbs b.natAbs : Int)) (by omega) (lgn hb h)
    rw [fd_neg (by omega) gl] at d1
    rw [fd_neg (by omega) gr] at d2
    have e1 : ct a b = (-a) / (Nat.gcd a.natAbs b.natAbs : Int) := by unfold ct; rw [if_pos hn]
    have e2 : cb a b = (-b) / (Nat.gcd a.natAbs b.natAbs : Int) := by unfold cb; rw [show ((b.natAbs : Nat) : Int) = -b by omega]
    rw [e1, e2]
    unfold G_Ratio___init__ g_Ratio___init__
    simp [fK, fOp, fU, fM, fIsN, fNotN, tB', tNot', tAnd', tOr', vAnd, vOr, vNot, fIf, lNil, lCons, fLst, fTup, fCall, fMk, fB, fSlc, oNo, oSo, fSplit, fLc, iSq, iR1, tYes', zF, zS, fF1, fF3, sSeq, sRet, sIf, sSet, sSetO, sFor, sApp, sPar, sAsg, sRaise, sFld, sFrz, sBad, sTryAs, fN, fRz, tIfx, sPar3, sRaiseB, iZip, iEnu, fMet, fMkd, fMkk, look, peek, bo, opt, mkL, mkT, small, fnG, mkG, int2, negC, seqD, hName, hCons, hNil, hTup, par2, appD, isOw, frz, setF, ptI, isiD, notScr, env0, env0I, selfF, runB, runI, cAbs, cLen, isNone, strD, payD, tryD, noErr, cLenS, itemS, dSub, dLt, dLe, dGt, dGe, opN, opL, eqN, neN, notB, isO, zipD, zipL, par3, rzD, Res.bind_ok, Res.bind_err, Res.bind_bad, seq_nx, seq_rt, seq_err, bnd_ok, bnd_err, loop_nx, loop_rt, for_nil, for_cons, int_i, hs, hn, d1, d2, h0, nmv]
  · have d1 := fdiv_ok (i := a) (j := (Nat.gcd a.natAbs b.natAbs : Int)) (by omega) (lg hb h)
    have d2 := fdiv_ok (i := b) (j := (Nat.gcd a.natAbs b.natAbs : Int)) (by omega) (lg hb h)
    rw [fd_pos (by omega)] at d1 d2
    have e1 : ct a b = a / (Nat.gcd a.natAbs b.natAbs : Int) := by unfold ct; rw [if_neg hn]
    have e2 : cb a b = b / (Nat.gcd a.natAbs b.natAbs : Int) := by unfold cb; rw [show ((b.natAbs : Nat) : Int) = b by omega]
    rw [e1, e2]
    unfold G_Ratio___init__ g_Ratio___init__
    simp [fK, fOp, fU, fM, fIsN, fNotN, tB', tNot', tAnd', tOr', vAnd, vOr, vNot, fIf, lNil, lCons, fLst, fTup, fCall, fMk, fB, fSlc, oNo, oSo, fSplit, fLc, iSq, iR1, tYes', zF, zS, fF1, fF3, sSeq, sRet, sIf, sSet, sSetO, sFor, sApp, sPar, sAsg, sRaise, sFld, sFrz, sBad, sTryAs, fN, fRz, tIfx, sPar3, sRaiseB, iZip, iEnu, fMet, fMkd, fMkk, look, peek, bo, opt, mkL, mkT, small, fnG, mkG, int2, negC, seqD, hName, hCons, hNil, hTup, par2, appD, isOw, frz, setF, ptI, isiD, notScr, env0, env0I, selfF, runB, runI, cAbs, cLen, isNone, strD, payD, tryD, noErr, cLenS, itemS, dSub, dLt, dLe, dGt, dGe, opN, opL, eqN, neN, notB, isO, zipD, zipL, par3, rzD, Res.bind_ok, Res.bind_err, Res.bind_bad, seq_nx, seq_rt, seq_err, bnd_ok, bnd_err, loop_nx, loop_rt, for_nil, for_cons, int_i, hs, hn, d1, d2, h0, nmv]
theorem init_zero (a : Int) : G_Ratio___init__ [.int a, .int 0] = .err 0 none := by
  have h0 : eqD (.int 0) (.int 0) = some (.bl true) := by rw [eq_ii]; rfl
  unfold G_Ratio___init__ g_Ratio___init__
  simp [fK, fOp, fU, fM, fIsN, fNotN, tB', tNot', tAnd', tOr', vAnd, vOr, vNot, fIf, lNil, lCons, fLst, fTup, fCall, fMk, fB, fSlc, oNo, oSo, fSplit, fLc, iSq, iR1, tYes', zF, zS, fF1, fF3, sSeq, sRet, sIf, sSet, sSetO, sFor, sApp, sPar, sAsg, sRaise, sFld, sFrz, sBad, sTryAs, fN, fRz, tIfx, sPar3, sRaiseB, iZip, iEnu, fMet, fMkd, fMkk, look, peek, bo, opt, mkL, mkT, small, fnG, mkG, int2, negC, seqD, hName, hCons, hNil, hTup, par2, appD, isOw, frz, setF, ptI, isiD, notScr, env0, env0I, selfF, runB, runI, cAbs, cLen, isNone, strD, payD, tryD, noErr, cLenS, itemS, dSub, dLt, dLe, dGt, dGe, opN, opL, eqN, neN, notB, isO, zipD, zipL, par3, rzD, Res.bind_ok, Res.bind_err, Res.bind_bad, seq_nx, seq_rt, seq_err, bnd_ok, bnd_err, loop_nx, loop_rt, for_nil, for_cons, int_i, h0]
end DL.K2
namespace DL.K2
open PySem L2
theorem nat_div {z : Int} {g : Nat} (hg : 0 < g) (h : (g : Int) ∣ z) : (z / (g : Int)).natAbs = z.natAbs / g := by
  obtain ⟨k, rfl⟩ := h
  rw [Int.mul_ediv_cancel_left _ (by omega), Int.natAbs_mul, Int.natAbs_natCast, Nat.mul_div_cancel_left _ hg]
theorem ct_abs {a b : Int} (hb : b ≠ 0) : (ct a b).natAbs = a.natAbs / Nat.gcd a.natAbs b.natAbs := by
  unfold ct
  split
  · rw [nat_div (gcd_pos hb) (by have := gl (a := a) (b := b); exact Int.dvd_neg.mpr this), Int.natAbs_neg]
  · exact nat_div (gcd_pos hb) gl
theorem cb_abs {a b : Int} (hb : b ≠ 0) : (cb a b).natAbs = b.natAbs / Nat.gcd a.natAbs b.natAbs := by
  unfold cb
  rw [nat_div (gcd_pos hb) (Int.natCast_dvd_natCast.mpr (Nat.gcd_dvd_right _ _)), Int.natAbs_natCast]
theorem cb_pos {a b : Int} (hb : b ≠ 0) : 0 < cb a b := by
  unfold cb
  have h1 := Nat.div_pos (gcd_le (a := a) hb) (gcd_pos hb)
  rw [← Int.natCast_ediv]
  exact Int.natCast_pos.mpr h1
theorem co {a b : Int} (hb : b ≠ 0) : Nat.gcd (ct a b).natAbs (cb a b).natAbs = 1 := by
  rw [ct_abs hb, cb_abs hb, Nat.gcd_div (Nat.gcd_dvd_left _ _) (Nat.gcd_dvd_right _ _), Nat.div_self (gcd_pos hb)]
theorem ct_le {a b : Int} (hb : b ≠ 0) : (ct a b).natAbs ≤ a.natAbs := by
  rw [ct_abs hb]
  exact Nat.div_le_self _ _
theorem cb_le {a b : Int} (hb : b ≠ 0) : (cb a b).natAbs ≤ b.natAbs := by
  rw [cb_abs hb]
  exact Nat.div_le_self _ _
theorem ct_low {x y : Int} (hy : 0 < y) (h : Nat.gcd x.natAbs y.natAbs = 1) : ct x y = x := by
  unfold ct
  rw [h, if_neg (by omega)]
  simp
theorem cb_low {x y : Int} (hy : 0 < y) (h : Nat.gcd x.natAbs y.natAbs = 1) : cb x y = y := by
  unfold cb
  rw [h]
  simp
  omega
theorem ct_zero {b : Int} : ct 0 b = 0 := by
  unfold ct
  split <;> simp
theorem cb_zero {b : Int} (hb : b ≠ 0) : cb 0 b = 1 := by
  unfold cb
  rw [Int.natAbs_zero, Nat.gcd_zero_left, Int.ediv_self (by omega)]
/-! ### numbers as data -/
abbrev rat (x y : Int) : D := .obj 0 [.int x, .int y]
abbrev pr (x y : Int) : D := .tup [.int x, .int y]
/-- a number in lowest terms, not too great -/
structure Low (x y : Int) : Prop where
  pos : 0 < y
  one : Nat.gcd x.natAbs y.natAbs = 1
  bx : x.natAbs < 10 ^ 40
  bY : y.natAbs < 10 ^ 40
/-- d is the number x / y -/
def Nm (d : D) (x y : Int) : Prop := d = rat x y ∨ (d = .int x ∧ y = 1)
theorem mulB_ok {i j : Int} (hi : i.natAbs < 10 ^ 90) (hj : j.natAbs < 10 ^ 90) : mulB i j = some (.int (i * j)) := by
  have e : (10 : Nat) ^ 90 ≤ 2 ^ 300 := by decide +kernel
  have h1 := log2_lt (n := i.natAbs) (k := 300) (by omega) (by decide)
  have h2 := log2_lt (n := j.natAbs) (k := 300) (by omega) (by decide)
  exact if_pos (.inl (by omega))
theorem mul_lt {i j : Int} {m n k : Nat} (hi : i.natAbs < m) (hj : j.natAbs < n) (h : m * n ≤ k) : (i * j).natAbs < k := by
  rw [Int.natAbs_mul]
  exact Nat.lt_of_lt_of_le (Nat.mul_lt_mul'' hi hj) h
theorem e80 : (10 : Nat) ^ 40 * 10 ^ 40 ≤ 10 ^ 80 := by decide +kernel
theorem eB : (10 : Nat) ^ 90 < big := by decide +kernel
theorem fldT (x y : Int) : fldD nmv "top" (rat x y) = some (.int x) := rfl
theorem fldB (x y : Int) : fldD nmv "bottom" (rat x y) = some (.int y) := rfl
theorem halves_r (x y : Int) : G_halves_of [rat x y] = .ok (pr x y) := rfl
theorem halves_i (x : Int) : G_halves_of [.int x] = .ok (pr x 1) := rfl
theorem num_r (x y : Int) : G_is_number [rat x y] = .ok (.bl true) := rfl
theorem num_i (x : Int) : G_is_number [.int x] = .ok (.bl true) := rfl
theorem halves_n {d : D} {x y : Int} (h : Nm d x y) : G_halves_of [d] = .ok (pr x y) := by
  rcases h with rfl | ⟨rfl, rfl⟩
  · exact halves_r x y
  · exact halves_i x
theorem num_n {d : D} {x y : Int} (h : Nm d x y) : G_is_number [d] = .ok (.bl true) := by
  rcases h with rfl | ⟨rfl, rfl⟩
  · exact num_r x y
  · exact num_i x
theorem Low.nz {x y : Int} (h : Low x y) : y ≠ 0 := by
  have := h.pos
  omega
theorem Low.neg {x y : Int} (h : Low x y) : Low (-x) y := ⟨h.pos, by rw [Int.natAbs_neg]; exact h.one, by rw [Int.natAbs_neg]; exact h.bx, h.bY⟩
theorem neg_eq {x y : Int} (h : Low x y) : G_Ratio___neg__ [rat x y] = .ok (rat (-x) y) := by
  have e40 : (10 : Nat) ^ 40 < big := by decide +kernel
  have hi := init_eq (-x) y h.nz (by have := h.bY; omega)
  rw [ct_low h.pos h.neg.one, cb_low h.pos h.neg.one] at hi
  unfold G_Ratio___neg__ g_Ratio___neg__
  simp [fK, fOp, fU, fM, fIsN, fNotN, tB', tNot', tAnd', tOr', vAnd, vOr, vNot, fIf, lNil, lCons, fLst, fTup, fCall, fMk, fB, fSlc, oNo, oSo, fSplit, fLc, iSq, iR1, tYes', zF, zS, fF1, fF3, sSeq, sRet, sIf, sSet, sSetO, sFor, sApp, sPar, sAsg, sRaise, sFld, sFrz, sBad, sTryAs, fN, fRz, tIfx, sPar3, sRaiseB, iZip, iEnu, fMet, fMkd, fMkk, look, peek, bo, opt, mkL, mkT, small, fnG, mkG, int2, negC, seqD, hName, hCons, hNil, hTup, par2, appD, isOw, frz, setF, ptI, isiD, notScr, env0, env0I, selfF, runB, runI, cAbs, cLen, isNone, strD, payD, tryD, noErr, cLenS, itemS, dSub, dLt, dLe, dGt, dGe, opN, opL, eqN, neN, notB, isO, zipD, zipL, par3, rzD, Res.bind_ok, Res.bind_err, Res.bind_bad, seq_nx, seq_rt, seq_err, bnd_ok, bnd_err, loop_nx, loop_rt, for_nil, for_cons, int_i, fldT, fldB, hi]
/-- -d -/
theorem negN_eq {d : D} {x y : Int} (hd : Nm d x y) (h : Low x y) : ∃ e, negN G_Ratio___neg__ d = .ok e ∧ Nm e (-x) y := by
  rcases hd with rfl | ⟨rfl, rfl⟩
  · have : negN G_Ratio___neg__ (rat x y) = fnG 1 G_Ratio___neg__ [rat x y] := rfl
    exact ⟨_, this.trans (neg_eq h), .inl rfl⟩
  · exact ⟨.int (-x), rfl, .inr ⟨rfl, rfl⟩⟩
theorem add_eq {x y p q : Int} {d : D} (h : Low x y) (hd : Nm d p q) (hq : Low p q) : G_Ratio___add__ [rat x y, d] = .ok (rat (ct (x * q + p * y) (y * q)) (cb (x * q + p * y) (y * q))) := by
  have n1 := num_n hd
  have n2 := halves_n hd
  have m1 := mulB_ok (i := x) (j := q) (by have := h.bx; omega) (by have := hq.bY; omega)
  have m2 := mulB_ok (i := p) (j := y) (by have := hq.bx; omega) (by have := h.bY; omega)
  have m3 := mulB_ok (i := y) (j := q) (by have := h.bY; omega) (by have := hq.bY; omega)
  have b3 := mul_lt h.bY hq.bY e80
  have hi := init_eq (x * q + p * y) (y * q) (Int.mul_ne_zero h.nz hq.nz) (by have := eB; omega)
  unfold G_Ratio___add__ g_Ratio___add__
  simp [fK, fOp, fU, fM, fIsN, fNotN, tB', tNot', tAnd', tOr', vAnd, vOr, vNot, fIf, lNil, lCons, fLst, fTup, fCall, fMk, fB, fSlc, oNo, oSo, fSplit, fLc, iSq, iR1, tYes', zF, zS, fF1, fF3, sSeq, sRet, sIf, sSet, sSetO, sFor, sApp, sPar, sAsg, sRaise, sFld, sFrz, sBad, sTryAs, fN, fRz, tIfx, sPar3, sRaiseB, iZip, iEnu, fMet, fMkd, fMkk, look, peek, bo, opt, mkL, mkT, small, fnG, mkG, int2, negC, seqD, hName, hCons, hNil, hTup, par2, appD, isOw, frz, setF, ptI, isiD, notScr, env0, env0I, selfF, runB, runI, cAbs, cLen, isNone, strD, payD, tryD, noErr, cLenS, itemS, dSub, dLt, dLe, dGt, dGe, opN, opL, eqN, neN, notB, isO, zipD, zipL, par3, rzD, Res.bind_ok, Res.bind_err, Res.bind_bad, seq_nx, seq_rt, seq_err, bnd_ok, bnd_err, loop_nx, loop_rt, for_nil, for_cons, int_i, fldT, fldB, n1, n2, m1, m2, m3, addA, hi]
theorem mul_eq {x y p q : Int} {d : D} (h : Low x y) (hd : Nm d p q) (hq : Low p q) : G_Ratio___mul__ [rat x y, d] = .ok (rat (ct (x * p) (y * q)) (cb (x * p) (y * q))) := by
  have n1 := num_n hd
  have n2 := halves_n hd
  have m1 := mulB_ok (i := x) (j := p) (by have := h.bx; omega) (by have := hq.bx; omega)
  have m3 := mulB_ok (i := y) (j := q) (by have := h.bY; omega) (by have := hq.bY; omega)
  have b3 := mul_lt h.bY hq.bY e80
  have hi := init_eq (x * p) (y * q) (Int.mul_ne_zero h.nz hq.nz) (by have := eB; omega)
  unfold G_Ratio___mul__ g_Ratio___mul__
  simp [fK, fOp, fU, fM, fIsN, fNotN, tB', tNot', tAnd', tOr', vAnd, vOr, vNot, fIf, lNil, lCons, fLst, fTup, fCall, fMk, fB, fSlc, oNo, oSo, fSplit, fLc, iSq, iR1, tYes', zF, zS, fF1, fF3, sSeq, sRet, sIf, sSet, sSetO, sFor, sApp, sPar, sAsg, sRaise, sFld, sFrz, sBad, sTryAs, fN, fRz, tIfx, sPar3, sRaiseB, iZip, iEnu, fMet, fMkd, fMkk, look, peek, bo, opt, mkL, mkT, small, fnG, mkG, int2, negC, seqD, hName, hCons, hNil, hTup, par2, appD, isOw, frz, setF, ptI, isiD, notScr, env0, env0I, selfF, runB, runI, cAbs, cLen, isNone, strD, payD, tryD, noErr, cLenS, itemS, dSub, dLt, dLe, dGt, dGe, opN, opL, eqN, neN, notB, isO, zipD, zipL, par3, rzD, Res.bind_ok, Res.bind_err, Res.bind_bad, seq_nx, seq_rt, seq_err, bnd_ok, bnd_err, loop_nx, loop_rt, for_nil, for_cons, int_i, fldT, fldB, n1, n2, m1, m3, hi]
end DL.K2
namespace DL.K2
open PySem L2
theorem eq_pp (a b c d : Int) : eqD (pr a b) (pr c d) = some (.bl (decide (a = c ∧ b = d))) := by
  simp [eqD, eqP, toPD, toPDs, SeqAt.shaped, PyData.canLay0, PyData.canLayAll0, PyData.depth, PyData.depthAll, PyData.eqv, PyData.eqvAll, beq_i]
theorem ne_bb (a b : Bool) : neD (.bl a) (.bl b) = some (.bl (a != b)) := by
  cases a <;> cases b <;> rfl
theorem eq_bb (a b : Bool) : eqD (.bl a) (.bl b) = some (.bl (a == b)) := by
  cases a <;> cases b <;> rfl
theorem right_eq (x y : Int) : G__law_right [rat x y, pr x y] = .ok (.bl true) := by
  have e := eq_pp x y x y
  unfold G__law_right g__law_right
  simp [fK, fOp, fU, fM, fIsN, fNotN, tB', tNot', tAnd', tOr', vAnd, vOr, vNot, fIf, lNil, lCons, fLst, fTup, fCall, fMk, fB, fSlc, oNo, oSo, fSplit, fLc, iSq, iR1, tYes', zF, zS, fF1, fF3, sSeq, sRet, sIf, sSet, sSetO, sFor, sApp, sPar, sAsg, sRaise, sFld, sFrz, sBad, sTryAs, fN, fRz, tIfx, sPar3, sRaiseB, iZip, iEnu, fMet, fMkd, fMkk, look, peek, bo, opt, mkL, mkT, small, fnG, mkG, int2, negC, seqD, hName, hCons, hNil, hTup, par2, appD, isOw, frz, setF, ptI, isiD, notScr, env0, env0I, selfF, runB, runI, cAbs, cLen, isNone, strD, payD, tryD, noErr, cLenS, itemS, dSub, dLt, dLe, dGt, dGe, notB, isO, zipD, zipL, par3, rzD, Res.bind_ok, Res.bind_err, Res.bind_bad, seq_nx, seq_rt, seq_err, bnd_ok, bnd_err, loop_nx, loop_rt, for_nil, for_cons, int_i, fldT, fldB, ib_Ratio, e]
abbrev gAdd : Int → Int → Option D := fun i j => some (.int (i + j))
abbrev gSub : Int → Int → Option D := fun i j => some (.int (i - j))
/-- one of the two is no int -/
def One (l r : D) : Prop := (∃ x y, l = rat x y) ∨ ∃ x y, r = rat x y
section
variable {x y p q : Int} {l r : D}
theorem opL_nm (G : List D → Res D) (h : Nm r p q) : opL G (rat x y) r = G [rat x y, r] := by
  rcases h with rfl | ⟨rfl, rfl⟩ <;> rfl
theorem opN_rat (gi : Int → Int → Option D) (G GR : List D → Res D) (h : Nm r p q) : opN gi G GR (rat x y) r = G [rat x y, r] := by
  rcases h with rfl | ⟨rfl, rfl⟩ <;> rfl
theorem radd_eq (h : Low x y) (hd : Nm r p q) (hq : Low p q) : G_Ratio___radd__ [rat x y, r] = .ok (rat (ct (x * q + p * y) (y * q)) (cb (x * q + p * y) (y * q))) := by
  have e := opL_nm (x := x) (y := y) G_Ratio___add__ hd
  rw [add_eq h hd hq] at e
  unfold G_Ratio___radd__ g_Ratio___radd__
  simp [fK, fOp, fU, fM, fIsN, fNotN, tB', tNot', tAnd', tOr', vAnd, vOr, vNot, fIf, lNil, lCons, fLst, fTup, fCall, fMk, fB, fSlc, oNo, oSo, fSplit, fLc, iSq, iR1, tYes', zF, zS, fF1, fF3, sSeq, sRet, sIf, sSet, sSetO, sFor, sApp, sPar, sAsg, sRaise, sFld, sFrz, sBad, sTryAs, fN, fRz, tIfx, sPar3, sRaiseB, iZip, iEnu, fMet, fMkd, fMkk, look, peek, bo, opt, mkL, mkT, small, fnG, mkG, int2, negC, seqD, hName, hCons, hNil, hTup, par2, appD, isOw, frz, setF, ptI, isiD, notScr, env0, env0I, selfF, runB, runI, cAbs, cLen, isNone, strD, payD, tryD, noErr, cLenS, itemS, dSub, dLt, dLe, dGt, dGe, notB, isO, zipD, zipL, par3, rzD, Res.bind_ok, Res.bind_err, Res.bind_bad, seq_nx, seq_rt, seq_err, bnd_ok, bnd_err, loop_nx, loop_rt, for_nil, for_cons, int_i, e]
theorem rmul_eq (h : Low x y) (hd : Nm r p q) (hq : Low p q) : G_Ratio___rmul__ [rat x y, r] = .ok (rat (ct (x * p) (y * q)) (cb (x * p) (y * q))) := by
  have e := opL_nm (x := x) (y := y) G_Ratio___mul__ hd
  rw [mul_eq h hd hq] at e
  unfold G_Ratio___rmul__ g_Ratio___rmul__
  simp [fK, fOp, fU, fM, fIsN, fNotN, tB', tNot', tAnd', tOr', vAnd, vOr, vNot, fIf, lNil, lCons, fLst, fTup, fCall, fMk, fB, fSlc, oNo, oSo, fSplit, fLc, iSq, iR1, tYes', zF, zS, fF1, fF3, sSeq, sRet, sIf, sSet, sSetO, sFor, sApp, sPar, sAsg, sRaise, sFld, sFrz, sBad, sTryAs, fN, fRz, tIfx, sPar3, sRaiseB, iZip, iEnu, fMet, fMkd, fMkk, look, peek, bo, opt, mkL, mkT, small, fnG, mkG, int2, negC, seqD, hName, hCons, hNil, hTup, par2, appD, isOw, frz, setF, ptI, isiD, notScr, env0, env0I, selfF, runB, runI, cAbs, cLen, isNone, strD, payD, tryD, noErr, cLenS, itemS, dSub, dLt, dLe, dGt, dGe, notB, isO, zipD, zipL, par3, rzD, Res.bind_ok, Res.bind_err, Res.bind_bad, seq_nx, seq_rt, seq_err, bnd_ok, bnd_err, loop_nx, loop_rt, for_nil, for_cons, int_i, e]
theorem sub_eq (h : Low x y) (hd : Nm r p q) (hq : Low p q) : G_Ratio___sub__ [rat x y, r] = .ok (rat (ct (x * q + -p * y) (y * q)) (cb (x * q + -p * y) (y * q))) := by
  obtain ⟨m, hm, hn⟩ := negN_eq hd hq
  have e := opL_nm (x := x) (y := y) G_Ratio___add__ hn
  rw [add_eq h hn hq.neg] at e
  unfold G_Ratio___sub__ g_Ratio___sub__
  simp [fK, fOp, fU, fM, fIsN, fNotN, tB', tNot', tAnd', tOr', vAnd, vOr, vNot, fIf, lNil, lCons, fLst, fTup, fCall, fMk, fB, fSlc, oNo, oSo, fSplit, fLc, iSq, iR1, tYes', zF, zS, fF1, fF3, sSeq, sRet, sIf, sSet, sSetO, sFor, sApp, sPar, sAsg, sRaise, sFld, sFrz, sBad, sTryAs, fN, fRz, tIfx, sPar3, sRaiseB, iZip, iEnu, fMet, fMkd, fMkk, look, peek, bo, opt, mkL, mkT, small, fnG, mkG, int2, negC, seqD, hName, hCons, hNil, hTup, par2, appD, isOw, frz, setF, ptI, isiD, notScr, env0, env0I, selfF, runB, runI, cAbs, cLen, isNone, strD, payD, tryD, noErr, cLenS, itemS, dSub, dLt, dLe, dGt, dGe, notB, isO, zipD, zipL, par3, rzD, Res.bind_ok, Res.bind_err, Res.bind_bad, seq_nx, seq_rt, seq_err, bnd_ok, bnd_err, loop_nx, loop_rt, for_nil, for_cons, int_i, e, hm]
theorem rsub_eq (h : Low x y) (hd : Nm r p q) (hq : Low p q) : G_Ratio___rsub__ [rat x y, r] = .ok (rat (ct (-x * q + p * y) (y * q)) (cb (-x * q + p * y) (y * q))) := by
  have hm : negN G_Ratio___neg__ (rat x y) = .ok (rat (-x) y) := (show negN G_Ratio___neg__ (rat x y) = fnG 1 G_Ratio___neg__ [rat x y] from rfl).trans (neg_eq h)
  have e := opL_nm (x := -x) (y := y) G_Ratio___add__ hd
  rw [add_eq h.neg hd hq] at e
  unfold G_Ratio___rsub__ g_Ratio___rsub__
  simp [fK, fOp, fU, fM, fIsN, fNotN, tB', tNot', tAnd', tOr', vAnd, vOr, vNot, fIf, lNil, lCons, fLst, fTup, fCall, fMk, fB, fSlc, oNo, oSo, fSplit, fLc, iSq, iR1, tYes', zF, zS, fF1, fF3, sSeq, sRet, sIf, sSet, sSetO, sFor, sApp, sPar, sAsg, sRaise, sFld, sFrz, sBad, sTryAs, fN, fRz, tIfx, sPar3, sRaiseB, iZip, iEnu, fMet, fMkd, fMkk, look, peek, bo, opt, mkL, mkT, small, fnG, mkG, int2, negC, seqD, hName, hCons, hNil, hTup, par2, appD, isOw, frz, setF, ptI, isiD, notScr, env0, env0I, selfF, runB, runI, cAbs, cLen, isNone, strD, payD, tryD, noErr, cLenS, itemS, dSub, dLt, dLe, dGt, dGe, notB, isO, zipD, zipL, par3, rzD, Res.bind_ok, Res.bind_err, Res.bind_bad, seq_nx, seq_rt, seq_err, bnd_ok, bnd_err, loop_nx, loop_rt, for_nil, for_cons, int_i, e, hm]
theorem oAdd (h : Low x y) (hl : Nm l x y) (hd : Nm r p q) (hq : Low p q) (o : One l r) : opN gAdd G_Ratio___add__ G_Ratio___radd__ l r = .ok (rat (ct (x * q + p * y) (y * q)) (cb (x * q + p * y) (y * q))) := by
  rcases hl with rfl | ⟨rfl, rfl⟩
  · exact (opN_rat _ _ _ hd).trans (add_eq h hd hq)
  · rcases hd with rfl | ⟨rfl, rfl⟩
    · have e := radd_eq hq (.inr ⟨rfl, rfl⟩ : Nm (.int x) x 1) h
      have e1 : p * 1 + x * q = x * q + p * 1 := by omega
      have e2 : q * 1 = 1 * q := by omega
      rw [e1, e2] at e
      exact e
    · rcases o with ⟨_, _, z⟩ | ⟨_, _, z⟩ <;> cases z
theorem oSub (h : Low x y) (hl : Nm l x y) (hd : Nm r p q) (hq : Low p q) (o : One l r) : opN gSub G_Ratio___sub__ G_Ratio___rsub__ l r = .ok (rat (ct (x * q + -p * y) (y * q)) (cb (x * q + -p * y) (y * q))) := by
  rcases hl with rfl | ⟨rfl, rfl⟩
  · exact (opN_rat _ _ _ hd).trans (sub_eq h hd hq)
  · rcases hd with rfl | ⟨rfl, rfl⟩
    · have e := rsub_eq hq (.inr ⟨rfl, rfl⟩ : Nm (.int x) x 1) h
      have e1 : -p * 1 + x * q = x * q + -p * 1 := by omega
      have e2 : q * 1 = 1 * q := by omega
      rw [e1, e2] at e
      exact e
    · rcases o with ⟨_, _, z⟩ | ⟨_, _, z⟩ <;> cases z
theorem oMul (h : Low x y) (hl : Nm l x y) (hd : Nm r p q) (hq : Low p q) (o : One l r) : opN mulB G_Ratio___mul__ G_Ratio___rmul__ l r = .ok (rat (ct (x * p) (y * q)) (cb (x * p) (y * q))) := by
  rcases hl with rfl | ⟨rfl, rfl⟩
  · exact (opN_rat _ _ _ hd).trans (mul_eq h hd hq)
  · rcases hd with rfl | ⟨rfl, rfl⟩
    · have e := rmul_eq hq (.inr ⟨rfl, rfl⟩ : Nm (.int x) x 1) h
      rw [Int.mul_comm p x, Int.mul_comm q 1] at e
      exact e
    · rcases o with ⟨_, _, z⟩ | ⟨_, _, z⟩ <;> cases z
theorem it0 (a b : Int) : itemD (pr a b) (.int 0) = some (.int a) := rfl
theorem it1 (a b : Int) : itemD (pr a b) (.int 1) = some (.int b) := rfl
theorem lAdd (h : Low x y) (hq : Low p q) : G__law_add [pr x y, pr p q] = .ok (pr (ct (x * q + p * y) (y * q)) (cb (x * q + p * y) (y * q))) := by
  have m1 := mulB_ok (i := x) (j := q) (by have := h.bx; omega) (by have := hq.bY; omega)
  have m2 := mulB_ok (i := p) (j := y) (by have := hq.bx; omega) (by have := h.bY; omega)
  have m3 := mulB_ok (i := y) (j := q) (by have := h.bY; omega) (by have := hq.bY; omega)
  have b3 := mul_lt h.bY hq.bY e80
  have hi := low_eq (x * q + p * y) (y * q) (Int.mul_ne_zero h.nz hq.nz) (by have := eB; omega)
  unfold G__law_add g__law_add
  simp [fK, fOp, fU, fM, fIsN, fNotN, tB', tNot', tAnd', tOr', vAnd, vOr, vNot, fIf, lNil, lCons, fLst, fTup, fCall, fMk, fB, fSlc, oNo, oSo, fSplit, fLc, iSq, iR1, tYes', zF, zS, fF1, fF3, sSeq, sRet, sIf, sSet, sSetO, sFor, sApp, sPar, sAsg, sRaise, sFld, sFrz, sBad, sTryAs, fN, fRz, tIfx, sPar3, sRaiseB, iZip, iEnu, fMet, fMkd, fMkk, look, peek, bo, opt, mkL, mkT, small, fnG, mkG, int2, negC, seqD, hName, hCons, hNil, hTup, par2, appD, isOw, frz, setF, ptI, isiD, notScr, env0, env0I, selfF, runB, runI, cAbs, cLen, isNone, strD, payD, tryD, noErr, cLenS, itemS, dSub, dLt, dLe, dGt, dGe, notB, isO, zipD, zipL, par3, rzD, Res.bind_ok, Res.bind_err, Res.bind_bad, seq_nx, seq_rt, seq_err, bnd_ok, bnd_err, loop_nx, loop_rt, for_nil, for_cons, int_i, it0, it1, m1, m2, m3, addA, hi]
theorem lMul (h : Low x y) (hq : Low p q) : G__law_mul [pr x y, pr p q] = .ok (pr (ct (x * p) (y * q)) (cb (x * p) (y * q))) := by
  have m1 := mulB_ok (i := x) (j := p) (by have := h.bx; omega) (by have := hq.bx; omega)
  have m3 := mulB_ok (i := y) (j := q) (by have := h.bY; omega) (by have := hq.bY; omega)
  have b3 := mul_lt h.bY hq.bY e80
  have hi := low_eq (x * p) (y * q) (Int.mul_ne_zero h.nz hq.nz) (by have := eB; omega)
  unfold G__law_mul g__law_mul
  simp [fK, fOp, fU, fM, fIsN, fNotN, tB', tNot', tAnd', tOr', vAnd, vOr, vNot, fIf, lNil, lCons, fLst, fTup, fCall, fMk, fB, fSlc, oNo, oSo, fSplit, fLc, iSq, iR1, tYes', zF, zS, fF1, fF3, sSeq, sRet, sIf, sSet, sSetO, sFor, sApp, sPar, sAsg, sRaise, sFld, sFrz, sBad, sTryAs, fN, fRz, tIfx, sPar3, sRaiseB, iZip, iEnu, fMet, fMkd, fMkk, look, peek, bo, opt, mkL, mkT, small, fnG, mkG, int2, negC, seqD, hName, hCons, hNil, hTup, par2, appD, isOw, frz, setF, ptI, isiD, notScr, env0, env0I, selfF, runB, runI, cAbs, cLen, isNone, strD, payD, tryD, noErr, cLenS, itemS, dSub, dLt, dLe, dGt, dGe, notB, isO, zipD, zipL, par3, rzD, Res.bind_ok, Res.bind_err, Res.bind_bad, seq_nx, seq_rt, seq_err, bnd_ok, bnd_err, loop_nx, loop_rt, for_nil, for_cons, int_i, it0, it1, m1, m3, hi]
theorem ops_eq (h : Low x y) (hl : Nm l x y) (hd : Nm r p q) (hq : Low p q) (o : One l r) : G__law_ops [l, r, pr x y, pr p q] = .ok (.lst [.bl true, .bl true, .bl true]) := by
  have a1 := oAdd h hl hd hq o
  have a2 := oSub h hl hd hq o
  have a3 := oMul h hl hd hq o
  have b1 := lAdd h hq
  have b2 := lAdd h hq.neg
  have b3 := lMul h hq
  have r1 := right_eq (ct (x * q + p * y) (y * q)) (cb (x * q + p * y) (y * q))
  have r2 := right_eq (ct (x * q + -p * y) (y * q)) (cb (x * q + -p * y) (y * q))
  have r3 := right_eq (ct (x * p) (y * q)) (cb (x * p) (y * q))
  generalize ct (x * q + p * y) (y * q) = c1, cb (x * q + p * y) (y * q) = d1 at *
  generalize ct (x * q + -p * y) (y * q) = c2, cb (x * q + -p * y) (y * q) = d2 at *
  generalize ct (x * p) (y * q) = c3, cb (x * p) (y * q) = d3 at *
  generalize hop1 : opN gAdd G_Ratio___add__ G_Ratio___radd__ = o1 at a1
  generalize hop2 : opN gSub G_Ratio___sub__ G_Ratio___rsub__ = o2 at a2
  generalize hop3 : opN mulB G_Ratio___mul__ G_Ratio___rmul__ = o3 at a3
  unfold G__law_ops g__law_ops lc__law_ops_0
  rw [hop1, hop2, hop3]
  clear hop1 hop2 hop3
  simp [fK, fOp, fU, fM, fIsN, fNotN, tB', tNot', tAnd', tOr', vAnd, vOr, vNot, fIf, lNil, lCons, fLst, fTup, fCall, fMk, fB, fSlc, oNo, oSo, fSplit, fLc, iSq, iR1, tYes', zF, zS, fF1, fF3, sSeq, sRet, sIf, sSet, sSetO, sFor, sApp, sPar, sAsg, sRaise, sFld, sFrz, sBad, sTryAs, fN, fRz, tIfx, sPar3, sRaiseB, iZip, iEnu, fMet, fMkd, fMkk, look, peek, bo, opt, mkL, mkT, small, fnG, mkG, int2, negC, seqD, hName, hCons, hNil, hTup, par2, appD, isOw, frz, setF, ptI, isiD, notScr, env0, env0I, selfF, runB, runI, cAbs, cLen, isNone, strD, payD, tryD, noErr, cLenS, itemS, dSub, dLt, dLe, dGt, dGe, notB, isO, zipD, zipL, par3, rzD, Res.bind_ok, Res.bind_err, Res.bind_bad, seq_nx, seq_rt, seq_err, bnd_ok, bnd_err, loop_nx, loop_rt, for_nil, for_cons, int_i, it0, it1, a1, a2, a3, b1, b2, b3, lcD, wipeE, r1, r2, r3]
end
end DL.K2
namespace DL.K2
open PySem L2
theorem cell_ok (ns : List Int) (k : Nat) : ∃ i : Int, G__law_cell [.scr ns, .int k] = .ok (.int i) := by
  unfold G__law_cell g__law_cell
  by_cases h : (k : Int) < (ns.length : Int)
  · have e : atI ns (k : Int) = some (ns[k]'(by omega)) := atI_nat (by simp)
    exact ⟨ns[k]'(by omega), by simp [fK, fOp, fU, fM, fIsN, fNotN, tB', tNot', tAnd', tOr', vAnd, vOr, vNot, fIf, lNil, lCons, fLst, fTup, fCall, fMk, fB, fSlc, oNo, oSo, fSplit, fLc, iSq, iR1, tYes', zF, zS, fF1, fF3, sSeq, sRet, sIf, sSet, sSetO, sFor, sApp, sPar, sAsg, sRaise, sFld, sFrz, sBad, sTryAs, fN, fRz, tIfx, sPar3, sRaiseB, iZip, iEnu, fMet, fMkd, fMkk, look, peek, bo, opt, mkL, mkT, small, fnG, mkG, int2, negC, seqD, hName, hCons, hNil, hTup, par2, appD, isOw, frz, setF, ptI, isiD, notScr, env0, env0I, selfF, runB, runI, cAbs, cLen, isNone, strD, payD, tryD, noErr, cLenS, itemS, dSub, dLt, dLe, dGt, dGe, notB, isO, zipD, zipL, par3, rzD, Res.bind_ok, Res.bind_err, Res.bind_bad, seq_nx, seq_rt, seq_err, bnd_ok, bnd_err, loop_nx, loop_rt, for_nil, for_cons, int_i, h, e]⟩
  · exact ⟨0, by simp [fK, fOp, fU, fM, fIsN, fNotN, tB', tNot', tAnd', tOr', vAnd, vOr, vNot, fIf, lNil, lCons, fLst, fTup, fCall, fMk, fB, fSlc, oNo, oSo, fSplit, fLc, iSq, iR1, tYes', zF, zS, fF1, fF3, sSeq, sRet, sIf, sSet, sSetO, sFor, sApp, sPar, sAsg, sRaise, sFld, sFrz, sBad, sTryAs, fN, fRz, tIfx, sPar3, sRaiseB, iZip, iEnu, fMet, fMkd, fMkk, look, peek, bo, opt, mkL, mkT, small, fnG, mkG, int2, negC, seqD, hName, hCons, hNil, hTup, par2, appD, isOw, frz, setF, ptI, isiD, notScr, env0, env0I, selfF, runB, runI, cAbs, cLen, isNone, strD, payD, tryD, noErr, cLenS, itemS, dSub, dLt, dLe, dGt, dGe, notB, isO, zipD, zipL, par3, rzD, Res.bind_ok, Res.bind_err, Res.bind_bad, seq_nx, seq_rt, seq_err, bnd_ok, bnd_err, loop_nx, loop_rt, for_nil, for_cons, int_i, h]⟩
theorem fm {i j : Int} (h : 0 < j) : 0 ≤ i.fmod j ∧ i.fmod j < j := by
  rw [Int.fmod_eq_emod_of_nonneg _ (by omega)]
  exact ⟨Int.emod_nonneg _ (by omega), Int.emod_lt_of_pos _ h⟩
theorem p18 : powC 10 18 = some (.int 1000000000000000000) := by
  unfold powC
  rw [if_pos (by decide +kernel)]
  rfl
theorem for_st (i : Nat) (g : Env → RS) (d : D) (r : List D) (ρ : Env) : forD (hName i) g (d :: r) ρ = loopK (g (ρ.set i (some (.sh d)))) (forD (hName i) g r) := rfl
/-- numbers below their sizes -/
def Fits : List Int → List Int → Prop
  | [], [] => True
  | y :: ys, s :: ss => (0 ≤ y ∧ y < s) ∧ Fits ys ss
  | _, _ => False
theorem Fits.len : ∀ {ys ss : List Int}, Fits ys ss → ys.length = ss.length
  | [], [], _ => rfl
  | y :: ys, s :: ss, h => by simp [Fits.len h.2]
  | [], _ :: _, h => h.elim
  | _ :: _, [], h => h.elim
def rbody : Env → RS := (sSeq (sSet 6 (fOp addA (fOp (int2 modC) (fB cInt2 (lCons (fOp (int2 powC) (fOp addA (fOp addA (peek 4) (fOp (int2 mulB) (fK (.int 7919)) (peek 5))) (fK (.int 104729))) (fK (.int 5))) lNil)) (fK (.int 2147483647))) (peek 5))) (sApp 2 (fOp (int2 modC) (fB cInt2 (lCons (fOp (int2 modC) (fB cInt2 (lCons (fOp (int2 mulB) (peek 6) (fK (.int 40692))) lNil)) (fK (.int 2147483629))) lNil)) (fOp itemD (peek 1) (peek 5)))))
def sbody : Env → RS := (sSeq (sApp 2 (fOp (int2 modC) (fB cInt2 (lCons (peek 0) lNil)) (peek 3))) (sSet 0 (fOp (int2 fdivC) (peek 0) (peek 3))))
theorem mulS {i j : Int} (h : -(2 ^ 64) < i ∧ i < 2 ^ 64) : mulB i j = some (.int (i * j)) := if_pos (.inr (.inl h))
theorem row_step (S size : Int) (k : Nat) (sz xs : List D) (x0 x3 x5 x6 : Option B) (hS : 0 ≤ S ∧ S < 2147483647) (hk : k ≤ 1000) (hsz : itemD (.lst sz) (.int k) = some (.int size)) (hpos : 0 < size) (hl : xs.length < 2000) :
    ∃ (r : Int) (x6' : Option B), (0 ≤ r ∧ r < size) ∧ rbody [x0, some (.sh (.lst sz)), some (.ow (.lst xs)), x3, some (.sh (.int S)), some (.sh (.int k)), x6] = .nx [x0, some (.sh (.lst sz)), some (.ow (.lst (xs ++ [.int r]))), x3, some (.sh (.int S)), some (.sh (.int k)), x6'] := by
  have h1 : mulB 7919 k = some (.int (7919 * k)) := mulS (by decide)
  have h2 : powC (S + 7919 * k + 104729) 5 = some (.int ((S + 7919 * k + 104729) ^ 5)) := by
    unfold powC
    rw [if_pos ⟨by decide, by decide, by omega⟩]
    rfl
  have h3 := mod_ok (i := (S + 7919 * k + 104729) ^ 5) (j := 2147483647) (by decide)
  have b3 := fm (i := (S + 7919 * k + 104729) ^ 5) (j := 2147483647) (by decide)
  generalize ((S + 7919 * k + 104729) ^ 5).fmod 2147483647 = m at *
  have h4 : mulB (m + k) 40692 = some (.int ((m + k) * 40692)) := mulS (by omega)
  have h5 := mod_ok (i := (m + k) * 40692) (j := 2147483629) (by decide)
  generalize ((m + k) * 40692).fmod 2147483629 = y at *
  have h6 := mod_ok (i := y) (j := size) (by omega)
  have b6 := fm (i := y) (j := size) hpos
  refine ⟨y.fmod size, some (.sh (.int (m + k))), b6, ?_⟩
  have hl' : xs.length + 1 ≤ 1000000 := by omega
  unfold rbody
  simp [fK, fOp, fU, fM, fIsN, fNotN, tB', tNot', tAnd', tOr', vAnd, vOr, vNot, fIf, lNil, lCons, fLst, fTup, fCall, fMk, fB, fSlc, oNo, oSo, fSplit, fLc, iSq, iR1, tYes', zF, zS, fF1, fF3, sSeq, sRet, sIf, sSet, sSetO, sFor, sApp, sPar, sAsg, sRaise, sFld, sFrz, sBad, sTryAs, fN, fRz, tIfx, sPar3, sRaiseB, iZip, iEnu, fMet, fMkd, fMkk, look, peek, bo, opt, mkL, mkT, small, fnG, mkG, int2, negC, seqD, hName, hCons, hNil, hTup, par2, appD, isOw, frz, setF, ptI, isiD, notScr, env0, env0I, selfF, runB, runI, cAbs, cLen, isNone, strD, payD, tryD, noErr, cLenS, itemS, dSub, dLt, dLe, dGt, dGe, notB, isO, zipD, zipL, par3, rzD, Res.bind_ok, Res.bind_err, Res.bind_bad, seq_nx, seq_rt, seq_err, bnd_ok, bnd_err, loop_nx, loop_rt, for_nil, for_cons, int_i, addA, h1, h2, h3, h4, h5, h6, hsz, hl']
theorem loopA : ∀ (ss acc : List Int) (c : Int) (S x3 : Option B), (∀ s ∈ ss, 0 < s ∧ s.natAbs.log2 < 9000) → acc.length + ss.length ≤ 1000 → ∃ (ys : List Int) (c' : Int) (x3' : Option B), Fits ys ss ∧
    forD (hName 3) sbody (ss.map .int) [some (.sh (.int c)), S, some (.ow (.lst (acc.map .int))), x3, none, none, none] = .nx [some (.sh (.int c')), S, some (.ow (.lst ((acc ++ ys).map .int))), x3', none, none, none]
  | [], acc, c, S, x3, _, _ => ⟨[], c, x3, trivial, by simp [for_nil]⟩
  | s :: ss, acc, c, S, x3, hp, hl => by
    obtain ⟨hs, hlog⟩ := hp s List.mem_cons_self
    have h1 := mod_ok (i := c) (j := s) (by omega)
    have h2 := fdiv_ok (i := c) (j := s) (by omega) hlog
    obtain ⟨ys, c', x3', h3, h4⟩ := loopA ss (acc ++ [c.fmod s]) (c.fdiv s) S (some (.sh (.int s))) (fun t ht => hp t (List.mem_cons_of_mem _ ht)) (by simp at hl ⊢; omega)
    refine ⟨c.fmod s :: ys, c', x3', ⟨fm hs, h3⟩, ?_⟩
    have hl' : acc.length + 1 ≤ 1000000 := by simp at hl; omega
    have e : sbody [some (.sh (.int c)), S, some (.ow (.lst (acc.map .int))), some (.sh (.int s)), none, none, none] = .nx [some (.sh (.int (c.fdiv s))), S, some (.ow (.lst ((acc ++ [c.fmod s]).map .int))), some (.sh (.int s)), none, none, none] := by
      unfold sbody
      simp [fK, fOp, fU, fM, fIsN, fNotN, tB', tNot', tAnd', tOr', vAnd, vOr, vNot, fIf, lNil, lCons, fLst, fTup, fCall, fMk, fB, fSlc, oNo, oSo, fSplit, fLc, iSq, iR1, tYes', zF, zS, fF1, fF3, sSeq, sRet, sIf, sSet, sSetO, sFor, sApp, sPar, sAsg, sRaise, sFld, sFrz, sBad, sTryAs, fN, fRz, tIfx, sPar3, sRaiseB, iZip, iEnu, fMet, fMkd, fMkk, look, peek, bo, opt, mkL, mkT, small, fnG, mkG, int2, negC, seqD, hName, hCons, hNil, hTup, par2, appD, isOw, frz, setF, ptI, isiD, notScr, env0, env0I, selfF, runB, runI, cAbs, cLen, isNone, strD, payD, tryD, noErr, cLenS, itemS, dSub, dLt, dLe, dGt, dGe, notB, isO, zipD, zipL, par3, rzD, Res.bind_ok, Res.bind_err, Res.bind_bad, seq_nx, seq_rt, seq_err, bnd_ok, bnd_err, loop_nx, loop_rt, for_nil, for_cons, int_i, h1, h2, hl']
    rw [List.map_cons, for_st]
    simp only [List.set]
    rw [e, loop_nx, h4]
    simp
theorem loopB (ss : List Int) (S : Int) (x0 x3 : Option B) (hS : 0 ≤ S ∧ S < 2147483647) (hp : ∀ s ∈ ss, 0 < s) (hn : ss.length ≤ 1000) : ∀ (m i : Nat) (acc : List Int) (x5 x6 : Option B), i + m = ss.length → acc.length ≤ 1000 + i → ∃ (ys : List Int) (x5' x6' : Option B), Fits ys (ss.drop i) ∧
    forD (hName 5) rbody ((List.range' i m).map fun k => D.int (k : Nat)) [x0, some (.sh (.lst (ss.map .int))), some (.ow (.lst (acc.map .int))), x3, some (.sh (.int S)), x5, x6] = .nx [x0, some (.sh (.lst (ss.map .int))), some (.ow (.lst ((acc ++ ys).map .int))), x3, some (.sh (.int S)), x5', x6']
  | 0, i, acc, x5, x6, h, _ => ⟨[], x5, x6, by rw [List.drop_eq_nil_of_le (by omega)]; trivial, by simp [for_nil]⟩
  | m + 1, i, acc, x5, x6, h, hl => by
    have hi : i < ss.length := by omega
    have hsz : itemD (.lst (ss.map .int)) (.int (i : Nat)) = some (.int ss[i]) := by
      show atI (ss.map D.int) (i : Int) = _
      rw [atI_nat (v := .int ss[i]) (by simp [hi])]
    obtain ⟨r, x6', b, e⟩ := row_step S ss[i] i (ss.map .int) (acc.map .int) x0 x3 x5 x6 hS (by omega) hsz (hp _ (List.getElem_mem hi)) (by simp; omega)
    obtain ⟨ys, x5', x6'', h3, h4⟩ := loopB ss S x0 x3 hS hp hn m (i + 1) (acc ++ [r]) (some (.sh (.int (i : Nat)))) x6' (by omega) (by simp; omega)
    refine ⟨r :: ys, x5', x6'', ?_, ?_⟩
    · rw [List.drop_eq_getElem_cons hi]
      exact ⟨b, h3⟩
    · rw [List.range'_succ, List.map_cons, for_st]
      simp only [List.set]
      rw [e, loop_nx]
      have e2 : (acc.map D.int ++ [D.int r]) = (acc ++ [r]).map .int := by simp
      rw [e2, h4]
      simp
theorem rowA (c : Int) (ss : List Int) (hp : ∀ s ∈ ss, 0 < s ∧ s.natAbs.log2 < 9000) (hn : ss.length ≤ 1000) : ∃ (xs : List Int) (ρ : Env), fr__law_row_0 [some (.sh (.int c)), some (.sh (.lst (ss.map .int))), some (.ow (.lst [])), none, none, none, none] = .nx ρ ∧ ρ[2]? = some (some (.ow (.lst (xs.map .int)))) ∧ Fits xs ss := by
  obtain ⟨ys, c', x3', h1, h2⟩ := loopA ss [] c (some (.sh (.lst (ss.map .int)))) none hp (by simpa using hn)
  rw [List.map_nil, List.nil_append] at h2
  have e1 : fr__law_row_0 = sFor (iSq (look 1)) (hName 3) sbody := rfl
  rw [e1]
  exact ⟨ys, _, h2, rfl, h1⟩
theorem rowB (c S : Int) (ss : List Int) (hS : 0 ≤ S ∧ S < 2147483647) (hp : ∀ s ∈ ss, 0 < s) (hn : ss.length ≤ 1000) : ∃ (xs : List Int) (ρ : Env), fr__law_row_1 [some (.sh (.int c)), some (.sh (.lst (ss.map .int))), some (.ow (.lst [])), none, some (.sh (.int S)), none, none] = .nx ρ ∧ ρ[2]? = some (some (.ow (.lst (xs.map .int)))) ∧ Fits xs ss := by
  obtain ⟨ys, x5', x6', h1, h2⟩ := loopB ss S (some (.sh (.int c))) none hS hp hn ss.length 0 [] none none (by omega) (by simp)
  rw [List.map_nil, List.nil_append] at h2
  have hlen : cLen [.lst (ss.map .int)] = some (.int (ss.length : Nat)) := by
    simp [cLen, List.length_map]
  have hr : rng1 [.int (ss.length : Nat)] = .ok ((List.range' 0 ss.length).map fun k => D.int (k : Nat)) := by
    unfold rng1
    dsimp only
    rw [if_pos (by omega), ← List.range_eq_range']
    simp [rngD]
  have e1 : fr__law_row_1 = sFor (iR1 (lCons (fB cLen (lCons (peek 1) lNil)) lNil)) (hName 5) rbody := rfl
  have e2 : iR1 (lCons (fB cLen (lCons (peek 1) lNil)) lNil) [some (.sh (.int c)), some (.sh (.lst (ss.map .int))), some (.ow (.lst [])), none, some (.sh (.int S)), none, none] = .ok ((List.range' 0 ss.length).map fun k => D.int (k : Nat)) := by
    rw [← hr]
    simp [fK, fOp, fU, fM, fIsN, fNotN, tB', tNot', tAnd', tOr', vAnd, vOr, vNot, fIf, lNil, lCons, fLst, fTup, fCall, fMk, fB, fSlc, oNo, oSo, fSplit, fLc, iSq, iR1, tYes', zF, zS, fF1, fF3, sSeq, sRet, sIf, sSet, sSetO, sFor, sApp, sPar, sAsg, sRaise, sFld, sFrz, sBad, sTryAs, fN, fRz, tIfx, sPar3, sRaiseB, iZip, iEnu, fMet, fMkd, fMkk, look, peek, bo, opt, mkL, mkT, small, fnG, mkG, int2, negC, seqD, hName, hCons, hNil, hTup, par2, appD, isOw, frz, setF, ptI, isiD, notScr, env0, env0I, selfF, runB, runI, cAbs, cLen, isNone, strD, payD, tryD, noErr, cLenS, itemS, dSub, dLt, dLe, dGt, dGe, notB, isO, zipD, zipL, par3, rzD, Res.bind_ok, Res.bind_err, Res.bind_bad, seq_nx, seq_rt, seq_err, bnd_ok, bnd_err, loop_nx, loop_rt, for_nil, for_cons, int_i, hlen]
  rw [e1]
  show ∃ (xs : List Int) (ρ : Env), bindS (iR1 (lCons (fB cLen (lCons (peek 1) lNil)) lNil) [some (.sh (.int c)), some (.sh (.lst (ss.map .int))), some (.ow (.lst [])), none, some (.sh (.int S)), none, none]) _ (fun items => forD (hName 5) rbody items [some (.sh (.int c)), some (.sh (.lst (ss.map .int))), some (.ow (.lst [])), none, some (.sh (.int S)), none, none]) = .nx ρ ∧ _
  rw [e2]
  exact ⟨ys, _, h2, rfl, h1⟩
theorem rowA' (c : Int) (ss : List Int) (h : (1000000000000000000 : Int) ≤ c) (ys : List Int) (ρ : Env) (e : fr__law_row_0 [some (.sh (.int c)), some (.sh (.lst (ss.map .int))), some (.ow (.lst [])), none, none, none, none] = .nx ρ) (h2 : ρ[2]? = some (some (.ow (.lst (ys.map .int))))) : G__law_row [.int c, .lst (ss.map .int)] = .ok (.lst (ys.map .int)) := by
  have h3 : (ρ.set 2 (some (.sh (.lst (ys.map .int)))))[2]? = some (some (.sh (.lst (ys.map .int)))) := get_set_self (lt_of_get h2)
  unfold G__law_row g__law_row
  generalize fr__law_row_0 = f0 at *
  generalize fr__law_row_1 = f1 at *
  simp [fK, fOp, fU, fM, fIsN, fNotN, tB', tNot', tAnd', tOr', vAnd, vOr, vNot, fIf, lNil, lCons, fLst, fTup, fCall, fMk, fB, fSlc, oNo, oSo, fSplit, fLc, iSq, iR1, tYes', zF, zS, fF1, fF3, sSeq, sRet, sIf, sSet, sSetO, sFor, sApp, sPar, sAsg, sRaise, sFld, sFrz, sBad, sTryAs, fN, fRz, tIfx, sPar3, sRaiseB, iZip, iEnu, fMet, fMkd, fMkk, look, peek, bo, opt, mkL, mkT, small, fnG, mkG, int2, negC, seqD, hName, hCons, hNil, hTup, par2, appD, isOw, frz, setF, ptI, isiD, notScr, env0, env0I, selfF, runB, runI, cAbs, cLen, isNone, strD, payD, tryD, noErr, cLenS, itemS, dSub, dLt, dLe, dGt, dGe, notB, isO, zipD, zipL, par3, rzD, Res.bind_ok, Res.bind_err, Res.bind_bad, seq_nx, seq_rt, seq_err, bnd_ok, bnd_err, loop_nx, loop_rt, for_nil, for_cons, int_i, p18, h, e, h2]
  simp only [h3, bnd_ok, seq_rt]
theorem run_row (g1 : Env → Res Bool) (g2 : Env → Res D) (f0 f1 : Env → RS) (a b S : D) (ys : List D) (ρ : Env) (t1 : g1 [some (.sh a), some (.sh b), some (.ow (.lst [])), none, none, none, none] = .ok false) (t2 : g2 [some (.sh a), some (.sh b), some (.ow (.lst [])), none, none, none, none] = .ok S)
    (e : f1 [some (.sh a), some (.sh b), some (.ow (.lst [])), none, some (.sh S), none, none] = .nx ρ) (h2 : ρ[2]? = some (some (.ow (.lst ys)))) :
    runB (sSeq (sSetO 2 (fLst lNil)) (sSeq (sIf g1 (sSeq f0 (sFrz 2 (sRet (look 2)))) .nx) (sSeq (sSet 4 g2) (sSeq f1 (sFrz 2 (sRet (look 2))))))) 7 [a, b] = .ok (.lst ys) := by
  have h3 : (ρ.set 2 (some (.sh (.lst ys))))[2]? = some (some (.sh (.lst ys))) := get_set_self (lt_of_get h2)
  simp [fK, fOp, fU, fM, fIsN, fNotN, tB', tNot', tAnd', tOr', vAnd, vOr, vNot, fIf, lNil, lCons, fLst, fTup, fCall, fMk, fB, fSlc, oNo, oSo, fSplit, fLc, iSq, iR1, tYes', zF, zS, fF1, fF3, sSeq, sRet, sIf, sSet, sSetO, sFor, sApp, sPar, sAsg, sRaise, sFld, sFrz, sBad, sTryAs, fN, fRz, tIfx, sPar3, sRaiseB, iZip, iEnu, fMet, fMkd, fMkk, look, peek, bo, opt, mkL, mkT, small, fnG, mkG, int2, negC, seqD, hName, hCons, hNil, hTup, par2, appD, isOw, frz, setF, ptI, isiD, notScr, env0, env0I, selfF, runB, runI, cAbs, cLen, isNone, strD, payD, tryD, noErr, cLenS, itemS, dSub, dLt, dLe, dGt, dGe, notB, isO, zipD, zipL, par3, rzD, Res.bind_ok, Res.bind_err, Res.bind_bad, seq_nx, seq_rt, seq_err, bnd_ok, bnd_err, loop_nx, loop_rt, for_nil, for_cons, int_i, t1, t2, e, h2]
  simp only [h3, bnd_ok]
theorem dge_no {c N : Int} (h : ¬ N ≤ c) : dGe (.int c) (.int N) = some (.bl false) := by
  show some (D.bl (decide (N ≤ c))) = _
  rw [decide_eq_false h]
theorem ge_no {a b : Int} {c N : Int} {x y : Option B} (p : powC a b = some (.int N)) (h : ¬ N ≤ c) : tB' (fOp dGe (peek 0) (fOp (int2 powC) (fK (.int a)) (fK (.int b)))) [some (.sh (.int c)), x, y, none, none, none, none] = .ok false := by
  simp [fK, fOp, fU, fM, fIsN, fNotN, tB', tNot', tAnd', tOr', vAnd, vOr, vNot, fIf, lNil, lCons, fLst, fTup, fCall, fMk, fB, fSlc, oNo, oSo, fSplit, fLc, iSq, iR1, tYes', zF, zS, fF1, fF3, sSeq, sRet, sIf, sSet, sSetO, sFor, sApp, sPar, sAsg, sRaise, sFld, sFrz, sBad, sTryAs, fN, fRz, tIfx, sPar3, sRaiseB, iZip, iEnu, fMet, fMkd, fMkk, look, peek, bo, opt, mkL, mkT, small, fnG, mkG, int2, negC, seqD, hName, hCons, hNil, hTup, par2, appD, isOw, frz, setF, ptI, isiD, notScr, env0, env0I, selfF, runB, runI, cAbs, cLen, isNone, strD, payD, tryD, noErr, cLenS, itemS, dSub, dLt, dLe, dGt, dGe, notB, isO, zipD, zipL, par3, rzD, Res.bind_ok, Res.bind_err, Res.bind_bad, seq_nx, seq_rt, seq_err, bnd_ok, bnd_err, loop_nx, loop_rt, for_nil, for_cons, int_i, p, h]
theorem md_ok {c S M : Int} {x y : Option B} (m1 : modC c M = some (.int S)) : fOp (int2 modC) (fB cInt2 (lCons (peek 0) lNil)) (fK (.int M)) [some (.sh (.int c)), x, y, none, none, none, none] = .ok (.int S) := by
  simp [fK, fOp, fU, fM, fIsN, fNotN, tB', tNot', tAnd', tOr', vAnd, vOr, vNot, fIf, lNil, lCons, fLst, fTup, fCall, fMk, fB, fSlc, oNo, oSo, fSplit, fLc, iSq, iR1, tYes', zF, zS, fF1, fF3, sSeq, sRet, sIf, sSet, sSetO, sFor, sApp, sPar, sAsg, sRaise, sFld, sFrz, sBad, sTryAs, fN, fRz, tIfx, sPar3, sRaiseB, iZip, iEnu, fMet, fMkd, fMkk, look, peek, bo, opt, mkL, mkT, small, fnG, mkG, int2, negC, seqD, hName, hCons, hNil, hTup, par2, appD, isOw, frz, setF, ptI, isiD, notScr, env0, env0I, selfF, runB, runI, cAbs, cLen, isNone, strD, payD, tryD, noErr, cLenS, itemS, dSub, dLt, dLe, dGt, dGe, notB, isO, zipD, zipL, par3, rzD, Res.bind_ok, Res.bind_err, Res.bind_bad, seq_nx, seq_rt, seq_err, bnd_ok, bnd_err, loop_nx, loop_rt, for_nil, for_cons, int_i, m1]
theorem row_is : G__law_row = runB (sSeq (sSetO 2 (fLst lNil)) (sSeq (sIf (tB' (fOp dGe (peek 0) (fOp (int2 powC) (fK (.int 10)) (fK (.int 18))))) (sSeq fr__law_row_0 (sFrz 2 (sRet (look 2)))) .nx) (sSeq (sSet 4 (fOp (int2 modC) (fB cInt2 (lCons (peek 0) lNil)) (fK (.int 2147483647)))) (sSeq fr__law_row_1 (sFrz 2 (sRet (look 2))))))) 7 := rfl
theorem rowB' (c S : Int) (ss : List Int) (h : ¬ (1000000000000000000 : Int) ≤ c) (m1 : modC c 2147483647 = some (.int S)) (ys : List Int) (ρ : Env) (e : fr__law_row_1 [some (.sh (.int c)), some (.sh (.lst (ss.map .int))), some (.ow (.lst [])), none, some (.sh (.int S)), none, none] = .nx ρ) (h2 : ρ[2]? = some (some (.ow (.lst (ys.map .int))))) : G__law_row [.int c, .lst (ss.map .int)] = .ok (.lst (ys.map .int)) := by
  rw [row_is]
  exact run_row _ _ _ _ _ _ _ _ ρ (ge_no p18 h) (md_ok m1) e h2
/-- the draws: numbers below their sizes -/
theorem row_all (c : Int) (ss : List Int) (hp : ∀ s ∈ ss, 0 < s ∧ s.natAbs.log2 < 9000) (hn : ss.length ≤ 1000) : ∃ xs : List Int, G__law_row [.int c, .lst (ss.map .int)] = .ok (.lst (xs.map .int)) ∧ Fits xs ss := by
  by_cases h : (1000000000000000000 : Int) ≤ c
  · obtain ⟨ys, ρ, e, h2, h1⟩ := rowA c ss hp hn
    exact ⟨ys, rowA' c ss h ys ρ e h2, h1⟩
  · have hS := fm (i := c) (j := 2147483647) (by decide)
    have m1 := mod_ok (i := c) (j := 2147483647) (by decide)
    obtain ⟨ys, ρ, e, h2, h1⟩ := rowB c _ ss hS (fun s hs => (hp s hs).1) hn
    exact ⟨ys, rowB' c _ ss h m1 ys ρ e h2, h1⟩
end DL.K2
namespace DL.K2
open PySem L2
section
variable {x y p q : Int} {l r : D}
theorem nm_ns (h : Nm r p q) : notScr r = true := by
  rcases h with rfl | ⟨rfl, rfl⟩ <;> rfl
theorem req_eq (hd : Nm r p q) : G_Ratio___eq__ [rat x y, r] = .ok (.bl (decide (p = x ∧ q = y))) := by
  have n1 := num_n hd
  have n2 := halves_n hd
  have e := eq_pp p q x y
  unfold G_Ratio___eq__ g_Ratio___eq__
  simp [fK, fOp, fU, fM, fIsN, fNotN, tB', tNot', tAnd', tOr', vAnd, vOr, vNot, fIf, lNil, lCons, fLst, fTup, fCall, fMk, fB, fSlc, oNo, oSo, fSplit, fLc, iSq, iR1, tYes', zF, zS, fF1, fF3, sSeq, sRet, sIf, sSet, sSetO, sFor, sApp, sPar, sAsg, sRaise, sFld, sFrz, sBad, sTryAs, fN, fRz, tIfx, sPar3, sRaiseB, iZip, iEnu, fMet, fMkd, fMkk, look, peek, bo, opt, mkL, mkT, small, fnG, mkG, int2, negC, seqD, hName, hCons, hNil, hTup, par2, appD, isOw, frz, setF, ptI, isiD, notScr, env0, env0I, selfF, runB, runI, cAbs, cLen, isNone, strD, payD, tryD, noErr, cLenS, itemS, dSub, dLt, dLe, dGt, dGe, notB, isO, zipD, zipL, par3, rzD, Res.bind_ok, Res.bind_err, Res.bind_bad, seq_nx, seq_rt, seq_err, bnd_ok, bnd_err, loop_nx, loop_rt, for_nil, for_cons, int_i, fldT, fldB, n1, n2, e]
theorem oEq (hl : Nm l x y) (hd : Nm r p q) (o : One l r) : eqN G_Ratio___eq__ l r = .ok (.bl (decide (x = p ∧ y = q))) := by
  rcases hl with rfl | ⟨rfl, rfl⟩
  · have e : eqN G_Ratio___eq__ (rat x y) r = G_Ratio___eq__ [rat x y, r] := by
      show (if notScr r = true then fnG 2 G_Ratio___eq__ [rat x y, r] else .bad) = _
      rw [if_pos (nm_ns hd)]
      rfl
    rw [e, req_eq hd]
    congr 3
    exact propext ⟨fun h => ⟨h.1.symm, h.2.symm⟩, fun h => ⟨h.1.symm, h.2.symm⟩⟩
  · rcases hd with rfl | ⟨rfl, rfl⟩
    · have e : eqN G_Ratio___eq__ (.int x) (rat p q) = G_Ratio___eq__ [rat p q, .int x] := rfl
      rw [e, req_eq (.inr ⟨rfl, rfl⟩ : Nm (.int x) x 1)]
    · rcases o with ⟨_, _, z⟩ | ⟨_, _, z⟩ <;> cases z
theorem oNe (hl : Nm l x y) (hd : Nm r p q) (o : One l r) : neN G_Ratio___eq__ l r = .ok (.bl (!decide (x = p ∧ y = q))) := by
  rcases hl with rfl | ⟨rfl, rfl⟩
  · have e : neN G_Ratio___eq__ (rat x y) r = (G_Ratio___eq__ [rat x y, r] >>= notB) := by
      show (if notScr r = true then (do let r ← fnG 2 G_Ratio___eq__ [rat x y, r]; notB r) else .bad) = _
      rw [if_pos (nm_ns hd)]
      rfl
    rw [e, req_eq hd]
    show Res.ok (D.bl (!decide (p = x ∧ q = y))) = _
    congr 4
    exact propext ⟨fun h => ⟨h.1.symm, h.2.symm⟩, fun h => ⟨h.1.symm, h.2.symm⟩⟩
  · rcases hd with rfl | ⟨rfl, rfl⟩
    · have e : neN G_Ratio___eq__ (.int x) (rat p q) = (G_Ratio___eq__ [rat p q, .int x] >>= notB) := rfl
      rw [e, req_eq (.inr ⟨rfl, rfl⟩ : Nm (.int x) x 1)]
      rfl
    · rcases o with ⟨_, _, z⟩ | ⟨_, _, z⟩ <;> cases z
theorem less_eq (hl : Nm l x y) (hd : Nm r p q) (bx : x.natAbs < 10 ^ 40) (bY : y.natAbs < 10 ^ 40) (bp : p.natAbs < 10 ^ 40) (bq : q.natAbs < 10 ^ 40) : G_less [l, r] = .ok (.bl (decide (x * q < p * y))) := by
  have n1 := halves_n hl
  have n2 := halves_n hd
  have m1 := mulB_ok (i := x) (j := q) (by omega) (by omega)
  have m2 := mulB_ok (i := p) (j := y) (by omega) (by omega)
  unfold G_less g_less
  simp [fK, fOp, fU, fM, fIsN, fNotN, tB', tNot', tAnd', tOr', vAnd, vOr, vNot, fIf, lNil, lCons, fLst, fTup, fCall, fMk, fB, fSlc, oNo, oSo, fSplit, fLc, iSq, iR1, tYes', zF, zS, fF1, fF3, sSeq, sRet, sIf, sSet, sSetO, sFor, sApp, sPar, sAsg, sRaise, sFld, sFrz, sBad, sTryAs, fN, fRz, tIfx, sPar3, sRaiseB, iZip, iEnu, fMet, fMkd, fMkk, look, peek, bo, opt, mkL, mkT, small, fnG, mkG, int2, negC, seqD, hName, hCons, hNil, hTup, par2, appD, isOw, frz, setF, ptI, isiD, notScr, env0, env0I, selfF, runB, runI, cAbs, cLen, isNone, strD, payD, tryD, noErr, cLenS, itemS, dSub, dLt, dLe, dGt, dGe, notB, isO, zipD, zipL, par3, rzD, Res.bind_ok, Res.bind_err, Res.bind_bad, seq_nx, seq_rt, seq_err, bnd_ok, bnd_err, loop_nx, loop_rt, for_nil, for_cons, int_i, n1, n2, m1, m2, it0, it1]
theorem over_eq (h : Low x y) (hd : Nm r p q) (hq : Low p q) (hp : p ≠ 0) : G_Ratio_over [rat x y, r] = .ok (rat (ct (x * q) (y * p)) (cb (x * q) (y * p))) := by
  have n2 := halves_n hd
  have m1 := mulB_ok (i := x) (j := q) (by have := h.bx; omega) (by have := hq.bY; omega)
  have m3 := mulB_ok (i := y) (j := p) (by have := h.bY; omega) (by have := hq.bx; omega)
  have b3 := mul_lt h.bY hq.bx e80
  have hi := init_eq (x * q) (y * p) (Int.mul_ne_zero h.nz hp) (by have := eB; omega)
  unfold G_Ratio_over g_Ratio_over
  simp [fK, fOp, fU, fM, fIsN, fNotN, tB', tNot', tAnd', tOr', vAnd, vOr, vNot, fIf, lNil, lCons, fLst, fTup, fCall, fMk, fB, fSlc, oNo, oSo, fSplit, fLc, iSq, iR1, tYes', zF, zS, fF1, fF3, sSeq, sRet, sIf, sSet, sSetO, sFor, sApp, sPar, sAsg, sRaise, sFld, sFrz, sBad, sTryAs, fN, fRz, tIfx, sPar3, sRaiseB, iZip, iEnu, fMet, fMkd, fMkk, look, peek, bo, opt, mkL, mkT, small, fnG, mkG, int2, negC, seqD, hName, hCons, hNil, hTup, par2, appD, isOw, frz, setF, ptI, isiD, notScr, env0, env0I, selfF, runB, runI, cAbs, cLen, isNone, strD, payD, tryD, noErr, cLenS, itemS, dSub, dLt, dLe, dGt, dGe, notB, isO, zipD, zipL, par3, rzD, Res.bind_ok, Res.bind_err, Res.bind_bad, seq_nx, seq_rt, seq_err, bnd_ok, bnd_err, loop_nx, loop_rt, for_nil, for_cons, int_i, fldT, fldB, n2, m1, m3, hi]
theorem over_zero (h : Low x y) (hd : Nm r 0 q) (bq : q.natAbs < 10 ^ 40) : G_Ratio_over [rat x y, r] = .err 0 none := by
  have n2 := halves_n hd
  have m1 := mulB_ok (i := x) (j := q) (by have := h.bx; omega) (by omega)
  have m3 := mulB_ok (i := y) (j := 0) (by have := h.bY; omega) (by decide)
  rw [Int.mul_zero] at m3
  have hi := init_zero (x * q)
  unfold G_Ratio_over g_Ratio_over
  simp [fK, fOp, fU, fM, fIsN, fNotN, tB', tNot', tAnd', tOr', vAnd, vOr, vNot, fIf, lNil, lCons, fLst, fTup, fCall, fMk, fB, fSlc, oNo, oSo, fSplit, fLc, iSq, iR1, tYes', zF, zS, fF1, fF3, sSeq, sRet, sIf, sSet, sSetO, sFor, sApp, sPar, sAsg, sRaise, sFld, sFrz, sBad, sTryAs, fN, fRz, tIfx, sPar3, sRaiseB, iZip, iEnu, fMet, fMkd, fMkk, look, peek, bo, opt, mkL, mkT, small, fnG, mkG, int2, negC, seqD, hName, hCons, hNil, hTup, par2, appD, isOw, frz, setF, ptI, isiD, notScr, env0, env0I, selfF, runB, runI, cAbs, cLen, isNone, strD, payD, tryD, noErr, cLenS, itemS, dSub, dLt, dLe, dGt, dGe, notB, isO, zipD, zipL, par3, rzD, Res.bind_ok, Res.bind_err, Res.bind_bad, seq_nx, seq_rt, seq_err, bnd_ok, bnd_err, loop_nx, loop_rt, for_nil, for_cons, int_i, fldT, fldB, n2, m1, m3, hi]
theorem isO_r : isO 0 (rat x y) = .ok (rat x y) := rfl
theorem lOver (h : Low x y) (hd : Nm r p q) (hq : Low p q) : G__law_over [rat x y, r, pr x y, pr p q] = .ok (.bl true) := by
  have m1 := mulB_ok (i := x) (j := q) (by have := h.bx; omega) (by have := hq.bY; omega)
  have m3 := mulB_ok (i := y) (j := p) (by have := h.bY; omega) (by have := hq.bx; omega)
  have b3 := mul_lt h.bY hq.bx e80
  by_cases hp : p = 0
  · subst hp
    have e1 := eq_ii 0 0
    have e2 := over_zero h hd hq.bY
    unfold G__law_over g__law_over
    simp [fK, fOp, fU, fM, fIsN, fNotN, tB', tNot', tAnd', tOr', vAnd, vOr, vNot, fIf, lNil, lCons, fLst, fTup, fCall, fMk, fB, fSlc, oNo, oSo, fSplit, fLc, iSq, iR1, tYes', zF, zS, fF1, fF3, sSeq, sRet, sIf, sSet, sSetO, sFor, sApp, sPar, sAsg, sRaise, sFld, sFrz, sBad, sTryAs, fN, fRz, tIfx, sPar3, sRaiseB, iZip, iEnu, fMet, fMkd, fMkk, look, peek, bo, opt, mkL, mkT, small, fnG, mkG, int2, negC, seqD, hName, hCons, hNil, hTup, par2, appD, isOw, frz, setF, ptI, isiD, notScr, env0, env0I, selfF, runB, runI, cAbs, cLen, isNone, strD, payD, tryD, noErr, cLenS, itemS, dSub, dLt, dLe, dGt, dGe, notB, isO, zipD, zipL, par3, rzD, Res.bind_ok, Res.bind_err, Res.bind_bad, seq_nx, seq_rt, seq_err, bnd_ok, bnd_err, loop_nx, loop_rt, for_nil, for_cons, int_i, it0, it1, e1, e2, isO_r]
  · have e1 := eq_ii p 0
    rw [decide_eq_false hp] at e1
    have e2 := over_eq h hd hq hp
    have e3 := low_eq (x * q) (y * p) (Int.mul_ne_zero h.nz hp) (by have := eB; omega)
    have e4 := right_eq (ct (x * q) (y * p)) (cb (x * q) (y * p))
    unfold G__law_over g__law_over
    simp [fK, fOp, fU, fM, fIsN, fNotN, tB', tNot', tAnd', tOr', vAnd, vOr, vNot, fIf, lNil, lCons, fLst, fTup, fCall, fMk, fB, fSlc, oNo, oSo, fSplit, fLc, iSq, iR1, tYes', zF, zS, fF1, fF3, sSeq, sRet, sIf, sSet, sSetO, sFor, sApp, sPar, sAsg, sRaise, sFld, sFrz, sBad, sTryAs, fN, fRz, tIfx, sPar3, sRaiseB, iZip, iEnu, fMet, fMkd, fMkk, look, peek, bo, opt, mkL, mkT, small, fnG, mkG, int2, negC, seqD, hName, hCons, hNil, hTup, par2, appD, isOw, frz, setF, ptI, isiD, notScr, env0, env0I, selfF, runB, runI, cAbs, cLen, isNone, strD, payD, tryD, noErr, cLenS, itemS, dSub, dLt, dLe, dGt, dGe, notB, isO, zipD, zipL, par3, rzD, Res.bind_ok, Res.bind_err, Res.bind_bad, seq_nx, seq_rt, seq_err, bnd_ok, bnd_err, loop_nx, loop_rt, for_nil, for_cons, int_i, it0, it1, e1, e2, e3, e4, m1, m3, isO_r]
theorem plain_one (hd : Nm r x 1) : G_plain [r] = .ok (.int x) := by
  have n2 := halves_n hd
  have e1 := eq_ii 1 1
  unfold G_plain g_plain
  simp [fK, fOp, fU, fM, fIsN, fNotN, tB', tNot', tAnd', tOr', vAnd, vOr, vNot, fIf, lNil, lCons, fLst, fTup, fCall, fMk, fB, fSlc, oNo, oSo, fSplit, fLc, iSq, iR1, tYes', zF, zS, fF1, fF3, sSeq, sRet, sIf, sSet, sSetO, sFor, sApp, sPar, sAsg, sRaise, sFld, sFrz, sBad, sTryAs, fN, fRz, tIfx, sPar3, sRaiseB, iZip, iEnu, fMet, fMkd, fMkk, look, peek, bo, opt, mkL, mkT, small, fnG, mkG, int2, negC, seqD, hName, hCons, hNil, hTup, par2, appD, isOw, frz, setF, ptI, isiD, notScr, env0, env0I, selfF, runB, runI, cAbs, cLen, isNone, strD, payD, tryD, noErr, cLenS, itemS, dSub, dLt, dLe, dGt, dGe, notB, isO, zipD, zipL, par3, rzD, Res.bind_ok, Res.bind_err, Res.bind_bad, seq_nx, seq_rt, seq_err, bnd_ok, bnd_err, loop_nx, loop_rt, for_nil, for_cons, int_i, n2, e1]
theorem plain_not (hd : Nm r x y) (hy : y ≠ 1) : G_plain [r] = .ok r ∧ r = rat x y := by
  have n2 := halves_n hd
  have e1 := eq_ii y 1
  rw [decide_eq_false hy] at e1
  refine ⟨?_, ?_⟩
  · unfold G_plain g_plain
    simp [fK, fOp, fU, fM, fIsN, fNotN, tB', tNot', tAnd', tOr', vAnd, vOr, vNot, fIf, lNil, lCons, fLst, fTup, fCall, fMk, fB, fSlc, oNo, oSo, fSplit, fLc, iSq, iR1, tYes', zF, zS, fF1, fF3, sSeq, sRet, sIf, sSet, sSetO, sFor, sApp, sPar, sAsg, sRaise, sFld, sFrz, sBad, sTryAs, fN, fRz, tIfx, sPar3, sRaiseB, iZip, iEnu, fMet, fMkd, fMkk, look, peek, bo, opt, mkL, mkT, small, fnG, mkG, int2, negC, seqD, hName, hCons, hNil, hTup, par2, appD, isOw, frz, setF, ptI, isiD, notScr, env0, env0I, selfF, runB, runI, cAbs, cLen, isNone, strD, payD, tryD, noErr, cLenS, itemS, dSub, dLt, dLe, dGt, dGe, notB, isO, zipD, zipL, par3, rzD, Res.bind_ok, Res.bind_err, Res.bind_bad, seq_nx, seq_rt, seq_err, bnd_ok, bnd_err, loop_nx, loop_rt, for_nil, for_cons, int_i, n2, e1]
  · rcases hd with rfl | ⟨rfl, rfl⟩
    · rfl
    · exact absurd rfl hy
end
end DL.K2
namespace DL.K2
open PySem L2
/-! ### the draws -/
theorem it_ints (zs : List Int) (a : Int) (h : 0 ≤ a ∧ a < zs.length) : ∃ z, itemD (.lst (zs.map .int)) (.int a) = some (.int z) ∧ z ∈ zs := by
  obtain ⟨n, rfl⟩ := Int.eq_ofNat_of_zero_le h.1
  have hn : n < zs.length := by omega
  refine ⟨zs[n], ?_, List.getElem_mem hn⟩
  show atI (zs.map D.int) ((n : Nat) : Int) = _
  rw [atI_nat (v := .int zs[n]) (by simp [hn])]
theorem pw (a b : Int) (N : Int) (h : 0 ≤ b ∧ b ≤ 1000000 ∧ a.natAbs < 2 ^ 64) (e : a ^ b.toNat = N) : powC a b = some (.int N) := by
  unfold powC
  rw [if_pos h, e]
theorem p30 : ∃ N : Int, 0 < N ∧ N ≤ 10 ^ 31 ∧ powC 10 30 = some (.int N) := ⟨10 ^ 30, by decide +kernel, by decide +kernel, pw 10 30 _ (by decide +kernel) rfl⟩
theorem p9 : ∃ N : Int, N = 1000000000 ∧ powC 10 9 = some (.int N) := ⟨_, rfl, pw 10 9 _ (by decide +kernel) rfl⟩
theorem drawn_ok (c o : Int) : ∃ u v : Int, G__law_drawn [.int c, .int o] = .ok (pr u v) ∧ u.natAbs < 10 ^ 40 ∧ v ≠ 0 ∧ v.natAbs < 10 ^ 40 := by
  obtain ⟨N9, hN9, q9⟩ := p9
  obtain ⟨N, hN, hN', q30⟩ := p30
  obtain ⟨xs, hr, hf⟩ := row_all o [5, 3, N9] (by subst hN9; decide +kernel) (by simp)
  obtain ⟨a, b, d, rfl, ha, hb, hd⟩ : ∃ a b d, xs = [a, b, d] ∧ (0 ≤ a ∧ a < 5) ∧ (0 ≤ b ∧ b < 3) ∧ (0 ≤ d ∧ d < N9) := by
    match xs, hf with
    | [a, b, d], hf => exact ⟨a, b, d, rfl, hf.1, hf.2.1, hf.2.2.1⟩
  replace hr : G__law_row [.int o, .lst [.int 5, .int 3, .int N9]] = .ok (.lst [.int a, .int b, .int d]) := hr
  have m7 := mod_ok (i := c) (j := 7) (by decide)
  have m5 := mod_ok (i := d) (j := 5) (by decide)
  have m6 := mod_ok (i := d) (j := 6) (by decide)
  have m2 := mod_ok (i := d) (j := 2) (by decide)
  have f5 := fm (i := d) (j := 5) (by decide)
  have f6 := fm (i := d) (j := 6) (by decide)
  have f2 := fm (i := d) (j := 2) (by decide)
  have mc : mulB c d = some (.int (c * d)) := if_pos (.inr (.inr (by omega)))
  obtain ⟨U, hU, _⟩ := it_ints [c, c.fmod 7 - 3, 0, c, c * d] a (by simpa using ha)
  obtain ⟨V, hV, hV2⟩ := it_ints [d + 1, -1 - d.fmod 5, 1 + d.fmod 6] b (by simpa using hb)
  obtain ⟨s, hs, hs2⟩ := it_ints [1, -1] (d.fmod 2) (by simpa using f2)
  have mU := mod_ok (i := U) (j := N) (by omega)
  have fU := fm (i := U) (j := N) hN
  have hs3 : s = 1 ∨ s = -1 := by simpa using hs2
  have ms : mulB (U.fmod N) s = some (.int (U.fmod N * s)) := if_pos (.inr (.inr (by omega)))
  have hV3 : V = d + 1 ∨ V = -1 - d.fmod 5 ∨ V = 1 + d.fmod 6 := by simpa using hV2
  simp only [List.map_cons, List.map_nil] at hU hV hs
  have i0 : itemD (.lst [.int a, .int b, .int d]) (.int 0) = some (.int a) := rfl
  have i1 : itemD (.lst [.int a, .int b, .int d]) (.int 1) = some (.int b) := rfl
  have i2 : itemD (.lst [.int a, .int b, .int d]) (.int 2) = some (.int d) := rfl
  refine ⟨U.fmod N * s, V, ?_, ?_, by omega, by omega⟩
  · unfold G__law_drawn g__law_drawn
    simp [fK, fOp, fU, fM, fIsN, fNotN, tB', tNot', tAnd', tOr', vAnd, vOr, vNot, fIf, lNil, lCons, fLst, fTup, fCall, fMk, fB, fSlc, oNo, oSo, fSplit, fLc, iSq, iR1, tYes', zF, zS, fF1, fF3, sSeq, sRet, sIf, sSet, sSetO, sFor, sApp, sPar, sAsg, sRaise, sFld, sFrz, sBad, sTryAs, fN, fRz, tIfx, sPar3, sRaiseB, iZip, iEnu, fMet, fMkd, fMkk, look, peek, bo, opt, mkL, mkT, small, fnG, mkG, int2, negC, seqD, hName, hCons, hNil, hTup, par2, appD, isOw, frz, setF, ptI, isiD, notScr, env0, env0I, selfF, runB, runI, cAbs, cLen, isNone, strD, payD, tryD, noErr, cLenS, itemS, dSub, dLt, dLe, dGt, dGe, notB, isO, zipD, zipL, par3, rzD, Res.bind_ok, Res.bind_err, Res.bind_bad, seq_nx, seq_rt, seq_err, bnd_ok, bnd_err, loop_nx, loop_rt, for_nil, for_cons, int_i, q9, q30, hr, i0, i1, i2, m7, m5, m6, m2, mc, addA, hU, hV, hs, mU, ms]
  · generalize U.fmod N = W at *
    rcases hs3 with rfl | rfl <;> omega
/-! ### the first loop's turn -/
def body0 : Env → RS := (sSeq (sIf (tB' (fOp inD (fK (.bl false)) (fCall 4 G__law_ops (lCons (look 10) (lCons (look 11) (lCons (look 12) (lCons (look 13) lNil)))))))
  (sRet (fK (.bl false)))
  .nx)
  (sSeq (sIf (tOr' (tB' (fOp neD (fN (eqN G_Ratio___eq__) (look 10) (look 11)) (fOp eqD (peek 12) (peek 13)))) (tOr' (tB' (fOp eqD (fN (neN G_Ratio___eq__) (look 10) (look 11)) (fOp eqD (peek 12) (peek 13)))) (tB' (fOp neD (fN (eqN G_Ratio___eq__) (look 11) (look 10)) (fOp eqD (peek 12) (peek 13))))))
  (sRet (fK (.bl false)))
  .nx)
  (sIf (tOr' (tB' (fOp neD (fCall 2 G_less (lCons (look 10) (lCons (look 11) lNil))) (fOp dLt (fOp (int2 mulB) (fOp itemD (peek 12) (fK (.int 0))) (fOp itemD (peek 13) (fK (.int 1)))) (fOp (int2 mulB) (fOp itemD (peek 13) (fK (.int 0))) (fOp itemD (peek 12) (fK (.int 1))))))) (tB' (fOp neD (fCall 2 G_less (lCons (look 11) (lCons (look 10) lNil))) (fOp dLt (fOp (int2 mulB) (fOp itemD (peek 13) (fK (.int 0))) (fOp itemD (peek 12) (fK (.int 1)))) (fOp (int2 mulB) (fOp itemD (peek 12) (fK (.int 0))) (fOp itemD (peek 13) (fK (.int 1))))))))
  (sRet (fK (.bl false)))
  .nx)))
def body2 : Env → RS := (sSeq (sSet 16 (fCall 1 G_plain (lCons (look 15) lNil)))
  (sSeq (sSet 17 (vAnd (fM (isiD ib_int) (peek 16)) (vAnd (vNot (fM (isiD ib_bool) (peek 16))) (fOp eqD (peek 16) (fOp itemD (peek 12) (fK (.int 0)))))))
  (sIf (tIfx (tB' (fOp eqD (fOp itemD (peek 12) (fK (.int 1))) (fK (.int 1)))) (tNot' (tB' (look 17))) (tNot' (tB' (fCall 2 G__law_right (lCons (look 16) (lCons (look 12) lNil))))))
  (sRet (fK (.bl false)))
  .nx)))
theorem in3 : inD (.bl false) (.lst [.bl true, .bl true, .bl true]) = some (.bl false) := rfl
section
variable {x y p q : Int} {l r d : D}
theorem body0_ok (h : Low x y) (hl : Nm l x y) (hd : Nm r p q) (hq : Low p q) (o : One l r) (e0 e1 e2 e3 e4 e5 e6 e7 e8 e9 e14 e15 e16 e17 e18 : Option B) : body0 [e0, e1, e2, e3, e4, e5, e6, e7, e8, e9, some (.sh l), some (.sh r), some (.sh (pr x y)), some (.sh (pr p q)), e14, e15, e16, e17, e18] = .nx [e0, e1, e2, e3, e4, e5, e6, e7, e8, e9, some (.sh l), some (.sh r), some (.sh (pr x y)), some (.sh (pr p q)), e14, e15, e16, e17, e18] := by
  have a1 := ops_eq h hl hd hq o
  have a2 := oEq hl hd o
  have a3 := oNe hl hd o
  have a4 := oEq hd hl (o.elim .inr .inl)
  have a5 := less_eq hl hd h.bx h.bY hq.bx hq.bY
  have a6 := less_eq hd hl hq.bx hq.bY h.bx h.bY
  have e1 := eq_pp x y p q
  have hc : decide (p = x ∧ q = y) = decide (x = p ∧ y = q) := by
    congr 1
    exact propext ⟨fun h => ⟨h.1.symm, h.2.symm⟩, fun h => ⟨h.1.symm, h.2.symm⟩⟩
  rw [hc] at a4
  generalize decide (x = p ∧ y = q) = b at *
  have n1 := ne_bb b b
  have n2 := eq_bb (!b) b
  rw [show (b != b) = false by cases b <;> rfl] at n1
  rw [show ((!b) == b) = false by cases b <;> rfl] at n2
  have m1 := mulB_ok (i := x) (j := q) (by have := h.bx; omega) (by have := hq.bY; omega)
  have m2 := mulB_ok (i := p) (j := y) (by have := hq.bx; omega) (by have := h.bY; omega)
  have g1 : dLt (.int (x * q)) (.int (p * y)) = some (.bl (decide (x * q < p * y))) := rfl
  have g2 : dLt (.int (p * y)) (.int (x * q)) = some (.bl (decide (p * y < x * q))) := rfl
  have k1 : neD (.bl (decide (x * q < p * y))) (.bl (decide (x * q < p * y))) = some (.bl false) := by
    rw [ne_bb]
    simp
  have k2 : neD (.bl (decide (p * y < x * q))) (.bl (decide (p * y < x * q))) = some (.bl false) := by
    rw [ne_bb]
    simp
  unfold body0
  generalize decide (x * q < p * y) = t1 at *
  generalize decide (p * y < x * q) = t2 at *
  generalize eqN G_Ratio___eq__ = fe at *
  generalize neN G_Ratio___eq__ = fn at *
  generalize dLt = ft at *
  simp [fK, fOp, fU, fM, fIsN, fNotN, tB', tNot', tAnd', tOr', vAnd, vOr, vNot, fIf, lNil, lCons, fLst, fTup, fCall, fMk, fB, fSlc, oNo, oSo, fSplit, fLc, iSq, iR1, tYes', zF, zS, fF1, fF3, sSeq, sRet, sIf, sSet, sSetO, sFor, sApp, sPar, sAsg, sRaise, sFld, sFrz, sBad, sTryAs, fN, fRz, tIfx, sPar3, sRaiseB, iZip, iEnu, fMet, fMkd, fMkk, look, peek, bo, opt, mkL, mkT, small, fnG, mkG, int2, negC, seqD, hName, hCons, hNil, hTup, par2, appD, isOw, frz, setF, ptI, isiD, notScr, env0, env0I, selfF, runB, runI, cAbs, cLen, isNone, strD, payD, tryD, noErr, cLenS, itemS, dSub, dLt, dLe, dGt, dGe, notB, isO, zipD, zipL, par3, rzD, Res.bind_ok, Res.bind_err, Res.bind_bad, seq_nx, seq_rt, seq_err, bnd_ok, bnd_err, loop_nx, loop_rt, for_nil, for_cons, int_i, a1, in3, a2, a3, a4, a5, a6, e1, n1, n2, it0, it1, m1, m2, g1, g2, k1, k2]
theorem body2_ok (hd : Nm d x y) (e0 e1 e2 e3 e4 e5 e6 e7 e8 e9 e10 e11 e13 e14 e16 e17 e18 : Option B) : ∃ t u, body2 [e0, e1, e2, e3, e4, e5, e6, e7, e8, e9, e10, e11, some (.sh (pr x y)), e13, e14, some (.sh d), e16, e17, e18] = .nx [e0, e1, e2, e3, e4, e5, e6, e7, e8, e9, e10, e11, some (.sh (pr x y)), e13, e14, some (.sh d), t, u, e18] := by
  by_cases hy : y = 1
  · subst hy
    have a1 := plain_one hd
    have a2 := eq_ii x x
    have a3 := eq_ii 1 1
    refine ⟨some (.sh (.int x)), some (.sh (.bl true)), ?_⟩
    unfold body2
    simp [fK, fOp, fU, fM, fIsN, fNotN, tB', tNot', tAnd', tOr', vAnd, vOr, vNot, fIf, lNil, lCons, fLst, fTup, fCall, fMk, fB, fSlc, oNo, oSo, fSplit, fLc, iSq, iR1, tYes', zF, zS, fF1, fF3, sSeq, sRet, sIf, sSet, sSetO, sFor, sApp, sPar, sAsg, sRaise, sFld, sFrz, sBad, sTryAs, fN, fRz, tIfx, sPar3, sRaiseB, iZip, iEnu, fMet, fMkd, fMkk, look, peek, bo, opt, mkL, mkT, small, fnG, mkG, int2, negC, seqD, hName, hCons, hNil, hTup, par2, appD, isOw, frz, setF, ptI, isiD, notScr, env0, env0I, selfF, runB, runI, cAbs, cLen, isNone, strD, payD, tryD, noErr, cLenS, itemS, dSub, dLt, dLe, dGt, dGe, notB, isO, zipD, zipL, par3, rzD, Res.bind_ok, Res.bind_err, Res.bind_bad, seq_nx, seq_rt, seq_err, bnd_ok, bnd_err, loop_nx, loop_rt, for_nil, for_cons, int_i, a1, a2, a3, it0, it1, ib_int, ib_bool]
  · obtain ⟨a1, rfl⟩ := plain_not hd hy
    have a3 := eq_ii y 1
    rw [decide_eq_false hy] at a3
    have a4 := right_eq x y
    refine ⟨some (.sh (rat x y)), some (.sh (.bl false)), ?_⟩
    unfold body2
    simp [fK, fOp, fU, fM, fIsN, fNotN, tB', tNot', tAnd', tOr', vAnd, vOr, vNot, fIf, lNil, lCons, fLst, fTup, fCall, fMk, fB, fSlc, oNo, oSo, fSplit, fLc, iSq, iR1, tYes', zF, zS, fF1, fF3, sSeq, sRet, sIf, sSet, sSetO, sFor, sApp, sPar, sAsg, sRaise, sFld, sFrz, sBad, sTryAs, fN, fRz, tIfx, sPar3, sRaiseB, iZip, iEnu, fMet, fMkd, fMkk, look, peek, bo, opt, mkL, mkT, small, fnG, mkG, int2, negC, seqD, hName, hCons, hNil, hTup, par2, appD, isOw, frz, setF, ptI, isiD, notScr, env0, env0I, selfF, runB, runI, cAbs, cLen, isNone, strD, payD, tryD, noErr, cLenS, itemS, dSub, dLt, dLe, dGt, dGe, notB, isO, zipD, zipL, par3, rzD, Res.bind_ok, Res.bind_err, Res.bind_bad, seq_nx, seq_rt, seq_err, bnd_ok, bnd_err, loop_nx, loop_rt, for_nil, for_cons, int_i, a1, a3, a4, it0, it1, ib_int, ib_bool]
end
end DL.K2
namespace DL.K2
open PySem L2
section
variable {ns : List Int} {u1 v1 u2 v2 n x0 x1 y0 y1 : Int}
theorem lowN (hn : n.natAbs < 10 ^ 40) : Low n 1 := ⟨by decide, by simp, hn, by decide⟩
theorem h4_is (l r p q : D) (e0 e1 e2 e3 e4 e5 e6 e7 e8 e9 e10 e11 e12 e13 e14 e15 e16 e17 e18 : Option B) : (hTup fun ds ρ => if ds.length = 4 then (hCons (hName 10) (hCons (hName 11) (hCons (hName 12) (hCons (hName 13) hNil)))) ds ρ else none) (.tup [l, r, p, q]) [e0, e1, e2, e3, e4, e5, e6, e7, e8, e9, e10, e11, e12, e13, e14, e15, e16, e17, e18] = some [e0, e1, e2, e3, e4, e5, e6, e7, e8, e9, some (.sh l), some (.sh r), some (.sh p), some (.sh q), e14, e15, e16, e17, e18] := rfl
theorem h2_is (l r : D) (e0 e1 e2 e3 e4 e5 e6 e7 e8 e9 e10 e11 e12 e13 e14 e15 e16 e17 e18 : Option B) : (hTup fun ds ρ => if ds.length = 2 then (hCons (hName 15) (hCons (hName 12) hNil)) ds ρ else none) (.tup [l, r]) [e0, e1, e2, e3, e4, e5, e6, e7, e8, e9, e10, e11, e12, e13, e14, e15, e16, e17, e18] = some [e0, e1, e2, e3, e4, e5, e6, e7, e8, e9, e10, e11, some (.sh r), e13, e14, some (.sh l), e16, e17, e18] := rfl
theorem fr0_ok (hx : Low x0 x1) (hy : Low y0 y1) (hn : n.natAbs < 10 ^ 40) : fr_law_0 [some (.sh (.scr ns)), some (.sh (pr u1 v1)), some (.sh (pr u2 v2)), some (.sh (.int n)), some (.sh (pr x0 x1)), some (.sh (pr y0 y1)), some (.sh (pr n 1)), some (.sh (rat x0 x1)), some (.sh (rat y0 y1)), some (.sh (rat n 1)), none, none, none, none, none, none, none, none, none] = .nx [some (.sh (.scr ns)), some (.sh (pr u1 v1)), some (.sh (pr u2 v2)), some (.sh (.int n)), some (.sh (pr x0 x1)), some (.sh (pr y0 y1)), some (.sh (pr n 1)), some (.sh (rat x0 x1)), some (.sh (rat y0 y1)), some (.sh (rat n 1)), some (.sh (rat x0 x1)), some (.sh (rat x0 x1)), some (.sh (pr x0 x1)), some (.sh (pr x0 x1)), none, none, none, none, none] := by
  have e1 : fr_law_0 [some (.sh (.scr ns)), some (.sh (pr u1 v1)), some (.sh (pr u2 v2)), some (.sh (.int n)), some (.sh (pr x0 x1)), some (.sh (pr y0 y1)), some (.sh (pr n 1)), some (.sh (rat x0 x1)), some (.sh (rat y0 y1)), some (.sh (rat n 1)), none, none, none, none, none, none, none, none, none] = forD (hTup fun ds ρ => if ds.length = 4 then (hCons (hName 10) (hCons (hName 11) (hCons (hName 12) (hCons (hName 13) hNil)))) ds ρ else none) body0
    [.tup [rat x0 x1, rat y0 y1, pr x0 x1, pr y0 y1], .tup [rat x0 x1, .int n, pr x0 x1, pr n 1], .tup [.int n, rat y0 y1, pr n 1, pr y0 y1], .tup [rat x0 x1, rat n 1, pr x0 x1, pr n 1], .tup [rat x0 x1, rat x0 x1, pr x0 x1, pr x0 x1]] [some (.sh (.scr ns)), some (.sh (pr u1 v1)), some (.sh (pr u2 v2)), some (.sh (.int n)), some (.sh (pr x0 x1)), some (.sh (pr y0 y1)), some (.sh (pr n 1)), some (.sh (rat x0 x1)), some (.sh (rat y0 y1)), some (.sh (rat n 1)), none, none, none, none, none, none, none, none, none] := rfl
  rw [e1]
  have hz := lowN hn
  have nz : Nm (.int n) n 1 := .inr ⟨rfl, rfl⟩
  simp only [for_cons, for_nil, h4_is, loop_nx, body0_ok hx (.inl rfl) (.inl rfl) hy (.inl ⟨_, _, rfl⟩), body0_ok hx (.inl rfl) nz hz (.inl ⟨_, _, rfl⟩), body0_ok hz nz (.inl rfl) hy (.inr ⟨_, _, rfl⟩), body0_ok hx (.inl rfl) (.inl rfl) hz (.inl ⟨_, _, rfl⟩), body0_ok hx (.inl rfl) (.inl rfl) hx (.inl ⟨_, _, rfl⟩)]
theorem sub_self (hx : Low x0 x1) : opN gSub G_Ratio___sub__ G_Ratio___rsub__ (rat x0 x1) (rat x0 x1) = .ok (rat 0 1) := by
  have e := oSub hx (.inl rfl) (.inl rfl) hx (.inl ⟨_, _, rfl⟩ : One (rat x0 x1) (rat x0 x1))
  have e1 : x0 * x1 + -x0 * x1 = 0 := by
    rw [← Int.add_mul, Int.add_right_neg, Int.zero_mul]
  rw [e1, ct_zero, cb_zero (Int.mul_ne_zero hx.nz hx.nz)] at e
  exact e
theorem fr2_ok (hx : Low x0 x1) : ∃ t u, fr_law_2 [some (.sh (.scr ns)), some (.sh (pr u1 v1)), some (.sh (pr u2 v2)), some (.sh (.int n)), some (.sh (pr x0 x1)), some (.sh (pr y0 y1)), some (.sh (pr n 1)), some (.sh (rat x0 x1)), some (.sh (rat y0 y1)), some (.sh (rat n 1)), some (.sh (rat x0 x1)), some (.sh (rat x0 x1)), some (.sh (pr x0 x1)), some (.sh (pr x0 x1)), none, none, none, none, none] = .nx [some (.sh (.scr ns)), some (.sh (pr u1 v1)), some (.sh (pr u2 v2)), some (.sh (.int n)), some (.sh (pr x0 x1)), some (.sh (pr y0 y1)), some (.sh (pr n 1)), some (.sh (rat x0 x1)), some (.sh (rat y0 y1)), some (.sh (rat n 1)), some (.sh (rat x0 x1)), some (.sh (rat x0 x1)), some (.sh (pr 0 1)), some (.sh (pr x0 x1)), none, some (.sh (rat 0 1)), t, u, none] := by
  have hs := sub_self hx
  have e1 : fr_law_2 [some (.sh (.scr ns)), some (.sh (pr u1 v1)), some (.sh (pr u2 v2)), some (.sh (.int n)), some (.sh (pr x0 x1)), some (.sh (pr y0 y1)), some (.sh (pr n 1)), some (.sh (rat x0 x1)), some (.sh (rat y0 y1)), some (.sh (rat n 1)), some (.sh (rat x0 x1)), some (.sh (rat x0 x1)), some (.sh (pr x0 x1)), some (.sh (pr x0 x1)), none, none, none, none, none] = forD (hTup fun ds ρ => if ds.length = 2 then (hCons (hName 15) (hCons (hName 12) hNil)) ds ρ else none) body2
    [.tup [rat x0 x1, pr x0 x1], .tup [rat y0 y1, pr y0 y1], .tup [rat n 1, pr n 1], .tup [.int n, pr n 1], .tup [rat 0 1, pr 0 1]] [some (.sh (.scr ns)), some (.sh (pr u1 v1)), some (.sh (pr u2 v2)), some (.sh (.int n)), some (.sh (pr x0 x1)), some (.sh (pr y0 y1)), some (.sh (pr n 1)), some (.sh (rat x0 x1)), some (.sh (rat y0 y1)), some (.sh (rat n 1)), some (.sh (rat x0 x1)), some (.sh (rat x0 x1)), some (.sh (pr x0 x1)), some (.sh (pr x0 x1)), none, none, none, none, none] := by
    have e2 : fr_law_2 = sFor (iSq (fLst (lCons (fTup (lCons (look 7) (lCons (look 4) lNil))) (lCons (fTup (lCons (look 8) (lCons (look 5) lNil))) (lCons (fTup (lCons (look 9) (lCons (look 6) lNil))) (lCons (fTup (lCons (look 3) (lCons (look 6) lNil))) (lCons (fTup (lCons (fN (opN gSub G_Ratio___sub__ G_Ratio___rsub__) (look 7) (look 7)) (lCons (fTup (lCons (fK (.int 0)) (lCons (fK (.int 1)) lNil))) lNil))) lNil))))))) (hTup fun ds ρ => if ds.length = 2 then (hCons (hName 15) (hCons (hName 12) hNil)) ds ρ else none) body2 := rfl
    rw [e2]
    clear e2
    generalize opN gSub G_Ratio___sub__ G_Ratio___rsub__ = o at *
    generalize body2 = bb at *
    generalize (hTup fun ds ρ => if ds.length = 2 then (hCons (hName 15) (hCons (hName 12) hNil)) ds ρ else none) = hh at *
    simp [fK, fOp, fU, fM, fIsN, fNotN, tB', tNot', tAnd', tOr', vAnd, vOr, vNot, fIf, lNil, lCons, fLst, fTup, fCall, fMk, fB, fSlc, oNo, oSo, fSplit, fLc, iSq, iR1, tYes', zF, zS, fF1, fF3, sSeq, sRet, sIf, sSet, sSetO, sFor, sApp, sPar, sAsg, sRaise, sFld, sFrz, sBad, sTryAs, fN, fRz, tIfx, sPar3, sRaiseB, iZip, iEnu, fMet, fMkd, fMkk, look, peek, bo, opt, mkL, mkT, small, fnG, mkG, int2, negC, seqD, hName, hCons, hNil, hTup, par2, appD, isOw, frz, setF, ptI, isiD, notScr, env0, env0I, selfF, runB, runI, cAbs, cLen, isNone, strD, payD, tryD, noErr, cLenS, itemS, dSub, dLt, dLe, dGt, dGe, notB, isO, zipD, zipL, par3, rzD, Res.bind_ok, Res.bind_err, Res.bind_bad, seq_nx, seq_rt, seq_err, bnd_ok, bnd_err, loop_nx, loop_rt, for_nil, for_cons, int_i, hs]
  rw [e1]
  simp only [for_cons, for_nil, h2_is]
  obtain ⟨t1, w1, k1⟩ := body2_ok (.inl rfl : Nm (rat x0 x1) x0 x1) (some (.sh (.scr ns))) (some (.sh (pr u1 v1))) (some (.sh (pr u2 v2))) (some (.sh (.int n))) (some (.sh (pr x0 x1))) (some (.sh (pr y0 y1))) (some (.sh (pr n 1))) (some (.sh (rat x0 x1))) (some (.sh (rat y0 y1))) (some (.sh (rat n 1))) (some (.sh (rat x0 x1))) (some (.sh (rat x0 x1))) (some (.sh (pr x0 x1))) none none none none
  rw [k1, loop_nx]
  simp only [for_cons, for_nil, h2_is]
  obtain ⟨t2, w2, k2⟩ := body2_ok (.inl rfl : Nm (rat y0 y1) y0 y1) (some (.sh (.scr ns))) (some (.sh (pr u1 v1))) (some (.sh (pr u2 v2))) (some (.sh (.int n))) (some (.sh (pr x0 x1))) (some (.sh (pr y0 y1))) (some (.sh (pr n 1))) (some (.sh (rat x0 x1))) (some (.sh (rat y0 y1))) (some (.sh (rat n 1))) (some (.sh (rat x0 x1))) (some (.sh (rat x0 x1))) (some (.sh (pr x0 x1))) none t1 w1 none
  rw [k2, loop_nx]
  simp only [for_cons, for_nil, h2_is]
  obtain ⟨t3, w3, k3⟩ := body2_ok (.inl rfl : Nm (rat n 1) n 1) (some (.sh (.scr ns))) (some (.sh (pr u1 v1))) (some (.sh (pr u2 v2))) (some (.sh (.int n))) (some (.sh (pr x0 x1))) (some (.sh (pr y0 y1))) (some (.sh (pr n 1))) (some (.sh (rat x0 x1))) (some (.sh (rat y0 y1))) (some (.sh (rat n 1))) (some (.sh (rat x0 x1))) (some (.sh (rat x0 x1))) (some (.sh (pr x0 x1))) none t2 w2 none
  rw [k3, loop_nx]
  simp only [for_cons, for_nil, h2_is]
  obtain ⟨t4, w4, k4⟩ := body2_ok (.inr ⟨rfl, rfl⟩ : Nm (.int n) n 1) (some (.sh (.scr ns))) (some (.sh (pr u1 v1))) (some (.sh (pr u2 v2))) (some (.sh (.int n))) (some (.sh (pr x0 x1))) (some (.sh (pr y0 y1))) (some (.sh (pr n 1))) (some (.sh (rat x0 x1))) (some (.sh (rat y0 y1))) (some (.sh (rat n 1))) (some (.sh (rat x0 x1))) (some (.sh (rat x0 x1))) (some (.sh (pr x0 x1))) none t3 w3 none
  rw [k4, loop_nx]
  simp only [for_cons, for_nil, h2_is]
  obtain ⟨t5, w5, k5⟩ := body2_ok (.inl rfl : Nm (rat 0 1) 0 1) (some (.sh (.scr ns))) (some (.sh (pr u1 v1))) (some (.sh (pr u2 v2))) (some (.sh (.int n))) (some (.sh (pr x0 x1))) (some (.sh (pr y0 y1))) (some (.sh (pr n 1))) (some (.sh (rat x0 x1))) (some (.sh (rat y0 y1))) (some (.sh (rat n 1))) (some (.sh (rat x0 x1))) (some (.sh (rat x0 x1))) (some (.sh (pr x0 x1))) none t4 w4 none
  rw [k5, loop_nx]
  exact ⟨t5, w5, rfl⟩
theorem lc1_ok (hn : n.natAbs < 10 ^ 35) (e0 e1 e2 e4 e5 e6 e7 e8 e9 e10 e11 e12 e13 e14 e15 e16 e17 e18 : Option B) : lc_law_1 [e0, e1, e2, some (.sh (.int n)), e4, e5, e6, e7, e8, e9, e10, e11, e12, e13, e14, e15, e16, e17, e18] = .ok (.lst [.bl true, .bl false, .bl false]) := by
  have ni : ∀ m : Int, Nm (.int m) m 1 := fun m => .inr ⟨rfl, rfl⟩
  have b : n.natAbs < 10 ^ 40 := by omega
  have l1 := less_eq (ni n) (ni (n + 1)) b (by decide) (by omega) (by decide)
  have l2 := less_eq (ni n) (ni (n + 0)) b (by decide) (by omega) (by decide)
  have l3 := less_eq (ni n) (ni (n + -1)) b (by decide) (by omega) (by decide)
  rw [decide_eq_true (by omega)] at l1
  rw [decide_eq_false (by omega)] at l2 l3
  rw [Int.add_zero] at l2
  unfold lc_law_1
  simp [fK, fOp, fU, fM, fIsN, fNotN, tB', tNot', tAnd', tOr', vAnd, vOr, vNot, fIf, lNil, lCons, fLst, fTup, fCall, fMk, fB, fSlc, oNo, oSo, fSplit, fLc, iSq, iR1, tYes', zF, zS, fF1, fF3, sSeq, sRet, sIf, sSet, sSetO, sFor, sApp, sPar, sAsg, sRaise, sFld, sFrz, sBad, sTryAs, fN, fRz, tIfx, sPar3, sRaiseB, iZip, iEnu, fMet, fMkd, fMkk, look, peek, bo, opt, mkL, mkT, small, fnG, mkG, int2, negC, seqD, hName, hCons, hNil, hTup, par2, appD, isOw, frz, setF, ptI, isiD, notScr, env0, env0I, selfF, runB, runI, cAbs, cLen, isNone, strD, payD, tryD, noErr, cLenS, itemS, dSub, dLt, dLe, dGt, dGe, notB, isO, zipD, zipL, par3, rzD, Res.bind_ok, Res.bind_err, Res.bind_bad, seq_nx, seq_rt, seq_err, bnd_ok, bnd_err, loop_nx, loop_rt, for_nil, for_cons, int_i, lcD, wipeE, addA, l1, l2, l3]
theorem eq_no {d : D} (h : G_is_number [d] = .ok (.bl false)) (hn : notScr d = true) (x y : Int) : eqN G_Ratio___eq__ (rat x y) d = .ok (.bl false) := by
  have e : eqN G_Ratio___eq__ (rat x y) d = G_Ratio___eq__ [rat x y, d] := by
    show (if notScr d = true then fnG 2 G_Ratio___eq__ [rat x y, d] else .bad) = _
    rw [if_pos hn]
    rfl
  rw [e]
  unfold G_Ratio___eq__ g_Ratio___eq__
  simp [fK, fOp, fU, fM, fIsN, fNotN, tB', tNot', tAnd', tOr', vAnd, vOr, vNot, fIf, lNil, lCons, fLst, fTup, fCall, fMk, fB, fSlc, oNo, oSo, fSplit, fLc, iSq, iR1, tYes', zF, zS, fF1, fF3, sSeq, sRet, sIf, sSet, sSetO, sFor, sApp, sPar, sAsg, sRaise, sFld, sFrz, sBad, sTryAs, fN, fRz, tIfx, sPar3, sRaiseB, iZip, iEnu, fMet, fMkd, fMkk, look, peek, bo, opt, mkL, mkT, small, fnG, mkG, int2, negC, seqD, hName, hCons, hNil, hTup, par2, appD, isOw, frz, setF, ptI, isiD, notScr, env0, env0I, selfF, runB, runI, cAbs, cLen, isNone, strD, payD, tryD, noErr, cLenS, itemS, dSub, dLt, dLe, dGt, dGe, notB, isO, zipD, zipL, par3, rzD, Res.bind_ok, Res.bind_err, Res.bind_bad, seq_nx, seq_rt, seq_err, bnd_ok, bnd_err, loop_nx, loop_rt, for_nil, for_cons, int_i, h]
theorem lc3_ok (hi : G_Ratio___init__ [.int 1, .int 1] = .ok [.int 1, .int 1]) (e0 e1 e2 e3 e4 e5 e6 e7 e8 e9 e10 e11 e12 e13 e14 e15 e16 e17 e18 : Option B) : lc_law_3 [e0, e1, e2, e3, e4, e5, e6, e7, e8, e9, e10, e11, e12, e13, e14, e15, e16, e17, e18] = .ok (.lst [.bl false, .bl false, .bl false, .bl false, .bl false]) := by
  have q1 := eq_no (d := .bl true) rfl rfl 1 1
  have q2 := eq_no (d := .str "1") rfl rfl 1 1
  have q3 := eq_no (d := .non) rfl rfl 1 1
  have q4 := eq_no (d := .lst [.int 1]) rfl rfl 1 1
  have q5 := eq_no (d := .tup [.int 1, .int 1]) rfl rfl 1 1
  unfold lc_law_3
  generalize eqN G_Ratio___eq__ = fe at *
  simp [fK, fOp, fU, fM, fIsN, fNotN, tB', tNot', tAnd', tOr', vAnd, vOr, vNot, fIf, lNil, lCons, fLst, fTup, fCall, fMk, fB, fSlc, oNo, oSo, fSplit, fLc, iSq, iR1, tYes', zF, zS, fF1, fF3, sSeq, sRet, sIf, sSet, sSetO, sFor, sApp, sPar, sAsg, sRaise, sFld, sFrz, sBad, sTryAs, fN, fRz, tIfx, sPar3, sRaiseB, iZip, iEnu, fMet, fMkd, fMkk, look, peek, bo, opt, mkL, mkT, small, fnG, mkG, int2, negC, seqD, hName, hCons, hNil, hTup, par2, appD, isOw, frz, setF, ptI, isiD, notScr, env0, env0I, selfF, runB, runI, cAbs, cLen, isNone, strD, payD, tryD, noErr, cLenS, itemS, dSub, dLt, dLe, dGt, dGe, notB, isO, zipD, zipL, par3, rzD, Res.bind_ok, Res.bind_err, Res.bind_bad, seq_nx, seq_rt, seq_err, bnd_ok, bnd_err, loop_nx, loop_rt, for_nil, for_cons, int_i, lcD, wipeE, hi, q1, q2, q3, q4, q5]
theorem ne3 : neD (.lst [.bl true, .bl false, .bl false]) (.lst [.bl true, .bl false, .bl false]) = some (.bl false) := rfl
theorem any5 : cAny [.lst [.bl false, .bl false, .bl false, .bl false, .bl false]] = some (.bl false) := rfl
theorem ne_no (x y : Int) : neN G_Ratio___eq__ (rat x y) (.bl false) = .ok (.bl true) := by
  have e : G_Ratio___eq__ [rat x y, .bl false] = .ok (.bl false) := (show eqN G_Ratio___eq__ (rat x y) (.bl false) = G_Ratio___eq__ [rat x y, .bl false] from rfl) ▸ eq_no (d := .bl false) rfl rfl x y
  show (G_Ratio___eq__ [rat x y, .bl false] >>= notB) = _
  rw [e]
  rfl
theorem law_run (u1 v1 u2 v2 n x0 x1 y0 y1 c0 c1 c2 c3 c4 N Z W : Int) (hx : Low x0 x1) (hy : Low y0 y1) (hn : n.natAbs < 10 ^ 35)
    (hc0 : G__law_cell [.scr ns, .int 0] = .ok (.int c0)) (hc1 : G__law_cell [.scr ns, .int 1] = .ok (.int c1)) (hc2 : G__law_cell [.scr ns, .int 2] = .ok (.int c2)) (hc3 : G__law_cell [.scr ns, .int 3] = .ok (.int c3)) (hc4 : G__law_cell [.scr ns, .int 4] = .ok (.int c4))
    (d1 : G__law_drawn [.int c0, .int c1] = .ok (pr u1 v1)) (d2 : G__law_drawn [.int c2, .int c3] = .ok (pr u2 v2)) (q30 : powC 10 30 = some (.int N)) (m2 : modC c1 2 = some (.int W)) (hZ : itemD (.lst [.int N, .int 5]) (.int W) = some (.int Z)) (mZ : modC c4 Z = some (.int (n + 2)))
    (l1 : G__law_low [.int u1, .int v1] = .ok (pr x0 x1)) (l2 : G__law_low [.int u2, .int v2] = .ok (pr y0 y1)) (i1 : G_Ratio___init__ [.int u1, .int v1] = .ok [.int x0, .int x1]) (i2 : G_Ratio___init__ [.int u2, .int v2] = .ok [.int y0, .int y1]) (i3 : G_Ratio___init__ [.int n, .int 1] = .ok [.int n, .int 1])
    (i4 : G_Ratio___init__ [.int 0, .int 5] = .ok [.int 0, .int 1]) (i5 : G_Ratio___init__ [.int 0, .int 1] = .ok [.int 0, .int 1]) (i6 : G_Ratio___init__ [.int 1, .int 1] = .ok [.int 1, .int 1]) : G_law [.scr ns] = .ok (.bl true) := by
  have b : n.natAbs < 10 ^ 40 := by omega
  have hz := lowN b
  have nz : Nm (.int n) n 1 := .inr ⟨rfl, rfl⟩
  have dn : dSub (.int (n + 2)) (.int 2) = some (.int n) := by
    show some (D.int (n + 2 - 2)) = _
    congr 2
    omega
  have r1 := right_eq x0 x1
  have r2 := right_eq y0 y1
  have r3 := right_eq n 1
  have r4 := right_eq (-x0) x1
  have hg : negN G_Ratio___neg__ (rat x0 x1) = .ok (rat (-x0) x1) := (show negN G_Ratio___neg__ (rat x0 x1) = fnG 1 G_Ratio___neg__ [rat x0 x1] from rfl).trans (neg_eq hx)
  have f0 := fr0_ok (ns := ns) (u1 := u1) (v1 := v1) (u2 := u2) (v2 := v2) hx hy b
  obtain ⟨t, u, f2⟩ := fr2_ok (ns := ns) (u1 := u1) (v1 := v1) (u2 := u2) (v2 := v2) (n := n) (y0 := y0) (y1 := y1) hx
  have k1 := fun e0 e1 e2 e4 e5 e6 e7 e8 e9 e10 e11 e12 e13 e14 e15 e16 e17 e18 => lc1_ok (n := n) hn e0 e1 e2 e4 e5 e6 e7 e8 e9 e10 e11 e12 e13 e14 e15 e16 e17 e18
  have k3 := lc3_ok i6
  have o1 := lOver hx (.inl rfl : Nm (rat y0 y1) y0 y1) hy
  have o2 := lOver hy nz hz
  have o3 := lOver hz (.inl rfl : Nm (rat x0 x1) x0 x1) hx
  have z1 := init_zero u1
  have z2 := over_zero hx (.inr ⟨rfl, rfl⟩ : Nm (.int 0) 0 1) (by decide)
  have z3 := over_zero hx (.inl rfl : Nm (rat 0 1) 0 1) (by decide)
  have nn := ne_no 0 1
  unfold G_law g_law
  generalize fr_law_0 = F0 at *
  generalize fr_law_2 = F2 at *
  generalize lc_law_1 = L1 at *
  generalize lc_law_3 = L3 at *
  generalize neN G_Ratio___eq__ = fn at *
  generalize negN G_Ratio___neg__ = fg at *
  generalize dSub = fs at *
  simp [fK, fOp, fU, fM, fIsN, fNotN, tB', tNot', tAnd', tOr', vAnd, vOr, vNot, fIf, lNil, lCons, fLst, fTup, fCall, fMk, fB, fSlc, oNo, oSo, fSplit, fLc, iSq, iR1, tYes', zF, zS, fF1, fF3, sSeq, sRet, sIf, sSet, sSetO, sFor, sApp, sPar, sAsg, sRaise, sFld, sFrz, sBad, sTryAs, fN, fRz, tIfx, sPar3, sRaiseB, iZip, iEnu, fMet, fMkd, fMkk, look, peek, bo, opt, mkL, mkT, small, fnG, mkG, int2, negC, seqD, hName, hCons, hNil, hTup, par2, appD, isOw, frz, setF, ptI, isiD, notScr, env0, env0I, selfF, runB, runI, cAbs, cLen, isNone, strD, payD, tryD, noErr, cLenS, itemS, dSub, dLt, dLe, dGt, dGe, notB, isO, zipD, zipL, par3, rzD, Res.bind_ok, Res.bind_err, Res.bind_bad, seq_nx, seq_rt, seq_err, bnd_ok, bnd_err, loop_nx, loop_rt, for_nil, for_cons, int_i, hc0, hc1, hc2, hc3, hc4, d1, d2, q30, m2, hZ, mZ, dn, it0, it1, l1, l2, i1, i2, i3, i4, i5, r1, r2, r3, r4, hg, f0, f2, k1, k3, ne3, any5, o1, o2, o3, z1, z2, z3, nn, in3, isO_r]
theorem law_true (ns : List Int) : G_law [.scr ns] = .ok (.bl true) := by
  obtain ⟨c0, hc0⟩ : ∃ c, G__law_cell [.scr ns, .int 0] = .ok (.int c) := cell_ok ns 0
  obtain ⟨c1, hc1⟩ : ∃ c, G__law_cell [.scr ns, .int 1] = .ok (.int c) := cell_ok ns 1
  obtain ⟨c2, hc2⟩ : ∃ c, G__law_cell [.scr ns, .int 2] = .ok (.int c) := cell_ok ns 2
  obtain ⟨c3, hc3⟩ : ∃ c, G__law_cell [.scr ns, .int 3] = .ok (.int c) := cell_ok ns 3
  obtain ⟨c4, hc4⟩ : ∃ c, G__law_cell [.scr ns, .int 4] = .ok (.int c) := cell_ok ns 4
  obtain ⟨u1, v1, d1, bu1, nv1, bv1⟩ := drawn_ok c0 c1
  obtain ⟨u2, v2, d2, bu2, nv2, bv2⟩ := drawn_ok c2 c3
  obtain ⟨N, hN, hN', q30⟩ := p30
  have e40 : (10 : Nat) ^ 40 < big := by decide +kernel
  have m2 := mod_ok (i := c1) (j := 2) (by decide)
  have f2 := fm (i := c1) (j := 2) (by decide)
  obtain ⟨Z, hZ, hZ2⟩ := it_ints [N, 5] (c1.fmod 2) (by simpa using f2)
  have hZ3 : Z = N ∨ Z = 5 := by simpa using hZ2
  have mZ := mod_ok (i := c4) (j := Z) (by omega)
  have fZ := fm (i := c4) (j := Z) (by omega)
  simp only [List.map_cons, List.map_nil] at hZ
  have hn : (c4.fmod Z - 2).natAbs < 10 ^ 35 := by omega
  have en : c4.fmod Z = (c4.fmod Z - 2) + 2 := by omega
  rw [en] at mZ
  have low : ∀ {u v : Int}, u.natAbs < 10 ^ 40 → v ≠ 0 → v.natAbs < 10 ^ 40 → Low (ct u v) (cb u v) := fun {u v} h1 h2 h3 => ⟨cb_pos h2, co h2, Nat.lt_of_le_of_lt (ct_le h2) h1, Nat.lt_of_le_of_lt (cb_le h2) h3⟩
  have i3 := init_eq (c4.fmod Z - 2) 1 (by decide) (by have : (1 : Int).natAbs = 1 := rfl; omega)
  have hl := lowN (n := c4.fmod Z - 2) (by omega)
  rw [ct_low hl.pos hl.one, cb_low hl.pos hl.one] at i3
  have i4 := init_eq 0 5 (by decide) (by have : (5 : Int).natAbs = 5 := rfl; omega)
  rw [ct_zero, cb_zero (by decide)] at i4
  have i5 := init_eq 0 1 (by decide) (by have : (1 : Int).natAbs = 1 := rfl; omega)
  rw [ct_zero, cb_zero (by decide)] at i5
  have i6 := init_eq 1 1 (by decide) (by have : (1 : Int).natAbs = 1 := rfl; omega)
  rw [ct_low (by decide) rfl, cb_low (by decide) rfl] at i6
  exact law_run u1 v1 u2 v2 _ _ _ _ _ c0 c1 c2 c3 c4 N Z _ (low bu1 nv1 bv1) (low bu2 nv2 bv2) hn hc0 hc1 hc2 hc3 hc4 d1 d2 q30 m2 hZ mZ (low_eq u1 v1 nv1 (by omega)) (low_eq u2 v2 nv2 (by omega)) (init_eq u1 v1 nv1 (by omega)) (init_eq u2 v2 nv2 (by omega)) i3 i4 i5 i6
end
end DL.K2
namespace DL.K2
open PySem L2
abbrev pm (K : PySem.W.Frag) (C : Addr) (TT : List (Addr × Str)) : Pm := ⟨fun _ => C, nmv, fun _ => .type "ZeroDivisionError", fun _ => "", K, TT⟩
def top (i : Nat) : Stmt := PySem.Challenge.pw_everylist_k02_ratios.main.body.getD i (.Pass ⟨0, 0, 0, 0⟩)
structure Txt (prog : Program) (K : PySem.W.Frag) (mg : Str → Option Value) (base : Heap) (C : Addr) (TT : List (Addr × Str)) : Prop where
  cl : Cls K C
  nT : NoAttr K C "top"
  nB : NoAttr K C "bottom"
  g_Ratio : mg "Ratio" = some (.ref C)
  ic : IsiC K C
  nob : NoB K C
  ki : PySem.W.kitOne K (.ref C) (.type "int") = some false
  kb : PySem.W.kitOne K (.ref C) (.type "bool") = some false
  n_add : NumC K C "__add__" "__radd__"
  n_sub : NumC K C "__sub__" "__rsub__"
  n_mul : NumC K C "__mul__" "__rmul__"
  r_add : ∃ fr, PySem.W.findIn K (.ref C) "__radd__" = some (some (.ref fr))
  r_mul : ∃ fr, PySem.W.findIn K (.ref C) "__rmul__" = some (some (.ref fr))
  ec : EqC K (pm K C TT)
  rz : RzD K mg "_law_raises" "_law_ask" "ZeroDivisionError" (.type "ZeroDivisionError")
  xz : PySem.W.exmOne K (.type "ZeroDivisionError") (.type "ZeroDivisionError") = some true
  b_abs : mg "abs" = none
  b_len : mg "len" = none
  b_any : mg "any" = none
  b_int : mg "int" = none
  b_bool : mg "bool" = none
  b_range : mg "range" = none
  b_zip : mg "zip" = none
  b_isinstance : mg "isinstance" = none
  b_ZeroDivisionError : mg "ZeroDivisionError" = none
section
variable {prog : Program} {w : World} {K : PySem.W.Frag} {mg : Str → Option Value} {base : Heap} {C : Addr} {TT : List (Addr × Str)}
theorem Txt.f_top (T : Txt prog K mg base C TT) : ∀ (c : Nat) (d : List D), (((pm K C TT).nm c).zip d).lookup ("top" : Str) ≠ (none : Option D) → Cls K ((pm K C TT).C c) ∧ NoAttr K ((pm K C TT).C c) "top" := fun _ _ _ => ⟨T.cl, T.nT⟩
theorem Txt.f_bottom (T : Txt prog K mg base C TT) : ∀ (c : Nat) (d : List D), (((pm K C TT).nm c).zip d).lookup ("bottom" : Str) ≠ (none : Option D) → Cls K ((pm K C TT).C c) ∧ NoAttr K ((pm K C TT).C c) "bottom" := fun _ _ _ => ⟨T.cl, T.nB⟩
theorem Txt.s_top (T : Txt prog K mg base C TT) : ∀ c : Nat, ("top" : Str) ∈ (pm K C TT).nm c → Cls K ((pm K C TT).C c) ∧ NoAttr K ((pm K C TT).C c) "top" := fun _ _ => ⟨T.cl, T.nT⟩
theorem Txt.s_bottom (T : Txt prog K mg base C TT) : ∀ c : Nat, ("bottom" : Str) ∈ (pm K C TT).nm c → Cls K ((pm K C TT).C c) ∧ NoAttr K ((pm K C TT).C c) "bottom" := fun _ _ => ⟨T.cl, T.nB⟩
theorem Txt.nd (_ : Txt prog K mg base C TT) : ∀ c : Nat, ((pm K C TT).nm c).Nodup := fun _ => by
  show (["top", "bottom"] : List Str).Nodup
  decide +kernel
theorem Txt.isi (T : Txt prog K mg base C TT) : ∀ c : Nat, IsiC K ((pm K C TT).C c) := fun _ => T.ic
theorem Txt.kit_int (T : Txt prog K mg base C TT) : ∀ d b, ib_int d = some b → PySem.W.kitOne K (tyD (pm K C TT) d) (.type "int") = some b := DL.kit_int fun _ => T.ki
theorem Txt.kit_bool (T : Txt prog K mg base C TT) : ∀ d b, ib_bool d = some b → PySem.W.kitOne K (tyD (pm K C TT) d) (.type "bool") = some b := DL.kit_bool fun _ => T.kb
theorem Txt.kit_Ratio (T : Txt prog K mg base C TT) : ∀ d b, ib_Ratio d = some b → PySem.W.kitOne K (tyD (pm K C TT) d) (.ref C) = some b := DL.kit_Ratio (fun _ => rfl) T.nob
abbrev s__law_cell : Stmt := top 9
theorem sc__law_cell : FnScope ["_law_script", "_law_k"] ["_law_script", "_law_k"] (defScope s__law_cell) := ⟨rfl, rfl, rfl, by decide +kernel, rfl, by decide +kernel, by decide +kernel⟩
theorem b__law_cell (T : Txt prog K mg base C TT) (f : Addr) (cdv : Value) (A : Around) (outer : List PySem.Env) (s : Shared) (H : Hp) (F0 : Hp) (e : XK) (hr : Room 0 (A.deeper (PyProof.Rows.envOfC "_law_cell" (defScope s__law_cell) s.heap.objs.size f cdv))) :
    PSs (cxOf (L2.CX prog w) prog w K mg base ["_law_script", "_law_k"] "_law_cell" (defScope s__law_cell) f cdv A outer s H e) (defBody s__law_cell) (tS (pm K C TT) ⟨F0, none⟩ H (WE0 e) g__law_cell) := by
  have sc := sc__law_cell
  have tk : Takes (cxOf (L2.CX prog w) prog w K mg base ["_law_script", "_law_k"] "_law_cell" (defScope s__law_cell) f cdv A outer s H e) (WE0 e) := takes_of rfl rfl rfl rfl
  have h := ((sd_cons (by exact sd_if (by exact td_pc (by exact pd_pc (od_of io_lt) (by exact pd_peek 1) (by exact toV (by exact pd_callB (ic_lenS rfl) rfl T.b_len (by decide +kernel) (by exact av_cons (by exact pd_peek 0) av_nil)))) (nomark _)) (by exact sd_one (by exact sd_ret (by exact pd_ixS rfl (by exact pd_peek 0) (by exact pd_peek 1) (fun _ _ => rfl)))) sd_nil) (by exact sd_one (by exact sd_ret pd_int))) : PSs (cxOf (L2.CX prog w) prog w K mg base ["_law_script", "_law_k"] "_law_cell" (defScope s__law_cell) f cdv A outer s H e) (defBody s__law_cell) (tS (pm K C TT) ⟨F0, none⟩ H (WE0 e) _))
  exact h
abbrev s__law_row : Stmt := top 10
theorem sc__law_row : FnScope ["_law_cell_here", "_law_sizes", "_law_out", "_law_size", "_law_seed", "_law_k", "_law_mixed"] ["_law_cell_here", "_law_sizes"] (defScope s__law_row) := ⟨rfl, rfl, rfl, by decide +kernel, rfl, by decide +kernel, by decide +kernel⟩
theorem b__law_row (T : Txt prog K mg base C TT) (f : Addr) (cdv : Value) (A : Around) (outer : List PySem.Env) (s : Shared) (H : Hp) (F0 : Hp) (e : XK) (hr : Room 0 (A.deeper (PyProof.Rows.envOfC "_law_row" (defScope s__law_row) s.heap.objs.size f cdv))) :
    PSs (cxOf (L2.CX prog w) prog w K mg base ["_law_cell_here", "_law_sizes", "_law_out", "_law_size", "_law_seed", "_law_k", "_law_mixed"] "_law_row" (defScope s__law_row) f cdv A outer s H e) (defBody s__law_row) (tS (pm K C TT) ⟨F0, none⟩ H (WE0 e) g__law_row) := by
  have sc := sc__law_row
  have tk : Takes (cxOf (L2.CX prog w) prog w K mg base ["_law_cell_here", "_law_sizes", "_law_out", "_law_size", "_law_seed", "_law_k", "_law_mixed"] "_law_row" (defScope s__law_row) f cdv A outer s H e) (WE0 e) := takes_of rfl rfl rfl rfl
  have h := ((sd_cons (by exact sd_setN (i := 2) sc.nd rfl (by first | exact Or.inl rfl | exact Or.inr rfl) (by exact nd_lst ad_nil)) (sd_cons (by exact sd_if (by exact td_pc (by exact pd_pc (od_of io_ge) (by exact pd_peek 0) (by exact toV (by exact pd_op (od_of io_pow) (by exact toV pd_int) (by exact toV pd_int)))) (nomark _)) (sd_cons (by exact sd_for (passes_of rfl) rfl (by exact id_seq (by exact pd_name 1)) (by exact gd_name (i := 3) (us := [3]) sc.nd rfl (by first | exact Or.inl rfl | exact Or.inr rfl)) (sd_cons (by exact sd_append 2 (by exact pd_op (od_of io_mod) (by exact toV (by exact pd_callTy ic_int2 rfl T.b_int (by decide +kernel) (by exact av_cons (by exact pd_peek 0) av_nil))) (by exact pd_peek 3))) (by exact sd_one (by exact sd_set (i := 0) sc.nd rfl (by first | exact Or.inl rfl | exact Or.inr rfl) (by exact pd_op (od_of io_fdiv) (by exact pd_peek 0) (by exact pd_peek 3)))))) (by exact sd_one (by exact sd_frz1 2 (by exact sd_ret (by exact pd_name 2))))) sd_nil) (sd_cons (by exact sd_set (i := 4) sc.nd rfl (by first | exact Or.inl rfl | exact Or.inr rfl) (by exact pd_op (od_of io_mod) (by exact toV (by exact pd_callTy ic_int2 rfl T.b_int (by decide +kernel) (by exact av_cons (by exact pd_peek 0) av_nil))) (by exact toV pd_int))) (sd_cons (by exact sd_for (passes_of rfl) rfl (by exact id_range1 rfl T.b_range (by exact ad_cons (by exact pd_callB ic_len rfl T.b_len (by decide +kernel) (by exact av_cons (by exact pd_peek 1) av_nil)) ad_nil)) (by exact gd_name (i := 5) (us := [5]) sc.nd rfl (by first | exact Or.inl rfl | exact Or.inr rfl)) (sd_cons (by exact sd_set (i := 6) sc.nd rfl (by first | exact Or.inl rfl | exact Or.inr rfl) (by exact pd_op (od_of io_addA) (by exact toV (by exact pd_op (od_of io_mod) (by exact toV (by exact pd_callTy ic_int2 rfl T.b_int (by decide +kernel) (by exact av_cons (by exact toV (by exact pd_op (od_of io_pow) (by exact toV (by exact pd_op (od_of io_addA) (by exact toV (by exact pd_op (od_of io_addA) (by exact pd_peek 4) (by exact toV (by exact pd_op (od_of io_mulB) (by exact toV pd_int) (by exact pd_peek 5))))) (by exact toV pd_int))) (by exact toV pd_int))) av_nil))) (by exact toV pd_int))) (by exact pd_peek 5))) (by exact sd_one (by exact sd_append 2 (by exact pd_op (od_of io_mod) (by exact toV (by exact pd_callTy ic_int2 rfl T.b_int (by decide +kernel) (by exact av_cons (by exact toV (by exact pd_op (od_of io_mod) (by exact toV (by exact pd_callTy ic_int2 rfl T.b_int (by decide +kernel) (by exact av_cons (by exact toV (by exact pd_op (od_of io_mulB) (by exact pd_peek 6) (by exact toV pd_int))) av_nil))) (by exact toV pd_int))) av_nil))) (by exact toV (by exact pd_ix (by exact pd_peek 1) (by exact pd_peek 5) (fun _ _ => rfl)))))))) (by exact sd_one (by exact sd_frz1 2 (by exact sd_ret (by exact pd_name 2)))))))) : PSs (cxOf (L2.CX prog w) prog w K mg base ["_law_cell_here", "_law_sizes", "_law_out", "_law_size", "_law_seed", "_law_k", "_law_mixed"] "_law_row" (defScope s__law_row) f cdv A outer s H e) (defBody s__law_row) (tS (pm K C TT) ⟨F0, none⟩ H (WE0 e) _))
  exact h
abbrev s__law_drawn : Stmt := top 15
theorem sc__law_drawn : FnScope ["_law_cell_here", "_law_other", "_law_row_here", "_law_upper", "_law_lower"] ["_law_cell_here", "_law_other"] (defScope s__law_drawn) := ⟨rfl, rfl, rfl, by decide +kernel, rfl, by decide +kernel, by decide +kernel⟩
theorem b__law_drawn (T : Txt prog K mg base C TT) (c__law_row : CalD prog w K mg base (pm K C TT) 1 "_law_row" 2 G__law_row) (f : Addr) (cdv : Value) (A : Around) (outer : List PySem.Env) (s : Shared) (H : Hp) (F0 : Hp) (e : XK) (hr : Room 1 (A.deeper (PyProof.Rows.envOfC "_law_drawn" (defScope s__law_drawn) s.heap.objs.size f cdv))) :
    PSs (cxOf (L2.CX prog w) prog w K mg base ["_law_cell_here", "_law_other", "_law_row_here", "_law_upper", "_law_lower"] "_law_drawn" (defScope s__law_drawn) f cdv A outer s H e) (defBody s__law_drawn) (tS (pm K C TT) ⟨F0, none⟩ H (WE0 e) g__law_drawn) := by
  have sc := sc__law_drawn
  have tk : Takes (cxOf (L2.CX prog w) prog w K mg base ["_law_cell_here", "_law_other", "_law_row_here", "_law_upper", "_law_lower"] "_law_drawn" (defScope s__law_drawn) f cdv A outer s H e) (WE0 e) := takes_of rfl rfl rfl rfl
  have h := ((sd_cons (by exact sd_set (i := 2) sc.nd rfl (by first | exact Or.inl rfl | exact Or.inr rfl) (by exact pd_cal c__law_row (hr.mono (by decide)) tk (by exact ad_cons (by exact pd_name 1) (by exact ad_cons (by exact pd_lst (by exact ad_cons pd_int (by exact ad_cons pd_int (by exact ad_cons (by exact pd_op (od_of io_pow) (by exact toV pd_int) (by exact toV pd_int)) ad_nil)))) ad_nil)))) (sd_cons (by exact sd_set (i := 3) sc.nd rfl (by first | exact Or.inl rfl | exact Or.inr rfl) (by exact pd_ix (by exact toV (by exact pd_lst (by exact ad_cons (by exact pd_name 0) (by exact ad_cons (by exact pd_op (od_of io_sub) (by exact toV (by exact pd_op (od_of io_mod) (by exact toV (by exact pd_callTy ic_int2 rfl T.b_int (by decide +kernel) (by exact av_cons (by exact pd_peek 0) av_nil))) (by exact toV pd_int))) (by exact toV pd_int)) (by exact ad_cons pd_int (by exact ad_cons (by exact pd_name 0) (by exact ad_cons (by exact pd_op (od_of io_mulB) (by exact pd_peek 0) (by exact toV (by exact pd_ix (by exact pd_peek 2) (by exact toV pd_int) (fun _ _ => rfl)))) ad_nil))))))) (by exact toV (by exact pd_ix (by exact pd_peek 2) (by exact toV pd_int) (fun _ _ => rfl))) (fun _ _ => rfl))) (sd_cons (by exact sd_set (i := 4) sc.nd rfl (by first | exact Or.inl rfl | exact Or.inr rfl) (by exact pd_ix (by exact toV (by exact pd_lst (by exact ad_cons (by exact pd_op (od_of io_addA) (by exact toV (by exact pd_ix (by exact pd_peek 2) (by exact toV pd_int) (fun _ _ => rfl))) (by exact toV pd_int)) (by exact ad_cons (by exact pd_op (od_of io_sub) (by exact toV (by exact pd_un (ud_of io_neg) (by exact toV pd_int))) (by exact toV (by exact pd_op (od_of io_mod) (by exact toV (by exact pd_ix (by exact pd_peek 2) (by exact toV pd_int) (fun _ _ => rfl))) (by exact toV pd_int)))) (by exact ad_cons (by exact pd_op (od_of io_addA) (by exact toV pd_int) (by exact toV (by exact pd_op (od_of io_mod) (by exact toV (by exact pd_ix (by exact pd_peek 2) (by exact toV pd_int) (fun _ _ => rfl))) (by exact toV pd_int)))) ad_nil))))) (by exact toV (by exact pd_ix (by exact pd_peek 2) (by exact toV pd_int) (fun _ _ => rfl))) (fun _ _ => rfl))) (by exact sd_one (by exact sd_ret (by exact pd_tup (by exact ad_cons (by exact pd_op (od_of io_mulB) (by exact toV (by exact pd_op (od_of io_mod) (by exact toV (by exact pd_callTy ic_int2 rfl T.b_int (by decide +kernel) (by exact av_cons (by exact pd_peek 3) av_nil))) (by exact toV (by exact pd_op (od_of io_pow) (by exact toV pd_int) (by exact toV pd_int))))) (by exact toV (by exact pd_ix (by exact toV (by exact pd_lst (by exact ad_cons pd_int (by exact ad_cons (by exact pd_un (ud_of io_neg) (by exact toV pd_int)) ad_nil)))) (by exact toV (by exact pd_op (od_of io_mod) (by exact toV (by exact pd_ix (by exact pd_peek 2) (by exact toV pd_int) (fun _ _ => rfl))) (by exact toV pd_int))) (fun _ _ => rfl)))) (by exact ad_cons (by exact pd_name 4) ad_nil)))))))) : PSs (cxOf (L2.CX prog w) prog w K mg base ["_law_cell_here", "_law_other", "_law_row_here", "_law_upper", "_law_lower"] "_law_drawn" (defScope s__law_drawn) f cdv A outer s H e) (defBody s__law_drawn) (tS (pm K C TT) ⟨F0, none⟩ H (WE0 e) _))
  exact h
abbrev s__law_share : Stmt := top 11
theorem sc__law_share : FnScope ["_law_one", "_law_two"] ["_law_one", "_law_two"] (defScope s__law_share) := ⟨rfl, rfl, rfl, by decide +kernel, rfl, by decide +kernel, by decide +kernel⟩
theorem b__law_share (T : Txt prog K mg base C TT) (f : Addr) (cdv : Value) (A : Around) (outer : List PySem.Env) (s : Shared) (H : Hp) (F0 : Hp) (e : XK) (hr : Room 0 (A.deeper (PyProof.Rows.envOfC "_law_share" (defScope s__law_share) s.heap.objs.size f cdv))) :
    PSs (cxOf (L2.CX prog w) prog w K mg base ["_law_one", "_law_two"] "_law_share" (defScope s__law_share) f cdv A outer s H e) (defBody s__law_share) (tS (pm K C TT) ⟨F0, none⟩ H (WE0 e) g__law_share) := by
  have sc := sc__law_share
  have tk : Takes (cxOf (L2.CX prog w) prog w K mg base ["_law_one", "_law_two"] "_law_share" (defScope s__law_share) f cdv A outer s H e) (WE0 e) := takes_of rfl rfl rfl rfl
  have h := ((sd_cons (by exact sd_par (i := 0) (j := 1) rfl sc.nd rfl rfl (by decide) rfl rfl (by exact ad_cons (by exact pd_callB ic_abs rfl T.b_abs (by decide +kernel) (by exact av_cons (by exact pd_peek 0) av_nil)) (by exact ad_cons (by exact pd_callB ic_abs rfl T.b_abs (by decide +kernel) (by exact av_cons (by exact pd_peek 1) av_nil)) ad_nil)) rfl) (sd_cons (by exact sd_while big (passes_of rfl) (by exact td_pc (by exact pd_pc (od_of io_gt) (by exact pd_peek 1) (by exact toV pd_int)) (nomark _)) (by exact sd_one (by exact sd_par (i := 0) (j := 1) rfl sc.nd rfl rfl (by decide) rfl rfl (by exact ad_cons (by exact pd_name 1) (by exact ad_cons (by exact pd_op (od_of io_mod) (by exact toV (by exact pd_callTy ic_int2 rfl T.b_int (by decide +kernel) (by exact av_cons (by exact pd_peek 0) av_nil))) (by exact pd_peek 1)) ad_nil)) rfl))) (by exact sd_one (by exact sd_ret (by exact pd_name 0))))) : PSs (cxOf (L2.CX prog w) prog w K mg base ["_law_one", "_law_two"] "_law_share" (defScope s__law_share) f cdv A outer s H e) (defBody s__law_share) (tS (pm K C TT) ⟨F0, none⟩ H (WE0 e) _))
  exact h
abbrev s__law_low : Stmt := top 12
theorem sc__law_low : FnScope ["_law_upper", "_law_lower", "_law_part"] ["_law_upper", "_law_lower"] (defScope s__law_low) := ⟨rfl, rfl, rfl, by decide +kernel, rfl, by decide +kernel, by decide +kernel⟩
theorem b__law_low (T : Txt prog K mg base C TT) (c__law_share : CalD prog w K mg base (pm K C TT) 1 "_law_share" 2 G__law_share) (f : Addr) (cdv : Value) (A : Around) (outer : List PySem.Env) (s : Shared) (H : Hp) (F0 : Hp) (e : XK) (hr : Room 1 (A.deeper (PyProof.Rows.envOfC "_law_low" (defScope s__law_low) s.heap.objs.size f cdv))) :
    PSs (cxOf (L2.CX prog w) prog w K mg base ["_law_upper", "_law_lower", "_law_part"] "_law_low" (defScope s__law_low) f cdv A outer s H e) (defBody s__law_low) (tS (pm K C TT) ⟨F0, none⟩ H (WE0 e) g__law_low) := by
  have sc := sc__law_low
  have tk : Takes (cxOf (L2.CX prog w) prog w K mg base ["_law_upper", "_law_lower", "_law_part"] "_law_low" (defScope s__law_low) f cdv A outer s H e) (WE0 e) := takes_of rfl rfl rfl rfl
  have h := ((sd_cons (by exact sd_set (i := 2) sc.nd rfl (by first | exact Or.inl rfl | exact Or.inr rfl) (by exact pd_cal c__law_share (hr.mono (by decide)) tk (by exact ad_cons (by exact pd_name 0) (by exact ad_cons (by exact pd_name 1) ad_nil)))) (sd_cons (by exact sd_if (by exact td_pc (by exact pd_pc (od_of io_lt) (by exact pd_peek 1) (by exact toV pd_int)) (nomark _)) (by exact sd_one (by exact sd_set (i := 2) sc.nd rfl (by first | exact Or.inl rfl | exact Or.inr rfl) (by exact pd_un (ud_of io_neg) (by exact pd_peek 2)))) sd_nil) (by exact sd_one (by exact sd_ret (by exact pd_tup (by exact ad_cons (by exact pd_op (od_of io_fdiv) (by exact pd_peek 0) (by exact pd_peek 2)) (by exact ad_cons (by exact pd_op (od_of io_fdiv) (by exact pd_peek 1) (by exact pd_peek 2)) ad_nil))))))) : PSs (cxOf (L2.CX prog w) prog w K mg base ["_law_upper", "_law_lower", "_law_part"] "_law_low" (defScope s__law_low) f cdv A outer s H e) (defBody s__law_low) (tS (pm K C TT) ⟨F0, none⟩ H (WE0 e) _))
  exact h
abbrev s_common : Stmt := top 1
theorem sc_common : FnScope ["one", "two"] ["one", "two"] (defScope s_common) := ⟨rfl, rfl, rfl, by decide +kernel, rfl, by decide +kernel, by decide +kernel⟩
theorem b_common (T : Txt prog K mg base C TT) (f : Addr) (cdv : Value) (A : Around) (outer : List PySem.Env) (s : Shared) (H : Hp) (F0 : Hp) (e : XK) (hr : Room 0 (A.deeper (PyProof.Rows.envOfC "common" (defScope s_common) s.heap.objs.size f cdv))) :
    PSs (cxOf (L2.CX prog w) prog w K mg base ["one", "two"] "common" (defScope s_common) f cdv A outer s H e) (defBody s_common) (tS (pm K C TT) ⟨F0, none⟩ H (WE0 e) g_common) := by
  have sc := sc_common
  have tk : Takes (cxOf (L2.CX prog w) prog w K mg base ["one", "two"] "common" (defScope s_common) f cdv A outer s H e) (WE0 e) := takes_of rfl rfl rfl rfl
  have h := ((sd_cons (by exact sd_par (i := 0) (j := 1) rfl sc.nd rfl rfl (by decide) rfl rfl (by exact ad_cons (by exact pd_callB ic_abs rfl T.b_abs (by decide +kernel) (by exact av_cons (by exact pd_peek 0) av_nil)) (by exact ad_cons (by exact pd_callB ic_abs rfl T.b_abs (by decide +kernel) (by exact av_cons (by exact pd_peek 1) av_nil)) ad_nil)) rfl) (sd_cons (by exact sd_while big (passes_of rfl) (by exact td_pc (by exact pd_pc (od_of io_gt) (by exact pd_peek 1) (by exact toV pd_int)) (nomark _)) (by exact sd_one (by exact sd_par (i := 0) (j := 1) rfl sc.nd rfl rfl (by decide) rfl rfl (by exact ad_cons (by exact pd_name 1) (by exact ad_cons (by exact pd_op (od_of io_mod) (by exact pd_peek 0) (by exact pd_peek 1)) ad_nil)) rfl))) (by exact sd_one (by exact sd_ret (by exact pd_name 0))))) : PSs (cxOf (L2.CX prog w) prog w K mg base ["one", "two"] "common" (defScope s_common) f cdv A outer s H e) (defBody s_common) (tS (pm K C TT) ⟨F0, none⟩ H (WE0 e) _))
  exact h
abbrev s_Ratio___init__ : Stmt := inClass (top 7) 0
theorem sc_Ratio___init__ : FnScope ["self", "top", "bottom", "share"] ["self", "top", "bottom"] (defScope s_Ratio___init__) := ⟨rfl, rfl, rfl, by decide +kernel, rfl, by decide +kernel, by decide +kernel⟩
theorem b_Ratio___init__ (T : Txt prog K mg base C TT) (c_common : CalD prog w K mg base (pm K C TT) 1 "common" 2 G_common) (f : Addr) (cdv : Value) (A : Around) (outer : List PySem.Env) (s : Shared) (H : Hp) (F0 H0 : Hp) (x : Addr) (e : XK) (hr : Room 1 (A.deeper (PyProof.Rows.envOfC "Ratio.__init__" (defScope s_Ratio___init__) s.heap.objs.size f cdv))) :
    PSs (cxOf (L2.CX prog w) prog w K mg base ["self", "top", "bottom", "share"] "Ratio.__init__" (defScope s_Ratio___init__) f cdv A outer s H e) (defBody s_Ratio___init__) (tS (pm K C TT) ⟨F0, some x⟩ H0 (WE0 e) g_Ratio___init__) := by
  have sc := sc_Ratio___init__
  have tk : Takes (cxOf (L2.CX prog w) prog w K mg base ["self", "top", "bottom", "share"] "Ratio.__init__" (defScope s_Ratio___init__) f cdv A outer s H e) (WE0 e) := takes_of rfl rfl rfl rfl
  have h := ((sd_cons (by exact sd_if (by exact td_pc (by exact pd_pc (od_of (io_eq hr.units)) (by exact pd_peek 2) (by exact toV pd_int)) (nomark _)) (by exact sd_one (by exact sd_raiseB (cn := 0) rfl tk exb_ZeroDivisionError rfl T.b_ZeroDivisionError (by decide +kernel))) sd_nil) (sd_cons (by exact sd_set (i := 3) sc.nd rfl (by first | exact Or.inl rfl | exact Or.inr rfl) (by exact pd_cal c_common (hr.mono (by decide)) tk (by exact ad_cons (by exact pd_name 1) (by exact ad_cons (by exact pd_name 2) ad_nil)))) (sd_cons (by exact sd_if (by exact td_pc (by exact pd_pc (od_of io_lt) (by exact pd_peek 2) (by exact toV pd_int)) (nomark _)) (by exact sd_one (by exact sd_set (i := 3) sc.nd rfl (by first | exact Or.inl rfl | exact Or.inr rfl) (by exact pd_un (ud_of io_neg) (by exact pd_peek 3)))) sd_nil) (sd_cons (by exact sd_fld (i := 0) T.s_top T.nd (by exact pd_op (od_of io_fdiv) (by exact pd_peek 1) (by exact pd_peek 3))) (by exact sd_one (by exact sd_fld (i := 0) T.s_bottom T.nd (by exact pd_op (od_of io_fdiv) (by exact pd_peek 2) (by exact pd_peek 3)))))))) : PSs (cxOf (L2.CX prog w) prog w K mg base ["self", "top", "bottom", "share"] "Ratio.__init__" (defScope s_Ratio___init__) f cdv A outer s H e) (defBody s_Ratio___init__) (tS (pm K C TT) ⟨F0, some x⟩ H0 (WE0 e) _))
  exact h
abbrev s_Ratio___neg__ : Stmt := inClass (top 7) 3
theorem sc_Ratio___neg__ : FnScope ["self"] ["self"] (defScope s_Ratio___neg__) := ⟨rfl, rfl, rfl, by decide +kernel, rfl, by decide +kernel, by decide +kernel⟩
theorem b_Ratio___neg__ (T : Txt prog K mg base C TT) (c_Ratio : MkD prog w K mg base (pm K C TT) 2 "Ratio" 0 2 G_Ratio___init__) (f : Addr) (cdv : Value) (A : Around) (outer : List PySem.Env) (s : Shared) (H : Hp) (F0 : Hp) (e : XK) (hr : Room 3 (A.deeper (PyProof.Rows.envOfC "Ratio.__neg__" (defScope s_Ratio___neg__) s.heap.objs.size f cdv))) :
    PSs (cxOf (L2.CX prog w) prog w K mg base ["self"] "Ratio.__neg__" (defScope s_Ratio___neg__) f cdv A outer s H e) (defBody s_Ratio___neg__) (tS (pm K C TT) ⟨F0, none⟩ H (WE0 e) g_Ratio___neg__) := by
  have sc := sc_Ratio___neg__
  have tk : Takes (cxOf (L2.CX prog w) prog w K mg base ["self"] "Ratio.__neg__" (defScope s_Ratio___neg__) f cdv A outer s H e) (WE0 e) := takes_of rfl rfl rfl rfl
  have h := ((by exact sd_one (by exact sd_ret (by exact pd_mk c_Ratio (hr.mono (by decide)) tk (by exact ad_cons (by exact pd_un (ud_of io_neg) (by exact toV (by exact pd_fld (by exact pd_peek 0) T.f_top))) (by exact ad_cons (by exact pd_fld (by exact pd_peek 0) T.f_bottom) ad_nil))))) : PSs (cxOf (L2.CX prog w) prog w K mg base ["self"] "Ratio.__neg__" (defScope s_Ratio___neg__) f cdv A outer s H e) (defBody s_Ratio___neg__) (tS (pm K C TT) ⟨F0, none⟩ H (WE0 e) _))
  exact h
abbrev s__law_right : Stmt := top 16
theorem sc__law_right : FnScope ["_law_number", "_law_x"] ["_law_number", "_law_x"] (defScope s__law_right) := ⟨rfl, rfl, rfl, by decide +kernel, rfl, by decide +kernel, by decide +kernel⟩
theorem b__law_right (T : Txt prog K mg base C TT) (f : Addr) (cdv : Value) (A : Around) (outer : List PySem.Env) (s : Shared) (H : Hp) (F0 : Hp) (e : XK) (hr : Room 0 (A.deeper (PyProof.Rows.envOfC "_law_right" (defScope s__law_right) s.heap.objs.size f cdv))) :
    PSs (cxOf (L2.CX prog w) prog w K mg base ["_law_number", "_law_x"] "_law_right" (defScope s__law_right) f cdv A outer s H e) (defBody s__law_right) (tS (pm K C TT) ⟨F0, none⟩ H (WE0 e) g__law_right) := by
  have sc := sc__law_right
  have tk : Takes (cxOf (L2.CX prog w) prog w K mg base ["_law_number", "_law_x"] "_law_right" (defScope s__law_right) f cdv A outer s H e) (WE0 e) := takes_of rfl rfl rfl rfl
  have h := ((by exact sd_one (by exact sd_ret (by exact pd_and (by exact pd_isi T.isi T.kit_Ratio (.own _) (pe_glob rfl T.g_Ratio rfl) (by exact pd_peek 0) rfl T.b_isinstance) (by exact pd_one (by exact pd_pcv (by exact pd_pc (od_of (io_eq hr.units)) (by exact toV (by exact pd_tup (by exact ad_cons (by exact pd_fld (by exact pd_peek 0) T.f_top) (by exact ad_cons (by exact pd_fld (by exact pd_peek 0) T.f_bottom) ad_nil)))) (by exact pd_peek 1)) (nomark _)))))) : PSs (cxOf (L2.CX prog w) prog w K mg base ["_law_number", "_law_x"] "_law_right" (defScope s__law_right) f cdv A outer s H e) (defBody s__law_right) (tS (pm K C TT) ⟨F0, none⟩ H (WE0 e) _))
  exact h
abbrev s__law_mul : Stmt := top 14
theorem sc__law_mul : FnScope ["_law_x", "_law_y"] ["_law_x", "_law_y"] (defScope s__law_mul) := ⟨rfl, rfl, rfl, by decide +kernel, rfl, by decide +kernel, by decide +kernel⟩
theorem b__law_mul (T : Txt prog K mg base C TT) (c__law_low : CalD prog w K mg base (pm K C TT) 2 "_law_low" 2 G__law_low) (f : Addr) (cdv : Value) (A : Around) (outer : List PySem.Env) (s : Shared) (H : Hp) (F0 : Hp) (e : XK) (hr : Room 2 (A.deeper (PyProof.Rows.envOfC "_law_mul" (defScope s__law_mul) s.heap.objs.size f cdv))) :
    PSs (cxOf (L2.CX prog w) prog w K mg base ["_law_x", "_law_y"] "_law_mul" (defScope s__law_mul) f cdv A outer s H e) (defBody s__law_mul) (tS (pm K C TT) ⟨F0, none⟩ H (WE0 e) g__law_mul) := by
  have sc := sc__law_mul
  have tk : Takes (cxOf (L2.CX prog w) prog w K mg base ["_law_x", "_law_y"] "_law_mul" (defScope s__law_mul) f cdv A outer s H e) (WE0 e) := takes_of rfl rfl rfl rfl
  have h := ((by exact sd_one (by exact sd_ret (by exact pd_cal c__law_low (hr.mono (by decide)) tk (by exact ad_cons (by exact pd_op (od_of io_mulB) (by exact toV (by exact pd_ix (by exact pd_peek 0) (by exact toV pd_int) (fun _ _ => rfl))) (by exact toV (by exact pd_ix (by exact pd_peek 1) (by exact toV pd_int) (fun _ _ => rfl)))) (by exact ad_cons (by exact pd_op (od_of io_mulB) (by exact toV (by exact pd_ix (by exact pd_peek 0) (by exact toV pd_int) (fun _ _ => rfl))) (by exact toV (by exact pd_ix (by exact pd_peek 1) (by exact toV pd_int) (fun _ _ => rfl)))) ad_nil))))) : PSs (cxOf (L2.CX prog w) prog w K mg base ["_law_x", "_law_y"] "_law_mul" (defScope s__law_mul) f cdv A outer s H e) (defBody s__law_mul) (tS (pm K C TT) ⟨F0, none⟩ H (WE0 e) _))
  exact h
abbrev s__law_add : Stmt := top 13
theorem sc__law_add : FnScope ["_law_x", "_law_y"] ["_law_x", "_law_y"] (defScope s__law_add) := ⟨rfl, rfl, rfl, by decide +kernel, rfl, by decide +kernel, by decide +kernel⟩
theorem b__law_add (T : Txt prog K mg base C TT) (c__law_low : CalD prog w K mg base (pm K C TT) 2 "_law_low" 2 G__law_low) (f : Addr) (cdv : Value) (A : Around) (outer : List PySem.Env) (s : Shared) (H : Hp) (F0 : Hp) (e : XK) (hr : Room 2 (A.deeper (PyProof.Rows.envOfC "_law_add" (defScope s__law_add) s.heap.objs.size f cdv))) :
    PSs (cxOf (L2.CX prog w) prog w K mg base ["_law_x", "_law_y"] "_law_add" (defScope s__law_add) f cdv A outer s H e) (defBody s__law_add) (tS (pm K C TT) ⟨F0, none⟩ H (WE0 e) g__law_add) := by
  have sc := sc__law_add
  have tk : Takes (cxOf (L2.CX prog w) prog w K mg base ["_law_x", "_law_y"] "_law_add" (defScope s__law_add) f cdv A outer s H e) (WE0 e) := takes_of rfl rfl rfl rfl
  have h := ((by exact sd_one (by exact sd_ret (by exact pd_cal c__law_low (hr.mono (by decide)) tk (by exact ad_cons (by exact pd_op (od_of io_addA) (by exact toV (by exact pd_op (od_of io_mulB) (by exact toV (by exact pd_ix (by exact pd_peek 0) (by exact toV pd_int) (fun _ _ => rfl))) (by exact toV (by exact pd_ix (by exact pd_peek 1) (by exact toV pd_int) (fun _ _ => rfl))))) (by exact toV (by exact pd_op (od_of io_mulB) (by exact toV (by exact pd_ix (by exact pd_peek 1) (by exact toV pd_int) (fun _ _ => rfl))) (by exact toV (by exact pd_ix (by exact pd_peek 0) (by exact toV pd_int) (fun _ _ => rfl)))))) (by exact ad_cons (by exact pd_op (od_of io_mulB) (by exact toV (by exact pd_ix (by exact pd_peek 0) (by exact toV pd_int) (fun _ _ => rfl))) (by exact toV (by exact pd_ix (by exact pd_peek 1) (by exact toV pd_int) (fun _ _ => rfl)))) ad_nil))))) : PSs (cxOf (L2.CX prog w) prog w K mg base ["_law_x", "_law_y"] "_law_add" (defScope s__law_add) f cdv A outer s H e) (defBody s__law_add) (tS (pm K C TT) ⟨F0, none⟩ H (WE0 e) _))
  exact h
abbrev s_is_integer : Stmt := top 2
theorem sc_is_integer : FnScope ["thing"] ["thing"] (defScope s_is_integer) := ⟨rfl, rfl, rfl, by decide +kernel, rfl, by decide +kernel, by decide +kernel⟩
theorem b_is_integer (T : Txt prog K mg base C TT) (f : Addr) (cdv : Value) (A : Around) (outer : List PySem.Env) (s : Shared) (H : Hp) (F0 : Hp) (e : XK) (hr : Room 0 (A.deeper (PyProof.Rows.envOfC "is_integer" (defScope s_is_integer) s.heap.objs.size f cdv))) :
    PSs (cxOf (L2.CX prog w) prog w K mg base ["thing"] "is_integer" (defScope s_is_integer) f cdv A outer s H e) (defBody s_is_integer) (tS (pm K C TT) ⟨F0, none⟩ H (WE0 e) g_is_integer) := by
  have sc := sc_is_integer
  have tk : Takes (cxOf (L2.CX prog w) prog w K mg base ["thing"] "is_integer" (defScope s_is_integer) f cdv A outer s H e) (WE0 e) := takes_of rfl rfl rfl rfl
  have h := ((by exact sd_one (by exact sd_ret (by exact pd_and (by exact pd_isi T.isi T.kit_int (.ty "int") (pe_bltn rfl T.b_int (by decide +kernel) rfl) (by exact pd_peek 0) rfl T.b_isinstance) (by exact pd_one (by exact pd_not (by exact pd_isi T.isi T.kit_bool (.ty "bool") (pe_bltn rfl T.b_bool (by decide +kernel) rfl) (by exact pd_peek 0) rfl T.b_isinstance)))))) : PSs (cxOf (L2.CX prog w) prog w K mg base ["thing"] "is_integer" (defScope s_is_integer) f cdv A outer s H e) (defBody s_is_integer) (tS (pm K C TT) ⟨F0, none⟩ H (WE0 e) _))
  exact h
abbrev s_is_number : Stmt := top 3
theorem sc_is_number : FnScope ["thing"] ["thing"] (defScope s_is_number) := ⟨rfl, rfl, rfl, by decide +kernel, rfl, by decide +kernel, by decide +kernel⟩
theorem b_is_number (T : Txt prog K mg base C TT) (c_is_integer : CalD prog w K mg base (pm K C TT) 1 "is_integer" 1 G_is_integer) (f : Addr) (cdv : Value) (A : Around) (outer : List PySem.Env) (s : Shared) (H : Hp) (F0 : Hp) (e : XK) (hr : Room 1 (A.deeper (PyProof.Rows.envOfC "is_number" (defScope s_is_number) s.heap.objs.size f cdv))) :
    PSs (cxOf (L2.CX prog w) prog w K mg base ["thing"] "is_number" (defScope s_is_number) f cdv A outer s H e) (defBody s_is_number) (tS (pm K C TT) ⟨F0, none⟩ H (WE0 e) g_is_number) := by
  have sc := sc_is_number
  have tk : Takes (cxOf (L2.CX prog w) prog w K mg base ["thing"] "is_number" (defScope s_is_number) f cdv A outer s H e) (WE0 e) := takes_of rfl rfl rfl rfl
  have h := ((by exact sd_one (by exact sd_ret (by exact pd_or (by exact pd_cal c_is_integer (hr.mono (by decide)) tk (by exact ad_cons (by exact pd_name 0) ad_nil)) (by exact pd_one (by exact pd_isi T.isi T.kit_Ratio (.own _) (pe_glob rfl T.g_Ratio rfl) (by exact pd_peek 0) rfl T.b_isinstance))))) : PSs (cxOf (L2.CX prog w) prog w K mg base ["thing"] "is_number" (defScope s_is_number) f cdv A outer s H e) (defBody s_is_number) (tS (pm K C TT) ⟨F0, none⟩ H (WE0 e) _))
  exact h
abbrev s_halves_of : Stmt := top 4
theorem sc_halves_of : FnScope ["number"] ["number"] (defScope s_halves_of) := ⟨rfl, rfl, rfl, by decide +kernel, rfl, by decide +kernel, by decide +kernel⟩
theorem b_halves_of (T : Txt prog K mg base C TT) (f : Addr) (cdv : Value) (A : Around) (outer : List PySem.Env) (s : Shared) (H : Hp) (F0 : Hp) (e : XK) (hr : Room 0 (A.deeper (PyProof.Rows.envOfC "halves_of" (defScope s_halves_of) s.heap.objs.size f cdv))) :
    PSs (cxOf (L2.CX prog w) prog w K mg base ["number"] "halves_of" (defScope s_halves_of) f cdv A outer s H e) (defBody s_halves_of) (tS (pm K C TT) ⟨F0, none⟩ H (WE0 e) g_halves_of) := by
  have sc := sc_halves_of
  have tk : Takes (cxOf (L2.CX prog w) prog w K mg base ["number"] "halves_of" (defScope s_halves_of) f cdv A outer s H e) (WE0 e) := takes_of rfl rfl rfl rfl
  have h := ((by exact sd_one (by exact sd_ret (by exact pd_if (by exact td_val (by exact pd_isi T.isi T.kit_Ratio (.own _) (pe_glob rfl T.g_Ratio rfl) (by exact pd_peek 0) rfl T.b_isinstance)) (by exact pd_tup (by exact ad_cons (by exact pd_fld (by exact pd_peek 0) T.f_top) (by exact ad_cons (by exact pd_fld (by exact pd_peek 0) T.f_bottom) ad_nil))) (by exact pd_tup (by exact ad_cons (by exact pd_name 0) (by exact ad_cons pd_int ad_nil)))))) : PSs (cxOf (L2.CX prog w) prog w K mg base ["number"] "halves_of" (defScope s_halves_of) f cdv A outer s H e) (defBody s_halves_of) (tS (pm K C TT) ⟨F0, none⟩ H (WE0 e) _))
  exact h
abbrev s_Ratio___mul__ : Stmt := inClass (top 7) 6
theorem sc_Ratio___mul__ : FnScope ["self", "other", "top", "bottom"] ["self", "other"] (defScope s_Ratio___mul__) := ⟨rfl, rfl, rfl, by decide +kernel, rfl, by decide +kernel, by decide +kernel⟩
theorem b_Ratio___mul__ (T : Txt prog K mg base C TT) (c_is_number : CalD prog w K mg base (pm K C TT) 2 "is_number" 1 G_is_number) (c_halves_of : CalD prog w K mg base (pm K C TT) 1 "halves_of" 1 G_halves_of) (c_Ratio : MkD prog w K mg base (pm K C TT) 2 "Ratio" 0 2 G_Ratio___init__) (f : Addr) (cdv : Value) (A : Around) (outer : List PySem.Env) (s : Shared) (H : Hp) (F0 : Hp) (e : XK) (hr : Room 3 (A.deeper (PyProof.Rows.envOfC "Ratio.__mul__" (defScope s_Ratio___mul__) s.heap.objs.size f cdv))) :
    PSs (cxOf (L2.CX prog w) prog w K mg base ["self", "other", "top", "bottom"] "Ratio.__mul__" (defScope s_Ratio___mul__) f cdv A outer s H e) (defBody s_Ratio___mul__) (tS (pm K C TT) ⟨F0, none⟩ H (WE0 e) g_Ratio___mul__) := by
  have sc := sc_Ratio___mul__
  have tk : Takes (cxOf (L2.CX prog w) prog w K mg base ["self", "other", "top", "bottom"] "Ratio.__mul__" (defScope s_Ratio___mul__) f cdv A outer s H e) (WE0 e) := takes_of rfl rfl rfl rfl
  have h := ((sd_cons (by exact sd_if (by exact td_not (by exact td_val (by exact pd_cal c_is_number (hr.mono (by decide)) tk (by exact ad_cons (by exact pd_name 1) ad_nil)))) (by exact sd_one sd_never) sd_nil) (sd_cons (by exact sd_asg (by exact pd_cal c_halves_of (hr.mono (by decide)) tk (by exact ad_cons (by exact pd_name 1) ad_nil)) (by exact gd_tup (n := 2) rfl (by exact gd_cons (by exact gd_name (i := 2) (us := [2, 3]) sc.nd rfl (by first | exact Or.inl rfl | exact Or.inr rfl)) (by exact gd_cons (by exact gd_name (i := 3) (us := [2, 3]) sc.nd rfl (by first | exact Or.inl rfl | exact Or.inr rfl)) gd_nil)))) (by exact sd_one (by exact sd_ret (by exact pd_mk c_Ratio (hr.mono (by decide)) tk (by exact ad_cons (by exact pd_op (od_of io_mulB) (by exact toV (by exact pd_fld (by exact pd_peek 0) T.f_top)) (by exact pd_peek 2)) (by exact ad_cons (by exact pd_op (od_of io_mulB) (by exact toV (by exact pd_fld (by exact pd_peek 0) T.f_bottom)) (by exact pd_peek 3)) ad_nil))))))) : PSs (cxOf (L2.CX prog w) prog w K mg base ["self", "other", "top", "bottom"] "Ratio.__mul__" (defScope s_Ratio___mul__) f cdv A outer s H e) (defBody s_Ratio___mul__) (tS (pm K C TT) ⟨F0, none⟩ H (WE0 e) _))
  exact h
abbrev s_Ratio___rmul__ : Stmt := inClass (top 7) 7
theorem sc_Ratio___rmul__ : FnScope ["self", "other"] ["self", "other"] (defScope s_Ratio___rmul__) := ⟨rfl, rfl, rfl, by decide +kernel, rfl, by decide +kernel, by decide +kernel⟩
theorem b_Ratio___rmul__ (T : Txt prog K mg base C TT) (c___mul__ : OwnD prog w K mg base (pm K C TT) 4 "__mul__" 0 2 G_Ratio___mul__) (f : Addr) (cdv : Value) (A : Around) (outer : List PySem.Env) (s : Shared) (H : Hp) (F0 : Hp) (e : XK) (hr : Room 4 (A.deeper (PyProof.Rows.envOfC "Ratio.__rmul__" (defScope s_Ratio___rmul__) s.heap.objs.size f cdv))) :
    PSs (cxOf (L2.CX prog w) prog w K mg base ["self", "other"] "Ratio.__rmul__" (defScope s_Ratio___rmul__) f cdv A outer s H e) (defBody s_Ratio___rmul__) (tS (pm K C TT) ⟨F0, none⟩ H (WE0 e) g_Ratio___rmul__) := by
  have sc := sc_Ratio___rmul__
  have tk : Takes (cxOf (L2.CX prog w) prog w K mg base ["self", "other"] "Ratio.__rmul__" (defScope s_Ratio___rmul__) f cdv A outer s H e) (WE0 e) := takes_of rfl rfl rfl rfl
  have h := ((by exact sd_one (by exact sd_ret (by exact pd_opL (by decide) (by decide) T.n_mul T.r_mul c___mul__ (hr.mono (by decide)) tk (by exact pd_name 0) (by exact pd_name 1)))) : PSs (cxOf (L2.CX prog w) prog w K mg base ["self", "other"] "Ratio.__rmul__" (defScope s_Ratio___rmul__) f cdv A outer s H e) (defBody s_Ratio___rmul__) (tS (pm K C TT) ⟨F0, none⟩ H (WE0 e) _))
  exact h
abbrev s_Ratio___add__ : Stmt := inClass (top 7) 1
theorem sc_Ratio___add__ : FnScope ["self", "other", "top", "bottom"] ["self", "other"] (defScope s_Ratio___add__) := ⟨rfl, rfl, rfl, by decide +kernel, rfl, by decide +kernel, by decide +kernel⟩
theorem b_Ratio___add__ (T : Txt prog K mg base C TT) (c_is_number : CalD prog w K mg base (pm K C TT) 2 "is_number" 1 G_is_number) (c_halves_of : CalD prog w K mg base (pm K C TT) 1 "halves_of" 1 G_halves_of) (c_Ratio : MkD prog w K mg base (pm K C TT) 2 "Ratio" 0 2 G_Ratio___init__) (f : Addr) (cdv : Value) (A : Around) (outer : List PySem.Env) (s : Shared) (H : Hp) (F0 : Hp) (e : XK) (hr : Room 3 (A.deeper (PyProof.Rows.envOfC "Ratio.__add__" (defScope s_Ratio___add__) s.heap.objs.size f cdv))) :
    PSs (cxOf (L2.CX prog w) prog w K mg base ["self", "other", "top", "bottom"] "Ratio.__add__" (defScope s_Ratio___add__) f cdv A outer s H e) (defBody s_Ratio___add__) (tS (pm K C TT) ⟨F0, none⟩ H (WE0 e) g_Ratio___add__) := by
  have sc := sc_Ratio___add__
  have tk : Takes (cxOf (L2.CX prog w) prog w K mg base ["self", "other", "top", "bottom"] "Ratio.__add__" (defScope s_Ratio___add__) f cdv A outer s H e) (WE0 e) := takes_of rfl rfl rfl rfl
  have h := ((sd_cons (by exact sd_if (by exact td_not (by exact td_val (by exact pd_cal c_is_number (hr.mono (by decide)) tk (by exact ad_cons (by exact pd_name 1) ad_nil)))) (by exact sd_one sd_never) sd_nil) (sd_cons (by exact sd_asg (by exact pd_cal c_halves_of (hr.mono (by decide)) tk (by exact ad_cons (by exact pd_name 1) ad_nil)) (by exact gd_tup (n := 2) rfl (by exact gd_cons (by exact gd_name (i := 2) (us := [2, 3]) sc.nd rfl (by first | exact Or.inl rfl | exact Or.inr rfl)) (by exact gd_cons (by exact gd_name (i := 3) (us := [2, 3]) sc.nd rfl (by first | exact Or.inl rfl | exact Or.inr rfl)) gd_nil)))) (by exact sd_one (by exact sd_ret (by exact pd_mk c_Ratio (hr.mono (by decide)) tk (by exact ad_cons (by exact pd_op (od_of io_addA) (by exact toV (by exact pd_op (od_of io_mulB) (by exact toV (by exact pd_fld (by exact pd_peek 0) T.f_top)) (by exact pd_peek 3))) (by exact toV (by exact pd_op (od_of io_mulB) (by exact pd_peek 2) (by exact toV (by exact pd_fld (by exact pd_peek 0) T.f_bottom))))) (by exact ad_cons (by exact pd_op (od_of io_mulB) (by exact toV (by exact pd_fld (by exact pd_peek 0) T.f_bottom)) (by exact pd_peek 3)) ad_nil))))))) : PSs (cxOf (L2.CX prog w) prog w K mg base ["self", "other", "top", "bottom"] "Ratio.__add__" (defScope s_Ratio___add__) f cdv A outer s H e) (defBody s_Ratio___add__) (tS (pm K C TT) ⟨F0, none⟩ H (WE0 e) _))
  exact h
abbrev s_Ratio___sub__ : Stmt := inClass (top 7) 4
theorem sc_Ratio___sub__ : FnScope ["self", "other"] ["self", "other"] (defScope s_Ratio___sub__) := ⟨rfl, rfl, rfl, by decide +kernel, rfl, by decide +kernel, by decide +kernel⟩
theorem b_Ratio___sub__ (T : Txt prog K mg base C TT) (c___neg__ : OwnD prog w K mg base (pm K C TT) 4 "__neg__" 0 1 G_Ratio___neg__) (c___add__ : OwnD prog w K mg base (pm K C TT) 4 "__add__" 0 2 G_Ratio___add__) (f : Addr) (cdv : Value) (A : Around) (outer : List PySem.Env) (s : Shared) (H : Hp) (F0 : Hp) (e : XK) (hr : Room 4 (A.deeper (PyProof.Rows.envOfC "Ratio.__sub__" (defScope s_Ratio___sub__) s.heap.objs.size f cdv))) :
    PSs (cxOf (L2.CX prog w) prog w K mg base ["self", "other"] "Ratio.__sub__" (defScope s_Ratio___sub__) f cdv A outer s H e) (defBody s_Ratio___sub__) (tS (pm K C TT) ⟨F0, none⟩ H (WE0 e) g_Ratio___sub__) := by
  have sc := sc_Ratio___sub__
  have tk : Takes (cxOf (L2.CX prog w) prog w K mg base ["self", "other"] "Ratio.__sub__" (defScope s_Ratio___sub__) f cdv A outer s H e) (WE0 e) := takes_of rfl rfl rfl rfl
  have h := ((by exact sd_one (by exact sd_ret (by exact pd_opL (by decide) (by decide) T.n_add T.r_add c___add__ (hr.mono (by decide)) tk (by exact pd_name 0) (by exact pd_ngD c___neg__ (hr.mono (by decide)) tk (by exact pd_name 1))))) : PSs (cxOf (L2.CX prog w) prog w K mg base ["self", "other"] "Ratio.__sub__" (defScope s_Ratio___sub__) f cdv A outer s H e) (defBody s_Ratio___sub__) (tS (pm K C TT) ⟨F0, none⟩ H (WE0 e) _))
  exact h
abbrev s_Ratio___rsub__ : Stmt := inClass (top 7) 5
theorem sc_Ratio___rsub__ : FnScope ["self", "other"] ["self", "other"] (defScope s_Ratio___rsub__) := ⟨rfl, rfl, rfl, by decide +kernel, rfl, by decide +kernel, by decide +kernel⟩
theorem b_Ratio___rsub__ (T : Txt prog K mg base C TT) (c___neg__ : OwnD prog w K mg base (pm K C TT) 4 "__neg__" 0 1 G_Ratio___neg__) (c___add__ : OwnD prog w K mg base (pm K C TT) 4 "__add__" 0 2 G_Ratio___add__) (f : Addr) (cdv : Value) (A : Around) (outer : List PySem.Env) (s : Shared) (H : Hp) (F0 : Hp) (e : XK) (hr : Room 4 (A.deeper (PyProof.Rows.envOfC "Ratio.__rsub__" (defScope s_Ratio___rsub__) s.heap.objs.size f cdv))) :
    PSs (cxOf (L2.CX prog w) prog w K mg base ["self", "other"] "Ratio.__rsub__" (defScope s_Ratio___rsub__) f cdv A outer s H e) (defBody s_Ratio___rsub__) (tS (pm K C TT) ⟨F0, none⟩ H (WE0 e) g_Ratio___rsub__) := by
  have sc := sc_Ratio___rsub__
  have tk : Takes (cxOf (L2.CX prog w) prog w K mg base ["self", "other"] "Ratio.__rsub__" (defScope s_Ratio___rsub__) f cdv A outer s H e) (WE0 e) := takes_of rfl rfl rfl rfl
  have h := ((by exact sd_one (by exact sd_ret (by exact pd_opL (by decide) (by decide) T.n_add T.r_add c___add__ (hr.mono (by decide)) tk (by exact pd_ngD c___neg__ (hr.mono (by decide)) tk (by exact pd_name 0)) (by exact pd_name 1)))) : PSs (cxOf (L2.CX prog w) prog w K mg base ["self", "other"] "Ratio.__rsub__" (defScope s_Ratio___rsub__) f cdv A outer s H e) (defBody s_Ratio___rsub__) (tS (pm K C TT) ⟨F0, none⟩ H (WE0 e) _))
  exact h
abbrev s_Ratio___radd__ : Stmt := inClass (top 7) 2
theorem sc_Ratio___radd__ : FnScope ["self", "other"] ["self", "other"] (defScope s_Ratio___radd__) := ⟨rfl, rfl, rfl, by decide +kernel, rfl, by decide +kernel, by decide +kernel⟩
theorem b_Ratio___radd__ (T : Txt prog K mg base C TT) (c___add__ : OwnD prog w K mg base (pm K C TT) 4 "__add__" 0 2 G_Ratio___add__) (f : Addr) (cdv : Value) (A : Around) (outer : List PySem.Env) (s : Shared) (H : Hp) (F0 : Hp) (e : XK) (hr : Room 4 (A.deeper (PyProof.Rows.envOfC "Ratio.__radd__" (defScope s_Ratio___radd__) s.heap.objs.size f cdv))) :
    PSs (cxOf (L2.CX prog w) prog w K mg base ["self", "other"] "Ratio.__radd__" (defScope s_Ratio___radd__) f cdv A outer s H e) (defBody s_Ratio___radd__) (tS (pm K C TT) ⟨F0, none⟩ H (WE0 e) g_Ratio___radd__) := by
  have sc := sc_Ratio___radd__
  have tk : Takes (cxOf (L2.CX prog w) prog w K mg base ["self", "other"] "Ratio.__radd__" (defScope s_Ratio___radd__) f cdv A outer s H e) (WE0 e) := takes_of rfl rfl rfl rfl
  have h := ((by exact sd_one (by exact sd_ret (by exact pd_opL (by decide) (by decide) T.n_add T.r_add c___add__ (hr.mono (by decide)) tk (by exact pd_name 0) (by exact pd_name 1)))) : PSs (cxOf (L2.CX prog w) prog w K mg base ["self", "other"] "Ratio.__radd__" (defScope s_Ratio___radd__) f cdv A outer s H e) (defBody s_Ratio___radd__) (tS (pm K C TT) ⟨F0, none⟩ H (WE0 e) _))
  exact h
abbrev s__law_ops : Stmt := top 18
theorem sc__law_ops : FnScope ["_law_a", "_law_b", "_law_x", "_law_y", "_law_minus_y", "_law_due", "_law_one", "_law_two"] ["_law_a", "_law_b", "_law_x", "_law_y"] (defScope s__law_ops) := ⟨rfl, rfl, rfl, by decide +kernel, rfl, by decide +kernel, by decide +kernel⟩
theorem b__law_ops (T : Txt prog K mg base C TT) (c__law_mul : CalD prog w K mg base (pm K C TT) 3 "_law_mul" 2 G__law_mul) (c__law_add : CalD prog w K mg base (pm K C TT) 3 "_law_add" 2 G__law_add) (c___mul__ : OwnD prog w K mg base (pm K C TT) 4 "__mul__" 0 2 G_Ratio___mul__) (c___rmul__ : OwnD prog w K mg base (pm K C TT) 5 "__rmul__" 0 2 G_Ratio___rmul__) (c___sub__ : OwnD prog w K mg base (pm K C TT) 5 "__sub__" 0 2 G_Ratio___sub__) (c___rsub__ : OwnD prog w K mg base (pm K C TT) 5 "__rsub__" 0 2 G_Ratio___rsub__) (c___add__ : OwnD prog w K mg base (pm K C TT) 4 "__add__" 0 2 G_Ratio___add__) (c___radd__ : OwnD prog w K mg base (pm K C TT) 5 "__radd__" 0 2 G_Ratio___radd__) (c__law_right : CalD prog w K mg base (pm K C TT) 1 "_law_right" 2 G__law_right) (f : Addr) (cdv : Value) (A : Around) (outer : List PySem.Env) (s : Shared) (H : Hp) (F0 : Hp) (e : XK) (hr : Room 5 (A.deeper (PyProof.Rows.envOfC "_law_ops" (defScope s__law_ops) s.heap.objs.size f cdv))) :
    PSs (cxOf (L2.CX prog w) prog w K mg base ["_law_a", "_law_b", "_law_x", "_law_y", "_law_minus_y", "_law_due", "_law_one", "_law_two"] "_law_ops" (defScope s__law_ops) f cdv A outer s H e) (defBody s__law_ops) (tS (pm K C TT) ⟨F0, none⟩ H (WE0 e) g__law_ops) := by
  have sc := sc__law_ops
  have tk : Takes (cxOf (L2.CX prog w) prog w K mg base ["_law_a", "_law_b", "_law_x", "_law_y", "_law_minus_y", "_law_due", "_law_one", "_law_two"] "_law_ops" (defScope s__law_ops) f cdv A outer s H e) (WE0 e) := takes_of rfl rfl rfl rfl
  have h := ((sd_cons (by exact sd_set (i := 4) sc.nd rfl (by first | exact Or.inl rfl | exact Or.inr rfl) (by exact pd_tup (by exact ad_cons (by exact pd_un (ud_of io_neg) (by exact toV (by exact pd_ix (by exact pd_peek 3) (by exact toV pd_int) (fun _ _ => rfl)))) (by exact ad_cons (by exact pd_ix (by exact pd_peek 3) (by exact toV pd_int) (fun _ _ => rfl)) ad_nil)))) (sd_cons (by exact sd_set (i := 5) sc.nd rfl (by first | exact Or.inl rfl | exact Or.inr rfl) (by exact pd_lst (by exact ad_cons (by exact pd_cal c__law_add (hr.mono (by decide)) tk (by exact ad_cons (by exact pd_name 2) (by exact ad_cons (by exact pd_name 3) ad_nil))) (by exact ad_cons (by exact pd_cal c__law_add (hr.mono (by decide)) tk (by exact ad_cons (by exact pd_name 2) (by exact ad_cons (by exact pd_name 4) ad_nil))) (by exact ad_cons (by exact pd_cal c__law_mul (hr.mono (by decide)) tk (by exact ad_cons (by exact pd_name 2) (by exact ad_cons (by exact pd_name 3) ad_nil))) ad_nil))))) (by exact sd_one (by exact sd_ret (by exact n2e (by exact nd_lc (own := [("_law_one", 6), ("_law_two", 7)]) (us := [6, 7]) rfl sc.nd (by exact id_zip rfl T.b_zip (by exact ad_cons (by exact pd_lst (by exact ad_cons (by exact pd_opN rb_add (by decide) (by decide) T.n_add io_add c___add__ c___radd__ (hr.mono (by decide)) (hr.mono (by decide)) tk (by exact pd_name 0) (by exact pd_name 1)) (by exact ad_cons (by exact pd_opN rb_sub (by decide) (by decide) T.n_sub io_sub c___sub__ c___rsub__ (hr.mono (by decide)) (hr.mono (by decide)) tk (by exact pd_name 0) (by exact pd_name 1)) (by exact ad_cons (by exact pd_opN rb_mul (by decide) (by decide) T.n_mul io_mulB c___mul__ c___rmul__ (hr.mono (by decide)) (hr.mono (by decide)) tk (by exact pd_name 0) (by exact pd_name 1)) ad_nil)))) (by exact ad_cons (by exact pd_name 5) ad_nil))) (by show BlkOk ["_law_a", "_law_b", "_law_x", "_law_y", "_law_minus_y", "_law_due", "_law_one", "_law_two"] (defScope s__law_ops) _ [("_law_one", 6), ("_law_two", 7)]; exact ⟨rfl, by decide +kernel, by decide +kernel, by decide +kernel, by decide +kernel⟩) rfl (fun _ _ _ _ _ => (by exact gd_tup (n := 2) rfl (by exact gd_cons (by exact gd_name (i := 6) (us := [6, 7]) sc.nd rfl (by first | exact Or.inl rfl | exact Or.inr rfl)) (by exact gd_cons (by exact gd_name (i := 7) (us := [6, 7]) sc.nd rfl (by first | exact Or.inl rfl | exact Or.inr rfl)) gd_nil)))) (fun _ _ _ _ _ => td_yes) (fun _ _ _ _ _ => (by exact pd_cal c__law_right (hr.mono (by decide)) takes0 (by exact ad_cons (by exact pd_name 6) (by exact ad_cons (by exact pd_name 7) ad_nil)))))))))) : PSs (cxOf (L2.CX prog w) prog w K mg base ["_law_a", "_law_b", "_law_x", "_law_y", "_law_minus_y", "_law_due", "_law_one", "_law_two"] "_law_ops" (defScope s__law_ops) f cdv A outer s H e) (defBody s__law_ops) (tS (pm K C TT) ⟨F0, none⟩ H (WE0 e) _))
  exact h
abbrev s_Ratio___eq__ : Stmt := inClass (top 7) 9
theorem sc_Ratio___eq__ : FnScope ["self", "other"] ["self", "other"] (defScope s_Ratio___eq__) := ⟨rfl, rfl, rfl, by decide +kernel, rfl, by decide +kernel, by decide +kernel⟩
theorem b_Ratio___eq__ (T : Txt prog K mg base C TT) (c_halves_of : CalD prog w K mg base (pm K C TT) 1 "halves_of" 1 G_halves_of) (c_is_number : CalD prog w K mg base (pm K C TT) 2 "is_number" 1 G_is_number) (f : Addr) (cdv : Value) (A : Around) (outer : List PySem.Env) (s : Shared) (H : Hp) (F0 : Hp) (e : XK) (hr : Room 2 (A.deeper (PyProof.Rows.envOfC "Ratio.__eq__" (defScope s_Ratio___eq__) s.heap.objs.size f cdv))) :
    PSs (cxOf (L2.CX prog w) prog w K mg base ["self", "other"] "Ratio.__eq__" (defScope s_Ratio___eq__) f cdv A outer s H e) (defBody s_Ratio___eq__) (tS (pm K C TT) ⟨F0, none⟩ H (WE0 e) g_Ratio___eq__) := by
  have sc := sc_Ratio___eq__
  have tk : Takes (cxOf (L2.CX prog w) prog w K mg base ["self", "other"] "Ratio.__eq__" (defScope s_Ratio___eq__) f cdv A outer s H e) (WE0 e) := takes_of rfl rfl rfl rfl
  have h := ((by exact sd_one (by exact sd_ret (by exact pd_and (by exact pd_cal c_is_number (hr.mono (by decide)) tk (by exact ad_cons (by exact pd_name 1) ad_nil)) (by exact pd_one (by exact pd_pcv (by exact pd_pc (od_of (io_eq hr.units)) (by exact toV (by exact pd_cal c_halves_of (hr.mono (by decide)) tk (by exact ad_cons (by exact pd_name 1) ad_nil))) (by exact toV (by exact pd_tup (by exact ad_cons (by exact pd_fld (by exact pd_peek 0) T.f_top) (by exact ad_cons (by exact pd_fld (by exact pd_peek 0) T.f_bottom) ad_nil))))) (nomark _)))))) : PSs (cxOf (L2.CX prog w) prog w K mg base ["self", "other"] "Ratio.__eq__" (defScope s_Ratio___eq__) f cdv A outer s H e) (defBody s_Ratio___eq__) (tS (pm K C TT) ⟨F0, none⟩ H (WE0 e) _))
  exact h
abbrev s_less : Stmt := top 6
theorem sc_less : FnScope ["one", "two", "first", "second"] ["one", "two"] (defScope s_less) := ⟨rfl, rfl, rfl, by decide +kernel, rfl, by decide +kernel, by decide +kernel⟩
theorem b_less (T : Txt prog K mg base C TT) (c_halves_of : CalD prog w K mg base (pm K C TT) 1 "halves_of" 1 G_halves_of) (f : Addr) (cdv : Value) (A : Around) (outer : List PySem.Env) (s : Shared) (H : Hp) (F0 : Hp) (e : XK) (hr : Room 1 (A.deeper (PyProof.Rows.envOfC "less" (defScope s_less) s.heap.objs.size f cdv))) :
    PSs (cxOf (L2.CX prog w) prog w K mg base ["one", "two", "first", "second"] "less" (defScope s_less) f cdv A outer s H e) (defBody s_less) (tS (pm K C TT) ⟨F0, none⟩ H (WE0 e) g_less) := by
  have sc := sc_less
  have tk : Takes (cxOf (L2.CX prog w) prog w K mg base ["one", "two", "first", "second"] "less" (defScope s_less) f cdv A outer s H e) (WE0 e) := takes_of rfl rfl rfl rfl
  have h := ((sd_cons (by exact sd_par (i := 2) (j := 3) rfl sc.nd rfl rfl (by decide) rfl rfl (by exact ad_cons (by exact pd_cal c_halves_of (hr.mono (by decide)) tk (by exact ad_cons (by exact pd_name 0) ad_nil)) (by exact ad_cons (by exact pd_cal c_halves_of (hr.mono (by decide)) tk (by exact ad_cons (by exact pd_name 1) ad_nil)) ad_nil)) rfl) (by exact sd_one (by exact sd_ret (by exact pd_pcv (by exact pd_pc (od_of io_lt) (by exact toV (by exact pd_op (od_of io_mulB) (by exact toV (by exact pd_ix (by exact pd_peek 2) (by exact toV pd_int) (fun _ _ => rfl))) (by exact toV (by exact pd_ix (by exact pd_peek 3) (by exact toV pd_int) (fun _ _ => rfl))))) (by exact toV (by exact pd_op (od_of io_mulB) (by exact toV (by exact pd_ix (by exact pd_peek 3) (by exact toV pd_int) (fun _ _ => rfl))) (by exact toV (by exact pd_ix (by exact pd_peek 2) (by exact toV pd_int) (fun _ _ => rfl)))))) (nomark _))))) : PSs (cxOf (L2.CX prog w) prog w K mg base ["one", "two", "first", "second"] "less" (defScope s_less) f cdv A outer s H e) (defBody s_less) (tS (pm K C TT) ⟨F0, none⟩ H (WE0 e) _))
  exact h
abbrev s_Ratio_over : Stmt := inClass (top 7) 8
theorem sc_Ratio_over : FnScope ["self", "other", "top", "bottom"] ["self", "other"] (defScope s_Ratio_over) := ⟨rfl, rfl, rfl, by decide +kernel, rfl, by decide +kernel, by decide +kernel⟩
theorem b_Ratio_over (T : Txt prog K mg base C TT) (c_halves_of : CalD prog w K mg base (pm K C TT) 1 "halves_of" 1 G_halves_of) (c_Ratio : MkD prog w K mg base (pm K C TT) 2 "Ratio" 0 2 G_Ratio___init__) (f : Addr) (cdv : Value) (A : Around) (outer : List PySem.Env) (s : Shared) (H : Hp) (F0 : Hp) (e : XK) (hr : Room 3 (A.deeper (PyProof.Rows.envOfC "Ratio.over" (defScope s_Ratio_over) s.heap.objs.size f cdv))) :
    PSs (cxOf (L2.CX prog w) prog w K mg base ["self", "other", "top", "bottom"] "Ratio.over" (defScope s_Ratio_over) f cdv A outer s H e) (defBody s_Ratio_over) (tS (pm K C TT) ⟨F0, none⟩ H (WE0 e) g_Ratio_over) := by
  have sc := sc_Ratio_over
  have tk : Takes (cxOf (L2.CX prog w) prog w K mg base ["self", "other", "top", "bottom"] "Ratio.over" (defScope s_Ratio_over) f cdv A outer s H e) (WE0 e) := takes_of rfl rfl rfl rfl
  have h := ((sd_cons (by exact sd_asg (by exact pd_cal c_halves_of (hr.mono (by decide)) tk (by exact ad_cons (by exact pd_name 1) ad_nil)) (by exact gd_tup (n := 2) rfl (by exact gd_cons (by exact gd_name (i := 2) (us := [2, 3]) sc.nd rfl (by first | exact Or.inl rfl | exact Or.inr rfl)) (by exact gd_cons (by exact gd_name (i := 3) (us := [2, 3]) sc.nd rfl (by first | exact Or.inl rfl | exact Or.inr rfl)) gd_nil)))) (by exact sd_one (by exact sd_ret (by exact pd_mk c_Ratio (hr.mono (by decide)) tk (by exact ad_cons (by exact pd_op (od_of io_mulB) (by exact toV (by exact pd_fld (by exact pd_peek 0) T.f_top)) (by exact pd_peek 3)) (by exact ad_cons (by exact pd_op (od_of io_mulB) (by exact toV (by exact pd_fld (by exact pd_peek 0) T.f_bottom)) (by exact pd_peek 2)) ad_nil)))))) : PSs (cxOf (L2.CX prog w) prog w K mg base ["self", "other", "top", "bottom"] "Ratio.over" (defScope s_Ratio_over) f cdv A outer s H e) (defBody s_Ratio_over) (tS (pm K C TT) ⟨F0, none⟩ H (WE0 e) _))
  exact h
abbrev s__law_over : Stmt := top 19
theorem sc__law_over : FnScope ["_law_a", "_law_b", "_law_x", "_law_y"] ["_law_a", "_law_b", "_law_x", "_law_y"] (defScope s__law_over) := ⟨rfl, rfl, rfl, by decide +kernel, rfl, by decide +kernel, by decide +kernel⟩
theorem b__law_over (T : Txt prog K mg base C TT) (m_Ratio_over : MetD prog w K mg base (pm K C TT) 4 "over" 0 2 G_Ratio_over) (c__law_low : CalD prog w K mg base (pm K C TT) 2 "_law_low" 2 G__law_low) (c__law_right : CalD prog w K mg base (pm K C TT) 1 "_law_right" 2 G__law_right) (cA tA : Addr) (TA : TabAt (pm K C TT) base mg cA tA ("_law_over" ++ ".<locals>." ++ "<lambda>")) (f : Addr)  (A : Around) (outer : List PySem.Env) (s : Shared) (H : Hp) (F0 : Hp) (e : XK) (hr : Room 6 (A.deeper (PyProof.Rows.envOfC "_law_over" (defScope s__law_over) s.heap.objs.size f (.ref cA)))) :
    PSs (cxOf (L2.CX prog w) prog w K mg base ["_law_a", "_law_b", "_law_x", "_law_y"] "_law_over" (defScope s__law_over) f (.ref cA) A outer s H e) (defBody s__law_over) (tS (pm K C TT) ⟨F0, none⟩ H (WE0 e) g__law_over) := by
  have sc := sc__law_over
  have tk : Takes (cxOf (L2.CX prog w) prog w K mg base ["_law_a", "_law_b", "_law_x", "_law_y"] "_law_over" (defScope s__law_over) f (.ref cA) A outer s H e) (WE0 e) := takes_of rfl rfl rfl rfl
  have h := ((sd_cons (by exact sd_if (by exact td_pc (by exact pd_pc (od_of (io_eq hr.units)) (by exact toV (by exact pd_ix (by exact pd_peek 3) (by exact toV pd_int) (fun _ _ => rfl))) (by exact toV pd_int)) (nomark _)) (by exact sd_one (by exact sd_ret (by exact pd_raises (cz := 0) (k := 4) T.rz T.xz TA rfl (hr.mono (by decide)) (LamX.lamS_by (by show LamX.lamSB (defScope s__law_over) _ = true; decide +kernel)) rfl (fun _ _ _ _ _ => rfl) (fun _ _ _ _ _ _ _ hrl tkl => (by exact pd_met m_Ratio_over (hrl.mono (by decide)) tkl (by exact pd_name 0) (by exact ad_cons (by exact pd_name 1) ad_nil)))))) sd_nil) (by exact sd_one (by exact sd_ret (by exact pd_cal c__law_right (hr.mono (by decide)) tk (by exact ad_cons (by exact pd_met m_Ratio_over (hr.mono (by decide)) tk (by exact pd_name 0) (by exact ad_cons (by exact pd_name 1) ad_nil)) (by exact ad_cons (by exact pd_cal c__law_low (hr.mono (by decide)) tk (by exact ad_cons (by exact pd_op (od_of io_mulB) (by exact toV (by exact pd_ix (by exact pd_peek 2) (by exact toV pd_int) (fun _ _ => rfl))) (by exact toV (by exact pd_ix (by exact pd_peek 3) (by exact toV pd_int) (fun _ _ => rfl)))) (by exact ad_cons (by exact pd_op (od_of io_mulB) (by exact toV (by exact pd_ix (by exact pd_peek 2) (by exact toV pd_int) (fun _ _ => rfl))) (by exact toV (by exact pd_ix (by exact pd_peek 3) (by exact toV pd_int) (fun _ _ => rfl)))) ad_nil))) ad_nil)))))) : PSs (cxOf (L2.CX prog w) prog w K mg base ["_law_a", "_law_b", "_law_x", "_law_y"] "_law_over" (defScope s__law_over) f (.ref cA) A outer s H e) (defBody s__law_over) (tS (pm K C TT) ⟨F0, none⟩ H (WE0 e) _))
  exact h
abbrev s_plain : Stmt := top 5
theorem sc_plain : FnScope ["number", "top", "bottom"] ["number"] (defScope s_plain) := ⟨rfl, rfl, rfl, by decide +kernel, rfl, by decide +kernel, by decide +kernel⟩
theorem b_plain (T : Txt prog K mg base C TT) (c_halves_of : CalD prog w K mg base (pm K C TT) 1 "halves_of" 1 G_halves_of) (f : Addr) (cdv : Value) (A : Around) (outer : List PySem.Env) (s : Shared) (H : Hp) (F0 : Hp) (e : XK) (hr : Room 1 (A.deeper (PyProof.Rows.envOfC "plain" (defScope s_plain) s.heap.objs.size f cdv))) :
    PSs (cxOf (L2.CX prog w) prog w K mg base ["number", "top", "bottom"] "plain" (defScope s_plain) f cdv A outer s H e) (defBody s_plain) (tS (pm K C TT) ⟨F0, none⟩ H (WE0 e) g_plain) := by
  have sc := sc_plain
  have tk : Takes (cxOf (L2.CX prog w) prog w K mg base ["number", "top", "bottom"] "plain" (defScope s_plain) f cdv A outer s H e) (WE0 e) := takes_of rfl rfl rfl rfl
  have h := ((sd_cons (by exact sd_asg (by exact pd_cal c_halves_of (hr.mono (by decide)) tk (by exact ad_cons (by exact pd_name 0) ad_nil)) (by exact gd_tup (n := 2) rfl (by exact gd_cons (by exact gd_name (i := 1) (us := [1, 2]) sc.nd rfl (by first | exact Or.inl rfl | exact Or.inr rfl)) (by exact gd_cons (by exact gd_name (i := 2) (us := [1, 2]) sc.nd rfl (by first | exact Or.inl rfl | exact Or.inr rfl)) gd_nil)))) (by exact sd_one (by exact sd_ret (by exact pd_if (by exact td_pc (by exact pd_pc (od_of (io_eq hr.units)) (by exact pd_peek 2) (by exact toV pd_int)) (nomark _)) (by exact pd_name 1) (by exact pd_name 0))))) : PSs (cxOf (L2.CX prog w) prog w K mg base ["number", "top", "bottom"] "plain" (defScope s_plain) f cdv A outer s H e) (defBody s_plain) (tS (pm K C TT) ⟨F0, none⟩ H (WE0 e) _))
  exact h
abbrev s_law : Stmt := top 20
theorem sc_law : FnScope ["_law_script", "_law_first", "_law_second", "_law_number", "_law_x", "_law_y", "_law_z", "_law_a", "_law_b", "_law_one", "_law_left", "_law_right_here", "_law_p", "_law_q", "_law_k", "_law_thing", "_law_told", "_law_is_int", "_law_shut"] ["_law_script"] (defScope s_law) := ⟨rfl, rfl, rfl, by decide +kernel, rfl, by decide +kernel, by decide +kernel⟩
theorem b_law (T : Txt prog K mg base C TT) (c__law_cell : CalD prog w K mg base (pm K C TT) 1 "_law_cell" 2 G__law_cell) (c__law_drawn : CalD prog w K mg base (pm K C TT) 2 "_law_drawn" 2 G__law_drawn) (c__law_low : CalD prog w K mg base (pm K C TT) 2 "_law_low" 2 G__law_low) (c_Ratio : MkD prog w K mg base (pm K C TT) 2 "Ratio" 0 2 G_Ratio___init__) (c___neg__ : OwnD prog w K mg base (pm K C TT) 4 "__neg__" 0 1 G_Ratio___neg__) (c__law_right : CalD prog w K mg base (pm K C TT) 1 "_law_right" 2 G__law_right) (c__law_ops : CalD prog w K mg base (pm K C TT) 6 "_law_ops" 4 G__law_ops) (c___eq__ : OwnD prog w K mg base (pm K C TT) 3 "__eq__" 0 2 G_Ratio___eq__) (c_less : CalD prog w K mg base (pm K C TT) 2 "less" 2 G_less) (c__law_over : CalD prog w K mg base (pm K C TT) 7 "_law_over" 4 G__law_over) (c___sub__ : OwnD prog w K mg base (pm K C TT) 5 "__sub__" 0 2 G_Ratio___sub__) (c___rsub__ : OwnD prog w K mg base (pm K C TT) 5 "__rsub__" 0 2 G_Ratio___rsub__) (c_plain : CalD prog w K mg base (pm K C TT) 2 "plain" 1 G_plain) (m_Ratio_over : MetD prog w K mg base (pm K C TT) 4 "over" 0 2 G_Ratio_over) (d_Ratio : MkDd prog w K mg base (pm K C TT) 2 "Ratio" 0 2 [.int 1] G_Ratio___init__) (k_Ratio : MkDk prog w K mg base (pm K C TT) 2 "Ratio" 0 2 ["bottom", "top"] List.reverse G_Ratio___init__) (cA tA : Addr) (TA : TabAt (pm K C TT) base mg cA tA ("law" ++ ".<locals>." ++ "<lambda>")) (f : Addr)  (A : Around) (outer : List PySem.Env) (s : Shared) (H : Hp) (F0 : Hp) (e : XK) (hr : Room 7 (A.deeper (PyProof.Rows.envOfC "law" (defScope s_law) s.heap.objs.size f (.ref cA)))) :
    PSs (cxOf (L2.CX prog w) prog w K mg base ["_law_script", "_law_first", "_law_second", "_law_number", "_law_x", "_law_y", "_law_z", "_law_a", "_law_b", "_law_one", "_law_left", "_law_right_here", "_law_p", "_law_q", "_law_k", "_law_thing", "_law_told", "_law_is_int", "_law_shut"] "law" (defScope s_law) f (.ref cA) A outer s H e) (defBody s_law) (tS (pm K C TT) ⟨F0, none⟩ H (WE0 e) g_law) := by
  have sc := sc_law
  have tk : Takes (cxOf (L2.CX prog w) prog w K mg base ["_law_script", "_law_first", "_law_second", "_law_number", "_law_x", "_law_y", "_law_z", "_law_a", "_law_b", "_law_one", "_law_left", "_law_right_here", "_law_p", "_law_q", "_law_k", "_law_thing", "_law_told", "_law_is_int", "_law_shut"] "law" (defScope s_law) f (.ref cA) A outer s H e) (WE0 e) := takes_of rfl rfl rfl rfl
  have h := ((sd_cons (by exact sd_set (i := 1) sc.nd rfl (by first | exact Or.inl rfl | exact Or.inr rfl) (by exact pd_cal c__law_drawn (hr.mono (by decide)) tk (by exact ad_cons (by exact pd_cal c__law_cell (hr.mono (by decide)) tk (by exact ad_cons (by exact pd_name 0) (by exact ad_cons pd_int ad_nil))) (by exact ad_cons (by exact pd_cal c__law_cell (hr.mono (by decide)) tk (by exact ad_cons (by exact pd_name 0) (by exact ad_cons pd_int ad_nil))) ad_nil)))) (sd_cons (by exact sd_set (i := 2) sc.nd rfl (by first | exact Or.inl rfl | exact Or.inr rfl) (by exact pd_cal c__law_drawn (hr.mono (by decide)) tk (by exact ad_cons (by exact pd_cal c__law_cell (hr.mono (by decide)) tk (by exact ad_cons (by exact pd_name 0) (by exact ad_cons pd_int ad_nil))) (by exact ad_cons (by exact pd_cal c__law_cell (hr.mono (by decide)) tk (by exact ad_cons (by exact pd_name 0) (by exact ad_cons pd_int ad_nil))) ad_nil)))) (sd_cons (by exact sd_set (i := 3) sc.nd rfl (by first | exact Or.inl rfl | exact Or.inr rfl) (by exact pd_op (od_of io_sub) (by exact toV (by exact pd_op (od_of io_mod) (by exact toV (by exact pd_callTy ic_int2 rfl T.b_int (by decide +kernel) (by exact av_cons (by exact toV (by exact pd_cal c__law_cell (hr.mono (by decide)) tk (by exact ad_cons (by exact pd_name 0) (by exact ad_cons pd_int ad_nil)))) av_nil))) (by exact toV (by exact pd_ix (by exact toV (by exact pd_lst (by exact ad_cons (by exact pd_op (od_of io_pow) (by exact toV pd_int) (by exact toV pd_int)) (by exact ad_cons pd_int ad_nil)))) (by exact toV (by exact pd_op (od_of io_mod) (by exact toV (by exact pd_callTy ic_int2 rfl T.b_int (by decide +kernel) (by exact av_cons (by exact toV (by exact pd_cal c__law_cell (hr.mono (by decide)) tk (by exact ad_cons (by exact pd_name 0) (by exact ad_cons pd_int ad_nil)))) av_nil))) (by exact toV pd_int))) (fun _ _ => rfl))))) (by exact toV pd_int))) (sd_cons (by exact sd_par3 (i := 4) (j := 5) (l := 6) rfl sc.nd rfl rfl rfl (by decide) (by decide) (by decide) rfl rfl rfl (by exact ad_cons (by exact pd_cal c__law_low (hr.mono (by decide)) tk (by exact ad_cons (by exact pd_ix (by exact pd_peek 1) (by exact toV pd_int) (fun _ _ => rfl)) (by exact ad_cons (by exact pd_ix (by exact pd_peek 1) (by exact toV pd_int) (fun _ _ => rfl)) ad_nil))) (by exact ad_cons (by exact pd_cal c__law_low (hr.mono (by decide)) tk (by exact ad_cons (by exact pd_ix (by exact pd_peek 2) (by exact toV pd_int) (fun _ _ => rfl)) (by exact ad_cons (by exact pd_ix (by exact pd_peek 2) (by exact toV pd_int) (fun _ _ => rfl)) ad_nil))) (by exact ad_cons (by exact pd_tup (by exact ad_cons (by exact pd_name 3) (by exact ad_cons pd_int ad_nil))) ad_nil))) rfl) (sd_cons (by exact sd_asg (by exact pd_tup (by exact ad_cons (by exact pd_mk c_Ratio (hr.mono (by decide)) tk (by exact ad_cons (by exact pd_ix (by exact pd_peek 1) (by exact toV pd_int) (fun _ _ => rfl)) (by exact ad_cons (by exact pd_ix (by exact pd_peek 1) (by exact toV pd_int) (fun _ _ => rfl)) ad_nil))) (by exact ad_cons (by exact pd_mkk (ks := ["bottom", "top"]) k_Ratio (hr.mono (by decide)) (by exact kd_cons (by exact pd_ix (by exact pd_peek 2) (by exact toV pd_int) (fun _ _ => rfl)) (by exact kd_cons (by exact pd_ix (by exact pd_peek 2) (by exact toV pd_int) (fun _ _ => rfl)) kd_nil))) (by exact ad_cons (by exact pd_mkd d_Ratio (hr.mono (by decide)) tk (by exact ad_cons (by exact pd_name 3) ad_nil)) ad_nil)))) (by exact gd_tup (n := 3) rfl (by exact gd_cons (by exact gd_name (i := 7) (us := [7, 8, 9]) sc.nd rfl (by first | exact Or.inl rfl | exact Or.inr rfl)) (by exact gd_cons (by exact gd_name (i := 8) (us := [7, 8, 9]) sc.nd rfl (by first | exact Or.inl rfl | exact Or.inr rfl)) (by exact gd_cons (by exact gd_name (i := 9) (us := [7, 8, 9]) sc.nd rfl (by first | exact Or.inl rfl | exact Or.inr rfl)) gd_nil))))) (sd_cons (by exact sd_if (by exact PW.pt (by exact td_or (by exact td_not (by exact td_val (by exact pd_cal c__law_right (hr.mono (by decide)) tk (by exact ad_cons (by exact pd_name 7) (by exact ad_cons (by exact pd_name 4) ad_nil))))) (by exact td_or (by exact td_not (by exact td_val (by exact pd_cal c__law_right (hr.mono (by decide)) tk (by exact ad_cons (by exact pd_name 8) (by exact ad_cons (by exact pd_name 5) ad_nil))))) (by exact td_or (by exact td_not (by exact td_val (by exact pd_cal c__law_right (hr.mono (by decide)) tk (by exact ad_cons (by exact pd_name 9) (by exact ad_cons (by exact pd_name 6) ad_nil))))) (by exact td_or1 (by exact td_not (by exact td_val (by exact pd_cal c__law_right (hr.mono (by decide)) tk (by exact ad_cons (by exact pd_ngD c___neg__ (hr.mono (by decide)) tk (by exact pd_name 7)) (by exact ad_cons (by exact pd_tup (by exact ad_cons (by exact pd_un (ud_of io_neg) (by exact toV (by exact pd_ix (by exact pd_peek 4) (by exact toV pd_int) (fun _ _ => rfl)))) (by exact ad_cons (by exact pd_ix (by exact pd_peek 4) (by exact toV pd_int) (fun _ _ => rfl)) ad_nil))) ad_nil)))))))))) (by exact sd_one (by exact sd_ret pd_bl)) sd_nil) (sd_cons (by exact sd_for (passes_of rfl) rfl (by exact id_seq (by exact pd_lst (by exact ad_cons (by exact pd_tup (by exact ad_cons (by exact pd_name 7) (by exact ad_cons (by exact pd_name 8) (by exact ad_cons (by exact pd_name 4) (by exact ad_cons (by exact pd_name 5) ad_nil))))) (by exact ad_cons (by exact pd_tup (by exact ad_cons (by exact pd_name 7) (by exact ad_cons (by exact pd_name 3) (by exact ad_cons (by exact pd_name 4) (by exact ad_cons (by exact pd_name 6) ad_nil))))) (by exact ad_cons (by exact pd_tup (by exact ad_cons (by exact pd_name 3) (by exact ad_cons (by exact pd_name 8) (by exact ad_cons (by exact pd_name 6) (by exact ad_cons (by exact pd_name 5) ad_nil))))) (by exact ad_cons (by exact pd_tup (by exact ad_cons (by exact pd_name 7) (by exact ad_cons (by exact pd_name 9) (by exact ad_cons (by exact pd_name 4) (by exact ad_cons (by exact pd_name 6) ad_nil))))) (by exact ad_cons (by exact pd_tup (by exact ad_cons (by exact pd_name 7) (by exact ad_cons (by exact pd_name 7) (by exact ad_cons (by exact pd_name 4) (by exact ad_cons (by exact pd_name 4) ad_nil))))) ad_nil))))))) (by exact gd_tup (n := 4) rfl (by exact gd_cons (by exact gd_name (i := 10) (us := [10, 11, 12, 13]) sc.nd rfl (by first | exact Or.inl rfl | exact Or.inr rfl)) (by exact gd_cons (by exact gd_name (i := 11) (us := [10, 11, 12, 13]) sc.nd rfl (by first | exact Or.inl rfl | exact Or.inr rfl)) (by exact gd_cons (by exact gd_name (i := 12) (us := [10, 11, 12, 13]) sc.nd rfl (by first | exact Or.inl rfl | exact Or.inr rfl)) (by exact gd_cons (by exact gd_name (i := 13) (us := [10, 11, 12, 13]) sc.nd rfl (by first | exact Or.inl rfl | exact Or.inr rfl)) gd_nil))))) (sd_cons (by exact sd_if (by exact td_pc (by exact pd_pc (od_of (io_inD (units65 hr))) (by exact toV pd_bl) (by exact toV (by exact pd_cal c__law_ops (hr.mono (by decide)) tk (by exact ad_cons (by exact pd_name 10) (by exact ad_cons (by exact pd_name 11) (by exact ad_cons (by exact pd_name 12) (by exact ad_cons (by exact pd_name 13) ad_nil))))))) rfl) (by exact sd_one (by exact sd_ret pd_bl)) sd_nil) (sd_cons (by exact sd_if (by exact PW.pt (by exact td_or (by exact td_pc (by exact pd_pc (od_of (io_ne hr.units)) (by exact toV (by exact pd_pcv (by exact pc_eqN T.ec c___eq__ (hr.mono (by decide)) tk (by exact pd_name 10) (by exact pd_name 11)) (nomark _))) (by exact toV (by exact pd_pcv (by exact pd_pc (od_of (io_eq hr.units)) (by exact pd_peek 12) (by exact pd_peek 13)) (nomark _)))) (nomark _)) (by exact td_or (by exact td_pc (by exact pd_pc (od_of (io_eq hr.units)) (by exact toV (by exact pd_pcv (by exact pc_neN T.ec c___eq__ (hr.mono (by decide)) tk (by exact pd_name 10) (by exact pd_name 11)) (nomark _))) (by exact toV (by exact pd_pcv (by exact pd_pc (od_of (io_eq hr.units)) (by exact pd_peek 12) (by exact pd_peek 13)) (nomark _)))) (nomark _)) (by exact td_or1 (by exact td_pc (by exact pd_pc (od_of (io_ne hr.units)) (by exact toV (by exact pd_pcv (by exact pc_eqN T.ec c___eq__ (hr.mono (by decide)) tk (by exact pd_name 11) (by exact pd_name 10)) (nomark _))) (by exact toV (by exact pd_pcv (by exact pd_pc (od_of (io_eq hr.units)) (by exact pd_peek 12) (by exact pd_peek 13)) (nomark _)))) (nomark _)))))) (by exact sd_one (by exact sd_ret pd_bl)) sd_nil) (by exact sd_one (by exact sd_if (by exact PW.pt (by exact td_or (by exact td_pc (by exact pd_pc (od_of (io_ne hr.units)) (by exact toV (by exact pd_cal c_less (hr.mono (by decide)) tk (by exact ad_cons (by exact pd_name 10) (by exact ad_cons (by exact pd_name 11) ad_nil)))) (by exact toV (by exact pd_pcv (by exact pd_pc (od_of io_lt) (by exact toV (by exact pd_op (od_of io_mulB) (by exact toV (by exact pd_ix (by exact pd_peek 12) (by exact toV pd_int) (fun _ _ => rfl))) (by exact toV (by exact pd_ix (by exact pd_peek 13) (by exact toV pd_int) (fun _ _ => rfl))))) (by exact toV (by exact pd_op (od_of io_mulB) (by exact toV (by exact pd_ix (by exact pd_peek 13) (by exact toV pd_int) (fun _ _ => rfl))) (by exact toV (by exact pd_ix (by exact pd_peek 12) (by exact toV pd_int) (fun _ _ => rfl)))))) (nomark _)))) (nomark _)) (by exact td_or1 (by exact td_pc (by exact pd_pc (od_of (io_ne hr.units)) (by exact toV (by exact pd_cal c_less (hr.mono (by decide)) tk (by exact ad_cons (by exact pd_name 11) (by exact ad_cons (by exact pd_name 10) ad_nil)))) (by exact toV (by exact pd_pcv (by exact pd_pc (od_of io_lt) (by exact toV (by exact pd_op (od_of io_mulB) (by exact toV (by exact pd_ix (by exact pd_peek 13) (by exact toV pd_int) (fun _ _ => rfl))) (by exact toV (by exact pd_ix (by exact pd_peek 12) (by exact toV pd_int) (fun _ _ => rfl))))) (by exact toV (by exact pd_op (od_of io_mulB) (by exact toV (by exact pd_ix (by exact pd_peek 12) (by exact toV pd_int) (fun _ _ => rfl))) (by exact toV (by exact pd_ix (by exact pd_peek 13) (by exact toV pd_int) (fun _ _ => rfl)))))) (nomark _)))) (nomark _))))) (by exact sd_one (by exact sd_ret pd_bl)) sd_nil))))) (sd_cons (by exact sd_if (by exact td_pc (by exact pd_pc (od_of (io_ne hr.units)) (by exact toV (by exact n2e (by exact nd_lc (own := [("_law_k", 14)]) (us := [14]) rfl sc.nd (by exact id_seq (by exact pd_tup (by exact ad_cons pd_int (by exact ad_cons pd_int (by exact ad_cons (by exact pd_un (ud_of io_neg) (by exact toV pd_int)) ad_nil))))) (by show BlkOk ["_law_script", "_law_first", "_law_second", "_law_number", "_law_x", "_law_y", "_law_z", "_law_a", "_law_b", "_law_one", "_law_left", "_law_right_here", "_law_p", "_law_q", "_law_k", "_law_thing", "_law_told", "_law_is_int", "_law_shut"] (defScope s_law) _ [("_law_k", 14)]; exact ⟨rfl, by decide +kernel, by decide +kernel, by decide +kernel, by decide +kernel⟩) rfl (fun _ _ _ _ _ => (by exact gd_name (i := 14) (us := [14]) sc.nd rfl (by first | exact Or.inl rfl | exact Or.inr rfl))) (fun _ _ _ _ _ => td_yes) (fun _ _ _ _ _ => (by exact pd_cal c_less (hr.mono (by decide)) takes0 (by exact ad_cons (by exact pd_name 3) (by exact ad_cons (by exact pd_op (od_of io_addA) (by exact pd_peek 3) (by exact pd_peek 14)) ad_nil))))))) (by exact toV (by exact pd_lst (by exact ad_cons pd_bl (by exact ad_cons pd_bl (by exact ad_cons pd_bl ad_nil)))))) (nomark _)) (by exact sd_one (by exact sd_ret pd_bl)) sd_nil) (sd_cons (by exact sd_if (by exact PW.pt (by exact td_or (by exact td_not (by exact td_val (by exact pd_cal c__law_over (hr.mono (by decide)) tk (by exact ad_cons (by exact pd_name 7) (by exact ad_cons (by exact pd_name 8) (by exact ad_cons (by exact pd_name 4) (by exact ad_cons (by exact pd_name 5) ad_nil))))))) (by exact td_or (by exact td_not (by exact td_val (by exact pd_cal c__law_over (hr.mono (by decide)) tk (by exact ad_cons (by exact pd_name 8) (by exact ad_cons (by exact pd_name 3) (by exact ad_cons (by exact pd_name 5) (by exact ad_cons (by exact pd_name 6) ad_nil))))))) (by exact td_or1 (by exact td_not (by exact td_val (by exact pd_cal c__law_over (hr.mono (by decide)) tk (by exact ad_cons (by exact pd_name 9) (by exact ad_cons (by exact pd_name 7) (by exact ad_cons (by exact pd_name 6) (by exact ad_cons (by exact pd_name 4) ad_nil))))))))))) (by exact sd_one (by exact sd_ret pd_bl)) sd_nil) (sd_cons (by exact sd_for (passes_of rfl) rfl (by exact id_seq (by exact pd_lst (by exact ad_cons (by exact pd_tup (by exact ad_cons (by exact pd_name 7) (by exact ad_cons (by exact pd_name 4) ad_nil))) (by exact ad_cons (by exact pd_tup (by exact ad_cons (by exact pd_name 8) (by exact ad_cons (by exact pd_name 5) ad_nil))) (by exact ad_cons (by exact pd_tup (by exact ad_cons (by exact pd_name 9) (by exact ad_cons (by exact pd_name 6) ad_nil))) (by exact ad_cons (by exact pd_tup (by exact ad_cons (by exact pd_name 3) (by exact ad_cons (by exact pd_name 6) ad_nil))) (by exact ad_cons (by exact pd_tup (by exact ad_cons (by exact pd_opN rb_sub (by decide) (by decide) T.n_sub io_sub c___sub__ c___rsub__ (hr.mono (by decide)) (hr.mono (by decide)) tk (by exact pd_name 7) (by exact pd_name 7)) (by exact ad_cons (by exact pd_tup (by exact ad_cons pd_int (by exact ad_cons pd_int ad_nil))) ad_nil))) ad_nil))))))) (by exact gd_tup (n := 2) rfl (by exact gd_cons (by exact gd_name (i := 15) (us := [15, 12]) sc.nd rfl (by first | exact Or.inl rfl | exact Or.inr rfl)) (by exact gd_cons (by exact gd_name (i := 12) (us := [15, 12]) sc.nd rfl (by first | exact Or.inl rfl | exact Or.inr rfl)) gd_nil))) (sd_cons (by exact sd_set (i := 16) sc.nd rfl (by first | exact Or.inl rfl | exact Or.inr rfl) (by exact pd_cal c_plain (hr.mono (by decide)) tk (by exact ad_cons (by exact pd_name 15) ad_nil))) (sd_cons (by exact sd_set (i := 17) sc.nd rfl (by first | exact Or.inl rfl | exact Or.inr rfl) (by exact pd_and (by exact pd_isi T.isi T.kit_int (.ty "int") (pe_bltn rfl T.b_int (by decide +kernel) rfl) (by exact pd_peek 16) rfl T.b_isinstance) (by exact pd_and (by exact pd_not (by exact pd_isi T.isi T.kit_bool (.ty "bool") (pe_bltn rfl T.b_bool (by decide +kernel) rfl) (by exact pd_peek 16) rfl T.b_isinstance)) (by exact pd_one (by exact pd_pcv (by exact pd_pc (od_of (io_eq hr.units)) (by exact pd_peek 16) (by exact toV (by exact pd_ix (by exact pd_peek 12) (by exact toV pd_int) (fun _ _ => rfl)))) (nomark _)))))) (by exact sd_one (by exact sd_if (by exact td_ifx (by exact td_pc (by exact pd_pc (od_of (io_eq hr.units)) (by exact toV (by exact pd_ix (by exact pd_peek 12) (by exact toV pd_int) (fun _ _ => rfl))) (by exact toV pd_int)) (nomark _)) (by exact td_not (by exact td_val (by exact pd_name 17))) (by exact td_not (by exact td_val (by exact pd_cal c__law_right (hr.mono (by decide)) tk (by exact ad_cons (by exact pd_name 16) (by exact ad_cons (by exact pd_name 12) ad_nil)))))) (by exact sd_one (by exact sd_ret pd_bl)) sd_nil))))) (sd_cons (by exact sd_setN (i := 18) sc.nd rfl (by first | exact Or.inl rfl | exact Or.inr rfl) (by exact nd_lst (by exact ad_cons (by exact pd_raises (cz := 0) (k := 3) T.rz T.xz TA rfl (hr.mono (by decide)) (LamX.lamS_by (by show LamX.lamSB (defScope s_law) _ = true; decide +kernel)) rfl (fun _ _ _ _ _ => rfl) (fun _ _ _ _ _ _ _ hrl tkl => (by exact pd_mk c_Ratio (hrl.mono (by decide)) tkl (by exact ad_cons (by exact pd_ix (by exact pd_peek 1) (by exact toV pd_int) (fun _ _ => rfl)) (by exact ad_cons pd_int ad_nil))))) ad_nil))) (sd_cons (by exact sd_append 18 (by exact pd_raises (cz := 0) (k := 4) T.rz T.xz TA rfl (hr.mono (by decide)) (LamX.lamS_by (by show LamX.lamSB (defScope s_law) _ = true; decide +kernel)) rfl (fun _ _ _ _ _ => rfl) (fun _ _ _ _ _ _ _ hrl tkl => (by exact pd_met m_Ratio_over (hrl.mono (by decide)) tkl (by exact pd_name 7) (by exact ad_cons pd_int ad_nil))))) (sd_cons (by exact sd_append 18 (by exact pd_raises (cz := 0) (k := 4) T.rz T.xz TA rfl (hr.mono (by decide)) (LamX.lamS_by (by show LamX.lamSB (defScope s_law) _ = true; decide +kernel)) rfl (fun _ _ _ _ _ => rfl) (fun _ _ _ _ _ _ _ hrl tkl => (by exact pd_met m_Ratio_over (hrl.mono (by decide)) tkl (by exact pd_name 7) (by exact ad_cons (by exact pd_mk c_Ratio (hrl.mono (by decide)) tkl (by exact ad_cons pd_int (by exact ad_cons pd_int ad_nil))) ad_nil))))) (sd_cons (by exact sd_if (by exact td_pc (by exact pd_pc (od_of (io_inD (units65 hr))) (by exact toV pd_bl) (by exact pd_peek 18)) rfl) (by exact sd_one (by exact sd_ret pd_bl)) sd_nil) (by exact sd_one (by exact sd_ret (by exact pd_and (by exact pd_not (by exact pd_callB (ic_any rfl) rfl T.b_any (by decide +kernel) (by exact av_cons (by exact toV (by exact n2e (by exact nd_lc (own := [("_law_thing", 15)]) (us := [15]) rfl sc.nd (by exact id_seq (by exact pd_tup (by exact ad_cons pd_bl (by exact ad_cons pd_str (by exact ad_cons pd_non (by exact ad_cons (by exact pd_lst (by exact ad_cons pd_int ad_nil)) (by exact ad_cons (by exact pd_tup (by exact ad_cons pd_int (by exact ad_cons pd_int ad_nil))) ad_nil))))))) (by show BlkOk ["_law_script", "_law_first", "_law_second", "_law_number", "_law_x", "_law_y", "_law_z", "_law_a", "_law_b", "_law_one", "_law_left", "_law_right_here", "_law_p", "_law_q", "_law_k", "_law_thing", "_law_told", "_law_is_int", "_law_shut"] (defScope s_law) _ [("_law_thing", 15)]; exact ⟨rfl, by decide +kernel, by decide +kernel, by decide +kernel, by decide +kernel⟩) rfl (fun _ _ _ _ _ => (by exact gd_name (i := 15) (us := [15]) sc.nd rfl (by first | exact Or.inl rfl | exact Or.inr rfl))) (fun _ _ _ _ _ => td_yes) (fun _ _ _ _ _ => (by exact pd_pcv (by exact pc_eqN T.ec c___eq__ (hr.mono (by decide)) takes0 (by exact pd_mkd d_Ratio (hr.mono (by decide)) takes0 (by exact ad_cons pd_int ad_nil)) (by exact pd_name 15)) (nomark _)))))) av_nil))) (by exact pd_one (by exact pd_pcv (by exact pc_neN T.ec c___eq__ (hr.mono (by decide)) tk (by exact pd_mkd d_Ratio (hr.mono (by decide)) tk (by exact ad_cons pd_int ad_nil)) pd_bl) (nomark _)))))))))))))))))))) : PSs (cxOf (L2.CX prog w) prog w K mg base ["_law_script", "_law_first", "_law_second", "_law_number", "_law_x", "_law_y", "_law_z", "_law_a", "_law_b", "_law_one", "_law_left", "_law_right_here", "_law_p", "_law_q", "_law_k", "_law_thing", "_law_told", "_law_is_int", "_law_shut"] "law" (defScope s_law) f (.ref cA) A outer s H e) (defBody s_law) (tS (pm K C TT) ⟨F0, none⟩ H (WE0 e) _))
  exact h
end
end DL.K2
namespace DL
open PySem L2
theorem cx_false {P : Program} {w : World} {H : Hp} {s : Shared} {u : Value} {s' : Shared} (h : L2.CX P w [] H s (fun _ _ _ => False) u s') : False := by
  obtain ⟨_, _, _, _, _, _, _, _, _, _, _, _, z⟩ := h
  exact z
end DL
namespace DL.K2
open PySem L2
abbrev lw : PySem.W.OpenLaw := PySem.Challenge.rw_everylist_k02_ratios
abbrev s__law_raises : Stmt := top 17
theorem sc__law_raises : FnScope ["_law_ask"] ["_law_ask"] (defScope s__law_raises) := ⟨rfl, rfl, rfl, by decide +kernel, rfl, by decide +kernel, by decide +kernel⟩
theorem all_mk {w : World} {K : PySem.W.Frag} {h : Heap} {mg : Str → Option Value} {fa C : Addr} (X : K.In h) (G : h.Ns mainGlobals mg) (hfa : mg "law" = some (.ref fa))
    {f0 : Addr} {od0 an0 : Option Addr} {sl0 : Array (Option Value)} {oc0 kV0 dc0 pm0 ct0 : Value} {cd0 : Value}
    {f1 : Addr} {od1 an1 : Option Addr} {sl1 : Array (Option Value)} {oc1 kV1 dc1 pm1 ct1 : Value} {cd1 : Value}
    {f2 : Addr} {od2 an2 : Option Addr} {sl2 : Array (Option Value)} {oc2 kV2 dc2 pm2 ct2 : Value} {cd2 : Value}
    {f3 : Addr} {od3 an3 : Option Addr} {sl3 : Array (Option Value)} {oc3 kV3 dc3 pm3 ct3 : Value} {cd3 : Value}
    {f4 : Addr} {od4 an4 : Option Addr} {sl4 : Array (Option Value)} {oc4 kV4 dc4 pm4 ct4 : Value} {cd4 : Value}
    {f5 : Addr} {od5 an5 : Option Addr} {sl5 : Array (Option Value)} {oc5 kV5 dc5 pm5 ct5 : Value} {cd5 : Value}
    {f6 : Addr} {od6 an6 : Option Addr} {sl6 : Array (Option Value)} {oc6 kV6 dc6 pm6 ct6 : Value} {cd6 : Value}
    {f7 : Addr} {od7 an7 : Option Addr} {sl7 : Array (Option Value)} {oc7 kV7 dc7 pm7 ct7 : Value} {cd7 : Value}
    {f8 : Addr} {od8 an8 : Option Addr} {sl8 : Array (Option Value)} {oc8 kV8 dc8 pm8 ct8 : Value} {cd8 : Value}
    {f9 : Addr} {od9 an9 : Option Addr} {sl9 : Array (Option Value)} {oc9 kV9 dc9 pm9 ct9 : Value} {cd9 : Value}
    {f10 : Addr} {od10 an10 : Option Addr} {sl10 : Array (Option Value)} {oc10 kV10 dc10 pm10 ct10 : Value} {cd10 : Value}
    {f11 : Addr} {od11 an11 : Option Addr} {sl11 : Array (Option Value)} {oc11 kV11 dc11 pm11 ct11 : Value} {cd11 : Value}
    {f12 : Addr} {od12 an12 : Option Addr} {sl12 : Array (Option Value)} {oc12 kV12 dc12 pm12 ct12 : Value} {cd12 : Value}
    {f13 : Addr} {od13 an13 : Option Addr} {sl13 : Array (Option Value)} {oc13 kV13 dc13 pm13 ct13 : Value} {cd13 : Value}
    {f14 : Addr} {od14 an14 : Option Addr} {sl14 : Array (Option Value)} {oc14 kV14 dc14 pm14 ct14 : Value} {cd14 : Value}
    {f15 : Addr} {od15 an15 : Option Addr} {sl15 : Array (Option Value)} {oc15 kV15 dc15 pm15 ct15 : Value} {cd15 : Value}
    {f16 : Addr} {od16 an16 : Option Addr} {sl16 : Array (Option Value)} {oc16 kV16 dc16 pm16 ct16 : Value} {cd16 : Value}
    {f17 : Addr} {od17 an17 : Option Addr} {sl17 : Array (Option Value)} {oc17 kV17 dc17 pm17 ct17 : Value} {cd17 : Value}
    {f18 : Addr} {od18 an18 : Option Addr} {sl18 : Array (Option Value)} {oc18 kV18 dc18 pm18 ct18 : Value} {cd18 : Value}
    {f19 : Addr} {od19 an19 : Option Addr} {sl19 : Array (Option Value)} {oc19 kV19 dc19 pm19 ct19 : Value} {cd19 : Value}
    {f20 : Addr} {od20 an20 : Option Addr} {sl20 : Array (Option Value)} {oc20 kV20 dc20 pm20 ct20 : Value} {cd20 : Value}
    {f21 : Addr} {od21 an21 : Option Addr} {sl21 : Array (Option Value)} {oc21 kV21 dc21 pm21 ct21 : Value} {cd21 : Value}
    {f22 : Addr} {od22 an22 : Option Addr} {sl22 : Array (Option Value)} {oc22 kV22 dc22 pm22 ct22 : Value} {cd22 : Value}
    {f23 : Addr} {od23 an23 : Option Addr} {sl23 : Array (Option Value)} {oc23 kV23 dc23 pm23 ct23 : Value} {cd23 : Value}
    {f24 : Addr} {od24 an24 : Option Addr} {sl24 : Array (Option Value)} {oc24 kV24 dc24 pm24 ct24 : Value} {cA24 tA24 : Addr} {ce24 : Value} {cd24 : Option Addr} {vs24 : Array Value} {cs24 : Array (Option Value)}
    {f25 : Addr} {od25 an25 : Option Addr} {sl25 : Array (Option Value)} {oc25 kV25 dc25 pm25 ct25 : Value} {cd25 : Value}
    {f26 : Addr} {od26 an26 : Option Addr} {sl26 : Array (Option Value)} {oc26 kV26 dc26 pm26 ct26 : Value} {cA26 tA26 : Addr} {ce26 : Value} {cd26 : Option Addr} {vs26 : Array Value} {cs26 : Array (Option Value)}
    {f27 : Addr} {od27 an27 : Option Addr} {sl27 : Array (Option Value)} {oc27 kV27 dc27 pm27 ct27 : Value} {cd27 : Value}
    {tT : Addr} {oT : Value} {dT : Option Addr} {uT : Tok} {nT : Nat} {sT : Array (Option Value)}
    {io_add : Option Value}
    {io_radd : Option Value}
    {io_sub : Option Value}
    {io_rsub : Option Value}
    {io_mul : Option Value}
    {io_rmul : Option Value}
    (aC : PySem.W.nsIn K mainGlobals "Ratio" = some (some (.ref C)))
    (a0 : PySem.W.nsIn K mainGlobals "_law_cell" = some (some (.ref f0)))
    (l0 : K.lookup f0 = some ⟨oc0, od0, .func (PySem.W.fnOf "_law_cell" "_law_cell" (defArgs s__law_cell) (defBody s__law_cell) (defScope s__law_cell) .none kV0 dc0 pm0 an0 cd0 ct0), sl0⟩)
    (c0 : PySem.W.codeIn K cd0 "_law_cell" = true)
    (k0 : PySem.W.keepIn K (.ref f0) = true)
    (a1 : PySem.W.nsIn K mainGlobals "_law_row" = some (some (.ref f1)))
    (l1 : K.lookup f1 = some ⟨oc1, od1, .func (PySem.W.fnOf "_law_row" "_law_row" (defArgs s__law_row) (defBody s__law_row) (defScope s__law_row) .none kV1 dc1 pm1 an1 cd1 ct1), sl1⟩)
    (c1 : PySem.W.codeIn K cd1 "_law_row" = true)
    (k1 : PySem.W.keepIn K (.ref f1) = true)
    (a2 : PySem.W.nsIn K mainGlobals "_law_drawn" = some (some (.ref f2)))
    (l2 : K.lookup f2 = some ⟨oc2, od2, .func (PySem.W.fnOf "_law_drawn" "_law_drawn" (defArgs s__law_drawn) (defBody s__law_drawn) (defScope s__law_drawn) .none kV2 dc2 pm2 an2 cd2 ct2), sl2⟩)
    (c2 : PySem.W.codeIn K cd2 "_law_drawn" = true)
    (k2 : PySem.W.keepIn K (.ref f2) = true)
    (a3 : PySem.W.nsIn K mainGlobals "_law_share" = some (some (.ref f3)))
    (l3 : K.lookup f3 = some ⟨oc3, od3, .func (PySem.W.fnOf "_law_share" "_law_share" (defArgs s__law_share) (defBody s__law_share) (defScope s__law_share) .none kV3 dc3 pm3 an3 cd3 ct3), sl3⟩)
    (c3 : PySem.W.codeIn K cd3 "_law_share" = true)
    (k3 : PySem.W.keepIn K (.ref f3) = true)
    (a4 : PySem.W.nsIn K mainGlobals "_law_low" = some (some (.ref f4)))
    (l4 : K.lookup f4 = some ⟨oc4, od4, .func (PySem.W.fnOf "_law_low" "_law_low" (defArgs s__law_low) (defBody s__law_low) (defScope s__law_low) .none kV4 dc4 pm4 an4 cd4 ct4), sl4⟩)
    (c4 : PySem.W.codeIn K cd4 "_law_low" = true)
    (k4 : PySem.W.keepIn K (.ref f4) = true)
    (a5 : PySem.W.nsIn K mainGlobals "common" = some (some (.ref f5)))
    (l5 : K.lookup f5 = some ⟨oc5, od5, .func (PySem.W.fnOf "common" "common" (defArgs s_common) (defBody s_common) (defScope s_common) .none kV5 dc5 pm5 an5 cd5 ct5), sl5⟩)
    (c5 : PySem.W.codeIn K cd5 "common" = true)
    (k5 : PySem.W.keepIn K (.ref f5) = true)
    (a6 : PySem.W.findIn K (.ref C) "__init__" = some (some (.ref f6)))
    (i6 : PySem.W.isFn K (.ref f6) = true)
    (l6 : K.lookup f6 = some ⟨oc6, od6, .func (PySem.W.fnOf "__init__" "Ratio.__init__" (defArgs s_Ratio___init__) (defBody s_Ratio___init__) (defScope s_Ratio___init__) (.ref tT) kV6 dc6 pm6 an6 cd6 ct6), sl6⟩)
    (c6 : PySem.W.codeIn K cd6 "Ratio.__init__" = true)
    (k6 : PySem.W.keepIn K (.ref f6) = true)
    (a7 : PySem.W.findIn K (.ref C) "__neg__" = some (some (.ref f7)))
    (i7 : PySem.W.isFn K (.ref f7) = true)
    (l7 : K.lookup f7 = some ⟨oc7, od7, .func (PySem.W.fnOf "__neg__" "Ratio.__neg__" (defArgs s_Ratio___neg__) (defBody s_Ratio___neg__) (defScope s_Ratio___neg__) .none kV7 dc7 pm7 an7 cd7 ct7), sl7⟩)
    (c7 : PySem.W.codeIn K cd7 "Ratio.__neg__" = true)
    (k7 : PySem.W.keepIn K (.ref f7) = true)
    (a8 : PySem.W.nsIn K mainGlobals "_law_right" = some (some (.ref f8)))
    (l8 : K.lookup f8 = some ⟨oc8, od8, .func (PySem.W.fnOf "_law_right" "_law_right" (defArgs s__law_right) (defBody s__law_right) (defScope s__law_right) .none kV8 dc8 pm8 an8 cd8 ct8), sl8⟩)
    (c8 : PySem.W.codeIn K cd8 "_law_right" = true)
    (k8 : PySem.W.keepIn K (.ref f8) = true)
    (a9 : PySem.W.nsIn K mainGlobals "_law_mul" = some (some (.ref f9)))
    (l9 : K.lookup f9 = some ⟨oc9, od9, .func (PySem.W.fnOf "_law_mul" "_law_mul" (defArgs s__law_mul) (defBody s__law_mul) (defScope s__law_mul) .none kV9 dc9 pm9 an9 cd9 ct9), sl9⟩)
    (c9 : PySem.W.codeIn K cd9 "_law_mul" = true)
    (k9 : PySem.W.keepIn K (.ref f9) = true)
    (a10 : PySem.W.nsIn K mainGlobals "_law_add" = some (some (.ref f10)))
    (l10 : K.lookup f10 = some ⟨oc10, od10, .func (PySem.W.fnOf "_law_add" "_law_add" (defArgs s__law_add) (defBody s__law_add) (defScope s__law_add) .none kV10 dc10 pm10 an10 cd10 ct10), sl10⟩)
    (c10 : PySem.W.codeIn K cd10 "_law_add" = true)
    (k10 : PySem.W.keepIn K (.ref f10) = true)
    (a11 : PySem.W.nsIn K mainGlobals "is_integer" = some (some (.ref f11)))
    (l11 : K.lookup f11 = some ⟨oc11, od11, .func (PySem.W.fnOf "is_integer" "is_integer" (defArgs s_is_integer) (defBody s_is_integer) (defScope s_is_integer) .none kV11 dc11 pm11 an11 cd11 ct11), sl11⟩)
    (c11 : PySem.W.codeIn K cd11 "is_integer" = true)
    (k11 : PySem.W.keepIn K (.ref f11) = true)
    (a12 : PySem.W.nsIn K mainGlobals "is_number" = some (some (.ref f12)))
    (l12 : K.lookup f12 = some ⟨oc12, od12, .func (PySem.W.fnOf "is_number" "is_number" (defArgs s_is_number) (defBody s_is_number) (defScope s_is_number) .none kV12 dc12 pm12 an12 cd12 ct12), sl12⟩)
    (c12 : PySem.W.codeIn K cd12 "is_number" = true)
    (k12 : PySem.W.keepIn K (.ref f12) = true)
    (a13 : PySem.W.nsIn K mainGlobals "halves_of" = some (some (.ref f13)))
    (l13 : K.lookup f13 = some ⟨oc13, od13, .func (PySem.W.fnOf "halves_of" "halves_of" (defArgs s_halves_of) (defBody s_halves_of) (defScope s_halves_of) .none kV13 dc13 pm13 an13 cd13 ct13), sl13⟩)
    (c13 : PySem.W.codeIn K cd13 "halves_of" = true)
    (k13 : PySem.W.keepIn K (.ref f13) = true)
    (a14 : PySem.W.findIn K (.ref C) "__mul__" = some (some (.ref f14)))
    (i14 : PySem.W.isFn K (.ref f14) = true)
    (l14 : K.lookup f14 = some ⟨oc14, od14, .func (PySem.W.fnOf "__mul__" "Ratio.__mul__" (defArgs s_Ratio___mul__) (defBody s_Ratio___mul__) (defScope s_Ratio___mul__) .none kV14 dc14 pm14 an14 cd14 ct14), sl14⟩)
    (c14 : PySem.W.codeIn K cd14 "Ratio.__mul__" = true)
    (k14 : PySem.W.keepIn K (.ref f14) = true)
    (a15 : PySem.W.findIn K (.ref C) "__rmul__" = some (some (.ref f15)))
    (i15 : PySem.W.isFn K (.ref f15) = true)
    (l15 : K.lookup f15 = some ⟨oc15, od15, .func (PySem.W.fnOf "__rmul__" "Ratio.__rmul__" (defArgs s_Ratio___rmul__) (defBody s_Ratio___rmul__) (defScope s_Ratio___rmul__) .none kV15 dc15 pm15 an15 cd15 ct15), sl15⟩)
    (c15 : PySem.W.codeIn K cd15 "Ratio.__rmul__" = true)
    (k15 : PySem.W.keepIn K (.ref f15) = true)
    (a16 : PySem.W.findIn K (.ref C) "__add__" = some (some (.ref f16)))
    (i16 : PySem.W.isFn K (.ref f16) = true)
    (l16 : K.lookup f16 = some ⟨oc16, od16, .func (PySem.W.fnOf "__add__" "Ratio.__add__" (defArgs s_Ratio___add__) (defBody s_Ratio___add__) (defScope s_Ratio___add__) .none kV16 dc16 pm16 an16 cd16 ct16), sl16⟩)
    (c16 : PySem.W.codeIn K cd16 "Ratio.__add__" = true)
    (k16 : PySem.W.keepIn K (.ref f16) = true)
    (a17 : PySem.W.findIn K (.ref C) "__sub__" = some (some (.ref f17)))
    (i17 : PySem.W.isFn K (.ref f17) = true)
    (l17 : K.lookup f17 = some ⟨oc17, od17, .func (PySem.W.fnOf "__sub__" "Ratio.__sub__" (defArgs s_Ratio___sub__) (defBody s_Ratio___sub__) (defScope s_Ratio___sub__) .none kV17 dc17 pm17 an17 cd17 ct17), sl17⟩)
    (c17 : PySem.W.codeIn K cd17 "Ratio.__sub__" = true)
    (k17 : PySem.W.keepIn K (.ref f17) = true)
    (a18 : PySem.W.findIn K (.ref C) "__rsub__" = some (some (.ref f18)))
    (i18 : PySem.W.isFn K (.ref f18) = true)
    (l18 : K.lookup f18 = some ⟨oc18, od18, .func (PySem.W.fnOf "__rsub__" "Ratio.__rsub__" (defArgs s_Ratio___rsub__) (defBody s_Ratio___rsub__) (defScope s_Ratio___rsub__) .none kV18 dc18 pm18 an18 cd18 ct18), sl18⟩)
    (c18 : PySem.W.codeIn K cd18 "Ratio.__rsub__" = true)
    (k18 : PySem.W.keepIn K (.ref f18) = true)
    (a19 : PySem.W.findIn K (.ref C) "__radd__" = some (some (.ref f19)))
    (i19 : PySem.W.isFn K (.ref f19) = true)
    (l19 : K.lookup f19 = some ⟨oc19, od19, .func (PySem.W.fnOf "__radd__" "Ratio.__radd__" (defArgs s_Ratio___radd__) (defBody s_Ratio___radd__) (defScope s_Ratio___radd__) .none kV19 dc19 pm19 an19 cd19 ct19), sl19⟩)
    (c19 : PySem.W.codeIn K cd19 "Ratio.__radd__" = true)
    (k19 : PySem.W.keepIn K (.ref f19) = true)
    (a20 : PySem.W.nsIn K mainGlobals "_law_ops" = some (some (.ref f20)))
    (l20 : K.lookup f20 = some ⟨oc20, od20, .func (PySem.W.fnOf "_law_ops" "_law_ops" (defArgs s__law_ops) (defBody s__law_ops) (defScope s__law_ops) .none kV20 dc20 pm20 an20 cd20 ct20), sl20⟩)
    (c20 : PySem.W.codeIn K cd20 "_law_ops" = true)
    (k20 : PySem.W.keepIn K (.ref f20) = true)
    (a21 : PySem.W.findIn K (.ref C) "__eq__" = some (some (.ref f21)))
    (i21 : PySem.W.isFn K (.ref f21) = true)
    (l21 : K.lookup f21 = some ⟨oc21, od21, .func (PySem.W.fnOf "__eq__" "Ratio.__eq__" (defArgs s_Ratio___eq__) (defBody s_Ratio___eq__) (defScope s_Ratio___eq__) .none kV21 dc21 pm21 an21 cd21 ct21), sl21⟩)
    (c21 : PySem.W.codeIn K cd21 "Ratio.__eq__" = true)
    (k21 : PySem.W.keepIn K (.ref f21) = true)
    (a22 : PySem.W.nsIn K mainGlobals "less" = some (some (.ref f22)))
    (l22 : K.lookup f22 = some ⟨oc22, od22, .func (PySem.W.fnOf "less" "less" (defArgs s_less) (defBody s_less) (defScope s_less) .none kV22 dc22 pm22 an22 cd22 ct22), sl22⟩)
    (c22 : PySem.W.codeIn K cd22 "less" = true)
    (k22 : PySem.W.keepIn K (.ref f22) = true)
    (a23 : PySem.W.findIn K (.ref C) "over" = some (some (.ref f23)))
    (i23 : PySem.W.isFn K (.ref f23) = true)
    (l23 : K.lookup f23 = some ⟨oc23, od23, .func (PySem.W.fnOf "over" "Ratio.over" (defArgs s_Ratio_over) (defBody s_Ratio_over) (defScope s_Ratio_over) .none kV23 dc23 pm23 an23 cd23 ct23), sl23⟩)
    (c23 : PySem.W.codeIn K cd23 "Ratio.over" = true)
    (k23 : PySem.W.keepIn K (.ref f23) = true)
    (a24 : PySem.W.nsIn K mainGlobals "_law_over" = some (some (.ref f24)))
    (l24 : K.lookup f24 = some ⟨oc24, od24, .func (PySem.W.fnOf "_law_over" "_law_over" (defArgs s__law_over) (defBody s__law_over) (defScope s__law_over) .none kV24 dc24 pm24 an24 (.ref cA24) ct24), sl24⟩)
    (c24 : PySem.W.codeIn K (.ref cA24) "_law_over" = true)
    (k24 : PySem.W.keepIn K (.ref f24) = true)
    (tl24 : K.lookup cA24 = some ⟨ce24, cd24, .fields vs24, cs24⟩)
    (tv24 : vs24[11]? = some (.ref tA24))
    (th24 : PySem.W.codeHdIn K cA24 tA24 = true)
    (tn24 : K.lookup tA24 = none)
    (tt24 : h.get? tA24 = some { cls := .none, data := .fields #[] })
    (a25 : PySem.W.nsIn K mainGlobals "plain" = some (some (.ref f25)))
    (l25 : K.lookup f25 = some ⟨oc25, od25, .func (PySem.W.fnOf "plain" "plain" (defArgs s_plain) (defBody s_plain) (defScope s_plain) .none kV25 dc25 pm25 an25 cd25 ct25), sl25⟩)
    (c25 : PySem.W.codeIn K cd25 "plain" = true)
    (k25 : PySem.W.keepIn K (.ref f25) = true)
    (a26 : PySem.W.nsIn K mainGlobals "law" = some (some (.ref f26)))
    (l26 : K.lookup f26 = some ⟨oc26, od26, .func (PySem.W.fnOf "law" "law" (defArgs s_law) (defBody s_law) (defScope s_law) .none kV26 dc26 pm26 an26 (.ref cA26) ct26), sl26⟩)
    (c26 : PySem.W.codeIn K (.ref cA26) "law" = true)
    (k26 : PySem.W.keepIn K (.ref f26) = true)
    (tl26 : K.lookup cA26 = some ⟨ce26, cd26, .fields vs26, cs26⟩)
    (tv26 : vs26[11]? = some (.ref tA26))
    (th26 : PySem.W.codeHdIn K cA26 tA26 = true)
    (tn26 : K.lookup tA26 = none)
    (tt26 : h.get? tA26 = some { cls := .none, data := .fields #[] })
    (a27 : PySem.W.nsIn K mainGlobals "_law_raises" = some (some (.ref f27)))
    (l27 : K.lookup f27 = some ⟨oc27, od27, .func (PySem.W.fnOf "_law_raises" "_law_raises" (defArgs s__law_raises) (defBody s__law_raises) (defScope s__law_raises) .none kV27 dc27 pm27 an27 cd27 ct27), sl27⟩)
    (c27 : PySem.W.codeIn K cd27 "_law_raises" = true)
    (k27 : PySem.W.keepIn K (.ref f27) = true)
    (ne24_26 : tA24 ≠ tA26)
    (lT : K.lookup tT = some ⟨oT, dT, .seq #[.int 1 uT] nT, sT⟩)
    (pgC : PySem.W.plainGet K C Str.empty = true)
    (hdC : PySem.W.hasDictIn K C = true)
    (poC : PySem.W.plainOver K C = true)
    (saC : PySem.W.findIn K (.ref C) "__setattr__" = some (some (.builtin "object.__setattr__")))
    (mkC : PySem.W.makesIn K C = true)
    (kcC : PySem.W.keepIn K (.ref C) = true)
    (nCt : PySem.W.findIn K (.ref C) "top" = some none)
    (nCb : PySem.W.findIn K (.ref C) "bottom" = some none)
    (haC : PySem.W.findIn K (.ref C) "__class__" = some (some (.builtin "object.__class__")))
    (hnC : PySem.W.specialIn K (.builtin "object.__class__") "__get__" = some (some (.builtin "getset_descriptor.__get__")))
    (htC : PySem.W.takesIn K (.builtin "object.__class__") = some true)
    (hmC : PySem.W.mroIn K C (.type "object") = some true)
    (nb1 : PySem.W.kitOne K (.type "NoneType") (.ref C) = some false)
    (nb2 : PySem.W.kitOne K (.type "bool") (.ref C) = some false)
    (nb3 : PySem.W.kitOne K (.type "int") (.ref C) = some false)
    (nb4 : PySem.W.kitOne K (.type "str") (.ref C) = some false)
    (nb5 : PySem.W.kitOne K (.type "list") (.ref C) = some false)
    (nb6 : PySem.W.kitOne K (.type "tuple") (.ref C) = some false)
    (nb7 : PySem.W.kitOne K (.type "dict") (.ref C) = some false)
    (kiC : PySem.W.kitOne K (.ref C) (.type "int") = some false)
    (kbC : PySem.W.kitOne K (.ref C) (.type "bool") = some false)
    (sfC : PySem.W.selfFirst K C = true)
    (s1C : PySem.W.subIn K (.type "int") (.ref C) = some false)
    (s2C : PySem.W.subIn K (.ref C) (.type "int") = some false)
    (neC : PySem.W.findIn K (.ref C) "__ne__" = some (some (.builtin "object.__ne__")))
    (in_add : PySem.W.findIn K (.type "int") "__add__" = some io_add)
    (in_radd : PySem.W.findIn K (.type "int") "__radd__" = some io_radd)
    (in_sub : PySem.W.findIn K (.type "int") "__sub__" = some io_sub)
    (in_rsub : PySem.W.findIn K (.type "int") "__rsub__" = some io_rsub)
    (in_mul : PySem.W.findIn K (.type "int") "__mul__" = some io_mul)
    (in_rmul : PySem.W.findIn K (.type "int") "__rmul__" = some io_rmul)
    (nf_NoneType : PySem.W.notFirst K C (.type "NoneType") = true)
    (nf_bool : PySem.W.notFirst K C (.type "bool") = true)
    (nf_int : PySem.W.notFirst K C (.type "int") = true)
    (nf_str : PySem.W.notFirst K C (.type "str") = true)
    (nf_list : PySem.W.notFirst K C (.type "list") = true)
    (nf_tuple : PySem.W.notFirst K C (.type "tuple") = true)
    (nf_dict : PySem.W.notFirst K C (.type "dict") = true)
    (nf_C : PySem.W.notFirst K C (.ref C) = true)
    (xz : PySem.W.exmOne K (.type "ZeroDivisionError") (.type "ZeroDivisionError") = some true)
    (b_abs : PySem.W.nsIn K mainGlobals "abs" = some none)
    (b_len : PySem.W.nsIn K mainGlobals "len" = some none)
    (b_any : PySem.W.nsIn K mainGlobals "any" = some none)
    (b_int : PySem.W.nsIn K mainGlobals "int" = some none)
    (b_bool : PySem.W.nsIn K mainGlobals "bool" = some none)
    (b_range : PySem.W.nsIn K mainGlobals "range" = some none)
    (b_zip : PySem.W.nsIn K mainGlobals "zip" = some none)
    (b_isinstance : PySem.W.nsIn K mainGlobals "isinstance" = some none)
    (b_ZeroDivisionError : PySem.W.nsIn K mainGlobals "ZeroDivisionError" = some none)
    : LamX.LawAtS lw w K (L2.CX lw.prog w) 8 63 "_law_script" mg fa h := by
  have e0 := hfa.symm.trans (PySem.W.mg_of X G a26)
  cases e0
  obtain ⟨TT, hTT⟩ : ∃ TT : List (Addr × Str), TT = [(tA24, ("_law_over" ++ ".<locals>." ++ "<lambda>" : Str)), (tA26, ("law" ++ ".<locals>." ++ "<lambda>" : Str))] := ⟨_, rfl⟩
  have F0 := fun_mk (st := s__law_cell) l0 c0 k0
  have B0 := F0.binds (ps := ["_law_script", "_law_k"]) fun _ _ _ _ _ _ us hl => match us, hl with | [_, _], _ => rfl
  have F1 := fun_mk (st := s__law_row) l1 c1 k1
  have B1 := F1.binds (ps := ["_law_cell_here", "_law_sizes"]) fun _ _ _ _ _ _ us hl => match us, hl with | [_, _], _ => rfl
  have F2 := fun_mk (st := s__law_drawn) l2 c2 k2
  have B2 := F2.binds (ps := ["_law_cell_here", "_law_other"]) fun _ _ _ _ _ _ us hl => match us, hl with | [_, _], _ => rfl
  have F3 := fun_mk (st := s__law_share) l3 c3 k3
  have B3 := F3.binds (ps := ["_law_one", "_law_two"]) fun _ _ _ _ _ _ us hl => match us, hl with | [_, _], _ => rfl
  have F4 := fun_mk (st := s__law_low) l4 c4 k4
  have B4 := F4.binds (ps := ["_law_upper", "_law_lower"]) fun _ _ _ _ _ _ us hl => match us, hl with | [_, _], _ => rfl
  have F5 := fun_mk (st := s_common) l5 c5 k5
  have B5 := F5.binds (ps := ["one", "two"]) fun _ _ _ _ _ _ us hl => match us, hl with | [_, _], _ => rfl
  have F6 : FunD K "__init__" "Ratio.__init__" (defArgs s_Ratio___init__) (defBody s_Ratio___init__) (defScope s_Ratio___init__) [.int 1] [] f6 (PySem.W.fnOf "__init__" "Ratio.__init__" (defArgs s_Ratio___init__) (defBody s_Ratio___init__) (defScope s_Ratio___init__) (.ref tT) kV6 dc6 pm6 an6 cd6 ct6) := ⟨⟨_, _, _, _, _, _, _, _, _, _, rfl, l6, c6, .inr ⟨by simp, tT, _, [.int 1 uT], nT, rfl, lT, rfl, .cons ⟨uT, rfl⟩ .nil⟩, .inl rfl⟩, k6⟩
  have B6 : Binds K (PySem.W.fnOf "__init__" "Ratio.__init__" (defArgs s_Ratio___init__) (defBody s_Ratio___init__) (defScope s_Ratio___init__) (.ref tT) kV6 dc6 pm6 an6 cd6 ct6) ["self", "top", "bottom"] [] := by
    obtain ⟨ds, h1, h2⟩ := F6.binds1 (ps := ["self", "top", "bottom"]) 3 1 (by simp) rfl fun _ _ _ _ _ _ _ us its hl hi => match us, its, hl, hi with | [_, _, _], [_], _, _ => ⟨_, rfl, rfl⟩
    cases h1
    exact h2
  have D6 := F6.binds1 (ps := ["self", "top", "bottom"]) 2 0 (by simp) rfl fun _ _ _ _ _ _ _ us its hl hi => match us, its, hl, hi with | [_, _], [_], _, _ => ⟨_, rfl, rfl⟩
  have KB6 : KBn K (PySem.W.fnOf "__init__" "Ratio.__init__" (defArgs s_Ratio___init__) (defBody s_Ratio___init__) (defScope s_Ratio___init__) (.ref tT) kV6 dc6 pm6 an6 cd6 ct6) ["self", "top", "bottom"] 1 ["bottom", "top"] (fun us ws => us ++ ws.reverse) (fun us ws => us ++ ws.reverse) := kb_rev F6 (by simp) fun _ _ _ _ _ _ _ us its ws hl hi hw => match us, its, ws, hl, hi, hw with | [_], [_], [_, _], _, _, _ => ⟨_, rfl, rfl⟩
  have F7 := fun_mk (st := s_Ratio___neg__) l7 c7 k7
  have B7 := F7.binds (ps := ["self"]) fun _ _ _ _ _ _ us hl => match us, hl with | [_], _ => rfl
  have F8 := fun_mk (st := s__law_right) l8 c8 k8
  have B8 := F8.binds (ps := ["_law_number", "_law_x"]) fun _ _ _ _ _ _ us hl => match us, hl with | [_, _], _ => rfl
  have F9 := fun_mk (st := s__law_mul) l9 c9 k9
  have B9 := F9.binds (ps := ["_law_x", "_law_y"]) fun _ _ _ _ _ _ us hl => match us, hl with | [_, _], _ => rfl
  have F10 := fun_mk (st := s__law_add) l10 c10 k10
  have B10 := F10.binds (ps := ["_law_x", "_law_y"]) fun _ _ _ _ _ _ us hl => match us, hl with | [_, _], _ => rfl
  have F11 := fun_mk (st := s_is_integer) l11 c11 k11
  have B11 := F11.binds (ps := ["thing"]) fun _ _ _ _ _ _ us hl => match us, hl with | [_], _ => rfl
  have F12 := fun_mk (st := s_is_number) l12 c12 k12
  have B12 := F12.binds (ps := ["thing"]) fun _ _ _ _ _ _ us hl => match us, hl with | [_], _ => rfl
  have F13 := fun_mk (st := s_halves_of) l13 c13 k13
  have B13 := F13.binds (ps := ["number"]) fun _ _ _ _ _ _ us hl => match us, hl with | [_], _ => rfl
  have F14 := fun_mk (st := s_Ratio___mul__) l14 c14 k14
  have B14 := F14.binds (ps := ["self", "other"]) fun _ _ _ _ _ _ us hl => match us, hl with | [_, _], _ => rfl
  have F15 := fun_mk (st := s_Ratio___rmul__) l15 c15 k15
  have B15 := F15.binds (ps := ["self", "other"]) fun _ _ _ _ _ _ us hl => match us, hl with | [_, _], _ => rfl
  have F16 := fun_mk (st := s_Ratio___add__) l16 c16 k16
  have B16 := F16.binds (ps := ["self", "other"]) fun _ _ _ _ _ _ us hl => match us, hl with | [_, _], _ => rfl
  have F17 := fun_mk (st := s_Ratio___sub__) l17 c17 k17
  have B17 := F17.binds (ps := ["self", "other"]) fun _ _ _ _ _ _ us hl => match us, hl with | [_, _], _ => rfl
  have F18 := fun_mk (st := s_Ratio___rsub__) l18 c18 k18
  have B18 := F18.binds (ps := ["self", "other"]) fun _ _ _ _ _ _ us hl => match us, hl with | [_, _], _ => rfl
  have F19 := fun_mk (st := s_Ratio___radd__) l19 c19 k19
  have B19 := F19.binds (ps := ["self", "other"]) fun _ _ _ _ _ _ us hl => match us, hl with | [_, _], _ => rfl
  have F20 := fun_mk (st := s__law_ops) l20 c20 k20
  have B20 := F20.binds (ps := ["_law_a", "_law_b", "_law_x", "_law_y"]) fun _ _ _ _ _ _ us hl => match us, hl with | [_, _, _, _], _ => rfl
  have F21 := fun_mk (st := s_Ratio___eq__) l21 c21 k21
  have B21 := F21.binds (ps := ["self", "other"]) fun _ _ _ _ _ _ us hl => match us, hl with | [_, _], _ => rfl
  have F22 := fun_mk (st := s_less) l22 c22 k22
  have B22 := F22.binds (ps := ["one", "two"]) fun _ _ _ _ _ _ us hl => match us, hl with | [_, _], _ => rfl
  have F23 := fun_mk (st := s_Ratio_over) l23 c23 k23
  have B23 := F23.binds (ps := ["self", "other"]) fun _ _ _ _ _ _ us hl => match us, hl with | [_, _], _ => rfl
  have F24 := fun_mk (st := s__law_over) l24 c24 k24
  have B24 := F24.binds (ps := ["_law_a", "_law_b", "_law_x", "_law_y"]) fun _ _ _ _ _ _ us hl => match us, hl with | [_, _, _, _], _ => rfl
  have F25 := fun_mk (st := s_plain) l25 c25 k25
  have B25 := F25.binds (ps := ["number"]) fun _ _ _ _ _ _ us hl => match us, hl with | [_], _ => rfl
  have F26 := fun_mk (st := s_law) l26 c26 k26
  have B26 := F26.binds (ps := ["_law_script"]) fun _ _ _ _ _ _ us hl => match us, hl with | [_], _ => rfl
  have F27 := fun_mk (st := s__law_raises) l27 c27 k27
  have B27 := F27.binds (ps := ["_law_ask"]) fun _ _ _ _ _ _ us hl => match us, hl with | [_], _ => rfl
  have RZ : RzD K mg "_law_raises" "_law_ask" "ZeroDivisionError" (.type "ZeroDivisionError") := ⟨⟨s__law_raises, f27, _, ["_law_ask"], _, _, _, _, _, _, _, _, _, _, _, _, F27, PySem.W.mg_of X G a27, B27, sc__law_raises, rfl, .inl rfl, rfl, rfl, fun _ => rfl⟩, .inr ⟨PySem.W.mg_none_of X G b_ZeroDivisionError, by decide +kernel, by decide⟩, by decide⟩
  have CL : Cls K C := ⟨pgC, hdC, poC, saC⟩
  have IC : IsiC K C := ⟨CL, haC, hnC, htC, hmC⟩
  have NF : ∀ d, notScr d = true → PySem.W.notFirst K ((pm K C TT).C 0) (tyD (pm K C TT) d) = true := fun d hd => by
    cases d with
    | non => exact nf_NoneType
    | bl b => exact nf_bool
    | int b => exact nf_int
    | str b => exact nf_str
    | lst b => exact nf_list
    | tup b => exact nf_tuple
    | dK b b2 => exact nf_dict
    | dT b b2 => exact nf_dict
    | obj b b2 => exact nf_C
    | scr b => cases hd
  have EC : EqC K (pm K C TT) := ⟨NF, fun _ => IC, neC, s2C⟩
  have T : ∀ base : Heap, Txt lw.prog K mg base C TT := fun base => ⟨CL, nCt, nCb, PySem.W.mg_of X G aC, IC, ⟨nb1, nb2, nb3, nb4, nb5, nb6, nb7⟩, kiC, kbC, ⟨sfC, ⟨_, in_add⟩, ⟨_, in_radd⟩, s1C, s2C⟩, ⟨sfC, ⟨_, in_sub⟩, ⟨_, in_rsub⟩, s1C, s2C⟩, ⟨sfC, ⟨_, in_mul⟩, ⟨_, in_rmul⟩, s1C, s2C⟩, ⟨_, a19⟩, ⟨_, a15⟩, EC, RZ, xz, PySem.W.mg_none_of X G b_abs, PySem.W.mg_none_of X G b_len, PySem.W.mg_none_of X G b_any, PySem.W.mg_none_of X G b_int, PySem.W.mg_none_of X G b_bool, PySem.W.mg_none_of X G b_range, PySem.W.mg_none_of X G b_zip, PySem.W.mg_none_of X G b_isinstance, PySem.W.mg_none_of X G b_ZeroDivisionError⟩
  have tabs : ∀ H : Hp, (∀ p ∈ ([(cA24, tA24), (cA26, tA26)] : List (Addr × Addr)), H p.2 = some (.tbl #[])) → LamX.Tabs (pm K C TT).T H := by
    intro H hcs p hp
    have hp : p ∈ TT := hp
    rw [hTT] at hp
    simp only [List.mem_cons, List.not_mem_nil, or_false] at hp
    rcases hp with rfl | rfl
    · exact LamX.TabS.nil (hcs (cA24, tA24) (by simp))
    · exact LamX.TabS.nil (hcs (cA26, tA26) (by simp))
  refine ⟨_, [(cA24, tA24), (cA26, tA26)], spD (pm K C TT) 1 G_law, ?hT, ?nT, ?hC, fun s v => .of_eq (?hb : bindArgs (PySem.W.fnOf "law" "law" (defArgs s_law) (defBody s_law) (defScope s_law) .none kV26 dc26 pm26 an26 (.ref cA26) ct26) ⟨[v], []⟩ = _), fun H a ns hl _ hcs hS => law_post rfl (fun ns hl => law_true ns) H a ns hl (tabs H hcs) hS, fun base _ _ TB => ?_⟩
  case hb => rfl
  case hT =>
    intro p hp
    simp only [List.mem_cons, List.not_mem_nil, or_false] at hp
    rcases hp with rfl | rfl
    · exact tt24
    · exact tt26
  case nT =>
    intro p hp
    simp only [List.mem_cons, List.not_mem_nil, or_false] at hp
    rcases hp with rfl | rfl
    · exact tn24
    · exact tn26
  case hC =>
    intro p hp
    simp only [List.mem_cons, List.not_mem_nil, or_false] at hp
    rcases hp with rfl | rfl
    · exact PySem.W.codeHd_of_K X th24
    · exact PySem.W.codeHd_of_K X th26
  have TA24 : TabAt (pm K C TT) base mg cA24 tA24 ("_law_over" ++ ".<locals>." ++ "<lambda>") := by
    refine ⟨TB (cA24, tA24) (by simp), ?_, fun p hp e => ?_⟩
    · show _ ∈ TT
      rw [hTT]
      simp
    · have hp : p ∈ TT := hp
      rw [hTT] at hp
      simp only [List.mem_cons, List.not_mem_nil, or_false] at hp
      rcases hp with rfl | rfl
      · rfl
      · exact absurd e ne24_26.symm
  have TA26 : TabAt (pm K C TT) base mg cA26 tA26 ("law" ++ ".<locals>." ++ "<lambda>") := by
    refine ⟨TB (cA26, tA26) (by simp), ?_, fun p hp e => ?_⟩
    · show _ ∈ TT
      rw [hTT]
      simp
    · have hp : p ∈ TT := hp
      rw [hTT] at hp
      simp only [List.mem_cons, List.not_mem_nil, or_false] at hp
      rcases hp with rfl | rfl
      · exact absurd e ne24_26
      · rfl
  have C0 : CalD lw.prog w K mg base (pm K C TT) 1 "_law_cell" 2 G__law_cell := calD F0 sc__law_cell (PySem.W.mg_of X G a0) B0 (b__law_cell (T base) _)
  have C1 : CalD lw.prog w K mg base (pm K C TT) 1 "_law_row" 2 G__law_row := calD F1 sc__law_row (PySem.W.mg_of X G a1) B1 (b__law_row (T base) _)
  have C2 : CalD lw.prog w K mg base (pm K C TT) 2 "_law_drawn" 2 G__law_drawn := calD F2 sc__law_drawn (PySem.W.mg_of X G a2) B2 (b__law_drawn (T base) C1 _)
  have C3 : CalD lw.prog w K mg base (pm K C TT) 1 "_law_share" 2 G__law_share := calD F3 sc__law_share (PySem.W.mg_of X G a3) B3 (b__law_share (T base) _)
  have C4 : CalD lw.prog w K mg base (pm K C TT) 2 "_law_low" 2 G__law_low := calD F4 sc__law_low (PySem.W.mg_of X G a4) B4 (b__law_low (T base) C3 _)
  have C5 : CalD lw.prog w K mg base (pm K C TT) 1 "common" 2 G_common := calD F5 sc_common (PySem.W.mg_of X G a5) B5 (b_common (T base) _)
  have J6 := fndJ (P := (pm K C TT)) (prog := lw.prog) (w := w) (mg := mg) (base := base) (c := 0) rfl (by simp) F6 sc_Ratio___init__ (b_Ratio___init__ (T base) C5 _)
  have MM : Mk K ((pm K C TT).C 0) f6 := ⟨mkC, a6, i6, kcC⟩
  have C6 : MkD lw.prog w K mg base (pm K C TT) 2 "Ratio" 0 2 G_Ratio___init__ := ⟨_, _, _, MM, J6, (T base).g_Ratio, B6⟩
  have CD : MkDd lw.prog w K mg base (pm K C TT) 2 "Ratio" 0 2 [.int 1] G_Ratio___init__ := by
    obtain ⟨ds, d1, d2⟩ := D6
    exact ⟨_, _, _, ds, [.int 1], MM, J6, (T base).g_Ratio, d2, d1, Dfl.int⟩
  have CK : MkDk lw.prog w K mg base (pm K C TT) 2 "Ratio" 0 2 ["bottom", "top"] List.reverse G_Ratio___init__ := ⟨⟨_, _, _, MM, J6, (T base).g_Ratio, KB6⟩, fun i => rev_rel i⟩
  have C7 : OwnD lw.prog w K mg base (pm K C TT) 4 "__neg__" 0 1 G_Ratio___neg__ := ownD (c := 0) F7 sc_Ratio___neg__ ⟨a7, i7⟩ B7 (b_Ratio___neg__ (T base) C6 _)
  have C8 : CalD lw.prog w K mg base (pm K C TT) 1 "_law_right" 2 G__law_right := calD F8 sc__law_right (PySem.W.mg_of X G a8) B8 (b__law_right (T base) _)
  have C9 : CalD lw.prog w K mg base (pm K C TT) 3 "_law_mul" 2 G__law_mul := calD F9 sc__law_mul (PySem.W.mg_of X G a9) B9 (b__law_mul (T base) C4 _)
  have C10 : CalD lw.prog w K mg base (pm K C TT) 3 "_law_add" 2 G__law_add := calD F10 sc__law_add (PySem.W.mg_of X G a10) B10 (b__law_add (T base) C4 _)
  have C11 : CalD lw.prog w K mg base (pm K C TT) 1 "is_integer" 1 G_is_integer := calD F11 sc_is_integer (PySem.W.mg_of X G a11) B11 (b_is_integer (T base) _)
  have C12 : CalD lw.prog w K mg base (pm K C TT) 2 "is_number" 1 G_is_number := calD F12 sc_is_number (PySem.W.mg_of X G a12) B12 (b_is_number (T base) C11 _)
  have C13 : CalD lw.prog w K mg base (pm K C TT) 1 "halves_of" 1 G_halves_of := calD F13 sc_halves_of (PySem.W.mg_of X G a13) B13 (b_halves_of (T base) _)
  have C14 : OwnD lw.prog w K mg base (pm K C TT) 4 "__mul__" 0 2 G_Ratio___mul__ := ownD (c := 0) F14 sc_Ratio___mul__ ⟨a14, i14⟩ B14 (b_Ratio___mul__ (T base) C12 C13 C6 _)
  have C15 : OwnD lw.prog w K mg base (pm K C TT) 5 "__rmul__" 0 2 G_Ratio___rmul__ := ownD (c := 0) F15 sc_Ratio___rmul__ ⟨a15, i15⟩ B15 (b_Ratio___rmul__ (T base) C14 _)
  have C16 : OwnD lw.prog w K mg base (pm K C TT) 4 "__add__" 0 2 G_Ratio___add__ := ownD (c := 0) F16 sc_Ratio___add__ ⟨a16, i16⟩ B16 (b_Ratio___add__ (T base) C12 C13 C6 _)
  have C17 : OwnD lw.prog w K mg base (pm K C TT) 5 "__sub__" 0 2 G_Ratio___sub__ := ownD (c := 0) F17 sc_Ratio___sub__ ⟨a17, i17⟩ B17 (b_Ratio___sub__ (T base) C7 C16 _)
  have C18 : OwnD lw.prog w K mg base (pm K C TT) 5 "__rsub__" 0 2 G_Ratio___rsub__ := ownD (c := 0) F18 sc_Ratio___rsub__ ⟨a18, i18⟩ B18 (b_Ratio___rsub__ (T base) C7 C16 _)
  have C19 : OwnD lw.prog w K mg base (pm K C TT) 5 "__radd__" 0 2 G_Ratio___radd__ := ownD (c := 0) F19 sc_Ratio___radd__ ⟨a19, i19⟩ B19 (b_Ratio___radd__ (T base) C16 _)
  have C20 : CalD lw.prog w K mg base (pm K C TT) 6 "_law_ops" 4 G__law_ops := calD F20 sc__law_ops (PySem.W.mg_of X G a20) B20 (b__law_ops (T base) C9 C10 C14 C15 C17 C18 C16 C19 C8 _)
  have C21 : OwnD lw.prog w K mg base (pm K C TT) 3 "__eq__" 0 2 G_Ratio___eq__ := ownD (c := 0) F21 sc_Ratio___eq__ ⟨a21, i21⟩ B21 (b_Ratio___eq__ (T base) C13 C12 _)
  have C22 : CalD lw.prog w K mg base (pm K C TT) 2 "less" 2 G_less := calD F22 sc_less (PySem.W.mg_of X G a22) B22 (b_less (T base) C13 _)
  have C23 : MetD lw.prog w K mg base (pm K C TT) 4 "over" 0 2 G_Ratio_over := metD (c := 0) F23 sc_Ratio_over CL ⟨a23, i23, k23⟩ B23 (by show _ ∉ (["top", "bottom"] : List Str); decide +kernel) (b_Ratio_over (T base) C13 C6 _)
  have C24 : CalD lw.prog w K mg base (pm K C TT) 7 "_law_over" 4 G__law_over := ⟨_, _, _, fndC l24 c24 sc__law_over (b__law_over (T base) C23 C4 C8 cA24 tA24 TA24 _), PySem.W.mg_of X G a24, k24, B24⟩
  have C25 : CalD lw.prog w K mg base (pm K C TT) 2 "plain" 1 G_plain := calD F25 sc_plain (PySem.W.mg_of X G a25) B25 (b_plain (T base) C13 _)
  exact fndC l26 c26 sc_law (b_law (T base) C0 C2 C4 C6 C7 C8 C20 C21 C22 C24 C17 C18 C25 C23 CD CK cA26 tA26 TA26 _)
end DL.K2
open PySem PySem.W PyProof.Rows
set_option maxRecDepth 100000 in
set_option maxHeartbeats 0 in
theorem PySem.Challenge.cw_everylist_k02_ratios_holds : PySem.Challenge.rw_everylist_k02_ratios.Holds := by
  w_on; o_law; k_head; (case hw => w_witness2)
  k_fill
  refine LamX.walk_ofTs (l := PySem.Challenge.rw_everylist_k02_ratios) (n := 63) (k := 8) (x := "_law_script") (CX := fun w => L2.CX PySem.Challenge.pw_everylist_k02_ratios w) rfl (by decide) rfl ⟨rfl, by decide, by decide⟩ (fun w h Y => PySem.W.km_in_of Y) ?Fm (fun _ _ _ _ _ z => DL.cx_false z)
  case Fm =>
    intro w mg fa h Y KX G hmg
    refine' DL.K2.all_mk KX G hmg ?aC ?a0 ?l0 ?c0 ?k0 ?a1 ?l1 ?c1 ?k1 ?a2 ?l2 ?c2 ?k2 ?a3 ?l3 ?c3 ?k3 ?a4 ?l4 ?c4 ?k4 ?a5 ?l5 ?c5 ?k5 ?a6 ?i6 ?l6 ?c6 ?k6 ?a7 ?i7 ?l7 ?c7 ?k7 ?a8 ?l8 ?c8 ?k8 ?a9 ?l9 ?c9 ?k9 ?a10 ?l10 ?c10 ?k10 ?a11 ?l11 ?c11 ?k11 ?a12 ?l12 ?c12 ?k12 ?a13 ?l13 ?c13 ?k13 ?a14 ?i14 ?l14 ?c14 ?k14 ?a15 ?i15 ?l15 ?c15 ?k15 ?a16 ?i16 ?l16 ?c16 ?k16 ?a17 ?i17 ?l17 ?c17 ?k17 ?a18 ?i18 ?l18 ?c18 ?k18 ?a19 ?i19 ?l19 ?c19 ?k19 ?a20 ?l20 ?c20 ?k20 ?a21 ?i21 ?l21 ?c21 ?k21 ?a22 ?l22 ?c22 ?k22 ?a23 ?i23 ?l23 ?c23 ?k23 ?a24 ?l24 ?c24 ?k24 ?tl24 ?tv24 ?th24 ?tn24 ?tt24 ?a25 ?l25 ?c25 ?k25 ?a26 ?l26 ?c26 ?k26 ?tl26 ?tv26 ?th26 ?tn26 ?tt26 ?a27 ?l27 ?c27 ?k27 ?ne24_26 ?lT ?pgC ?hdC ?poC ?saC ?mkC ?kcC ?nCt ?nCb ?haC ?hnC ?htC ?hmC ?nb1 ?nb2 ?nb3 ?nb4 ?nb5 ?nb6 ?nb7 ?kiC ?kbC ?sfC ?s1C ?s2C ?neC ?in_add ?in_radd ?in_sub ?in_rsub ?in_mul ?in_rmul ?nf_NoneType ?nf_bool ?nf_int ?nf_str ?nf_list ?nf_tuple ?nf_dict ?nf_C ?xz ?b_abs ?b_len ?b_any ?b_int ?b_bool ?b_range ?b_zip ?b_isinstance ?b_ZeroDivisionError
    (case aC => first | k_is | rfl)
    (case a0 => first | k_is | rfl)
    (case l0 => first | k_is | rfl)
    (case c0 => first | k_is | rfl)
    (case k0 => first | k_is | rfl)
    (case a1 => first | k_is | rfl)
    (case l1 => first | k_is | rfl)
    (case c1 => first | k_is | rfl)
    (case k1 => first | k_is | rfl)
    (case a2 => first | k_is | rfl)
    (case l2 => first | k_is | rfl)
    (case c2 => first | k_is | rfl)
    (case k2 => first | k_is | rfl)
    (case a3 => first | k_is | rfl)
    (case l3 => first | k_is | rfl)
    (case c3 => first | k_is | rfl)
    (case k3 => first | k_is | rfl)
    (case a4 => first | k_is | rfl)
    (case l4 => first | k_is | rfl)
    (case c4 => first | k_is | rfl)
    (case k4 => first | k_is | rfl)
    (case a5 => first | k_is | rfl)
    (case l5 => first | k_is | rfl)
    (case c5 => first | k_is | rfl)
    (case k5 => first | k_is | rfl)
    (case a6 => first | k_is | rfl)
    (case i6 => first | k_is | rfl)
    (case l6 => first | k_is | rfl)
    (case c6 => first | k_is | rfl)
    (case k6 => first | k_is | rfl)
    (case a7 => first | k_is | rfl)
    (case i7 => first | k_is | rfl)
    (case l7 => first | k_is | rfl)
    (case c7 => first | k_is | rfl)
    (case k7 => first | k_is | rfl)
    (case a8 => first | k_is | rfl)
    (case l8 => first | k_is | rfl)
    (case c8 => first | k_is | rfl)
    (case k8 => first | k_is | rfl)
    (case a9 => first | k_is | rfl)
    (case l9 => first | k_is | rfl)
    (case c9 => first | k_is | rfl)
    (case k9 => first | k_is | rfl)
    (case a10 => first | k_is | rfl)
    (case l10 => first | k_is | rfl)
    (case c10 => first | k_is | rfl)
    (case k10 => first | k_is | rfl)
    (case a11 => first | k_is | rfl)
    (case l11 => first | k_is | rfl)
    (case c11 => first | k_is | rfl)
    (case k11 => first | k_is | rfl)
    (case a12 => first | k_is | rfl)
    (case l12 => first | k_is | rfl)
    (case c12 => first | k_is | rfl)
    (case k12 => first | k_is | rfl)
    (case a13 => first | k_is | rfl)
    (case l13 => first | k_is | rfl)
    (case c13 => first | k_is | rfl)
    (case k13 => first | k_is | rfl)
    (case a14 => first | k_is | rfl)
    (case i14 => first | k_is | rfl)
    (case l14 => first | k_is | rfl)
    (case c14 => first | k_is | rfl)
    (case k14 => first | k_is | rfl)
    (case a15 => first | k_is | rfl)
    (case i15 => first | k_is | rfl)
    (case l15 => first | k_is | rfl)
    (case c15 => first | k_is | rfl)
    (case k15 => first | k_is | rfl)
    (case a16 => first | k_is | rfl)
    (case i16 => first | k_is | rfl)
    (case l16 => first | k_is | rfl)
    (case c16 => first | k_is | rfl)
    (case k16 => first | k_is | rfl)
    (case a17 => first | k_is | rfl)
    (case i17 => first | k_is | rfl)
    (case l17 => first | k_is | rfl)
    (case c17 => first | k_is | rfl)
    (case k17 => first | k_is | rfl)
    (case a18 => first | k_is | rfl)
    (case i18 => first | k_is | rfl)
    (case l18 => first | k_is | rfl)
    (case c18 => first | k_is | rfl)
    (case k18 => first | k_is | rfl)
    (case a19 => first | k_is | rfl)
    (case i19 => first | k_is | rfl)
    (case l19 => first | k_is | rfl)
    (case c19 => first | k_is | rfl)
    (case k19 => first | k_is | rfl)
    (case a20 => first | k_is | rfl)
    (case l20 => first | k_is | rfl)
    (case c20 => first | k_is | rfl)
    (case k20 => first | k_is | rfl)
    (case a21 => first | k_is | rfl)
    (case i21 => first | k_is | rfl)
    (case l21 => first | k_is | rfl)
    (case c21 => first | k_is | rfl)
    (case k21 => first | k_is | rfl)
    (case a22 => first | k_is | rfl)
    (case l22 => first | k_is | rfl)
    (case c22 => first | k_is | rfl)
    (case k22 => first | k_is | rfl)
    (case a23 => first | k_is | rfl)
    (case i23 => first | k_is | rfl)
    (case l23 => first | k_is | rfl)
    (case c23 => first | k_is | rfl)
    (case k23 => first | k_is | rfl)
    (case a24 => first | k_is | rfl)
    (case l24 => first | k_is | rfl)
    (case c24 => first | k_is | rfl)
    (case k24 => first | k_is | rfl)
    (case tl24 => first | k_is | rfl)
    (case tv24 => first | rfl | decide +kernel)
    (case th24 => first | k_is | rfl | decide +kernel)
    (case tn24 => first | k_is | rfl | decide +kernel)
    (case tt24 => exact km_tabs_of Y _ (by decide))
    (case a25 => first | k_is | rfl)
    (case l25 => first | k_is | rfl)
    (case c25 => first | k_is | rfl)
    (case k25 => first | k_is | rfl)
    (case a26 => first | k_is | rfl)
    (case l26 => first | k_is | rfl)
    (case c26 => first | k_is | rfl)
    (case k26 => first | k_is | rfl)
    (case tl26 => first | k_is | rfl)
    (case tv26 => first | rfl | decide +kernel)
    (case th26 => first | k_is | rfl | decide +kernel)
    (case tn26 => first | k_is | rfl | decide +kernel)
    (case tt26 => exact km_tabs_of Y _ (by decide))
    (case a27 => first | k_is | rfl)
    (case l27 => first | k_is | rfl)
    (case c27 => first | k_is | rfl)
    (case k27 => first | k_is | rfl)
    (case ne24_26 => decide)
    (case lT => first | k_is | rfl)
    (case pgC => first | k_is | rfl)
    (case hdC => first | k_is | rfl)
    (case poC => first | k_is | rfl)
    (case saC => first | k_is | rfl)
    (case mkC => first | k_is | rfl)
    (case kcC => first | k_is | rfl)
    (case nCt => first | k_is | rfl)
    (case nCb => first | k_is | rfl)
    (case haC => first | k_is | rfl)
    (case hnC => first | k_is | rfl)
    (case htC => first | k_is | rfl)
    (case hmC => first | k_is | rfl)
    (case nb1 => first | k_is | rfl)
    (case nb2 => first | k_is | rfl)
    (case nb3 => first | k_is | rfl)
    (case nb4 => first | k_is | rfl)
    (case nb5 => first | k_is | rfl)
    (case nb6 => first | k_is | rfl)
    (case nb7 => first | k_is | rfl)
    (case kiC => first | k_is | rfl)
    (case kbC => first | k_is | rfl)
    (case sfC => first | k_is | rfl)
    (case s1C => first | k_is | rfl)
    (case s2C => first | k_is | rfl)
    (case neC => first | k_is | rfl)
    (case in_add => first | k_is | rfl)
    (case in_radd => first | k_is | rfl)
    (case in_sub => first | k_is | rfl)
    (case in_rsub => first | k_is | rfl)
    (case in_mul => first | k_is | rfl)
    (case in_rmul => first | k_is | rfl)
    (case nf_NoneType => first | k_is | rfl | decide +kernel)
    (case nf_bool => first | k_is | rfl | decide +kernel)
    (case nf_int => first | k_is | rfl | decide +kernel)
    (case nf_str => first | k_is | rfl | decide +kernel)
    (case nf_list => first | k_is | rfl | decide +kernel)
    (case nf_tuple => first | k_is | rfl | decide +kernel)
    (case nf_dict => first | k_is | rfl | decide +kernel)
    (case nf_C => first | k_is | rfl | decide +kernel)
    (case xz => first | k_is | rfl | decide +kernel)
    (case b_abs => first | k_is | rfl)
    (case b_len => first | k_is | rfl)
    (case b_any => first | k_is | rfl)
    (case b_int => first | k_is | rfl)
    (case b_bool => first | k_is | rfl)
    (case b_range => first | k_is | rfl)
    (case b_zip => first | k_is | rfl)
    (case b_isinstance => first | k_is | rfl)
    (case b_ZeroDivisionError => first | k_is | rfl)
