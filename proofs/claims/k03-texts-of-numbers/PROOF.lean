import PyProof.Rows.All
import Wide.All
import OpenK.AllK
import Wide.FinOn
import HandS.ForMost
import HandS.Exc
import HandS.TryOnly
import HandS.ExcOwn
import HandS.WordsExc
import HandS.CallSlots
import HandS.IsInst
import HandS.OwnEq
import HandS.Wide
import HandS.Style
import HandS.Zip
import HandS.ExcBuiltin
import KE.KExcSuper
import HandS.FStr
import HandS.TupAny
import KE.KOpsOwn
import KE.KCallOwn
import HandS.Defaults
import KE.KIntText
import HandS.Codes
import HandS.EndTab
import PySem.Challenge.RW_everylist_k03_texts_of_numbers
set_option Elab.async false
set_option linter.all false
set_option maxRecDepth 100000
set_option maxHeartbeats 4000000
namespace DL
open PySem L2

/-- data: what a value is, by itself -/
inductive D where
  | non
  | bl (b : Bool)
  | int (i : Int)
  | str (s : Str)
  | lst (xs : List D)
  | tup (xs : List D)
  | dK (ks : List Key) (xs : List D)
  | dT (ks : List (List Key)) (xs : List D)
  | obj (c : Nat) (xs : List D)
  | scr (ns : List Int)

/-- what the program's own classes and errors are -/
structure Pm where
  C : Nat → Addr
  nm : Nat → List Str
  xc : Nat → Value
  xf : Nat → Str
  K : PySem.W.Frag

mutual
def Is (P : Pm) (F : Hp) : D → V → Prop
  | .non, v => v = .non
  | .bl b, v => v = .bl b
  | .int i, v => v = .int i
  | .str s, v => v = .str s
  | .lst xs, v => ∃ a vs, v = .ref a ∧ Rd F a (.lst vs) ∧ IsL P F xs vs
  | .tup xs, v => ∃ a vs, v = .ref a ∧ Rd F a (.tup vs) ∧ IsL P F xs vs
  | .dK ks xs, v => ∃ a vs, v = .ref a ∧ Rd F a (.dK (ks.zip vs)) ∧ ks.length = vs.length ∧ IsL P F xs vs
  | .dT ks xs, v => ∃ a vs, v = .ref a ∧ F a = some (.dT (ks.zip vs)) ∧ ks.length = vs.length ∧ IsL P F xs vs
  | .obj c xs, v => ∃ a dx vs, v = .ref a ∧ F a = some (.ins (P.C c) dx ((P.nm c).zip vs)) ∧ vs.length ≤ (P.nm c).length ∧ IsL P F xs vs
  | .scr ns, v => ∃ a, v = .ref a ∧ SqL P.K F a (ns.map V.int)
def IsL (P : Pm) (F : Hp) : List D → List V → Prop
  | [], vs => vs = []
  | d :: ds, vs => ∃ v r, vs = v :: r ∧ Is P F d v ∧ IsL P F ds r
end

/-- the heap has grown -/
def Ex (H H' : Hp) : Prop := ∀ a o, H a = some o → H' a = some o
theorem Ex.refl (H : Hp) : Ex H H := fun _ _ h => h
theorem Ex.trans {H H1 H2 : Hp} (a : Ex H H1) (b : Ex H1 H2) : Ex H H2 := fun x o h => b x o (a x o h)
theorem Ex.new {H : Hp} {p : Addr} {o : HO} (h : H p = none) : Ex H (upd H p o) := fun a u e => by
  rw [upd_ne (ne_of_none e h)]
  exact e
theorem Ex.back {H H' : Hp} {p : Addr} (e : Ex H H') (h : H' p = none) : H p = none := by
  cases h1 : H p with
  | none => rfl
  | some o =>
    rw [e p o h1] at h
    cases h
theorem Ex.rd {H H' : Hp} {a : Addr} {u : HO} (e : Ex H H') (h : Rd H a u) : Rd H' a u := by
  rcases h with h | ⟨o, h⟩
  · exact Or.inl (e a _ h)
  · exact Or.inr ⟨o, e a _ h⟩

theorem Ex.sq {H H' : Hp} {K : PySem.W.Frag} {a : Addr} {xs : List V} (e : Ex H H') (h : SqL K H a xs) : SqL K H' a xs := by
  rcases h with h | h
  · exact Or.inl (e.rd h)
  · exact Or.inr h

section
variable {P : Pm} {F F' : Hp}
mutual
theorem Is.mono (e : Ex F F') : ∀ (d : D) {v : V}, Is P F d v → Is P F' d v
  | .non, _, h => by simpa [Is] using h
  | .bl b, _, h => by simpa [Is] using h
  | .int i, _, h => by simpa [Is] using h
  | .str s, _, h => by simpa [Is] using h
  | .lst xs, _, h => by
    rw [Is] at h ⊢
    obtain ⟨a, vs, h1, h2, h3⟩ := h
    exact ⟨a, vs, h1, e.rd h2, IsL.mono e xs h3⟩
  | .tup xs, _, h => by
    rw [Is] at h ⊢
    obtain ⟨a, vs, h1, h2, h3⟩ := h
    exact ⟨a, vs, h1, e.rd h2, IsL.mono e xs h3⟩
  | .dK ks xs, _, h => by
    rw [Is] at h ⊢
    obtain ⟨a, vs, h1, h2, h3, h4⟩ := h
    exact ⟨a, vs, h1, e.rd h2, h3, IsL.mono e xs h4⟩
  | .dT ks xs, _, h => by
    rw [Is] at h ⊢
    obtain ⟨a, vs, h1, h2, h3, h4⟩ := h
    exact ⟨a, vs, h1, e _ _ h2, h3, IsL.mono e xs h4⟩
  | .obj c xs, _, h => by
    rw [Is] at h ⊢
    obtain ⟨a, dx, vs, h1, h2, h3, h4⟩ := h
    exact ⟨a, dx, vs, h1, e _ _ h2, h3, IsL.mono e xs h4⟩
  | .scr ns, _, h => by
    rw [Is] at h ⊢
    obtain ⟨a, h1, h2⟩ := h
    exact ⟨a, h1, e.sq h2⟩
theorem IsL.mono (e : Ex F F') : ∀ (ds : List D) {vs : List V}, IsL P F ds vs → IsL P F' ds vs
  | [], _, h => by simpa [IsL] using h
  | d :: ds, _, h => by
    rw [IsL] at h ⊢
    obtain ⟨v, r, h1, h2, h3⟩ := h
    exact ⟨v, r, h1, Is.mono e d h2, IsL.mono e ds h3⟩
end
theorem IsL.nil : IsL P F [] [] := by rw [IsL]
theorem IsL.cons {d : D} {ds : List D} {v : V} {vs : List V} (h : Is P F d v) (t : IsL P F ds vs) : IsL P F (d :: ds) (v :: vs) := by
  rw [IsL]
  exact ⟨v, vs, rfl, h, t⟩
theorem IsL.length : ∀ {ds : List D} {vs : List V}, IsL P F ds vs → ds.length = vs.length
  | [], _, h => by
    rw [IsL] at h
    subst h
    rfl
  | d :: ds, _, h => by
    rw [IsL] at h
    obtain ⟨v, r, rfl, _, h3⟩ := h
    simp [IsL.length h3]
theorem IsL.get : ∀ {ds : List D} {vs : List V} {i : Nat} {d : D}, IsL P F ds vs → ds[i]? = some d → ∃ v, vs[i]? = some v ∧ Is P F d v
  | [], _, _, _, _, e => by simp at e
  | d :: ds, _, i, x, h, e => by
    rw [IsL] at h
    obtain ⟨v, r, rfl, h2, h3⟩ := h
    cases i with
    | zero =>
      simp at e
      subst e
      exact ⟨v, by simp, h2⟩
    | succ i =>
      simp at e
      obtain ⟨v', h4, h5⟩ := IsL.get h3 e
      exact ⟨v', by simpa using h4, h5⟩
theorem IsL.get' : ∀ {ds : List D} {vs : List V} {i : Nat} {v : V}, IsL P F ds vs → vs[i]? = some v → ∃ d, ds[i]? = some d ∧ Is P F d v := by
  intro ds vs i v h e
  have hl := h.length
  have hi : i < vs.length := by
    rcases Nat.lt_or_ge i vs.length with q | q
    · exact q
    · rw [List.getElem?_eq_none q] at e
      cases e
  obtain ⟨d, hd⟩ : ∃ d, ds[i]? = some d := ⟨ds[i]'(by omega), List.getElem?_eq_getElem (by omega)⟩
  obtain ⟨v', h1, h2⟩ := h.get hd
  rw [e] at h1
  cases h1
  exact ⟨d, hd, h2⟩
theorem IsL.append : ∀ {ds es : List D} {vs ws : List V}, IsL P F ds vs → IsL P F es ws → IsL P F (ds ++ es) (vs ++ ws)
  | [], _, _, _, h, t => by
    rw [IsL] at h
    subst h
    exact t
  | d :: ds, _, _, _, h, t => by
    rw [IsL] at h
    obtain ⟨v, r, rfl, h2, h3⟩ := h
    exact .cons h2 (IsL.append h3 t)
theorem IsL.drop : ∀ (n : Nat) {ds : List D} {vs : List V}, IsL P F ds vs → IsL P F (ds.drop n) (vs.drop n)
  | 0, _, _, h => h
  | n + 1, [], _, h => by
    rw [IsL] at h
    subst h
    exact .nil
  | n + 1, d :: ds, _, h => by
    rw [IsL] at h
    obtain ⟨v, r, rfl, h2, h3⟩ := h
    exact IsL.drop n h3
theorem IsL.take : ∀ (n : Nat) {ds : List D} {vs : List V}, IsL P F ds vs → IsL P F (ds.take n) (vs.take n)
  | 0, _, _, h => .nil
  | n + 1, [], _, h => by
    rw [IsL] at h
    subst h
    exact .nil
  | n + 1, d :: ds, _, h => by
    rw [IsL] at h
    obtain ⟨v, r, rfl, h2, h3⟩ := h
    exact .cons h2 (IsL.take n h3)
theorem IsL.set : ∀ (i : Nat) {ds : List D} {vs : List V} {d : D} {v : V}, IsL P F ds vs → Is P F d v → IsL P F (ds.set i d) (vs.set i v)
  | i, [], _, _, _, h, _ => by
    rw [IsL] at h
    subst h
    exact .nil
  | 0, d :: ds, _, _, _, h, q => by
    rw [IsL] at h
    obtain ⟨v, r, rfl, h2, h3⟩ := h
    exact .cons q h3
  | i + 1, d :: ds, _, _, _, h, q => by
    rw [IsL] at h
    obtain ⟨v, r, rfl, h2, h3⟩ := h
    exact .cons h2 (IsL.set i h3 q)
end

/-- F is the part that stands still, H all; from (F, H) to (F', H') objects only came, F' took none of those that H had beside F -/
structure Grow (F H F' H' : Hp) : Prop where
  f : Ex F F'
  h : Ex H H'
  s : Ex F' H'
  n : ∀ a o, F' a = some o → F a = some o ∨ H a = none
theorem Grow.refl {F H : Hp} (s : Ex F H) : Grow F H F H := ⟨.refl F, .refl H, s, fun _ _ e => .inl e⟩
theorem Grow.trans {F H F1 H1 F2 H2 : Hp} (a : Grow F H F1 H1) (b : Grow F1 H1 F2 H2) : Grow F H F2 H2 :=
  ⟨a.f.trans b.f, a.h.trans b.h, b.s, fun x o e => by
    rcases b.n x o e with q | q
    · exact a.n x o q
    · exact .inr (a.h.back q)⟩
/-- a new object, kept still -/
theorem Grow.new {F H : Hp} {p : Addr} {o : HO} (s : Ex F H) (h : H p = none) : Grow F H (upd F p o) (upd H p o) :=
  ⟨.new (s.back h), .new h, fun a u e => by
    by_cases q : a = p
    · subst q
      rw [upd_same] at e
      rw [upd_same]
      exact e
    · rw [upd_ne q] at e
      rw [upd_ne q]
      exact s a u e, fun a u e => by
    by_cases q : a = p
    · subst q
      exact .inr h
    · rw [upd_ne q] at e
      exact .inl e⟩
/-- a new object that nobody keeps -/
theorem Grow.junk {F H H' : Hp} (s : Ex F H) (e : Ex H H') : Grow F H F H' := ⟨.refl F, e, s.trans e, fun _ _ e => .inl e⟩

/-! ### results -/
inductive Res (α : Type) where
  | ok (a : α)
  | err (c : Nat) (p : Option D)
  | bad
instance : Monad Res where
  pure := Res.ok
  bind r k := match r with
    | .ok a => k a
    | .err c p => .err c p
    | .bad => .bad
theorem Res.bind_ok {α β : Type} (a : α) (k : α → Res β) : ((Res.ok a : Res α) >>= k) = k a := rfl
theorem Res.bind_err {α β : Type} (c : Nat) (p : Option D) (k : α → Res β) : ((Res.err c p : Res α) >>= k) = Res.err c p := rfl
theorem Res.bind_bad {α β : Type} (k : α → Res β) : ((Res.bad : Res α) >>= k) = Res.bad := rfl
theorem Res.pure_eq {α : Type} (a : α) : (pure a : Res α) = .ok a := rfl

/-- an error of the program lies in the heap -/
def ErrAt (P : Pm) (F H : Hp) (c : Nat) : Option D → Option Addr → Prop
  | none, x => x = none
  | some d, x => ∃ a v, x = some a ∧ H a = some (.xd [(P.xf c, v)]) ∧ Is P F d v

/-! ### names -/
inductive B where
  | sh (d : D)
  | ow (d : D)
abbrev Env := List (Option B)
/-- an object of one's own: its content -/
def Own (P : Pm) (F H : Hp) (a : Addr) : D → Prop
  | .lst xs => ∃ vs, H a = some (.lst vs) ∧ IsL P F xs vs
  | .dK ks xs => ∃ vs, H a = some (.dK (ks.zip vs)) ∧ ks.length = vs.length ∧ IsL P F xs vs
  | .dT ks xs => ∃ vs, H a = some (.dT (ks.zip vs)) ∧ ks.length = vs.length ∧ IsL P F xs vs
  | .obj c xs => ∃ dx vs, H a = some (.ins (P.C c) dx ((P.nm c).zip vs)) ∧ vs.length ≤ (P.nm c).length ∧ IsL P F xs vs
  | _ => False
theorem Own.mono {P : Pm} {F F' H H' : Hp} {a : Addr} (e : Ex F F') (g : Ex H H') : ∀ {d : D}, Own P F H a d → Own P F' H' a d
  | .lst xs, ⟨vs, h1, h2⟩ => ⟨vs, g _ _ h1, h2.mono e xs⟩
  | .dK ks xs, ⟨vs, h1, h2, h3⟩ => ⟨vs, g _ _ h1, h2, h3.mono e xs⟩
  | .dT ks xs, ⟨vs, h1, h2, h3⟩ => ⟨vs, g _ _ h1, h2, h3.mono e xs⟩
  | .obj c xs, ⟨dx, vs, h1, h2, h3⟩ => ⟨dx, vs, g _ _ h1, h2, h3.mono e xs⟩
  | .non, h => h.elim
  | .bl _, h => h.elim
  | .int _, h => h.elim
  | .str _, h => h.elim
  | .tup _, h => h.elim
  | .scr _, h => h.elim

/-- a def's entry: what stood still, and self of an __init__ -/
structure Fz where
  F : Hp
  S : Option Addr
/-- the names' values by data. F0, H0: the def's entry -/
structure ER (P : Pm) (F0 : Fz) (H0 F : Hp) (ρ : Env) (σ : St) (H : Hp) : Prop where
  g : Grow F0.F H0 F H
  self : ∀ x, F0.S = some x → σ[0]? = some (some (.ref x))
  len : ρ.length = σ.length
  sh : ∀ (i : Nat) d, ρ[i]? = some (some (.sh d)) → ∃ v, σ[i]? = some (some v) ∧ Is P F d v
  ow : ∀ (i : Nat) d, ρ[i]? = some (some (.ow d)) → ∃ a, σ[i]? = some (some (.ref a)) ∧ H0 a = none ∧ F a = none ∧ Own P F H a d
  nd : ∀ (i j : Nat) d e a, ρ[i]? = some (some (.ow d)) → ρ[j]? = some (some (.ow e)) → σ[i]? = some (some (.ref a)) → σ[j]? = some (some (.ref a)) → i = j
section
variable {P : Pm} {F0 : Fz} {H0 F F' H H' : Hp} {ρ : Env} {σ : St}
theorem Own.there {a : Addr} : ∀ {d : D}, Own P F H a d → ∃ o, H a = some o
  | .lst xs, ⟨vs, h1, h2⟩ => ⟨_, h1⟩
  | .dK ks xs, ⟨vs, h1, h2, h3⟩ => ⟨_, h1⟩
  | .dT ks xs, ⟨vs, h1, h2, h3⟩ => ⟨_, h1⟩
  | .obj c xs, ⟨dx, vs, h1, h2, h3⟩ => ⟨_, h1⟩
  | .non, h => h.elim
  | .bl _, h => h.elim
  | .int _, h => h.elim
  | .str _, h => h.elim
  | .tup _, h => h.elim
  | .scr _, h => h.elim
theorem ER.grow (r : ER P F0 H0 F ρ σ H) (g : Grow F H F' H') : ER P F0 H0 F' ρ σ H' where
  g := r.g.trans g
  self := r.self
  len := r.len
  sh := fun i d e => by
    obtain ⟨v, h1, h2⟩ := r.sh i d e
    exact ⟨v, h1, h2.mono g.f d⟩
  ow := fun i d e => by
    obtain ⟨a, h1, h2, h3, h4⟩ := r.ow i d e
    refine ⟨a, h1, h2, ?_, h4.mono g.f g.h⟩
    cases q : F' a with
    | none => rfl
    | some o =>
      rcases g.n a o q with z | z
      · rw [h3] at z
        cases z
      · obtain ⟨o', ho⟩ := h4.there
        rw [z] at ho
        cases ho
  nd := r.nd
theorem get_set_self {α : Type} {l : List α} {i : Nat} {x : α} (h : i < l.length) : (l.set i x)[i]? = some x := by simp [h]
/-- a name gets a value -/
theorem ER.put (r : ER P F0 H0 F ρ σ H) (i : Nat) {d : D} {v : V} (h : Is P F d v) (hi0 : F0.S = none ∨ i ≠ 0) : ER P F0 H0 F (ρ.set i (some (.sh d))) (σ.set i (some v)) H where
  g := r.g
  self := fun x hx => by
    rcases hi0 with q | q
    · rw [q] at hx
      cases hx
    · rw [List.getElem?_set_ne q]
      exact r.self x hx
  len := by simp [r.len]
  sh := fun j e q => by
    by_cases hj : i = j
    · subst hj
      have hl : i < ρ.length := by
        rcases Nat.lt_or_ge i ρ.length with z | z
        · exact z
        · rw [List.getElem?_eq_none (by simpa using z)] at q
          cases q
      rw [get_set_self hl] at q
      cases q
      exact ⟨v, get_set_self (r.len ▸ hl), h⟩
    · rw [List.getElem?_set_ne hj] at q
      rw [List.getElem?_set_ne hj]
      exact r.sh j e q
  ow := fun j e q => by
    by_cases hj : i = j
    · subst hj
      have hl : i < ρ.length := by
        rcases Nat.lt_or_ge i ρ.length with z | z
        · exact z
        · rw [List.getElem?_eq_none (by simpa using z)] at q
          cases q
      rw [get_set_self hl] at q
      cases q
    · rw [List.getElem?_set_ne hj] at q
      rw [List.getElem?_set_ne hj]
      exact r.ow j e q
  nd := fun j k d' e' a q1 q2 q3 q4 => by
    by_cases hj : i = j
    · subst hj
      have hl : i < ρ.length := by
        rcases Nat.lt_or_ge i ρ.length with z | z
        · exact z
        · rw [List.getElem?_eq_none (by simpa using z)] at q1
          cases q1
      rw [get_set_self hl] at q1
      cases q1
    · by_cases hk : i = k
      · subst hk
        have hl : i < ρ.length := by
          rcases Nat.lt_or_ge i ρ.length with z | z
          · exact z
          · rw [List.getElem?_eq_none (by simpa using z)] at q2
            cases q2
        rw [get_set_self hl] at q2
        cases q2
      · rw [List.getElem?_set_ne hj] at q1 q3
        rw [List.getElem?_set_ne hk] at q2 q4
        exact r.nd j k d' e' a q1 q2 q3 q4
end
end DL
namespace DL
open PySem L2

/-- a container as it stands in H, its items in F -/
def Vw (P : Pm) (F H : Hp) : D → V → Prop
  | .lst xs, v => ∃ a vs, v = .ref a ∧ Rd H a (.lst vs) ∧ IsL P F xs vs
  | .tup xs, v => ∃ a vs, v = .ref a ∧ Rd F a (.tup vs) ∧ Rd H a (.tup vs) ∧ IsL P F xs vs
  | .dK ks xs, v => ∃ a vs, v = .ref a ∧ Rd H a (.dK (ks.zip vs)) ∧ ks.length = vs.length ∧ IsL P F xs vs
  | .dT ks xs, v => ∃ a vs, v = .ref a ∧ H a = some (.dT (ks.zip vs)) ∧ ks.length = vs.length ∧ IsL P F xs vs
  | .obj c xs, v => ∃ a dx vs, v = .ref a ∧ H a = some (.ins (P.C c) dx ((P.nm c).zip vs)) ∧ vs.length ≤ (P.nm c).length ∧ IsL P F xs vs
  | .scr ns, v => ∃ a, v = .ref a ∧ SqL P.K H a (ns.map V.int)
  | .non, v => v = .non
  | .bl b, v => v = .bl b
  | .int i, v => v = .int i
  | .str s, v => v = .str s
section
variable {P : Pm} {F F' H H' : Hp}
theorem Is.vw (e : Ex F H) : ∀ (d : D) {v : V}, Is P F d v → Vw P F H d v
  | .non, _, h => by rw [Is] at h; exact h
  | .bl b, _, h => by rw [Is] at h; exact h
  | .int i, _, h => by rw [Is] at h; exact h
  | .str s, _, h => by rw [Is] at h; exact h
  | .lst xs, _, h => by
    rw [Is] at h
    obtain ⟨a, vs, h1, h2, h3⟩ := h
    exact ⟨a, vs, h1, e.rd h2, h3⟩
  | .tup xs, _, h => by
    rw [Is] at h
    obtain ⟨a, vs, h1, h2, h3⟩ := h
    exact ⟨a, vs, h1, h2, e.rd h2, h3⟩
  | .dK ks xs, _, h => by
    rw [Is] at h
    obtain ⟨a, vs, h1, h2, h3, h4⟩ := h
    exact ⟨a, vs, h1, e.rd h2, h3, h4⟩
  | .dT ks xs, _, h => by
    rw [Is] at h
    obtain ⟨a, vs, h1, h2, h3, h4⟩ := h
    exact ⟨a, vs, h1, e _ _ h2, h3, h4⟩
  | .obj c xs, _, h => by
    rw [Is] at h
    obtain ⟨a, dx, vs, h1, h2, h3, h4⟩ := h
    exact ⟨a, dx, vs, h1, e _ _ h2, h3, h4⟩
  | .scr ns, _, h => by
    rw [Is] at h
    obtain ⟨a, h1, h2⟩ := h
    exact ⟨a, h1, e.sq h2⟩
theorem Own.vw {a : Addr} : ∀ {d : D}, Own P F H a d → Vw P F H d (.ref a)
  | .lst xs, ⟨vs, h1, h2⟩ => ⟨a, vs, rfl, .inl h1, h2⟩
  | .dK ks xs, ⟨vs, h1, h2, h3⟩ => ⟨a, vs, rfl, .inl h1, h2, h3⟩
  | .dT ks xs, ⟨vs, h1, h2, h3⟩ => ⟨a, vs, rfl, h1, h2, h3⟩
  | .obj c xs, ⟨dx, vs, h1, h2, h3⟩ => ⟨a, dx, vs, rfl, h1, h2, h3⟩
  | .non, h => h.elim
  | .bl _, h => h.elim
  | .int _, h => h.elim
  | .str _, h => h.elim
  | .tup _, h => h.elim
  | .scr _, h => h.elim
theorem Vw.mono (e : Ex F F') (g : Ex H H') : ∀ (d : D) {v : V}, Vw P F H d v → Vw P F' H' d v
  | .non, _, h => h
  | .bl b, _, h => h
  | .int i, _, h => h
  | .str s, _, h => h
  | .lst xs, _, ⟨a, vs, h1, h2, h3⟩ => ⟨a, vs, h1, g.rd h2, h3.mono e xs⟩
  | .tup xs, _, ⟨a, vs, h1, h0, h2, h3⟩ => ⟨a, vs, h1, e.rd h0, g.rd h2, h3.mono e xs⟩
  | .dK ks xs, _, ⟨a, vs, h1, h2, h3, h4⟩ => ⟨a, vs, h1, g.rd h2, h3, h4.mono e xs⟩
  | .dT ks xs, _, ⟨a, vs, h1, h2, h3, h4⟩ => ⟨a, vs, h1, g _ _ h2, h3, h4.mono e xs⟩
  | .obj c xs, _, ⟨a, dx, vs, h1, h2, h3, h4⟩ => ⟨a, dx, vs, h1, g _ _ h2, h3, h4.mono e xs⟩
  | .scr ns, _, ⟨a, h1, h2⟩ => ⟨a, h1, g.sq h2⟩
end

/-! ### what is wanted behind a result -/
abbrev Rel (α β : Type) := Hp → Hp → α → β → Prop
def PostG {α β : Type} (P : Pm) (W : WX) (rel : Rel α β) (r : Res α) (F : Hp) (σ : St) (H : Hp) (Q : β → Hp → Prop) : Prop :=
  match r with
  | .ok a => ∀ v F' H', Grow F H F' H' → rel F' H' a v → Q v H'
  | .err c p => ∀ F' H' x, Grow F H F' H' → ErrAt P F' H' c p x → W (P.xc c) x σ H'
  | .bad => False
section
variable {α β γ δ : Type} {P : Pm} {W : WX} {rel : Rel α β} {rel' : Rel γ δ} {F0 : Fz} {F F1 H H1 H0 : Hp} {σ : St}
theorem PostG.shift {r : Res α} {Q : β → Hp → Prop} (h : PostG P W rel r F σ H Q) (g : Grow F H F1 H1) : PostG P W rel r F1 σ H1 Q := by
  cases r with
  | ok a => exact fun v F' H' g' q => h v F' H' (g.trans g') q
  | err c p => exact fun F' H' x g' q => h F' H' x (g.trans g') q
  | bad => exact h
theorem PostG.bind {r : Res α} {k : α → Res γ} {Q : δ → Hp → Prop} (h : PostG P W rel' (r >>= k) F σ H Q) :
    PostG P W rel r F σ H (fun v H1 => ∃ F1 a, Grow F H F1 H1 ∧ rel F1 H1 a v ∧ PostG P W rel' (k a) F1 σ H1 Q) := by
  cases r with
  | ok a => exact fun v F' H' g' q => ⟨F', a, g', q, PostG.shift (r := k a) h g'⟩
  | err c p => exact h
  | bad => exact h
theorem PostG.imp {r : Res α} {Q Q' : β → Hp → Prop} (h : PostG P W rel r F σ H Q) (q : ∀ v H', Q v H' → Q' v H') : PostG P W rel r F σ H Q' := by
  cases r with
  | ok a => exact fun v F' H' g' z => q _ _ (h v F' H' g' z)
  | err c p => exact h
  | bad => exact h
theorem PostG.here {a : α} {Q : β → Hp → Prop} {v : β} (h : PostG P W rel (.ok a) F σ H Q) (s : Ex F H) (q : rel F H a v) : Q v H := h v F H (.refl s) q
end
/-- readings by data -/
def tG {α β : Type} (P : Pm) (F0 : Fz) (H0 : Hp) (W : WX) (rel : Rel α β) (f : Env → Res α) : St → Hp → (β → Hp → Prop) → Prop :=
  fun σ H Q => ∃ F ρ, ER P F0 H0 F ρ σ H ∧ PostG P W rel (f ρ) F σ H Q
abbrev rIs (P : Pm) : Rel D V := fun F _ d v => Is P F d v
abbrev rVw (P : Pm) : Rel D V := fun F H d v => Vw P F H d v
abbrev rLs (P : Pm) : Rel (List D) (List V) := fun F _ d v => IsL P F d v
abbrev rBo : Rel Bool Bool := fun _ _ d v => v = d
abbrev tE (P : Pm) (F0 : Fz) (H0 : Hp) (W : WX) (f : Env → Res D) : TE := tG P F0 H0 W (rIs P) f
abbrev tV (P : Pm) (F0 : Fz) (H0 : Hp) (W : WX) (f : Env → Res D) : TE := tG P F0 H0 W (rVw P) f
abbrev tL (P : Pm) (F0 : Fz) (H0 : Hp) (W : WX) (f : Env → Res (List D)) : TA := tG P F0 H0 W (rLs P) f
abbrev tT (P : Pm) (F0 : Fz) (H0 : Hp) (W : WX) (f : Env → Res Bool) : TT := tG P F0 H0 W rBo f
theorem tG.bind {α β γ δ : Type} {P : Pm} {F0 : Fz} {H0 : Hp} {W : WX} {rel : Rel α β} {rel' : Rel γ δ} {f : Env → Res α} {k : Env → α → Res γ} {σ : St} {H : Hp} {Q : δ → Hp → Prop}
    (h : tG P F0 H0 W rel' (fun ρ => f ρ >>= k ρ) σ H Q) :
    tG P F0 H0 W rel f σ H (fun v H1 => ∃ F1 ρ a, ER P F0 H0 F1 ρ σ H1 ∧ rel F1 H1 a v ∧ PostG P W rel' (k ρ a) F1 σ H1 Q) := by
  obtain ⟨F, ρ, er, h⟩ := h
  exact ⟨F, ρ, er, (PostG.bind (rel := rel) h).imp fun v H1 ⟨F1, a, g, q, z⟩ => ⟨F1, ρ, a, er.grow g, q, z⟩⟩
theorem ER.s {P : Pm} {F0 : Fz} {H0 F H : Hp} {ρ : Env} {σ : St} (r : ER P F0 H0 F ρ σ H) : Ex F H := r.g.s

/-! ### rules -/
theorem _root_.L2.PE.imp {X : Cx} {e : Expr} {t t' : TE} (h : PE X e t) (q : ∀ σ H Q, t' σ H Q → t σ H Q) : PE X e t' := ⟨fun pins s σ H Q I z => h.run pins s σ H Q I (q σ H Q z)⟩
theorem _root_.L2.PT.imp {X : Cx} {e : Expr} {t t' : TT} (h : PT X e t) (q : ∀ σ H Q, t' σ H Q → t σ H Q) : PT X e t' := ⟨fun pins s σ H Q I z => h.run pins s σ H Q I (q σ H Q z)⟩
theorem _root_.L2.PW.imp {X : Cx} {e : Expr} {t t' : TT} (h : PW X e t) (q : ∀ σ H Q, t' σ H Q → t σ H Q) : PW X e t' := ⟨fun w pins s σ H Q I z => h.run w pins s σ H Q I (q σ H Q z)⟩
theorem _root_.L2.PA.imp {X : Cx} {e : List Expr} {t t' : TA} (h : PA X e t) (q : ∀ σ H Q, t' σ H Q → t σ H Q) : PA X e t' := ⟨fun p pins s σ H Q I z => h.run p pins s σ H Q I (q σ H Q z)⟩
theorem _root_.L2.PS.imp {X : Cx} {e : Stmt} {t t' : TS} (h : PS X e t) (q : ∀ D σ H, t' D σ H → t D σ H) : PS X e t' := ⟨fun pins s σ H Q I z => h.run pins s σ H Q I (q Q σ H z)⟩
theorem _root_.L2.PSs.imp {X : Cx} {e : List Stmt} {t t' : TS} (h : PSs X e t) (q : ∀ D σ H, t' D σ H → t D σ H) : PSs X e t' := ⟨fun pins s σ H Q I z => h.run pins s σ H Q I (q Q σ H z)⟩

section
variable {X : Cx} {P : Pm} {F0 : Fz} {H0 : Hp} {W : WX} {a b c e : Expr} {es : List Expr} {fa fb fc : Env → Res D} {pos : Pos}
/-- a value may be looked at -/
theorem toV (h : PE X a (tE P F0 H0 W fa)) : PE X a (tV P F0 H0 W fa) := h.imp fun σ H Q ⟨F, ρ, er, z⟩ => ⟨F, ρ, er, by
  cases q : fa ρ with
  | ok d =>
    rw [q] at z
    exact fun v F' H' g i => z v F' H' g (i.vw g.s d)
  | err c p =>
    rw [q] at z
    exact z
  | bad =>
    rw [q] at z
    exact z⟩
def look (i : Nat) : Env → Res D := fun ρ => match ρ[i]? with
  | some (some (.sh d)) => .ok d
  | _ => .bad
def peek (i : Nat) : Env → Res D := fun ρ => match ρ[i]? with
  | some (some (.sh d)) => .ok d
  | some (some (.ow d)) => .ok d
  | _ => .bad
theorem pd_name (i : Nat) {x : Str} (hN : X.N[i]? = some x := by rfl) (hv : Vis X.env.scope x := by first | exact Or.inl rfl | exact Or.inr (Or.inl rfl) | exact Or.inr (Or.inr rfl)) (hd : (x == ("__debug__" : Str)) = false := by decide)
    (hcd : (x == ("__classdict__" : Str)) = false := by decide) : PE X (.Name x pos) (tE P F0 H0 W (look i)) := (pe_var hN hv hd hcd).imp fun σ H Q ⟨F, ρ, er, z⟩ => by
  unfold look at z
  split at z
  · rename_i d q
    obtain ⟨v, h1, h2⟩ := er.sh i d q
    exact ⟨v, h1, z.here er.s h2⟩
  · exact z.elim
theorem pd_peek (i : Nat) {x : Str} (hN : X.N[i]? = some x := by rfl) (hv : Vis X.env.scope x := by first | exact Or.inl rfl | exact Or.inr (Or.inl rfl) | exact Or.inr (Or.inr rfl)) (hd : (x == ("__debug__" : Str)) = false := by decide)
    (hcd : (x == ("__classdict__" : Str)) = false := by decide) : PE X (.Name x pos) (tV P F0 H0 W (peek i)) := (pe_var hN hv hd hcd).imp fun σ H Q ⟨F, ρ, er, z⟩ => by
  unfold peek at z
  split at z
  · rename_i d q
    obtain ⟨v, h1, h2⟩ := er.sh i d q
    exact ⟨v, h1, z.here er.s (h2.vw er.s d)⟩
  · rename_i d q
    obtain ⟨a, h1, _, _, h2⟩ := er.ow i d q
    exact ⟨.ref a, h1, z.here er.s h2.vw⟩
  · exact z.elim
theorem pd_const {v : V} {d : D} (h : PE X e (tC v)) (q : ∀ F, Is P F d v) : PE X e (tE P F0 H0 W (fun _ => .ok d)) := h.imp fun σ H Q ⟨F, ρ, er, z⟩ => z.here er.s (q F)
theorem pd_int {i j} : PE X (.Constant (.int i) j pos) (tE P F0 H0 W (fun _ => .ok (.int i))) := pd_const pe_int fun F => by rw [Is]
theorem pd_bl {i j} : PE X (.Constant (.bool i) j pos) (tE P F0 H0 W (fun _ => .ok (.bl i))) := pd_const pe_bl fun F => by rw [Is]
theorem pd_non {j} : PE X (.Constant .none j pos) (tE P F0 H0 W (fun _ => .ok .non)) := pd_const pe_non fun F => by rw [Is]
theorem pd_str {i j} : PE X (.Constant (.str i) j pos) (tE P F0 H0 W (fun _ => .ok (.str i))) := pd_const pe_str fun F => by rw [Is]

/-- a two-place operation by data -/
def OpD (X : Cx) (P : Pm) (W : WX) (f : Value → Value → Sem Value) (r : D → D → Res D) : Prop :=
  ∀ (pins : List (Addr × Obj)) (s : Shared) (σ : St) (F H : Hp) (x y : V) (u v : Value) (dx dy : D) (Q : VK), Inv X pins σ H s → RelV x u → RelV y v → Ex F H → Vw P F H dx x → Vw P F H dy y → PostG P W (rIs P) (r dx dy) F σ H Q →
    wpAny (model X.prog X.w) X.A (f u v) (EP X pins σ Q) X.xe s
def UnD (X : Cx) (P : Pm) (W : WX) (f : Value → Sem Value) (r : D → Res D) : Prop :=
  ∀ (pins : List (Addr × Obj)) (s : Shared) (σ : St) (F H : Hp) (x : V) (u : Value) (dx : D) (Q : VK), Inv X pins σ H s → RelV x u → Ex F H → Vw P F H dx x → PostG P W (rIs P) (r dx) F σ H Q →
    wpAny (model X.prog X.w) X.A (f u) (EP X pins σ Q) X.xe s
def CallD (X : Cx) (P : Pm) (W : WX) (f : Value) (r : List D → Res D) : Prop :=
  ∀ (pins : List (Addr × Obj)) (s : Shared) (σ : St) (F H : Hp) (xs : List V) (us : List Value) (ds : List D) (Q : VK), Inv X pins σ H s → Vals xs us → Ex F H → IsL P F ds xs → PostG P W (rIs P) (r ds) F σ H Q →
    wpAny (model X.prog X.w) X.A (call f us) (EP X pins σ Q) X.xe s
variable {op : Operator} {cop : CmpOp} {r : D → D → Res D}
/-- what two operands ask -/
theorem two_of {k : D → D → Res D} {σ : St} {H : Hp} {Q : VK} (h : tE P F0 H0 W (fun ρ => do let x ← fa ρ; let y ← fb ρ; k x y) σ H Q) :
    tV P F0 H0 W fa σ H fun x H1 => tV P F0 H0 W fb σ H1 fun y H2 => ∃ F dx dy, Ex F H2 ∧ Vw P F H2 dx x ∧ Vw P F H2 dy y ∧ PostG P W (rIs P) (k dx dy) F σ H2 Q := by
  obtain ⟨F, ρ, er, z⟩ := h
  refine ⟨F, ρ, er, (PostG.bind (rel := rVw P) z).imp ?_⟩
  rintro x H1 ⟨F1, dx, g1, i1, z1⟩
  refine ⟨F1, ρ, er.grow g1, (PostG.bind (rel := rVw P) z1).imp ?_⟩
  rintro y H2 ⟨F2, dy, g2, i2, z2⟩
  exact ⟨F2, dx, dy, g2.s, i1.mono g2.f g2.h dx, i2, z2⟩
theorem pd_op (ho : OpD X P W (binaryOp op) r) (ha : PE X a (tV P F0 H0 W fa)) (hb : PE X b (tV P F0 H0 W fb)) : PE X (.BinOp a op b pos) (tE P F0 H0 W (fun ρ => do let x ← fa ρ; let y ← fb ρ; r x y)) := by
  refine ⟨fun pins s σ H Q I h => ?_⟩
  exact wpAny_BinOp (binT ha hb I (two_of h) fun v u s2 x y H2 I2 rx ry ⟨F, dx, dy, e, i1, i2, q⟩ => ho pins s2 σ F H2 x y v u dx dy Q I2 rx ry e i1 i2 q)
theorem pd_un {op : UnaryOp} {r : D → Res D} (ho : UnD X P W (unaryOp op) r) (ha : PE X a (tV P F0 H0 W fa)) : PE X (.UnaryOp op a pos) (tE P F0 H0 W (fun ρ => do let x ← fa ρ; r x)) := by
  refine ⟨fun pins s σ H Q I h => ?_⟩
  exact PyProof.Rows.UnaryOp_ (thn (ha.run pins s σ H _ I (tG.bind (rel := rVw P) (f := fa) (k := fun _ x => r x) h)) fun v s1 ⟨x, H1, I1, r1, F1, ρ, d, er, i1, q1⟩ => ho pins s1 σ F1 H1 x v d Q I1 r1 er.s i1 q1)
/-- the same of a comparison -/
theorem pd_cmp (ho : OpD X P W (compareOp cop) r) (ha : PE X a (tV P F0 H0 W fa)) (hb : PE X b (tV P F0 H0 W fb)) (hm : behindInMarks cop b = false) : PE X (.Compare a [cop] [b] pos) (tE P F0 H0 W (fun ρ => do let x ← fa ρ; let y ← fb ρ; r x y)) := by
  refine pe_cmp (t := tE P F0 H0 W (fun ρ => do let x ← fa ρ; let y ← fb ρ; r x y)) ⟨fun pins s σ H Q I h => ?_⟩ hm
  exact binT ha hb I (two_of h) fun v u s2 x y H2 I2 rx ry ⟨F, dx, dy, e, i1, i2, q⟩ => ho pins s2 σ F H2 x y v u dx dy Q I2 rx ry e i1 i2 q
end
end DL
namespace DL
open PySem L2

def bo : D → Res Bool
  | .bl b => .ok b
  | _ => .bad
def opt {α : Type} : Option α → Res α
  | some a => .ok a
  | none => .bad
section
variable {X : Cx} {P : Pm} {F0 : Fz} {H0 : Hp} {W : WX} {a b c e : Expr} {es : List Expr} {fa fb fc : Env → Res D} {ga gb gc : Env → Res Bool} {pos : Pos} {σ : St} {H F : Hp}
theorem bo_of {x : D} {v : V} {Q : Bool → Hp → Prop} (s : Ex F H) (i : Is P F x v) (h : PostG P W rBo (bo x) F σ H Q) : ∃ k, v = .bl k ∧ Q k H := by
  cases x with
  | bl k =>
    rw [Is] at i
    exact ⟨k, i, h.here s rfl⟩
  | _ => exact h.elim
/-! ### tests -/
theorem tB_of {f : Env → Res D} {Q : Bool → Hp → Prop} (h : tT P F0 H0 W (fun ρ => f ρ >>= bo) σ H Q) : tB (tE P F0 H0 W f) σ H Q := by
  obtain ⟨F, ρ, er, z⟩ := h
  refine ⟨F, ρ, er, (PostG.bind (rel := rIs P) z).imp ?_⟩
  rintro v H1 ⟨F1, d, g, i, q⟩
  exact bo_of g.s i q
theorem td_val (h : PE X e (tE P F0 H0 W fa)) (he : ∀ whole, isTrue e X.env whole = (do let v ← whole; standAt e.pos; holding [v] (truthy v)) := by intro _; rfl) : PT X e (tT P F0 H0 W (fun ρ => fa ρ >>= bo)) :=
  (pt_val h he).imp fun _ _ _ z => tB_of z
theorem pd_pc {cop : CmpOp} {r : D → D → Res D} (ho : OpD X P W (compareOp cop) r) (ha : PE X a (tV P F0 H0 W fa)) (hb : PE X b (tV P F0 H0 W fb)) : PC X cop a b (tE P F0 H0 W (fun ρ => do let x ← fa ρ; let y ← fb ρ; r x y)) :=
  ⟨fun pins s σ H Q I h => binT ha hb I (two_of h) fun v u s2 x y H2 I2 rx ry ⟨F, dx, dy, e, i1, i2, q⟩ => ho pins s2 σ F H2 x y v u dx dy Q I2 rx ry e i1 i2 q⟩
theorem td_cmp {cop : CmpOp} {r : D → D → Res D} (ho : OpD X P W (compareOp cop) r) (ha : PE X a (tV P F0 H0 W fa)) (hb : PE X b (tV P F0 H0 W fb)) (hm : behindInMarks cop b = false) :
    PT X (.Compare a [cop] [b] pos) (tT P F0 H0 W (fun ρ => (do let x ← fa ρ; let y ← fb ρ; r x y) >>= bo)) := (pt_cmp (pd_pc ho ha hb) hm).imp fun _ _ _ z => tB_of z
theorem td_not (h : PT X a (tT P F0 H0 W ga)) : PT X (.UnaryOp .Not a pos) (tT P F0 H0 W (fun ρ => do let x ← ga ρ; .ok (!x))) := (pt_not h).imp fun σ H Q ⟨F, ρ, er, z⟩ => by
  refine ⟨F, ρ, er, (PostG.bind (rel := rBo) z).imp ?_⟩
  rintro v H1 ⟨F1, d, g, i, q⟩
  subst i
  exact q.here g.s rfl
theorem td_and1 (h : PT X a (tT P F0 H0 W ga)) : PW X (.BoolOp .And [a] pos) (tT P F0 H0 W ga) := pw_and1 h
theorem td_or1 (h : PT X a (tT P F0 H0 W ga)) : PW X (.BoolOp .Or [a] pos) (tT P F0 H0 W ga) := pw_or1 h
theorem td_and {rest : List Expr} (ha : PT X a (tT P F0 H0 W ga)) (hb : PW X (.BoolOp .And (b :: rest) pos) (tT P F0 H0 W gb)) : PW X (.BoolOp .And (a :: b :: rest) pos) (tT P F0 H0 W (fun ρ => do let x ← ga ρ; if x = true then gb ρ else .ok false)) :=
  (pw_and ha hb).imp fun σ H Q ⟨F, ρ, er, z⟩ => by
  refine ⟨F, ρ, er, (PostG.bind (rel := rBo) z).imp ?_⟩
  rintro v H1 ⟨F1, d, g, i, q⟩
  subst i
  split
  · rename_i hv
    rw [if_pos hv] at q
    exact ⟨F1, ρ, er.grow g, q⟩
  · rename_i hv
    rw [if_neg hv] at q
    exact q.here g.s rfl
theorem td_or {rest : List Expr} (ha : PT X a (tT P F0 H0 W ga)) (hb : PW X (.BoolOp .Or (b :: rest) pos) (tT P F0 H0 W gb)) : PW X (.BoolOp .Or (a :: b :: rest) pos) (tT P F0 H0 W (fun ρ => do let x ← ga ρ; if x = true then .ok true else gb ρ)) :=
  (pw_or ha hb).imp fun σ H Q ⟨F, ρ, er, z⟩ => by
  refine ⟨F, ρ, er, (PostG.bind (rel := rBo) z).imp ?_⟩
  rintro v H1 ⟨F1, d, g, i, q⟩
  subst i
  split
  · rename_i hv
    rw [if_pos hv] at q
    exact q.here g.s rfl
  · rename_i hv
    rw [if_neg hv] at q
    exact ⟨F1, ρ, er.grow g, q⟩
/-! ### and, or, not as values (bools), a if t else b -/
theorem pd_one {op} (h : PE X a (tE P F0 H0 W fa)) : PE X (.BoolOp op [a] pos) (tE P F0 H0 W fa) := pe_one h
theorem pd_and {rest : List Expr} (ha : PE X a (tE P F0 H0 W fa)) (hb : PE X (.BoolOp .And (b :: rest) pos) (tE P F0 H0 W fb)) : PE X (.BoolOp .And (a :: b :: rest) pos) (tE P F0 H0 W (fun ρ => do let x ← fa ρ; let k ← bo x; if k = true then fb ρ else .ok (.bl false))) :=
  (pe_and ha hb).imp fun σ H Q ⟨F, ρ, er, z⟩ => by
  refine ⟨F, ρ, er, (PostG.bind (rel := rIs P) z).imp ?_⟩
  rintro v H1 ⟨F1, d, g, i, q⟩
  obtain ⟨k, hk, F2, k', g2, e2, q⟩ := bo_of g.s i (PostG.bind (rel := rBo) q)
  subst e2
  refine ⟨k, hk, ?_⟩
  split
  · rename_i hv
    rw [if_pos hv] at q
    exact ⟨F2, ρ, (er.grow g).grow g2, q⟩
  · rename_i hv
    rw [if_neg hv] at q
    exact q.here g2.s (by show Is P F2 (.bl false) _; rw [Is])
theorem pd_or {rest : List Expr} (ha : PE X a (tE P F0 H0 W fa)) (hb : PE X (.BoolOp .Or (b :: rest) pos) (tE P F0 H0 W fb)) : PE X (.BoolOp .Or (a :: b :: rest) pos) (tE P F0 H0 W (fun ρ => do let x ← fa ρ; let k ← bo x; if k = true then .ok (.bl true) else fb ρ)) :=
  (pe_or ha hb).imp fun σ H Q ⟨F, ρ, er, z⟩ => by
  refine ⟨F, ρ, er, (PostG.bind (rel := rIs P) z).imp ?_⟩
  rintro v H1 ⟨F1, d, g, i, q⟩
  obtain ⟨k, hk, F2, k', g2, e2, q⟩ := bo_of g.s i (PostG.bind (rel := rBo) q)
  subst e2
  refine ⟨k, hk, ?_⟩
  split
  · rename_i hv
    rw [if_pos hv] at q
    exact q.here g2.s (by show Is P F2 (.bl true) _; rw [Is])
  · rename_i hv
    rw [if_neg hv] at q
    exact ⟨F2, ρ, (er.grow g).grow g2, q⟩
theorem pd_not (ha : PE X a (tE P F0 H0 W fa)) : PE X (.UnaryOp .Not a pos) (tE P F0 H0 W (fun ρ => do let x ← fa ρ; let k ← bo x; .ok (.bl (!k)))) :=
  (pe_not ha).imp fun σ H Q ⟨F, ρ, er, z⟩ => by
  refine ⟨F, ρ, er, (PostG.bind (rel := rIs P) z).imp ?_⟩
  rintro v H1 ⟨F1, d, g, i, q⟩
  obtain ⟨k, hk, F2, k', g2, e2, q⟩ := bo_of g.s i (PostG.bind (rel := rBo) q)
  subst e2
  exact ⟨k, hk, q.here g2.s (by show Is P F2 (.bl _) _; rw [Is])⟩
theorem pd_if (hc : PT X c (tT P F0 H0 W gc)) (ha : PE X a (tE P F0 H0 W fa)) (hb : PE X b (tE P F0 H0 W fb)) : PE X (.IfExp c a b pos) (tE P F0 H0 W (fun ρ => do let k ← gc ρ; if k = true then fa ρ else fb ρ)) :=
  (pe_ifExp hc ha hb).imp fun σ H Q ⟨F, ρ, er, z⟩ => by
  refine ⟨F, ρ, er, (PostG.bind (rel := rBo) z).imp ?_⟩
  rintro v H1 ⟨F1, d, g, i, q⟩
  subst i
  split
  · rename_i hv
    rw [if_pos hv] at q
    exact ⟨F1, ρ, er.grow g, q⟩
  · rename_i hv
    rw [if_neg hv] at q
    exact ⟨F1, ρ, er.grow g, q⟩
end

/-! ### argument lists -/
def VwL (P : Pm) (F H : Hp) : List D → List V → Prop
  | [], vs => vs = []
  | d :: ds, vs => ∃ v r, vs = v :: r ∧ Vw P F H d v ∧ VwL P F H ds r
abbrev rVs (P : Pm) : Rel (List D) (List V) := fun F H d v => VwL P F H d v
abbrev tW (P : Pm) (F0 : Fz) (H0 : Hp) (W : WX) (f : Env → Res (List D)) : TA := tG P F0 H0 W (rVs P) f
theorem VwL.mono {P : Pm} {F F' H H' : Hp} (e : Ex F F') (g : Ex H H') : ∀ (ds : List D) {vs : List V}, VwL P F H ds vs → VwL P F' H' ds vs
  | [], _, h => h
  | d :: ds, _, ⟨v, r, h1, h2, h3⟩ => ⟨v, r, h1, h2.mono e g d, VwL.mono e g ds h3⟩
theorem IsL.vw {P : Pm} {F H : Hp} (e : Ex F H) : ∀ (ds : List D) {vs : List V}, IsL P F ds vs → VwL P F H ds vs
  | [], _, h => by rw [IsL] at h; exact h
  | d :: ds, _, h => by
    rw [IsL] at h
    obtain ⟨v, r, h1, h2, h3⟩ := h
    exact ⟨v, r, h1, h2.vw e d, IsL.vw e ds h3⟩
section
variable {X : Cx} {P : Pm} {F0 : Fz} {H0 : Hp} {W : WX} {a b c e : Expr} {es : List Expr} {fa fb fc : Env → Res D} {fs : Env → Res (List D)} {pos p : Pos} {σ : St} {H F : Hp}
theorem ad_nil : PA X [] (tL P F0 H0 W (fun _ => .ok [])) := pa_nil.imp fun σ H Q ⟨F, ρ, er, z⟩ => z.here er.s .nil
theorem ad_cons (ha : PE X e (tE P F0 H0 W fa)) (hr : PA X es (tL P F0 H0 W fs)) (hs : starEach (e :: es) X.env = (false, eval e X.env) :: starEach es X.env := by rfl) :
    PA X (e :: es) (tL P F0 H0 W (fun ρ => do let x ← fa ρ; let xs ← fs ρ; .ok (x :: xs))) := (pa_cons ha hr hs).imp fun σ H Q ⟨F, ρ, er, z⟩ => by
  refine ⟨F, ρ, er, (PostG.bind (rel := rIs P) z).imp ?_⟩
  rintro v H1 ⟨F1, d, g, i, q⟩
  refine ⟨F1, ρ, er.grow g, (PostG.bind (rel := rLs P) q).imp ?_⟩
  rintro vs H2 ⟨F2, ds, g2, i2, q2⟩
  exact q2.here g2.s (.cons (i.mono g2.f d) i2)
theorem av_nil : PA X [] (tW P F0 H0 W (fun _ => .ok [])) := pa_nil.imp fun σ H Q ⟨F, ρ, er, z⟩ => z.here er.s rfl
theorem av_cons (ha : PE X e (tV P F0 H0 W fa)) (hr : PA X es (tW P F0 H0 W fs)) (hs : starEach (e :: es) X.env = (false, eval e X.env) :: starEach es X.env := by rfl) :
    PA X (e :: es) (tW P F0 H0 W (fun ρ => do let x ← fa ρ; let xs ← fs ρ; .ok (x :: xs))) := (pa_cons ha hr hs).imp fun σ H Q ⟨F, ρ, er, z⟩ => by
  refine ⟨F, ρ, er, (PostG.bind (rel := rVw P) z).imp ?_⟩
  rintro v H1 ⟨F1, d, g, i, q⟩
  refine ⟨F1, ρ, er.grow g, (PostG.bind (rel := rVs P) q).imp ?_⟩
  rintro vs H2 ⟨F2, ds, g2, i2, q2⟩
  exact q2.here g2.s ⟨_, _, rfl, i.mono g2.f g2.h d, i2⟩

/-! ### new containers -/
/-- a new object at p, nobody's yet -/
def rNw (P : Pm) (H : Hp) : Rel D V := fun F' H' d v => ∃ p, v = .ref p ∧ H p = none ∧ F' p = none ∧ Own P F' H' p d
def tN (P : Pm) (F0 : Fz) (H0 : Hp) (W : WX) (f : Env → Res D) : TE := fun σ H Q => ∃ F ρ, ER P F0 H0 F ρ σ H ∧ PostG P W (rNw P H) (f ρ) F σ H Q
/-- an object of one's own is kept still from now on -/
theorem Own.still {P : Pm} {F H : Hp} {p : Addr} (s : Ex F H) (h0 : F p = none) : ∀ {d : D}, Own P F H p d → ∃ F', Ex F F' ∧ Ex F' H ∧ Is P F' d (.ref p) ∧ ∀ a o, F' a = some o → F a = some o ∨ a = p
  | .lst xs, ⟨vs, h1, h2⟩ => ⟨upd F p (.lst vs), .new h0, fun a u e => by
      by_cases q : a = p
      · subst q; rw [upd_same] at e; cases e; exact h1
      · rw [upd_ne q] at e; exact s a u e, by rw [Is]; exact ⟨p, vs, rfl, .inl upd_same, h2.mono (.new h0) xs⟩, fun a u e => by
      by_cases q : a = p
      · exact .inr q
      · rw [upd_ne q] at e; exact .inl e⟩
  | .dK ks xs, ⟨vs, h1, h2, h3⟩ => ⟨upd F p (.dK (ks.zip vs)), .new h0, fun a u e => by
      by_cases q : a = p
      · subst q; rw [upd_same] at e; cases e; exact h1
      · rw [upd_ne q] at e; exact s a u e, by rw [Is]; exact ⟨p, vs, rfl, .inl upd_same, h2, h3.mono (.new h0) xs⟩, fun a u e => by
      by_cases q : a = p
      · exact .inr q
      · rw [upd_ne q] at e; exact .inl e⟩
  | .dT ks xs, ⟨vs, h1, h2, h3⟩ => ⟨upd F p (.dT (ks.zip vs)), .new h0, fun a u e => by
      by_cases q : a = p
      · subst q; rw [upd_same] at e; cases e; exact h1
      · rw [upd_ne q] at e; exact s a u e, by rw [Is]; exact ⟨p, vs, rfl, upd_same, h2, h3.mono (.new h0) xs⟩, fun a u e => by
      by_cases q : a = p
      · exact .inr q
      · rw [upd_ne q] at e; exact .inl e⟩
  | .obj c xs, ⟨dx, vs, h1, h2, h3⟩ => ⟨upd F p (.ins (P.C c) dx ((P.nm c).zip vs)), .new h0, fun a u e => by
      by_cases q : a = p
      · subst q; rw [upd_same] at e; cases e; exact h1
      · rw [upd_ne q] at e; exact s a u e, by rw [Is]; exact ⟨p, dx, vs, rfl, upd_same, h2, h3.mono (.new h0) xs⟩, fun a u e => by
      by_cases q : a = p
      · exact .inr q
      · rw [upd_ne q] at e; exact .inl e⟩
  | .non, h => h.elim
  | .bl _, h => h.elim
  | .int _, h => h.elim
  | .str _, h => h.elim
  | .tup _, h => h.elim
  | .scr _, h => h.elim
theorem n2e (h : PE X e (tN P F0 H0 W fa)) : PE X e (tE P F0 H0 W fa) := h.imp fun σ H Q ⟨F, ρ, er, z⟩ => ⟨F, ρ, er, by
  cases q : fa ρ with
  | ok d =>
    rw [q] at z
    rintro v F' H' g ⟨p, rfl, hp, hf, ho⟩
    obtain ⟨F2, e1, e2, i, n⟩ := ho.still g.s hf
    exact z _ F2 H' ⟨g.f.trans e1, g.h, e2, fun a o ha => by
      rcases n a o ha with y | y
      · exact g.n a o y
      · exact .inr (y ▸ hp)⟩ i
  | err c p =>
    rw [q] at z
    exact z
  | bad =>
    rw [q] at z
    exact z⟩
def small (n : Nat) : Bool := decide (n ≤ 1000000)
theorem small_le {n : Nat} (h : small n = true) : n ≤ sizeLine := Nat.le_trans (of_decide_eq_true h) (by decide)
theorem small_lt {n : Nat} (h : small n = true) : n < sizeLine := Nat.lt_of_le_of_lt (of_decide_eq_true h) (by decide)
def mkL (xs : List D) : Res D := if small xs.length = true then .ok (.lst xs) else .bad
def mkT (xs : List D) : Res D := if small xs.length = true then .ok (.tup xs) else .bad
theorem nd_lst (h : PA X es (tL P F0 H0 W fs)) : PE X (.List es pos) (tN P F0 H0 W (fun ρ => fs ρ >>= mkL)) := (pe_lst h).imp fun σ H Q ⟨F, ρ, er, z⟩ => by
  refine ⟨F, ρ, er, (PostG.bind (rel := rLs P) z).imp ?_⟩
  rintro vs H1 ⟨F1, ds, g, i, q⟩
  unfold mkL at q
  split at q
  · rename_i hz
    refine ⟨by rw [← i.length]; exact small_le hz, fun p hp => ?_⟩
    exact q _ F1 _ (.junk g.s (.new hp)) ⟨p, rfl, g.h.back hp, g.s.back hp, vs, upd_same, i⟩
  · exact q.elim
theorem pd_lst (h : PA X es (tL P F0 H0 W fs)) : PE X (.List es pos) (tE P F0 H0 W (fun ρ => fs ρ >>= mkL)) := n2e (nd_lst h)
theorem pd_tup {x1} (h : PA X es (tL P F0 H0 W fs)) : PE X (.Tuple es x1 pos) (tE P F0 H0 W (fun ρ => fs ρ >>= mkT)) := (pe_tup h).imp fun σ H Q ⟨F, ρ, er, z⟩ => by
  refine ⟨F, ρ, er, (PostG.bind (rel := rLs P) z).imp ?_⟩
  rintro vs H1 ⟨F1, ds, g, i, q⟩
  unfold mkT at q
  split at q
  · rename_i hz
    refine ⟨by rw [← i.length]; exact small_le hz, fun p hp => ?_⟩
    exact q _ (upd F1 p (.tup vs)) _ (.new g.s hp) (by show Is P _ (.tup ds) _; rw [Is]; exact ⟨p, vs, rfl, .inl upd_same, i.mono (.new (g.s.back hp)) ds⟩)
  · exact q.elim
end
end DL
namespace DL
open PySem L2

/-! ### promises by data -/
def fnG (n : Nat) (G : List D → Res D) (ds : List D) : Res D := if ds.length = n then G ds else .bad
abbrev WE0 (E : XK) : WX := fun cls x _ H => E cls x H
def spD (P : Pm) (n : Nat) (G : List D → Res D) : Sp := fun vs H Q E => ∃ F ds, Ex F H ∧ IsL P F ds vs ∧ ds.length = n ∧ PostG P (WE0 E) (rIs P) (G ds) F [] H Q
def minus (H : Hp) (x : Addr) : Hp := fun a => if a = x then none else H a
theorem minus_same {H : Hp} {x : Addr} : minus H x x = none := by unfold minus; rw [if_pos rfl]
theorem minus_ne {H : Hp} {x a : Addr} (h : a ≠ x) : minus H x a = H a := by unfold minus; rw [if_neg h]
theorem minus_ex {H : Hp} {x : Addr} : Ex (minus H x) H := fun a o e => by
  by_cases q : a = x
  · subst q
    rw [minus_same] at e
    cases e
  · rw [minus_ne q] at e
    exact e
/-- __init__: the attributes that it sets -/
def spI (P : Pm) (c n : Nat) (G : List D → Res (List D)) : Sp := fun vs H Q E => ∃ x dx args F ds, vs = .ref x :: args ∧ H x = some (.ins (P.C c) dx []) ∧ F x = none ∧ Ex F H ∧ IsL P F ds args ∧ ds.length = n ∧
  PostG P (WE0 E) (fun F' _ fs v => v = .non ∧ Is P F' (.obj c fs) (.ref x)) (G ds) F [] (minus H x) Q
section
variable {X : Cx} {P : Pm} {F0 : Fz} {H0 : Hp} {W : WX} {a b c e o : Expr} {es : List Expr} {fa fb fc : Env → Res D} {fs : Env → Res (List D)} {pos p apos : Pos} {σ : St} {H F : Hp}
variable {k n : Nat} {f C : Addr} {fd : FuncData} {ps : List Str} {dvs : List V} {dds : List D} {dv : List Value} {x m : Str} {G : List D → Res D} {GI : List D → Res (List D)}
/-- defaults as data -/
def Dfl (P : Pm) (dvs : List V) (dds : List D) : Prop := ∀ F : Hp, IsL P F dds dvs
theorem Dfl.nil : Dfl P [] [] := fun _ => .nil
theorem Dfl.int {i : Int} : Dfl P [.int i] [.int i] := fun _ => .cons (by rw [Is]) .nil
theorem PostG.sig {α β : Type} {rel : Rel α β} {r : Res α} {Q : β → Hp → Prop} (h : PostG P W rel r F σ H Q) : PostG P (WE0 fun cls x H => W cls x σ H) rel r F [] H Q := by
  cases r with
  | ok a => exact h
  | err c p => exact h
  | bad => exact h
theorem fnG_of {ds : List D} {F H : Hp} {Q : VK} {vs : List V} {E : XK} (hd : Dfl P dvs dds) (s : Ex F H) (i : IsL P F ds vs) (h : PostG P (WE0 E) (rIs P) (fnG n G (ds ++ dds)) F [] H Q) : spD P n G (vs ++ dvs) H Q E := by
  unfold fnG at h
  split at h
  · rename_i hl
    exact ⟨F, ds ++ dds, s, i.append (hd F), hl, h⟩
  · exact h.elim
/-- f(e, ..) -/
theorem pd_call (Fn : FnOk X.prog X.w X.K X.mg X.base (L2.CX X.prog X.w) k f fd ps (spD P n G)) (hr : Room k X.A) (hg : Gl X x) (hm : X.mg x = some (.ref f)) (hk : PySem.W.keepIn X.K (.ref f) = true) (hb : Binds X.K fd ps dv) (hd : Vals dvs dv) (hdd : Dfl P dvs dds)
    (tk : Takes X W) (ha : PA X (e :: es) (tL P F0 H0 W fs)) (hdb : (x == ("__debug__" : Str)) = false := by decide) (he : starEach (e :: es) X.env = (false, eval e X.env) :: starEach es X.env := by rfl) (hpl : (backTo pos (starEach es X.env)).any (·.1) = false := by rfl) :
    PE X (.Call (.Name x p) (e :: es) [] pos) (tE P F0 H0 W (fun ρ => do let xs ← fs ρ; fnG n G (xs ++ dds))) :=
  (pe_callSD (E := WE W) Fn hr hg hm hk hb hd (fun σ => passAt tk σ) ha hdb he hpl).imp fun σ H Q ⟨F, ρ, er, z⟩ => by
  refine ⟨F, ρ, er, (PostG.bind (rel := rLs P) z).imp ?_⟩
  rintro vs H1 ⟨F1, ds, g, i, q⟩
  exact fnG_of hdd g.s i q.sig
/-- f() -/
theorem pd_call0 (Fn : FnOk X.prog X.w X.K X.mg X.base (L2.CX X.prog X.w) k f fd ps (spD P n G)) (hr : Room k X.A) (hg : Gl X x) (hm : X.mg x = some (.ref f)) (hk : PySem.W.keepIn X.K (.ref f) = true) (hb : Binds X.K fd ps dv) (hd : Vals dvs dv) (hdd : Dfl P dvs dds)
    (tk : Takes X W) (hdb : (x == ("__debug__" : Str)) = false := by decide) :
    PE X (.Call (.Name x p) [] [] pos) (tE P F0 H0 W (fun ρ => fnG n G dds)) := by
  refine ⟨fun pins s σ H Q I h => ?_⟩
  refine wpAny_Call_Name_kw (ld_glob I hg hm ?_ hdb)
  obtain ⟨F, ρ, er, z⟩ := h
  refine PySem.W.callWith_K0 I.kIn hk ?_
  exact run_fnSD (vs := []) (us := []) Fn hr hb hd (passAt tk σ) I .nil (fnG_of (ds := []) hdd er.s .nil z.sig)
/-- o.m(e, ..) -/
theorem run_methD {pins : List (Addr × Obj)} {s : Shared} {Q : VK} {us : List Value} {vs : List V} {ds : List D} (Fn : FnOk X.prog X.w X.K X.mg X.base (L2.CX X.prog X.w) k f fd ps (spD P n G)) (hr : Room k X.A) (hb : Binds X.K fd ps dv) (hd : Vals dvs dv) (hdd : Dfl P dvs dds)
    (tk : Takes X W) (I : Inv X pins σ H s) (r : Vals vs us) (sx : Ex F H) (i : IsL P F ds vs) (z : PostG P W (rIs P) (fnG n G (ds ++ dds)) F σ H Q) : wpAny (model X.prog X.w) X.A (call (.ref f) us) (EP X pins σ Q) X.xe s :=
  run_fnSD (E := WE W) Fn hr hb hd (passAt tk σ) I r (fnG_of hdd sx i z.sig)
theorem obj_of {c : Nat} {xs : List D} {v : V} (i : Is P F (.obj c xs) v) : ∃ a dx vs, v = .ref a ∧ F a = some (.ins (P.C c) dx ((P.nm c).zip vs)) ∧ vs.length ≤ (P.nm c).length ∧ IsL P F xs vs := by
  rw [Is] at i
  exact i
theorem zip_none {β : Type} {m : Str} : ∀ {ks : List Str} {vs : List β}, m ∉ ks → (ks.zip vs).lookup m = none
  | [], _, _ => rfl
  | _ :: _, [], _ => rfl
  | k :: ks, v :: vs, h => by
    have h1 : (m == k) = false := by
      rw [beq_eq_false_iff_ne]
      exact fun q => h (q ▸ List.mem_cons_self)
    show (match m == k with | true => some v | false => (ks.zip vs).lookup m) = none
    rw [h1]
    exact zip_none fun q => h (List.mem_cons_of_mem _ q)
/-- x is an instance of the class number c -/
def isO (c : Nat) (x : D) : Res D := match x with
  | .obj c' ys => if c' = c then .ok x else .bad
  | _ => .bad
theorem isO_of {cn : Nat} {d : D} {v : V} {Q : VK} (s : Ex F H) (i : Is P F d v) (h : PostG P W (rIs P) (isO cn d) F σ H Q) : ∃ xs a dx fs, d = .obj cn xs ∧ v = .ref a ∧ H a = some (.ins (P.C cn) dx ((P.nm cn).zip fs)) ∧ Q v H := by
  cases d with
  | obj c ys =>
    by_cases q : c = cn
    · subst q
      have e : isO c (.obj c ys) = .ok (.obj c ys) := if_pos rfl
      rw [e] at h
      obtain ⟨a, dx, vs, h1, h2, h3, h4⟩ := obj_of i
      exact ⟨ys, a, dx, vs, rfl, h1, s _ _ h2, h.here s i⟩
    · have e : isO cn (.obj c ys) = .bad := if_neg q
      rw [e] at h
      exact h.elim
  | _ => exact h.elim
theorem pd_meth {cn : Nat} {pl : Sem Bool} (ho : PE X o (tE P F0 H0 W fa)) (cl : Cls X.K (P.C cn)) (hm : Meth X.K (P.C cn) m f) (hno : m ∉ P.nm cn) (Fn : FnOk X.prog X.w X.K X.mg X.base (L2.CX X.prog X.w) k f fd ps (spD P n G)) (hr : Room k X.A) (hb : Binds X.K fd ps dv) (hd : Vals dvs dv) (hdd : Dfl P dvs dds)
    (tk : Takes X W) (ha : PA X (e :: es) (tL P F0 H0 W fs))
    (hst : starEach (e :: es) X.env = (false, eval e X.env) :: starEach es X.env := by rfl) (hpl : (backTo pos (starEach es X.env)).any (·.1) = false := by rfl)
    (ht : eval (.Call (.Attribute o m apos) (e :: es) [] pos) X.env = (do
      let ov ← eval o X.env
      standAt apos.atName
      let (f, first) ← holding [ov] (getMethod ov m pl)
      callWith pos f first (backTo pos (starEach (e :: es) X.env)) (backToKw pos (keywordEach [] X.env))) := by rfl) :
    PE X (.Call (.Attribute o m apos) (e :: es) [] pos) (tE P F0 H0 W (fun ρ => do let x ← fa ρ; let y ← isO cn x; let xs ← fs ρ; fnG n G (y :: xs ++ dds))) := by
  refine ⟨fun pins s σ H Q I h => ?_⟩
  obtain ⟨F, ρ, er, z⟩ := h
  refine PySem.W.methodCall_KW (pl := pl) (thn (ho.run pins s σ H _ I ⟨F, ρ, er, PostG.bind (rel := rIs P) z⟩) ?_) ht
  rintro u s1 ⟨x, H1, I1, rx, F1, d, g1, i1, z1⟩
  obtain ⟨xs, a, dx, fs', rfl, rfl, ha1, F2, d2, g2, i2, z2⟩ := isO_of g1.s i1 (PostG.bind (rel := rIs P) z1)
  obtain rfl : u = Value.ref a := rx
  refine getmeth_ok I1 ha1 cl hm (zip_none hno) ?_
  refine PySem.W.callWith_K (first := [.ref a]) (h₀ := X.base) I.ok.mod.kin hm.kp (thn (ha.run pos pins s1 σ H1 _ I1 ⟨F2, ρ, (er.grow g1).grow g2, PostG.bind (rel := rLs P) z2⟩) ?_) hst hpl
  rintro us s2 ⟨vs, H2, I2, r, F3, ds, g3, i3, z3⟩
  exact ⟨I2.kIn, run_methD (vs := .ref a :: vs) (ds := d2 :: ds) Fn hr hb hd hdd tk I2 (.cons rfl r) g3.s (.cons (i2.mono g3.f _) i3) z3⟩
/-- o.m() -/
theorem pd_meth0 {cn : Nat} {pl : Sem Bool} (ho : PE X o (tE P F0 H0 W fa)) (cl : Cls X.K (P.C cn)) (hm : Meth X.K (P.C cn) m f) (hno : m ∉ P.nm cn) (Fn : FnOk X.prog X.w X.K X.mg X.base (L2.CX X.prog X.w) k f fd ps (spD P n G)) (hr : Room k X.A) (hb : Binds X.K fd ps dv) (hd : Vals dvs dv) (hdd : Dfl P dvs dds)
    (tk : Takes X W)
    (ht : eval (.Call (.Attribute o m apos) [] [] pos) X.env = (do
      let ov ← eval o X.env
      standAt apos.atName
      let (f, first) ← holding [ov] (getMethod ov m pl)
      callWith pos f first (backTo pos (starEach [] X.env)) (backToKw pos (keywordEach [] X.env))) := by rfl) :
    PE X (.Call (.Attribute o m apos) [] [] pos) (tE P F0 H0 W (fun ρ => do let x ← fa ρ; let y ← isO cn x; fnG n G (y :: dds))) := by
  refine ⟨fun pins s σ H Q I h => ?_⟩
  obtain ⟨F, ρ, er, z⟩ := h
  refine PySem.W.methodCall_KW (pl := pl) (thn (ho.run pins s σ H _ I ⟨F, ρ, er, PostG.bind (rel := rIs P) z⟩) ?_) ht
  rintro u s1 ⟨x, H1, I1, rx, F1, d, g1, i1, z1⟩
  obtain ⟨xs, a, dx, fs', rfl, rfl, ha1, F2, d2, g2, i2, z2⟩ := isO_of g1.s i1 (PostG.bind (rel := rIs P) z1)
  obtain rfl : u = Value.ref a := rx
  refine getmeth_ok I1 ha1 cl hm (zip_none hno) ?_
  refine PySem.W.callWith_K0 (first := [.ref a]) I1.kIn hm.kp ?_
  exact run_methD (vs := [.ref a]) (ds := [d2]) (dds := dds) Fn hr hb hd hdd tk I1 (.cons rfl .nil) g2.s (.cons i2 .nil) z2
/-! ### C(e, ..) -/
theorem run_makeS {CX : CXT} {sp : Sp} {E : XK} {pins : List (Addr × Obj)} {s : Shared} {Q : VK} {us : List Value} {vs : List V} (M : Mk X.K C f) (Fn : FnOk X.prog X.w X.K X.mg X.base CX k f fd ps sp) (hr : Room (k + 1) X.A) (hb : Binds X.K fd ps dv) (hd : Vals dvs dv)
    (hx : PassesAt CX X σ E) (I : Inv X pins σ H s) (r : Vals vs us)
    (h : ∀ x dx, H x = none → H dx = none → dx ≠ x → sp (.ref x :: (vs ++ dvs)) (upd (upd H dx (.own x)) x (.ins C dx [])) (fun v H2 => v = .non ∧ Q (.ref x) H2) E) :
    wpAny (model X.prog X.w) X.A (call (.ref C) us) (EP X pins σ Q) X.xe s := by
  have hq := h (s.heap.objs.size + 1) s.heap.objs.size (I.hok.fresh (Nat.le_succ _)) (I.hok.fresh (Nat.le_refl _)) (Nat.ne_of_lt (Nat.lt_succ_self _))
  have I2 := Inv.made (C := C) I
  have r2 : Vals (V.ref (s.heap.objs.size + 1) :: (vs ++ dvs)) (Value.ref (s.heap.objs.size + 1) :: (us ++ dv)) := .cons rfl (r.append hd)
  have hl : (Value.ref (s.heap.objs.size + 1) :: us ++ dv).length = ps.length := by
    have e := r2.length
    rw [Fn.len _ _ _ _ hq] at e
    exact e.symm
  refine wpAny_call (make_map (f := f) I.kIn M.makes M.init (beq_iff_eq.mp M.fn) (codeAny_mono (Fn.run _ X.stack _ _ ⟨Value.ref (s.heap.objs.size + 1) :: us, []⟩ (Value.ref (s.heap.objs.size + 1) :: (us ++ dv)) _ _ E (hr.make C us [])
    (I2.env0.make C us []) (hb _ (Value.ref (s.heap.objs.size + 1) :: us) I2.kIn hl) r2 hq) fun r s' hq' => ?_))
  cases r with
  | error e => exact hx pins _ _ e s' I2 hq'
  | ok fl =>
    cases fl with
    | ret u =>
      obtain ⟨v, H', I3, rv, ev, q3⟩ := I2.after hq'
      subst ev
      exact ⟨rv, ⟨V.ref (s.heap.objs.size + 1), H', I3, rfl, q3⟩⟩
    | next => exact False.elim hq'
    | brk => exact False.elim hq'
    | cont => exact False.elim hq'
def mkG (c n : Nat) (G : List D → Res (List D)) (ds : List D) : Res D := if ds.length = n then (do let fs ← G ds; .ok (.obj c fs)) else .bad
theorem mkG_of {cn : Nat} {ds : List D} {Q : VK} {vs : List V} (hdd : Dfl P dvs dds) (s : Ex F H) (i : IsL P F ds vs) (h : PostG P W (rIs P) (mkG cn n GI (ds ++ dds)) F σ H Q) :
    ∀ x dx, H x = none → H dx = none → dx ≠ x → spI P cn n GI (.ref x :: (vs ++ dvs)) (upd (upd H dx (.own x)) x (.ins (P.C cn) dx [])) (fun v H2 => v = .non ∧ Q (.ref x) H2) (fun cls d H' => W cls d σ H') := by
  intro x dx hx hdx hne
  unfold mkG at h
  split at h
  · rename_i hl
    have e1 : minus (upd (upd H dx (.own x)) x (.ins (P.C cn) dx [])) x = upd H dx (.own x) := by
      funext a
      by_cases q : a = x
      · subst q
        rw [minus_same, upd_ne (Ne.symm hne), hx]
      · rw [minus_ne q, upd_ne q]
    refine ⟨x, dx, vs ++ dvs, F, ds ++ dds, rfl, upd_same, s.back hx, fun a o e => ?_, i.append (hdd F), hl, ?_⟩
    · have hH := s a o e
      rw [upd_ne (ne_of_none hH hx), upd_ne (ne_of_none hH hdx)]
      exact hH
    · rw [e1]
      have g0 : Grow F H F (upd H dx (.own x)) := .junk s (.new hdx)
      cases hG : GI (ds ++ dds) with
      | ok fs =>
        rw [hG] at h
        rintro v F' H' g ⟨hv, i'⟩
        exact ⟨hv, h _ F' H' (g0.trans g) i'⟩
      | err c p =>
        rw [hG] at h
        exact fun F' H' y g q => h F' H' y (g0.trans g) q
      | bad =>
        rw [hG] at h
        exact h
  · exact h.elim
theorem pd_make {cn : Nat} (M : Mk X.K (P.C cn) f) (Fn : FnOk X.prog X.w X.K X.mg X.base (L2.CX X.prog X.w) k f fd ps (spI P cn n GI)) (hr : Room (k + 1) X.A) (hg : Gl X x) (hm : X.mg x = some (.ref (P.C cn))) (hb : Binds X.K fd ps dv) (hd : Vals dvs dv) (hdd : Dfl P dvs dds)
    (tk : Takes X W) (ha : PA X (e :: es) (tL P F0 H0 W fs)) (hdb : (x == ("__debug__" : Str)) = false := by decide) (he : starEach (e :: es) X.env = (false, eval e X.env) :: starEach es X.env := by rfl) (hpl : (backTo pos (starEach es X.env)).any (·.1) = false := by rfl) :
    PE X (.Call (.Name x p) (e :: es) [] pos) (tE P F0 H0 W (fun ρ => do let xs ← fs ρ; mkG cn n GI (xs ++ dds))) := by
  refine ⟨fun pins s σ H Q I h => ?_⟩
  obtain ⟨F, ρ, er, z⟩ := h
  refine wpAny_Call_Name_kw (ld_glob I hg hm ?_ hdb)
  refine PySem.W.callWith_K (h₀ := X.base) I.ok.mod.kin M.kp (thn (ha.run pos pins s σ H _ I ⟨F, ρ, er, PostG.bind (rel := rLs P) z⟩) ?_) he hpl
  rintro us s1 ⟨vs, H1, I1, r, F1, ds, g, i, q⟩
  exact ⟨I1.kIn, run_makeS (E := WE W σ) M Fn hr hb hd (passAt tk σ) I1 r (mkG_of hdd g.s i q)⟩
end
end DL
namespace DL
open PySem L2

/-! ### operations that raise nothing: D in, Option D out -/
/-- what is wanted of a value that comes out -/
abbrev Out (P : Pm) (F H : Hp) (d : D) (Q : VK) : Prop := ∀ v F' H', Grow F H F' H' → Is P F' d v → Q v H'
def r2O (P : Pm) (r : D → D → Option D) : R2 := fun x y H Q => ∃ F dx dy d, Ex F H ∧ Vw P F H dx x ∧ Vw P F H dy y ∧ r dx dy = some d ∧ Out P F H d Q
def r1O (P : Pm) (r : D → Option D) : V → Hp → VK → Prop := fun x H Q => ∃ F dx d, Ex F H ∧ Vw P F H dx x ∧ r dx = some d ∧ Out P F H d Q
def rcO (P : Pm) (r : List D → Option D) : List V → Hp → VK → Prop := fun xs H Q => ∃ F ds d, Ex F H ∧ VwL P F H ds xs ∧ r ds = some d ∧ Out P F H d Q
section
variable {X : Cx} {P : Pm} {F0 : Fz} {H0 : Hp} {W : WX} {a b c e o : Expr} {es : List Expr} {fa fb fc : Env → Res D} {fs : Env → Res (List D)} {pos p apos : Pos} {σ : St} {H F : Hp}
variable {f : Value → Value → Sem Value} {r : D → D → Option D} {x : Str} {id T : String}
theorem opt_of {α β : Type} {rel : Rel α β} {y : Option α} {Q : β → Hp → Prop} (h : PostG P W rel (opt y) F σ H Q) : ∃ d, y = some d ∧ ∀ v F' H', Grow F H F' H' → rel F' H' d v → Q v H' := by
  cases y with
  | none => exact h.elim
  | some d => exact ⟨d, rfl, h⟩
theorem od_of (h : OpR X f (r2O P r)) : OpD X P W f (fun x y => opt (r x y)) := fun pins s σ F H x y u v dx dy Q I rx ry e i1 i2 z => by
  obtain ⟨d, hd, q⟩ := opt_of z
  exact h pins s σ H x y u v Q I rx ry ⟨F, dx, dy, d, e, i1, i2, hd, q⟩
theorem ud_of {f : Value → Sem Value} {r : D → Option D} (h : UnR X f (r1O P r)) : UnD X P W f (fun x => opt (r x)) := fun pins s σ F H x u dx Q I rx e i1 z => by
  obtain ⟨d, hd, q⟩ := opt_of z
  exact h pins s σ H x u Q I rx ⟨F, dx, d, e, i1, hd, q⟩
theorem Out.here {d : D} {Q : VK} {v : V} (q : Out P F H d Q) (s : Ex F H) (i : Is P F d v) : Q v H := q v F H (.refl s) i
theorem Out.int {i : Int} {Q : VK} (q : Out P F H (.int i) Q) (s : Ex F H) : Q (.int i) H := q.here s (by rw [Is])
theorem Out.bl {i : Bool} {Q : VK} (q : Out P F H (.bl i) Q) (s : Ex F H) : Q (.bl i) H := q.here s (by rw [Is])
theorem Out.str {i : Str} {Q : VK} (q : Out P F H (.str i) Q) (s : Ex F H) : Q (.str i) H := q.here s (by rw [Is])
theorem Out.lst {ds : List D} {vs : List V} {Q : VK} (q : Out P F H (.lst ds) Q) (s : Ex F H) (i : IsL P F ds vs) : ∀ p, H p = none → Q (.ref p) (upd H p (.lst vs)) := fun p hp =>
  q _ (upd F p (.lst vs)) _ (.new s hp) (by rw [Is]; exact ⟨p, vs, rfl, .inl upd_same, i.mono (.new (s.back hp)) ds⟩)
theorem Out.tup {ds : List D} {vs : List V} {Q : VK} (q : Out P F H (.tup ds) Q) (s : Ex F H) (i : IsL P F ds vs) : ∀ p, H p = none → Q (.ref p) (upd H p (.tup vs)) := fun p hp =>
  q _ (upd F p (.tup vs)) _ (.new s hp) (by rw [Is]; exact ⟨p, vs, rfl, .inl upd_same, i.mono (.new (s.back hp)) ds⟩)

/-! ### ints -/
def int2 (g : Int → Int → Option D) : D → D → Option D
  | .int i, .int j => g i j
  | _, _ => none
theorem int2_of {g : Int → Int → Option D} {dx dy d : D} (h : int2 g dx dy = some d) : ∃ i j, dx = .int i ∧ dy = .int j ∧ g i j = some d := by
  unfold int2 at h
  split at h
  · exact ⟨_, _, rfl, rfl, h⟩
  · cases h
theorem op_int2 {g : Int → Int → Option D} {r' : R2} (h : OpR X f r') (hr : ∀ i j d H Q, g i j = some d → (∀ v, (∀ F, Is P F d v) → Q v H) → r' (.int i) (.int j) H Q) : OpR X f (r2O P (int2 g)) := fun pins s σ H x y u v Q I rx ry ⟨F, dx, dy, d, e, i1, i2, hd, q⟩ => by
  obtain ⟨i, j, rfl, rfl, hg⟩ := int2_of hd
  have e1 : x = .int i := i1
  have e2 : y = .int j := i2
  subst e1 e2
  exact h pins s σ H _ _ u v Q I rx ry (hr i j d H Q hg fun v hv => q.here e (hv F))
theorem is_int {F : Hp} {i : Int} : Is P F (.int i) (.int i) := by rw [Is]
theorem is_bl {F : Hp} {i : Bool} : Is P F (.bl i) (.bl i) := by rw [Is]
theorem is_str {F : Hp} {i : Str} : Is P F (.str i) (.str i) := by rw [Is]
theorem is_non {F : Hp} : Is P F .non .non := by rw [Is]
theorem io_add : OpR X (binaryOp .Add) (r2O P (int2 fun i j => some (.int (i + j)))) := op_int2 op_add fun i j d H Q hg q => ⟨i, j, rfl, rfl, q _ fun F => by cases hg; exact is_int⟩
theorem io_sub : OpR X (binaryOp .Sub) (r2O P (int2 fun i j => some (.int (i - j)))) := op_int2 op_sub fun i j d H Q hg q => ⟨i, j, rfl, rfl, q _ fun F => by cases hg; exact is_int⟩
def mulC (i j : Int) : Option D := if i.natAbs.log2 + j.natAbs.log2 < 1000000 then some (.int (i * j)) else none
theorem io_mul : OpR X (binaryOp .Mult) (r2O P (int2 mulC)) := op_int2 op_mulW fun i j d H Q hg q => by
  unfold mulC at hg
  split at hg
  · rename_i hc
    cases hg
    exact ⟨i, j, rfl, rfl, hc, q _ fun F => is_int⟩
  · cases hg
def modC (i j : Int) : Option D := if j = 0 then none else some (.int (i.fmod j))
theorem io_mod : OpR X (binaryOp .Mod) (r2O P (int2 modC)) := op_int2 op_modN fun i j d H Q hg q => by
  unfold modC at hg
  split at hg
  · cases hg
  · rename_i hc
    cases hg
    exact ⟨i, j, rfl, rfl, hc, q _ fun F => is_int⟩
def powC (i j : Int) : Option D := if 0 ≤ j ∧ j ≤ 1000000 ∧ i.natAbs < 2 ^ 64 then some (.int (i ^ j.toNat)) else none
theorem io_pow : OpR X (binaryOp .Pow) (r2O P (int2 powC)) := op_int2 op_pow fun i j d H Q hg q => by
  unfold powC at hg
  split at hg
  · rename_i hc
    cases hg
    exact ⟨i, j, rfl, rfl, hc, q _ fun F => is_int⟩
  · cases hg
theorem io_lt : OpR X (compareOp .Lt) (r2O P (int2 fun i j => some (.bl (decide (i < j))))) := op_int2 op_lt fun i j d H Q hg q => ⟨i, j, rfl, rfl, q _ fun F => by cases hg; exact is_bl⟩
theorem io_le : OpR X (compareOp .LtE) (r2O P (int2 fun i j => some (.bl (decide (i ≤ j))))) := op_int2 op_le fun i j d H Q hg q => ⟨i, j, rfl, rfl, q _ fun F => by cases hg; exact is_bl⟩
theorem io_gt : OpR X (compareOp .Gt) (r2O P (int2 fun i j => some (.bl (decide (j < i))))) := op_int2 op_gt fun i j d H Q hg q => ⟨i, j, rfl, rfl, q _ fun F => by cases hg; exact is_bl⟩
theorem io_ge : OpR X (compareOp .GtE) (r2O P (int2 fun i j => some (.bl (decide (j ≤ i))))) := op_int2 op_ge fun i j d H Q hg q => ⟨i, j, rfl, rfl, q _ fun F => by cases hg; exact is_bl⟩
def negC : D → Option D
  | .int i => some (.int (-i))
  | _ => none
theorem io_neg : UnR X (unaryOp .USub) (r1O P negC) := fun pins s σ H x u Q I rx ⟨F, dx, d, e, i1, hd, q⟩ => by
  cases dx with
  | int i =>
    have e1 : x = .int i := i1
    subst e1
    cases hd
    exact un_neg pins s σ H _ u Q I rx ⟨i, rfl, q.int e⟩
  | _ => cases hd
/-! ### a[b] of lists, tuples, texts -/
def itemD : D → D → Option D
  | .lst xs, .int i => atI xs i
  | .tup xs, .int i => atI xs i
  | .str z, .int i => if z.length ≤ 1000000 then (atI z.cps.toList i).map fun c => .str ⟨#[c]⟩ else none
  | _, _ => none
theorem IsL.atI {ds : List D} {vs : List V} {i : Int} {d : D} (h : IsL P F ds vs) (e : atI ds i = some d) : ∃ v, L2.atI vs i = some v ∧ Is P F d v := by
  unfold L2.atI at e ⊢
  rw [h.length] at e
  cases q : ixN vs.length i with
  | none =>
    rw [q] at e
    cases e
  | some j =>
    rw [q] at e
    exact h.get e
theorem pd_ix (ha : PE X a (tV P F0 H0 W fa)) (hb : PE X b (tV P F0 H0 W fb)) (hs : PlainIx b) : PE X (.Subscript a b pos) (tE P F0 H0 W (fun ρ => do let x ← fa ρ; let y ← fb ρ; opt (itemD x y))) :=
  (pe_ix ix_seq ha hb hs).imp fun σ H Q z => by
  obtain ⟨F, ρ, er, z⟩ := two_of z
  refine ⟨F, ρ, er, z.imp fun x H1 ⟨F1, ρ1, er1, z1⟩ => ⟨F1, ρ1, er1, z1.imp ?_⟩⟩
  rintro y H2 ⟨F2, dx, dy, s2, i1, i2, z2⟩
  obtain ⟨d, hd, q⟩ := opt_of z2
  unfold itemD at hd
  split at hd
  · obtain ⟨p, vs, rfl, h1, h2⟩ := i1
    obtain ⟨v, h3, h4⟩ := h2.atI hd
    exact .inl ⟨p, vs, _, v, rfl, i2, .inl h1, h3, Out.here q s2 h4⟩
  · obtain ⟨p, vs, rfl, h0, h1, h2⟩ := i1
    obtain ⟨v, h3, h4⟩ := h2.atI hd
    exact .inr (.inl ⟨p, vs, _, v, rfl, i2, .inl h1, h3, Out.here q s2 h4⟩)
  · rename_i z i
    split at hd
    · rename_i hl
      cases hc : atI z.cps.toList i with
      | none =>
        rw [hc] at hd
        cases hd
      | some ch =>
        rw [hc] at hd
        cases hd
        exact .inr (.inr ⟨z, i, ch, i1, i2, Nat.le_trans hl (by decide), hc, Out.str q s2⟩)
    · cases hd
  · cases hd
/-! ### o.f -/
def fldD (nm : Nat → List Str) (f : Str) : D → Option D
  | .obj c xs => ((nm c).zip xs).lookup f
  | _ => none
theorem IsL.lookup {f : Str} {d : D} : ∀ {ks : List Str} {ds : List D} {vs : List V}, IsL P F ds vs → (ks.zip ds).lookup f = some d → ∃ v, (ks.zip vs).lookup f = some v ∧ Is P F d v
  | [], _, _, _, e => by simp at e
  | _ :: _, [], _, _, e => by simp at e
  | k :: ks, d0 :: ds, _, h, e => by
    rw [IsL] at h
    obtain ⟨v, r, rfl, h2, h3⟩ := h
    have e' : (match f == k with | true => some d0 | false => (ks.zip ds).lookup f) = some d := e
    show ∃ v', (match f == k with | true => some v | false => (ks.zip r).lookup f) = some v' ∧ _
    cases q : f == k with
    | true =>
      rw [q] at e'
      cases e'
      exact ⟨v, rfl, h2⟩
    | false =>
      rw [q] at e'
      exact IsL.lookup h3 e'
theorem pd_fld {fl : Str} (ha : PE X a (tV P F0 H0 W fa)) (hcl : ∀ c d, ((P.nm c).zip d).lookup fl ≠ (none : Option D) → Cls X.K (P.C c) ∧ NoAttr X.K (P.C c) fl) (hb : attributeBase a fl X.env (eval a X.env) = eval a X.env := by rfl) :
    PE X (.Attribute a fl pos) (tE P F0 H0 W (fun ρ => do let x ← fa ρ; opt (fldD P.nm fl x))) := (pe_fld ha hb).imp fun σ H Q ⟨F, ρ, er, z⟩ => by
  refine ⟨F, ρ, er, (PostG.bind (rel := rVw P) z).imp ?_⟩
  rintro v H1 ⟨F1, d, g, i, q⟩
  obtain ⟨d', hd, q'⟩ := opt_of q
  cases d with
  | obj c xs =>
    have hd' : ((P.nm c).zip xs).lookup fl = some d' := hd
    obtain ⟨p, dx, vs, rfl, h1, h2, h3⟩ := i
    obtain ⟨v, h4, h5⟩ := h3.lookup hd'
    obtain ⟨k1, k2⟩ := hcl c xs (by rw [hd']; simp)
    exact ⟨p, _, dx, _, v, rfl, h1, k1, k2, h4, Out.here q' g.s h5⟩
  | _ => cases hd
/-! ### calls of built-ins -/
variable {rc : List D → Option D}
theorem pd_callB (hc : CallR X (.builtin id) (rcO P rc)) (hg : Gl X x) (hm : X.mg x = none) (hv : bootBuiltins x = some (.builtin id)) (ha : PA X (e :: es) (tW P F0 H0 W fs)) (hn : x ≠ "__name__" := by decide) (hdb : (x == ("__debug__" : Str)) = false := by decide)
    (he : starEach (e :: es) X.env = (false, eval e X.env) :: starEach es X.env := by rfl) (hpl : (backTo pos (starEach es X.env)).any (·.1) = false := by rfl) : PE X (.Call (.Name x p) (e :: es) [] pos) (tE P F0 H0 W (fun ρ => do let xs ← fs ρ; opt (rc xs))) :=
  (pe_callB hc hg hm hv ha hn hdb he hpl).imp fun σ H Q ⟨F, ρ, er, z⟩ => by
  refine ⟨F, ρ, er, (PostG.bind (rel := rVs P) z).imp ?_⟩
  rintro vs H1 ⟨F1, ds, g, i, q⟩
  obtain ⟨d, hd, q⟩ := opt_of q
  exact ⟨F1, ds, d, g.s, i, hd, q⟩
theorem pd_callTy (hc : CallR X (.type T) (rcO P rc)) (hg : Gl X x) (hm : X.mg x = none) (hv : bootBuiltins x = some (.type T)) (ha : PA X (e :: es) (tW P F0 H0 W fs)) (hn : x ≠ "__name__" := by decide) (hdb : (x == ("__debug__" : Str)) = false := by decide)
    (he : starEach (e :: es) X.env = (false, eval e X.env) :: starEach es X.env := by rfl) (hpl : (backTo pos (starEach es X.env)).any (·.1) = false := by rfl) : PE X (.Call (.Name x p) (e :: es) [] pos) (tE P F0 H0 W (fun ρ => do let xs ← fs ρ; opt (rc xs))) :=
  (pe_callTy hc hg hm hv ha hn hdb he hpl).imp fun σ H Q ⟨F, ρ, er, z⟩ => by
  refine ⟨F, ρ, er, (PostG.bind (rel := rVs P) z).imp ?_⟩
  rintro vs H1 ⟨F1, ds, g, i, q⟩
  obtain ⟨d, hd, q⟩ := opt_of q
  exact ⟨F1, ds, d, g.s, i, hd, q⟩
end
end DL
namespace DL
open PySem L2

/-! ### statements -/
inductive RS where
  | nx (ρ : Env) | rt (d : D) | bk (ρ : Env) | ct (ρ : Env) | err (c : Nat) (p : Option D) (ρ : Env) | bad
def PostS (P : Pm) (F0 : Fz) (H0 : Hp) (W : WX) (F : Hp) (r : RS) (N : Ends) : Prop :=
  match r with
  | .nx ρ => ∀ σ F' H', ER P F0 H0 F' ρ σ H' → Ex F F' → N.nx σ H'
  | .rt d => ∀ v F' H', Grow F0.F H0 F' H' → Ex F F' → Is P F' d v → N.rt v H'
  | .bk ρ => ∀ σ F' H', ER P F0 H0 F' ρ σ H' → Ex F F' → N.bk σ H'
  | .ct ρ => ∀ σ F' H', ER P F0 H0 F' ρ σ H' → Ex F F' → N.ct σ H'
  | .err c p ρ => ∀ σ F' H' x, ER P F0 H0 F' ρ σ H' → Ex F F' → ErrAt P F' H' c p x → W (P.xc c) x σ H'
  | .bad => False
def tS (P : Pm) (F0 : Fz) (H0 : Hp) (W : WX) (g : Env → RS) : TS := fun N σ H => ∃ F ρ, ER P F0 H0 F ρ σ H ∧ PostS P F0 H0 W F (g ρ) N
def bindS {α : Type} (r : Res α) (ρ : Env) (k : α → RS) : RS := match r with
  | .ok a => k a
  | .err c p => .err c p ρ
  | .bad => .bad
def seqS (r : RS) (k : Env → RS) : RS := match r with
  | .nx ρ => k ρ
  | r => r
section
variable {P : Pm} {F0 : Fz} {H0 F F1 H H1 : Hp} {W : WX} {σ : St} {ρ : Env} {N : Ends}
theorem PostS.shift {r : RS} (h : PostS P F0 H0 W F r N) (e : Ex F F1) : PostS P F0 H0 W F1 r N := by
  cases r with
  | nx ρ => exact fun σ F' H' er x => h σ F' H' er (e.trans x)
  | rt d => exact fun v F' H' g x i => h v F' H' g (e.trans x) i
  | bk ρ => exact fun σ F' H' er x => h σ F' H' er (e.trans x)
  | ct ρ => exact fun σ F' H' er x => h σ F' H' er (e.trans x)
  | err c p ρ => exact fun σ F' H' y er x q => h σ F' H' y er (e.trans x) q
  | bad => exact h
theorem PostS.bind {α β : Type} {rel : Rel α β} {r : Res α} {k : α → RS} (er : ER P F0 H0 F ρ σ H) (h : PostS P F0 H0 W F (bindS r ρ k) N) :
    PostG P W rel r F σ H (fun v H1 => ∃ F1 a, Grow F H F1 H1 ∧ rel F1 H1 a v ∧ PostS P F0 H0 W F1 (k a) N) := by
  cases r with
  | ok a => exact fun v F' H' g q => ⟨F', a, g, q, PostS.shift (r := k a) h g.f⟩
  | err c p => exact fun F' H' x g q => h σ F' H' x (er.grow g) g.f q
  | bad => exact h
end
section
variable {X : Cx} {P : Pm} {F0 : Fz} {H0 : Hp} {W : WX} {a b c e o : Expr} {es : List Expr} {fa fb fc : Env → Res D} {gc : Env → Res Bool} {fs : Env → Res (List D)} {pos p apos : Pos} {st : Stmt} {sts tts : List Stmt} {g g1 g2 : Env → RS}
theorem sd_nil : PSs X [] (tS P F0 H0 W .nx) := pss_nil.imp fun N σ H ⟨F, ρ, er, z⟩ => z σ F H er (.refl F)
theorem PostS.seq {F : Hp} {r : RS} {N : Ends} (z : PostS P F0 H0 W F (seqS r g2) N) : PostS P F0 H0 W F r { N with nx := tS P F0 H0 W g2 N } := by
  cases r with
  | nx ρ' => exact fun σ' F' H' er' x => ⟨F', ρ', er', PostS.shift (r := g2 ρ') z x⟩
  | rt d => exact z
  | bk ρ' => exact z
  | ct ρ' => exact z
  | err c p ρ' => exact z
  | bad => exact z
theorem sd_cons (h1 : PS X st (tS P F0 H0 W g1)) (h2 : PSs X sts (tS P F0 H0 W g2)) : PSs X (st :: sts) (tS P F0 H0 W (fun ρ => seqS (g1 ρ) g2)) := (pss_cons h1 h2).imp fun N σ H ⟨F, ρ, er, z⟩ =>
  ⟨F, ρ, er, PostS.seq (r := g1 ρ) z⟩
theorem sd_one (h1 : PS X st (tS P F0 H0 W g1)) : PSs X [st] (tS P F0 H0 W g1) := pss_one h1
theorem sd_pass : PS X (.Pass pos) (tS P F0 H0 W .nx) := ps_pass.imp fun N σ H ⟨F, ρ, er, z⟩ => z σ F H er (.refl F)
theorem sd_break : PS X (.Break pos) (tS P F0 H0 W .bk) := ps_break.imp fun N σ H ⟨F, ρ, er, z⟩ => z σ F H er (.refl F)
theorem sd_cont : PS X (.Continue pos) (tS P F0 H0 W .ct) := ps_continue.imp fun N σ H ⟨F, ρ, er, z⟩ => z σ F H er (.refl F)
theorem sd_ret (h : PE X e (tE P F0 H0 W fa)) : PS X (.Return (some e) pos) (tS P F0 H0 W (fun ρ => bindS (fa ρ) ρ .rt)) := (ps_ret h).imp fun N σ H ⟨F, ρ, er, z⟩ => by
  refine ⟨F, ρ, er, (PostS.bind (rel := rIs P) er z).imp ?_⟩
  rintro v H1 ⟨F1, d, g, i, q⟩
  exact q v F1 H1 (er.g.trans g) (.refl F1) i
theorem sd_expr (h : PE X e (tE P F0 H0 W fa)) (hs : swapsWith e none pos.line X.env = pure false := by rfl) : PS X (.Expr e pos) (tS P F0 H0 W (fun ρ => bindS (fa ρ) ρ fun _ => .nx ρ)) := (ps_expr h hs).imp fun N σ H ⟨F, ρ, er, z⟩ => by
  refine ⟨F, ρ, er, (PostS.bind (rel := rIs P) er z).imp ?_⟩
  rintro v H1 ⟨F1, d, g, i, q⟩
  exact q σ F1 H1 (er.grow g) (.refl F1)
theorem sd_if (hc : PT X c (tT P F0 H0 W gc)) (h1 : PSs X sts (tS P F0 H0 W g1)) (h2 : PSs X tts (tS P F0 H0 W g2)) : PS X (.If c sts tts pos) (tS P F0 H0 W (fun ρ => bindS (gc ρ) ρ fun k => if k = true then g1 ρ else g2 ρ)) :=
  (ps_if hc h1 h2).imp fun N σ H ⟨F, ρ, er, z⟩ => by
  refine ⟨F, ρ, er, (PostS.bind (rel := rBo) er z).imp ?_⟩
  rintro v H1 ⟨F1, d, g, i, q⟩
  subst i
  split
  · rename_i hv
    rw [if_pos hv] at q
    exact ⟨F1, ρ, er.grow g, q⟩
  · rename_i hv
    rw [if_neg hv] at q
    exact ⟨F1, ρ, er.grow g, q⟩
theorem sd_set {i : Nat} {x : Str} {pos' : Pos} (hN : X.N.Nodup) (hi : X.N[i]? = some x) (hx : Loc X.env.scope x) (he : PE X e (tE P F0 H0 W fa)) (hs : swapsWith e (some (.Name x pos')) pos.line X.env = pure false := by rfl) (hi0 : F0.S = none ∨ i ≠ 0 := by first | exact Or.inl rfl | exact Or.inr (by decide)) (hf : X.fn x = true ∨ X.env.scope.names.lookup x = some .local := by first | exact .inl rfl | exact .inr rfl | assumption) :
    PS X (.Assign [.Name x pos'] e pos) (tS P F0 H0 W (fun ρ => bindS (fa ρ) ρ fun d => .nx (ρ.set i (some (.sh d))))) := (ps_set hN hi hx he hs hf).imp fun N σ H ⟨F, ρ, er, z⟩ => by
  refine ⟨F, ρ, er, (PostS.bind (rel := rIs P) er z).imp ?_⟩
  rintro v H1 ⟨F1, d, g, j, q⟩
  exact q _ F1 H1 ((er.grow g).put i j hi0) (.refl F1)
/-! ### while -/
/-- a turn has ended -/
def loopK (r : RS) (k : Env → RS) : RS := match r with
  | .nx ρ => k ρ
  | .ct ρ => k ρ
  | .bk ρ => .nx ρ
  | r => r
def whileD (gc : Env → Res Bool) (gb : Env → RS) : Nat → Env → RS
  | 0, _ => .bad
  | n + 1, ρ => bindS (gc ρ) ρ fun k => if k = true then loopK (gb ρ) (whileD gc gb n) else .nx ρ
theorem PostS.loop {F : Hp} {r : RS} {k : Env → RS} {N : Ends} (z : PostS P F0 H0 W F (loopK r k) N) :
    PostS P F0 H0 W F r { N with nx := fun σ H => ∃ F' ρ, ER P F0 H0 F' ρ σ H ∧ Ex F F' ∧ PostS P F0 H0 W F' (k ρ) N, ct := fun σ H => ∃ F' ρ, ER P F0 H0 F' ρ σ H ∧ Ex F F' ∧ PostS P F0 H0 W F' (k ρ) N, bk := N.nx } := by
  cases r with
  | nx ρ' => exact fun σ' F' H' er' x => ⟨F', ρ', er', x, PostS.shift (r := k ρ') z x⟩
  | rt d => exact z
  | bk ρ' => exact z
  | ct ρ' => exact fun σ' F' H' er' x => ⟨F', ρ', er', x, PostS.shift (r := k ρ') z x⟩
  | err c p ρ' => exact z
  | bad => exact z
theorem sd_while (n : Nat) (hp : PassesOwn (model X.prog X.w) X.A X.env X.xe) (hc : PT X c (tT P F0 H0 W gc)) (hb : PSs X sts (tS P F0 H0 W g)) : PS X (.While c sts [] pos) (tS P F0 H0 W (whileD gc g n)) :=
  (ps_while hp hc hb).imp fun N σ H h => by
  refine ⟨fun m σ H => ∃ F ρ, ER P F0 H0 F ρ σ H ∧ PostS P F0 H0 W F (whileD gc g m ρ) N, ⟨n, h⟩, ?_⟩
  rintro m σ H ⟨F, ρ, er, z⟩
  cases m with
  | zero => exact z.elim
  | succ m =>
    refine ⟨F, ρ, er, (PostS.bind (rel := rBo) er z).imp ?_⟩
    rintro v H1 ⟨F1, d, gr, i, q⟩
    subst i
    split
    · rename_i hv
      rw [if_pos hv] at q
      refine ⟨fun σ H => ∃ F ρ, ER P F0 H0 F ρ σ H ∧ Ex F1 F ∧ PostS P F0 H0 W F (whileD gc g m ρ) N, fun σ' H' ⟨F', ρ', er', _, n'⟩ => ⟨m, Nat.lt_succ_self m, F', ρ', er', n'⟩, F1, ρ, er.grow gr, ?_⟩
      exact PostS.loop q
    · rename_i hv
      rw [if_neg hv] at q
      exact q σ F1 H1 (er.grow gr) (.refl F1)
/-! ### targets -/
def tGt (P : Pm) (F0 : Fz) (H0 : Hp) (vs : List Nat) (h : D → Env → Option Env) : TG := fun v σ H Q => ∃ F ρ d ρ', ER P F0 H0 F ρ σ H ∧ Is P F d v ∧ h d ρ = some ρ' ∧ ∀ σ', ER P F0 H0 F ρ' σ' H → wipe σ' vs = wipe σ vs → Q σ' H
def tGts (P : Pm) (F0 : Fz) (H0 : Hp) (us : List Nat) (h : List D → Env → Option Env) : TGs := fun vs σ H Q => ∃ F ρ ds ρ', ER P F0 H0 F ρ σ H ∧ IsL P F ds vs ∧ h ds ρ = some ρ' ∧ ∀ σ', ER P F0 H0 F ρ' σ' H → wipe σ' us = wipe σ us → Q σ' H
def hName (i : Nat) : D → Env → Option Env := fun d ρ => some (ρ.set i (some (.sh d)))
def hNil : List D → Env → Option Env := fun ds ρ => match ds with
  | [] => some ρ
  | _ => none
def hCons (h : D → Env → Option Env) (hs : List D → Env → Option Env) : List D → Env → Option Env := fun ds ρ => match ds with
  | d :: r => (h d ρ).bind (hs r)
  | [] => none
def hTup (hs : List D → Env → Option Env) : D → Env → Option Env := fun d ρ => match d with
  | .tup ds => hs ds ρ
  | _ => none
variable {h : D → Env → Option Env} {hs : List D → Env → Option Env} {us : List Nat}
theorem wipe_set {σ : St} {i : Nat} {v : Option V} : ∀ {us : List Nat}, i ∈ us → wipe (σ.set i v) us = wipe σ us
  | u :: us, h => by
    by_cases q : i ∈ us
    · show (wipe (σ.set i v) us).set u none = (wipe σ us).set u none
      rw [wipe_set q]
    · have e : i = u := by
        rcases List.mem_cons.mp h with z | z
        · exact z
        · exact absurd z q
      subst e
      show (wipe (σ.set i v) us).set i none = (wipe σ us).set i none
      have k : ∀ (us : List Nat), wipe (σ.set i v) us = wipe σ us ∨ wipe (σ.set i v) us = (wipe σ us).set i v := by
        intro us
        induction us with
        | nil => exact .inr rfl
        | cons w ws ih =>
          show (wipe (σ.set i v) ws).set w none = (wipe σ ws).set w none ∨ (wipe (σ.set i v) ws).set w none = ((wipe σ ws).set w none).set i v
          rcases ih with z | z
          · exact .inl (by rw [z])
          · by_cases hw : w = i
            · subst hw
              exact .inl (by rw [z, List.set_set])
            · exact .inr (by rw [z, List.set_comm _ _ (fun q => hw q.symm)])
      rcases k us with z | z
      · rw [z]
      · rw [z, List.set_set]
theorem _root_.L2.PG.imp {t t' : TG} (h : PG X e t) (q : ∀ v σ H Q, t' v σ H Q → t v σ H Q) : PG X e t' := ⟨fun pins s σ H v u Q I r z => h.run pins s σ H v u Q I r (q v σ H Q z)⟩
theorem _root_.L2.PGs.imp {t t' : TGs} (h : PGs X es t) (q : ∀ v σ H Q, t' v σ H Q → t v σ H Q) : PGs X es t' := ⟨fun pins s σ H v u Q I r z => h.run pins s σ H v u Q I r (q v σ H Q z)⟩
theorem gd_name {us : List Nat} {i : Nat} {x : Str} (hN : X.N.Nodup) (hi : X.N[i]? = some x) (hx : Loc X.env.scope x) (hu : i ∈ us := by decide) (hi0 : F0.S = none ∨ i ≠ 0 := by first | exact Or.inl rfl | exact Or.inr (by decide)) (hf : X.fn x = true ∨ X.env.scope.names.lookup x = some .local := by first | exact .inl rfl | exact .inr rfl | assumption) : PG X (.Name x pos) (tGt P F0 H0 us (hName i)) :=
  (pg_name hN hi hx hf).imp fun v σ H Q ⟨F, ρ, d, ρ', er, i1, e, q⟩ => by
  cases e
  exact q _ (er.put i i1 hi0) (wipe_set hu)
theorem gd_nil : PGs X [] (tGts P F0 H0 us hNil) := pgs_nil.imp fun vs σ H Q ⟨F, ρ, ds, ρ', er, i1, e, q⟩ => by
  cases ds with
  | nil =>
    rw [IsL] at i1
    cases e
    exact ⟨i1, q _ er rfl⟩
  | cons d r => cases e
theorem gd_cons (h1 : PG X e (tGt P F0 H0 us h)) (h2 : PGs X es (tGts P F0 H0 us hs)) (hq : (assignEach (e :: es) X.env).map (·.2) = assign e X.env :: (assignEach es X.env).map (·.2) := by rfl) : PGs X (e :: es) (tGts P F0 H0 us (hCons h hs)) :=
  (pgs_cons h1 h2 hq).imp fun vs σ H Q ⟨F, ρ, ds, ρ', er, i1, e, q⟩ => by
  cases ds with
  | nil => cases e
  | cons d r =>
    rw [IsL] at i1
    obtain ⟨v, r', rfl, i2, i3⟩ := i1
    have e' : (h d ρ).bind (hs r) = some ρ' := e
    cases hd : h d ρ with
    | none =>
      rw [hd] at e'
      cases e'
    | some ρ1 =>
      rw [hd] at e'
      exact ⟨v, r', rfl, F, ρ, d, ρ1, er, i2, hd, fun σ' er' w1 => ⟨F, ρ1, r, ρ', er', i3, e', fun σ2 er2 w2 => q σ2 er2 (w2.trans w1)⟩⟩
theorem gd_tup {k n : Nat} (hc : X.calm = true) (h : PGs X es (tGts P F0 H0 us hs)) (hn : (assignEach es X.env).length = n := by rfl) (hst : (assignEach es X.env).findIdx? (·.1) = none := by rfl) :
    PG X (.Tuple es k pos) (tGt P F0 H0 us (hTup fun ds ρ => if ds.length = n then hs ds ρ else none)) := (pg_tup hc h hn hst).imp fun v σ H Q ⟨F, ρ, d, ρ', er, i1, e, q⟩ => by
  cases d with
  | tup ds =>
    have e' : (if ds.length = n then hs ds ρ else none) = some ρ' := e
    split at e'
    · rename_i hl
      rw [Is] at i1
      obtain ⟨a, vs, rfl, h1, h2⟩ := i1
      exact ⟨a, vs, rfl, .inl (er.s.rd h1), by rw [← h2.length]; exact hl, F, ρ, ds, ρ', er, h2, e', q⟩
    · cases e'
  | _ => cases e
/-! ### for -/
def ItD (P : Pm) : Rel (List D) It := fun F _ items J => ∀ i F1 H1, Ex F F1 → Ex F1 H1 →
  (∀ d, items[i]? = some d → J.go i H1 ∧ ∀ x H2, J.yld i H1 x H2 → ∃ F2, Grow F1 H1 F2 H2 ∧ Is P F2 d x) ∧ (items.length ≤ i → J.stop i H1)
def tI (P : Pm) (F0 : Fz) (H0 : Hp) (W : WX) (f : Env → Res (List D)) : TI := fun σ H R => ∃ F ρ, ER P F0 H0 F ρ σ H ∧ PostG P W (ItD P) (f ρ) F σ H R
def forD (h : D → Env → Option Env) (gb : Env → RS) : List D → Env → RS
  | [], ρ => .nx ρ
  | d :: r, ρ => match h d ρ with
    | none => .bad
    | some ρ1 => loopK (gb ρ1) (forD h gb r)
theorem sd_for {tg iter : Expr} {fi : Env → Res (List D)} (hp : PassesOwn (model X.prog X.w) X.A X.env X.xe) (hc : X.calm = true) (hi : PI X tg iter (tI P F0 H0 W fi)) (hg : PG X tg (tGt P F0 H0 us h)) (hb : PSs X sts (tS P F0 H0 W g))
    (hs : ∀ x, foldedSetIterable iter X.env x = pure x := by intro _; rfl) : PS X (.For tg iter sts [] pos) (tS P F0 H0 W (fun ρ => bindS (fi ρ) ρ fun items => forD h g items ρ)) :=
  (ps_for hp hc hi hg hb hs).imp fun N σ H ⟨F, ρ, er, z⟩ => by
  refine ⟨F, ρ, er, (PostS.bind (rel := ItD P) er z).imp ?_⟩
  rintro J H1 ⟨FJ, items, gr, hJ, q⟩
  refine ⟨fun i m σ H => m = items.length - i ∧ ∃ F ρ, ER P F0 H0 F ρ σ H ∧ Ex FJ F ∧ PostS P F0 H0 W F (forD h g (items.drop i) ρ) N, ⟨_, rfl, FJ, ρ, er.grow gr, .refl FJ, q⟩, ?_⟩
  rintro i m σ H ⟨rfl, F, ρ, er, ej, q⟩
  obtain ⟨j1, j2⟩ := hJ i F H ej er.s
  rcases Nat.lt_or_ge i items.length with hi | hi
  · obtain ⟨k1, k2⟩ := j1 items[i] (List.getElem?_eq_getElem hi)
    rw [List.drop_eq_getElem_cons hi] at q
    cases hh : h items[i] ρ with
    | none =>
      have q3 : PostS P F0 H0 W F (match h items[i] ρ with | none => .bad | some ρ1 => loopK (g ρ1) (forD h g (items.drop (i + 1)))) N := q
      rw [hh] at q3
      exact q3.elim
    | some ρ1 =>
      have q3 : PostS P F0 H0 W F (match h items[i] ρ with | none => .bad | some ρ1 => loopK (g ρ1) (forD h g (items.drop (i + 1)))) N := q
      rw [hh] at q3
      replace q3 : PostS P F0 H0 W F (loopK (g ρ1) (forD h g (items.drop (i + 1)))) N := q3
      refine .inr ⟨k1, fun σ H => ∃ F2 ρ, ER P F0 H0 F2 ρ σ H ∧ Ex F F2 ∧ PostS P F0 H0 W F2 (forD h g (items.drop (i + 1)) ρ) N, fun σ' H' ⟨F', ρ', er', x, n'⟩ => ⟨items.length - (i + 1), by omega, rfl, F', ρ', er', ej.trans x, n'⟩, ?_⟩
      intro x H2 hy
      obtain ⟨F2, g2, i2⟩ := k2 x H2 hy
      refine ⟨F2, ρ, items[i], ρ1, er.grow g2, i2, hh, fun σ' er' _ => ⟨F2, ρ1, er', ?_⟩⟩
      have q4 := PostS.loop (q3.shift g2.f)
      cases hg : g ρ1 with
      | nx ρ' =>
        rw [hg] at q4
        exact fun σ' F' H' er' y => by
          obtain ⟨F3, ρ3, e3, x3, z3⟩ := q4 σ' F' H' er' y
          exact ⟨F3, ρ3, e3, g2.f.trans x3, z3⟩
      | ct ρ' =>
        rw [hg] at q4
        exact fun σ' F' H' er' y => by
          obtain ⟨F3, ρ3, e3, x3, z3⟩ := q4 σ' F' H' er' y
          exact ⟨F3, ρ3, e3, g2.f.trans x3, z3⟩
      | bk ρ' =>
        rw [hg] at q4
        exact q4
      | rt d =>
        rw [hg] at q4
        exact q4
      | err c p ρ' =>
        rw [hg] at q4
        exact q4
      | bad =>
        rw [hg] at q4
        exact q4
  · rw [List.drop_eq_nil_of_le hi] at q
    exact .inl ⟨j2 hi, q σ F H er (.refl F)⟩
end
end DL
namespace DL
open PySem L2

/-! ### a def by its body -/
def env0 (n : Nat) (ds : List D) : Env := ds.map (fun d => some (.sh d)) ++ List.replicate (n - ds.length) none
def runB (g : Env → RS) (n : Nat) (ds : List D) : Res D := match g (env0 n ds) with
  | .rt d => .ok d
  | .nx _ => .ok .non
  | .err c p _ => .err c p
  | _ => .bad
section
variable {P : Pm} {F H : Hp} {N : List Str} {ds : List D} {vs : List V}
theorem er_start (s : Ex F H) (i : IsL P F ds vs) : ER P ⟨F, none⟩ H F (env0 N.length ds) (L2.start N vs) H where
  g := .refl s
  self := fun x hx => by cases hx
  len := by
    unfold env0 L2.start
    simp [i.length]
  sh := fun j d e => by
    unfold env0 at e
    unfold L2.start
    have hj : j < ds.length := by
      rcases Nat.lt_or_ge j ds.length with q | q
      · exact q
      · rw [List.getElem?_append_right (by simpa using q)] at e
        rw [List.getElem?_replicate] at e
        split at e <;> cases e
    rw [List.getElem?_append_left (by simpa using hj), List.getElem?_map] at e
    cases hd : ds[j]? with
    | none =>
      rw [hd] at e
      cases e
    | some d' =>
      rw [hd] at e
      cases e
      obtain ⟨v, h1, h2⟩ := i.get hd
      refine ⟨v, ?_, h2⟩
      rw [List.getElem?_append_left (by simpa [← i.length] using hj), List.getElem?_map, h1]
      rfl
  ow := fun j d e => by
    unfold env0 at e
    exfalso
    rcases Nat.lt_or_ge j ds.length with q | q
    · rw [List.getElem?_append_left (by simpa using q), List.getElem?_map] at e
      cases hd : ds[j]? with
      | none =>
        rw [hd] at e
        cases e
      | some d' =>
        rw [hd] at e
        cases e
    · rw [List.getElem?_append_right (by simpa using q)] at e
      rw [List.getElem?_replicate] at e
      split at e <;> cases e
  nd := fun j k d e a h1 => by
    unfold env0 at h1
    exfalso
    rcases Nat.lt_or_ge j ds.length with q | q
    · rw [List.getElem?_append_left (by simpa using q), List.getElem?_map] at h1
      cases hd : ds[j]? with
      | none =>
        rw [hd] at h1
        cases h1
      | some d' =>
        rw [hd] at h1
        cases h1
    · rw [List.getElem?_append_right (by simpa using q)] at h1
      rw [List.getElem?_replicate] at h1
      split at h1 <;> cases h1
end
section
variable {prog : Program} {w : World} {K : PySem.W.Frag} {mg : Str → Option Value} {base : Heap} {P : Pm}
theorem fnd {x qual : Str} {st : Stmt} {f : Addr} {fd : FuncData} {N ps : List Str} {k : Nat} {g : Env → RS} (Fu : Fun K x qual st f fd) (S : FnScope N ps (defScope st))
    (hbody : ∀ (cdv : Value) (A : Around) (outer : List PySem.Env) (s : Shared) (H F0 : Hp) (E : XK), Room k (A.deeper (PyProof.Rows.envOfC qual (defScope st) s.heap.objs.size f cdv)) →
      PSs (cxOf (L2.CX prog w) prog w K mg base N qual (defScope st) f cdv A outer s H E) (defBody st) (tS P ⟨F0, none⟩ H (WE0 E) g)) :
    FnOk prog w K mg base (L2.CX prog w) (k + 1) f fd ps (spD P ps.length (runB g N.length)) := by
  refine Fu.okX S (fun vs H Q E ⟨F, ds, _, i, hl, _⟩ => by rw [← i.length]; exact hl) (fun cdv A outer s H vs Q E hr h => ?_)
  obtain ⟨F, ds, sx, i, hl, z⟩ := h
  refine ⟨_, hbody cdv A outer s H F E hr, F, env0 N.length ds, er_start sx i, ?_⟩
  unfold runB at z
  cases hg : g (env0 N.length ds) with
  | nx ρ =>
    rw [hg] at z
    exact fun σ F' H' er _ => z .non F' H' er.g is_non
  | rt d =>
    rw [hg] at z
    exact fun v F' H' gr _ i' => z v F' H' gr i'
  | bk ρ =>
    rw [hg] at z
    exact z.elim
  | ct ρ =>
    rw [hg] at z
    exact z.elim
  | err c p ρ =>
    rw [hg] at z
    exact fun σ F' H' y er _ q => z F' H' y er.g q
  | bad =>
    rw [hg] at z
    exact z.elim
/-! ### __init__ by its body: self is one's own -/
def env0I (c n : Nat) (ds : List D) : Env := some (.ow (.obj c [])) :: env0 (n - 1) ds
def selfF (c : Nat) : Env → Res (List D)
  | some (.ow (.obj c' xs)) :: _ => if c' = c then .ok xs else .bad
  | some (.sh (.obj c' xs)) :: _ => if c' = c then .ok xs else .bad
  | _ => .bad
def runI (c : Nat) (g : Env → RS) (n : Nat) (ds : List D) : Res (List D) := match g (env0I c n ds) with
  | .nx ρ => selfF c ρ
  | .err c p _ => .err c p
  | _ => .bad
theorem selfF_of {c : Nat} {ρ : Env} {xs : List D} (h : selfF c ρ = .ok xs) : ρ[0]? = some (some (.ow (.obj c xs))) ∨ ρ[0]? = some (some (.sh (.obj c xs))) := by
  unfold selfF at h
  split at h
  · split at h
    · rename_i q
      cases h
      subst q
      exact .inl rfl
    · cases h
  · split at h
    · rename_i q
      cases h
      subst q
      exact .inr rfl
    · cases h
  · cases h
theorem selfF_noerr {c : Nat} {ρ : Env} {e : Nat} {p : Option D} : selfF c ρ ≠ .err e p := by
  unfold selfF
  split <;> (try split) <;> (intro h; cases h)
theorem er_startI {F H : Hp} {N : List Str} {ds : List D} {vs : List V} {x dx : Addr} {c : Nat} (hN : N ≠ []) (s : Ex F H) (i : IsL P F ds vs) (hx : H x = some (.ins (P.C c) dx [])) (hf : F x = none) :
    ER P ⟨F, some x⟩ (minus H x) F (env0I c N.length ds) (L2.start N (.ref x :: vs)) H := by
  obtain ⟨n0, N', rfl⟩ : ∃ n0 N', N = n0 :: N' := by
    cases N with
    | nil => exact absurd rfl hN
    | cons a b => exact ⟨a, b, rfl⟩
  have e0 : L2.start (n0 :: N') (.ref x :: vs) = some (V.ref x) :: L2.start N' vs := by
    unfold L2.start
    simp
  have e1 : env0I c (n0 :: N').length ds = some (.ow (.obj c [])) :: env0 N'.length ds := rfl
  have er := er_start (N := N') s i
  rw [e0, e1]
  exact {
    g := ⟨.refl F, minus_ex, s, fun _ _ e => .inl e⟩
    self := fun y hy => by cases hy; rfl
    len := by simp [er.len]
    sh := fun j d e => by
      cases j with
      | zero => cases e
      | succ j => exact er.sh j d e
    ow := fun j d e => by
      cases j with
      | zero =>
        cases e
        exact ⟨x, rfl, minus_same, hf, dx, [], by simpa using hx, by simp, by rw [IsL]⟩
      | succ j =>
        obtain ⟨a, _, _, _, h4⟩ := er.ow j d e
        exfalso
        have := er.ow j d e
        obtain ⟨a, h1, h2, h3, h4⟩ := this
        obtain ⟨o, ho⟩ := h4.there
        rw [h2] at ho
        cases ho
    nd := fun j k d e a h1 h2 h3 h4 => by
      cases j with
      | zero =>
        cases k with
        | zero => rfl
        | succ k =>
          obtain ⟨a', q1, q2, q3, q4⟩ := er.ow k e h2
          obtain ⟨o, ho⟩ := q4.there
          rw [q2] at ho
          cases ho
      | succ j =>
        obtain ⟨a', q1, q2, q3, q4⟩ := er.ow j d h1
        obtain ⟨o, ho⟩ := q4.there
        rw [q2] at ho
        cases ho }
theorem fndI {c : Nat} {x qual : Str} {st : Stmt} {f : Addr} {fd : FuncData} {N ps : List Str} {k : Nat} {g : Env → RS} {n : Nat} (hn : ps.length = n + 1) (hN : N ≠ []) (Fu : Fun K x qual st f fd) (S : FnScope N ps (defScope st))
    (hbody : ∀ (cdv : Value) (A : Around) (outer : List PySem.Env) (s : Shared) (H F0 H0 : Hp) (x : Addr) (E : XK), Room k (A.deeper (PyProof.Rows.envOfC qual (defScope st) s.heap.objs.size f cdv)) →
      PSs (cxOf (L2.CX prog w) prog w K mg base N qual (defScope st) f cdv A outer s H E) (defBody st) (tS P ⟨F0, some x⟩ H0 (WE0 E) g)) :
    FnOk prog w K mg base (L2.CX prog w) (k + 1) f fd ps (spI P c n (runI c g N.length)) := by
  refine Fu.okX S (fun vs H Q E ⟨x, dx, args, F, ds, e, _, _, _, i, hl, _⟩ => by rw [e, List.length_cons, ← i.length, hl, hn]) (fun cdv A outer s H vs Q E hr h => ?_)
  obtain ⟨x, dx, args, F, ds, rfl, hx, hf, sx, i, hl, z⟩ := h
  refine ⟨_, hbody cdv A outer s H F (minus H x) x E hr, F, env0I c N.length ds, er_startI hN sx i hx hf, ?_⟩
  unfold runI at z
  cases hg : g (env0I c N.length ds) with
  | nx ρ =>
    rw [hg] at z
    intro σ F' H' er _
    replace z : PostG P (WE0 E) (fun F' _ fs v => v = .non ∧ Is P F' (.obj c fs) (.ref x)) (selfF c ρ) F [] (minus H x) Q := z
    have hx0 := er.self x rfl
    cases hs : selfF c ρ with
    | bad =>
      rw [hs] at z
      exact z.elim
    | err e p => exact absurd hs selfF_noerr
    | ok xs =>
      rw [hs] at z
      rcases selfF_of hs with q | q
      · obtain ⟨a, h1, h2, h3, h4⟩ := er.ow 0 _ q
        rw [hx0] at h1
        cases h1
        obtain ⟨F2, e1, e2, i2, n2⟩ := h4.still er.s h3
        refine z .non F2 H' ⟨er.g.f.trans e1, er.g.h, e2, fun b o hb => ?_⟩ ⟨rfl, i2⟩
        rcases n2 b o hb with y | y
        · exact er.g.n b o y
        · exact .inr (y ▸ minus_same)
      · obtain ⟨v, h1, h2⟩ := er.sh 0 _ q
        rw [hx0] at h1
        cases h1
        exact z .non F' H' er.g ⟨rfl, h2⟩
  | rt d =>
    rw [hg] at z
    exact z.elim
  | bk ρ =>
    rw [hg] at z
    exact z.elim
  | ct ρ =>
    rw [hg] at z
    exact z.elim
  | err e p ρ =>
    rw [hg] at z
    exact fun σ F' H' y er _ q => z F' H' y er.g q
  | bad =>
    rw [hg] at z
    exact z.elim
end
end DL
namespace DL
open PySem L2

section
variable {P : Pm} {F0 : Fz} {H0 F F' H H' : Hp} {ρ : Env} {σ : St}
theorem Own.at {a : Addr} (e : H' a = H a) : ∀ {d : D}, Own P F H a d → Own P F H' a d
  | .lst xs, ⟨vs, h1, h2⟩ => ⟨vs, e.trans h1, h2⟩
  | .dK ks xs, ⟨vs, h1, h2, h3⟩ => ⟨vs, e.trans h1, h2, h3⟩
  | .dT ks xs, ⟨vs, h1, h2, h3⟩ => ⟨vs, e.trans h1, h2, h3⟩
  | .obj c xs, ⟨dx, vs, h1, h2, h3⟩ => ⟨dx, vs, e.trans h1, h2, h3⟩
  | .non, h => h.elim
  | .bl _, h => h.elim
  | .int _, h => h.elim
  | .str _, h => h.elim
  | .tup _, h => h.elim
  | .scr _, h => h.elim
theorem lt_of_get {α : Type} {l : List α} {i : Nat} {x : α} (h : l[i]? = some x) : i < l.length := by
  rcases Nat.lt_or_ge i l.length with q | q
  · exact q
  · rw [List.getElem?_eq_none q] at h
    cases h
theorem IsL.unnil {vs : List V} (h : IsL P F [] vs) : vs = [] := by
  rw [IsL] at h
  exact h
theorem IsL.uncons {d : D} {ds : List D} {vs : List V} (h : IsL P F (d :: ds) vs) : ∃ v r, vs = v :: r ∧ Is P F d v ∧ IsL P F ds r := by
  rw [IsL] at h
  exact h
/-- a name gets a new object, one's own -/
theorem ER.putO (r : ER P F0 H0 F ρ σ H) (g : Grow F H F' H') (i : Nat) {d : D} {p : Addr} (hp : H p = none) (hf : F' p = none) (ho : Own P F' H' p d) (hi0 : F0.S = none ∨ i ≠ 0) :
    ER P F0 H0 F' (ρ.set i (some (.ow d))) (σ.set i (some (.ref p))) H' := by
  have r' := r.grow g
  exact {
    g := r'.g
    self := fun x hx => by
      rcases hi0 with q | q
      · rw [q] at hx
        cases hx
      · rw [List.getElem?_set_ne q]
        exact r.self x hx
    len := by simp [r.len]
    sh := fun j e q => by
      by_cases hj : i = j
      · subst hj
        have hl : i < ρ.length := by simpa using lt_of_get q
        rw [get_set_self hl] at q
        cases q
      · rw [List.getElem?_set_ne hj] at q
        rw [List.getElem?_set_ne hj]
        exact r'.sh j e q
    ow := fun j e q => by
      by_cases hj : i = j
      · subst hj
        have hl : i < ρ.length := by simpa using lt_of_get q
        rw [get_set_self hl] at q
        cases q
        exact ⟨p, get_set_self (r.len ▸ hl), r.g.h.back hp, hf, ho⟩
      · rw [List.getElem?_set_ne hj] at q
        rw [List.getElem?_set_ne hj]
        exact r'.ow j e q
    nd := fun j k d' e' a q1 q2 q3 q4 => by
      by_cases hj : i = j
      · by_cases hk : i = k
        · exact hj.symm.trans hk
        · exfalso
          subst hj
          have hl : i < ρ.length := by simpa using lt_of_get q1
          rw [get_set_self (r.len ▸ hl)] at q3
          cases q3
          rw [List.getElem?_set_ne hk] at q2 q4
          obtain ⟨a', h1, h2, h3, h4⟩ := r.ow k e' q2
          rw [q4] at h1
          cases h1
          obtain ⟨o, h5⟩ := h4.there
          rw [hp] at h5
          cases h5
      · by_cases hk : i = k
        · exfalso
          subst hk
          have hl : i < ρ.length := by simpa using lt_of_get q2
          rw [get_set_self (r.len ▸ hl)] at q4
          cases q4
          rw [List.getElem?_set_ne hj] at q1 q3
          obtain ⟨a', h1, h2, h3, h4⟩ := r.ow j d' q1
          rw [q3] at h1
          cases h1
          obtain ⟨o, h5⟩ := h4.there
          rw [hp] at h5
          cases h5
        · rw [List.getElem?_set_ne hj] at q1 q3
          rw [List.getElem?_set_ne hk] at q2 q4
          exact r.nd j k d' e' a q1 q2 q3 q4 }
/-- an object of one's own is changed -/
theorem ER.mut (r : ER P F0 H0 F ρ σ H) {i : Nat} {d d' : D} {a : Addr} {o : HO} (hr : ρ[i]? = some (some (.ow d))) (hs : σ[i]? = some (some (.ref a))) (ho : Own P F (upd H a o) a d') :
    ER P F0 H0 F (ρ.set i (some (.ow d'))) σ (upd H a o) := by
  obtain ⟨a', h1, h2, h3, h4⟩ := r.ow i d hr
  rw [hs] at h1
  cases h1
  have hl := lt_of_get hr
  exact {
    g := ⟨r.g.f, fun b u e => by rw [upd_ne (ne_of_none e h2)]; exact r.g.h b u e, fun b u e => by rw [upd_ne (ne_of_none e h3)]; exact r.g.s b u e, r.g.n⟩
    self := r.self
    len := by simp [r.len]
    sh := fun j e q => by
      by_cases hj : i = j
      · subst hj
        rw [get_set_self hl] at q
        cases q
      · rw [List.getElem?_set_ne hj] at q
        exact r.sh j e q
    ow := fun j e q => by
      by_cases hj : i = j
      · subst hj
        rw [get_set_self hl] at q
        cases q
        exact ⟨a, hs, h2, h3, ho⟩
      · rw [List.getElem?_set_ne hj] at q
        obtain ⟨b, k1, k2, k3, k4⟩ := r.ow j e q
        refine ⟨b, k1, k2, k3, k4.at (upd_ne fun z => ?_)⟩
        subst z
        exact hj (r.nd i j d e b hr q hs k1)
    nd := fun j k d1 e1 b q1 q2 q3 q4 => by
      by_cases hj : i = j
      · by_cases hk : i = k
        · exact hj.symm.trans hk
        · subst hj
          rw [List.getElem?_set_ne hk] at q2
          exact r.nd i k d e1 b hr q2 q3 q4
      · rw [List.getElem?_set_ne hj] at q1
        by_cases hk : i = k
        · subst hk
          exact r.nd j i d1 d b q1 hr q3 q4
        · rw [List.getElem?_set_ne hk] at q2
          exact r.nd j k d1 e1 b q1 q2 q3 q4 }
def frz (i : Nat) (ρ : Env) : Env := match ρ[i]? with
  | some (some (.ow d)) => ρ.set i (some (.sh d))
  | _ => ρ
/-- an object of one's own is kept still from now on -/
theorem ER.freeze (r : ER P F0 H0 F ρ σ H) (i : Nat) : ∃ F', Ex F F' ∧ ER P F0 H0 F' (frz i ρ) σ H := by
  unfold frz
  split
  · rename_i d q
    obtain ⟨a, h1, h2, h3, h4⟩ := r.ow i d q
    obtain ⟨F2, e1, e2, i2, n2⟩ := h4.still r.s h3
    have hl := lt_of_get q
    refine ⟨F2, e1, ?_⟩
    exact {
      g := ⟨r.g.f.trans e1, r.g.h, e2, fun b o hb => by
        rcases n2 b o hb with y | y
        · exact r.g.n b o y
        · exact .inr (y ▸ h2)⟩
      self := r.self
      len := by simp [r.len]
      sh := fun j e z => by
        by_cases hj : i = j
        · subst hj
          rw [get_set_self hl] at z
          cases z
          exact ⟨.ref a, h1, i2⟩
        · rw [List.getElem?_set_ne hj] at z
          obtain ⟨v, k1, k2⟩ := r.sh j e z
          exact ⟨v, k1, k2.mono e1 e⟩
      ow := fun j e z => by
        by_cases hj : i = j
        · subst hj
          rw [get_set_self hl] at z
          cases z
        · rw [List.getElem?_set_ne hj] at z
          obtain ⟨b, k1, k2, k3, k4⟩ := r.ow j e z
          refine ⟨b, k1, k2, ?_, k4.mono e1 (.refl H)⟩
          cases hb : F2 b with
          | none => rfl
          | some o =>
            rcases n2 b o hb with y | y
            · rw [k3] at y
              cases y
            · subst y
              exact absurd (r.nd i j d e b q z h1 k1) hj
      nd := fun j k d1 e1 b q1 q2 q3 q4 => by
        by_cases hj : i = j
        · subst hj
          rw [get_set_self hl] at q1
          cases q1
        · by_cases hk : i = k
          · subst hk
            rw [get_set_self hl] at q2
            cases q2
          · rw [List.getElem?_set_ne hj] at q1
            rw [List.getElem?_set_ne hk] at q2
            exact r.nd j k d1 e1 b q1 q2 q3 q4 }
  · exact ⟨F, .refl F, r⟩
end
section
variable {X : Cx} {P : Pm} {F0 : Fz} {H0 : Hp} {W : WX} {a b c e o : Expr} {es : List Expr} {fa fb fc : Env → Res D} {gc : Env → Res Bool} {fs : Env → Res (List D)} {pos p apos : Pos} {st : Stmt} {sts tts : List Stmt} {g g1 g2 : Env → RS}
theorem sd_frz (i : Nat) (h : PSs X sts (tS P F0 H0 W g)) : PSs X sts (tS P F0 H0 W (fun ρ => g (frz i ρ))) := h.imp fun N σ H ⟨F, ρ, er, z⟩ => by
  obtain ⟨F', e, er'⟩ := er.freeze i
  exact ⟨F', frz i ρ, er', PostS.shift (r := g (frz i ρ)) z e⟩
theorem sd_frz1 (i : Nat) (h : PS X st (tS P F0 H0 W g)) : PS X st (tS P F0 H0 W (fun ρ => g (frz i ρ))) := h.imp fun N σ H ⟨F, ρ, er, z⟩ => by
  obtain ⟨F', e, er'⟩ := er.freeze i
  exact ⟨F', frz i ρ, er', PostS.shift (r := g (frz i ρ)) z e⟩
/-- x = a new object, which will be changed by x -/
theorem sd_setN {i : Nat} {x : Str} {pos' : Pos} (hN : X.N.Nodup) (hi : X.N[i]? = some x) (hx : Loc X.env.scope x) (he : PE X e (tN P F0 H0 W fa)) (hs : swapsWith e (some (.Name x pos')) pos.line X.env = pure false := by rfl) (hi0 : F0.S = none ∨ i ≠ 0 := by first | exact Or.inl rfl | exact Or.inr (by decide)) (hf : X.fn x = true ∨ X.env.scope.names.lookup x = some .local := by first | exact .inl rfl | exact .inr rfl | assumption) :
    PS X (.Assign [.Name x pos'] e pos) (tS P F0 H0 W (fun ρ => bindS (fa ρ) ρ fun d => .nx (ρ.set i (some (.ow d))))) := (ps_set hN hi hx he hs hf).imp fun N σ H ⟨F, ρ, er, z⟩ => by
  refine ⟨F, ρ, er, ?_⟩
  refine (PostS.bind (rel := rNw P H) er z).imp ?_
  rintro v H1 ⟨F1, d, g, ⟨q, rfl, h1, h2, h3⟩, z⟩
  exact z _ F1 H1 (er.putO g i h1 h2 h3 hi0) (.refl F1)
/-- x.append(e) -/
def appD (i : Nat) (ρ : Env) (d : D) : RS := match ρ[i]? with
  | some (some (.ow (.lst xs))) => if small (xs.length + 1) = true then .nx (ρ.set i (some (.ow (.lst (xs ++ [d]))))) else .bad
  | _ => .bad
def isOw (i : Nat) (ρ : Env) : Res Unit := match ρ[i]? with
  | some (some (.ow (.lst _))) => .ok ()
  | _ => .bad
theorem isOw_cases (i : Nat) (ρ : Env) : (isOw i ρ = .bad) ∨ ∃ xs, isOw i ρ = .ok () ∧ ρ[i]? = some (some (.ow (.lst xs))) := by
  unfold isOw
  split
  · rename_i xs q
    exact .inr ⟨xs, rfl, q⟩
  · exact .inl rfl
theorem sd_append (i : Nat) {x : Str} {p1 apos cpos : Pos} (he : PE X e (tE P F0 H0 W fa)) (hN : X.N[i]? = some x := by rfl) (hv : Vis X.env.scope x := by first | exact Or.inl rfl | exact Or.inr (Or.inl rfl) | exact Or.inr (Or.inr rfl)) (hd : (x == ("__debug__" : Str)) = false := by decide)
    (hcd : (x == ("__classdict__" : Str)) = false := by decide)
    (hbase : attributeBase (.Name x p1) "append" X.env (eval (.Name x p1) X.env) = eval (.Name x p1) X.env := by rfl)
    (hfew : ((backTo cpos (starEach [e] X.env)).all (fun x => !x.1) && (backToKw cpos (keywordEach [] X.env)).all (fun x => x.1.isSome)
      && decide (([e] : List Expr).length + ([] : List Keyword).length + (if ([] : List Keyword).isEmpty then 0 else 1) < 30)) = true := by rfl)
    (hline : (apos.endLine == cpos.line) = true := by rfl) (hs1 : starEach [e] X.env = (false, eval e X.env) :: starEach [] X.env := by rfl) (hplain : (backTo cpos (starEach [] X.env)).any (·.1) = false := by rfl)
    (hs : swapsWith (.Call (.Attribute (.Name x p1) "append" apos) [e] [] cpos) none pos.line X.env = pure false := by rfl) :
    PS X (.Expr (.Call (.Attribute (.Name x p1) "append" apos) [e] [] cpos) pos) (tS P F0 H0 W (fun ρ => bindS (isOw i ρ) ρ fun _ => bindS (fa ρ) ρ fun d => appD i ρ d)) :=
  (ps_expr (pe_bm PySem.F.plainAttrs_list PySem.F.slot_list_append PySem.F.type_list_append mt_append (pe_var hN hv hd hcd) (pa_cons he pa_nil hs1) hbase hfew hline hs1 hplain) hs).imp fun N σ H ⟨F, ρ, er, z⟩ => by
  have z' : PostS P F0 H0 W F (bindS (isOw i ρ) ρ fun _ => bindS (fa ρ) ρ fun d => appD i ρ d) N := z
  rcases isOw_cases i ρ with hb | ⟨xs, hb, q⟩
  · rw [hb] at z'
    exact z'.elim
  · rw [hb] at z'
    replace z' : PostS P F0 H0 W F (bindS (fa ρ) ρ fun d => appD i ρ d) N := z'
    obtain ⟨a, h1, h2, h3, vs, h4, h5⟩ := er.ow i _ q
    refine ⟨.ref a, h1, .inl ⟨rfl, vs, SqL.of h4⟩, ?_⟩
    refine ⟨F, ρ, er, (PostS.bind (rel := rIs P) er z').imp ?_⟩
    rintro v H1 ⟨F1, d, g, j, z1⟩
    have ea : appD i ρ d = if small (xs.length + 1) = true then .nx (ρ.set i (some (.ow (.lst (xs ++ [d]))))) else .bad := by
      unfold appD
      rw [q]
    rw [ea] at z1
    by_cases hz : small (xs.length + 1) = true
    · rw [if_pos hz] at z1
      refine ⟨a, vs, v, rfl, rfl, g.h _ _ h4, by have := small_lt hz; rw [h5.length] at this; omega, ?_⟩
      refine z1 σ F1 _ ((er.grow g).mut q h1 ⟨vs ++ [v], upd_same, ?_⟩) (.refl F1)
      exact (h5.mono g.f xs).append (.cons j .nil)
    · rw [if_neg hz] at z1
      exact z1.elim
/-! ### several names at once -/
def par2 (i j : Nat) (ρ : Env) : List D → RS
  | [d, e] => .nx ((ρ.set i (some (.sh d))).set j (some (.sh e)))
  | _ => .bad
theorem sd_par {i j : Nat} {x y : Str} {px py pt : Pos} {kt k2 pt2} (hc : X.calm = true) (hN : X.N.Nodup) (hi : X.N[i]? = some x) (hj : X.N[j]? = some y) (hij : i ≠ j)
    (hx : X.env.scope.names.lookup x = some .local) (hy : X.env.scope.names.lookup y = some .local) (ha : PA X [a, b] (tL P F0 H0 W fs))
    (hw : swappedStores [.Tuple [.Name x px, .Name y py] kt pt] (.Tuple [a, b] k2 pt2) X.env = pure (some [x, y])) (h0 : F0.S = none := by rfl)
    (hs : swapsWithSole [.Tuple [.Name x px, .Name y py] kt pt] (.Tuple [a, b] k2 pt2) pos.line X.env = pure false := by rfl) :
    PS X (.Assign [.Tuple [.Name x px, .Name y py] kt pt] (.Tuple [a, b] k2 pt2) pos) (tS P F0 H0 W (fun ρ => bindS (fs ρ) ρ (par2 i j ρ))) := (ps_par hc hN hi hj hij hx hy ha hw hs).imp fun N σ H ⟨F, ρ, er, z⟩ => by
  refine ⟨F, ρ, er, (PostS.bind (rel := rLs P) er z).imp ?_⟩
  rintro vs H1 ⟨F1, ds, g, q, z1⟩
  unfold par2 at z1
  split at z1
  · rename_i d e
    obtain ⟨v, r, rfl, q1, q⟩ := q.uncons
    obtain ⟨v2, r2, rfl, q2, q⟩ := q.uncons
    obtain rfl := q.unnil
    exact ⟨v, v2, rfl, z1 _ F1 H1 (((er.grow g).put i q1 (.inl h0)).put j q2 (.inl h0)) (.refl F1)⟩
  · exact z1.elim
def par3 (i j l : Nat) (ρ : Env) : List D → RS
  | [d, e, f] => .nx (((ρ.set i (some (.sh d))).set j (some (.sh e))).set l (some (.sh f)))
  | _ => .bad
theorem sd_par3 {i j l : Nat} {x y z : Str} {px py pz pt pos : Pos} {kt k2 pt2} (hc : X.calm = true) (hN : X.N.Nodup) (hi : X.N[i]? = some x) (hj : X.N[j]? = some y) (hl : X.N[l]? = some z) (hij : i ≠ j) (hil : i ≠ l) (hjl : j ≠ l)
    (hx : X.env.scope.names.lookup x = some .local) (hy : X.env.scope.names.lookup y = some .local) (hz : X.env.scope.names.lookup z = some .local) (ha : PA X [a, b, c] (tL P F0 H0 W fs))
    (hw : swappedStores [.Tuple [.Name x px, .Name y py, .Name z pz] kt pt] (.Tuple [a, b, c] k2 pt2) X.env = pure (some [x, y, z])) (h0 : F0.S = none := by rfl)
    (hs : swapsWithSole [.Tuple [.Name x px, .Name y py, .Name z pz] kt pt] (.Tuple [a, b, c] k2 pt2) pos.line X.env = pure false := by rfl) :
    PS X (.Assign [.Tuple [.Name x px, .Name y py, .Name z pz] kt pt] (.Tuple [a, b, c] k2 pt2) pos) (tS P F0 H0 W (fun ρ => bindS (fs ρ) ρ (par3 i j l ρ))) := (ps_par3 hc hN hi hj hl hij hil hjl hx hy hz ha hw hs).imp fun N σ H ⟨F, ρ, er, z⟩ => by
  refine ⟨F, ρ, er, (PostS.bind (rel := rLs P) er z).imp ?_⟩
  rintro vs H1 ⟨F1, ds, g, q, z1⟩
  unfold par3 at z1
  split at z1
  · rename_i d e f
    obtain ⟨v, r, rfl, q1, q⟩ := q.uncons
    obtain ⟨v2, r2, rfl, q2, q⟩ := q.uncons
    obtain ⟨v3, r3, rfl, q3, q⟩ := q.uncons
    obtain rfl := q.unnil
    exact ⟨v, v2, v3, rfl, z1 _ F1 H1 ((((er.grow g).put i q1 (.inl h0)).put j q2 (.inl h0)).put l q3 (.inl h0)) (.refl F1)⟩
  · exact z1.elim
/-- target = value, any target -/
theorem sd_asg {tg : Expr} {us : List Nat} {h : D → Env → Option Env} (he : PE X e (tE P F0 H0 W fa)) (hg : PG X tg (tGt P F0 H0 us h)) (hs : swapsWithSole [tg] e pos.line X.env = pure false := by rfl) (hw : swappedStores [tg] e X.env = pure none := by rfl)
    (h1 : (assignEach [tg] X.env).map (·.2) = [assign tg X.env] := by rfl) : PS X (.Assign [tg] e pos) (tS P F0 H0 W (fun ρ => bindS (fa ρ) ρ fun d => match h d ρ with | some ρ' => .nx ρ' | none => .bad)) := (ps_asg he hg hs hw h1).imp fun N σ H ⟨F, ρ, er, z⟩ => by
  refine ⟨F, ρ, er, (PostS.bind (rel := rIs P) er z).imp ?_⟩
  rintro v H1 ⟨F1, d, g, q, z1⟩
  cases hh : h d ρ with
  | none =>
    rw [hh] at z1
    exact z1.elim
  | some ρ' =>
    rw [hh] at z1
    exact ⟨F1, ρ, d, ρ', er.grow g, q, hh, fun σ' er' _ => z1 σ' F1 H1 er' (.refl F1)⟩
end
end DL
namespace DL
open PySem L2

/-! ### what is walked -/
section
variable {X : Cx} {P : Pm} {F0 : Fz} {H0 : Hp} {W : WX} {a b c e l tg : Expr} {es : List Expr} {fa fb fc : Env → Res D} {fs : Env → Res (List D)} {pos p : Pos}
theorem _root_.L2.PI.imp {t t' : TI} (h : PI X tg e t) (q : ∀ σ H R, t' σ H R → t σ H R) : PI X tg e t' := ⟨fun pins s σ H R I z => h.run pins s σ H R I (q σ H R z)⟩
def iSeq (K : PySem.W.Frag) (tl : TE) : TI := fun σ H R => tl σ H fun x H1 => (∃ a, x = .ref a ∧ (∃ xs, SqL K H1 a xs) ∧ R (Itl K a) H1) ∨ (∃ a, x = .ref a ∧ (∃ xs, SqT K H1 a xs) ∧ R (Itt K a) H1) ∨ ∃ z, x = .str z ∧ R (Its z) H1
theorem pi_seq {tl : TE} (hl : PE X l tl) : PI X tg l (iSeq X.K tl) := by
  refine ⟨fun pins s σ H R I h => ?_⟩
  refine thn (hl.run pins s σ H _ I h) fun v s1 ⟨x, H1, I1, r1, q1⟩ => ?_
  rcases q1 with ⟨a, e, ⟨xs, hq⟩, q⟩ | ⟨a, e, ⟨xs, hq⟩, q⟩ | ⟨z, e, q⟩
  · subst e
    cases r1
    obtain ⟨its, rv, p, hz⟩ := I1.list hq
    refine wpAny_pyIter_list p.isList ?_
    refine ⟨s1.heap.objs.size, [s1.heap.objs.size], _, _, H1, rfl, I1.kept (t' := s1.toks) fun b o e => Heap.get?_push_of_some _ e, turn_list a _, ⟨_, Heap.get?_push_size _ rfl, rfl, rfl⟩, fun b hb => ?_, q⟩
    have e : b = s1.heap.objs.size := by simpa using hb
    subst e
    exact I1.fpOk (Nat.le_refl _) (I1.hok.fresh (Nat.le_refl _))
  · subst e
    cases r1
    obtain ⟨its, rv, p, hz⟩ := I1.tuple hq
    refine wpAny_pyIter_tuple (show s1.heap.IsTuple a its.toArray from p) ?_
    refine ⟨s1.heap.objs.size, [s1.heap.objs.size], _, _, H1, rfl, I1.kept (t' := s1.toks) fun b o e => Heap.get?_push_of_some _ e, turn_tuple a _, ⟨_, Heap.get?_push_size _ rfl, rfl, rfl⟩, fun b hb => ?_, q⟩
    have e : b = s1.heap.objs.size := by simpa using hb
    subst e
    exact I1.fpOk (Nat.le_refl _) (I1.hok.fresh (Nat.le_refl _))
  · subst e
    obtain ⟨t, rfl⟩ := r1
    cases ha : z.cps.all (· < 128)
    · exact PySem.wpAny_pyIter_wide ha (pi_one (tk := s1.toks) I1 _ (turn_str _ z t "str_iterator" (.inr rfl)) ⟨_, Heap.get?_push_size _ rfl, rfl, rfl⟩ q)
    · exact PySem.wpAny_pyIter_ascii ha (pi_one (tk := s1.toks) I1 _ (turn_str _ z t "str_ascii_iterator" (.inl rfl)) ⟨_, Heap.get?_push_size _ rfl, rfl, rfl⟩ q)
def seqD : D → Res (List D)
  | .lst xs => .ok xs
  | .tup xs => .ok xs
  | .str z => .ok (z.cps.toList.map fun c => .str ⟨#[c]⟩)
  | _ => .bad
theorem un_lst {F : Hp} {xs : List D} {v : V} (h : Is P F (.lst xs) v) : ∃ a vs, v = .ref a ∧ Rd F a (.lst vs) ∧ IsL P F xs vs := by
  rw [Is] at h
  exact h
theorem un_tup {F : Hp} {xs : List D} {v : V} (h : Is P F (.tup xs) v) : ∃ a vs, v = .ref a ∧ Rd F a (.tup vs) ∧ IsL P F xs vs := by
  rw [Is] at h
  exact h
theorem un_str {F : Hp} {z : Str} {v : V} (h : Is P F (.str z) v) : v = .str z := by
  rw [Is] at h
  exact h
theorem un_int {F : Hp} {z : Int} {v : V} (h : Is P F (.int z) v) : v = .int z := by
  rw [Is] at h
  exact h
theorem un_bl {F : Hp} {z : Bool} {v : V} (h : Is P F (.bl z) v) : v = .bl z := by
  rw [Is] at h
  exact h
theorem un_non {F : Hp} {v : V} (h : Is P F .non v) : v = .non := by
  rw [Is] at h
  exact h
theorem itl_D {K : PySem.W.Frag} {F H : Hp} {a : Addr} {vs : List V} {ds : List D} (h : Rd F a (.lst vs)) (i : IsL P F ds vs) : ItD P F H ds (Itl K a) := fun j F1 H1 e1 e2 => by
  have hr : SqL K H1 a vs := .inl ((e1.trans e2).rd h)
  refine ⟨fun d hd => ?_, fun hl => ⟨vs, hr, by rw [← i.length]; exact hl⟩⟩
  obtain ⟨v, h1, h2⟩ := i.get hd
  refine ⟨⟨vs, v, hr, h1⟩, ?_⟩
  rintro x H2 ⟨rfl, hx⟩
  have := hx vs hr
  rw [h1] at this
  cases this
  exact ⟨F1, .refl e2, h2.mono e1 d⟩
theorem itt_D {K : PySem.W.Frag} {F H : Hp} {a : Addr} {vs : List V} {ds : List D} (h : Rd F a (.tup vs)) (i : IsL P F ds vs) : ItD P F H ds (Itt K a) := fun j F1 H1 e1 e2 => by
  have hr : SqT K H1 a vs := .inl ((e1.trans e2).rd h)
  refine ⟨fun d hd => ?_, fun hl => ⟨vs, hr, by rw [← i.length]; exact hl⟩⟩
  obtain ⟨v, h1, h2⟩ := i.get hd
  refine ⟨⟨vs, v, hr, h1⟩, ?_⟩
  rintro x H2 ⟨rfl, hx⟩
  have := hx vs hr
  rw [h1] at this
  cases this
  exact ⟨F1, .refl e2, h2.mono e1 d⟩
theorem its_D {F H : Hp} {z : Str} : ItD P F H (z.cps.toList.map fun c => D.str ⟨#[c]⟩) (Its z) := fun j F1 H1 e1 e2 => by
  refine ⟨fun d hd => ?_, fun hl => (by simpa using hl : z.cps.size ≤ j)⟩
  rw [List.getElem?_map] at hd
  cases hc : z.cps.toList[j]? with
  | none =>
    rw [hc] at hd
    cases hd
  | some c =>
    rw [hc] at hd
    cases hd
    have hj := lt_of_get hc
    refine ⟨(by simpa using hj : j < z.cps.size), ?_⟩
    rintro x H2 ⟨rfl, c', hc', rfl⟩
    have : z.cps.toList[j]? = some c' := by simpa using hc'
    rw [hc] at this
    cases this
    exact ⟨F1, .refl e2, is_str⟩
/-- for x in e: a list, a tuple, a text -/
theorem id_seq (h : PE X l (tE P F0 H0 W fa)) : PI X tg l (tI P F0 H0 W (fun ρ => fa ρ >>= seqD)) := (pi_seq h).imp fun σ H R ⟨F, ρ, er, z⟩ => by
  refine ⟨F, ρ, er, (PostG.bind (rel := rIs P) z).imp ?_⟩
  rintro v H1 ⟨F1, d, g, i, q⟩
  unfold seqD at q
  split at q
  · obtain ⟨a, vs, rfl, h1, h2⟩ := un_lst i
    exact .inl ⟨a, rfl, ⟨vs, .inl (g.s.rd h1)⟩, q.here g.s (itl_D h1 h2)⟩
  · obtain ⟨a, vs, rfl, h1, h2⟩ := un_tup i
    exact .inr (.inl ⟨a, rfl, ⟨vs, .inl (g.s.rd h1)⟩, q.here g.s (itt_D h1 h2)⟩)
  · exact .inr (.inr ⟨_, un_str i, q.here g.s its_D⟩)
  · exact q.elim
/-! ### ranges -/
def rngD (lo hi : Int) : List D := (List.range (hi - lo).toNat).map fun k => .int (lo + (k : Nat))
theorem itr_D {F H : Hp} {lo hi : Int} : ItD P F H (rngD lo hi) (Itr lo (hi - lo).toNat) := fun j F1 H1 e1 e2 => by
  refine ⟨fun d hd => ?_, fun hl => (by simp [rngD] at hl; omega : (hi - lo).toNat ≤ j)⟩
  unfold rngD at hd
  rw [List.getElem?_map] at hd
  cases hc : (List.range (hi - lo).toNat)[j]? with
  | none =>
    rw [hc] at hd
    cases hd
  | some c =>
    rw [hc] at hd
    cases hd
    have hj := lt_of_get hc
    rw [List.getElem?_eq_getElem hj] at hc
    simp at hc hj
    subst hc
    refine ⟨(by omega : j < (hi - lo).toNat), ?_⟩
    rintro x H2 ⟨rfl, rfl⟩
    exact ⟨F1, .refl e2, is_int⟩
def rng1 : List D → Res (List D)
  | [.int j] => if -(2 ^ 62) ≤ j ∧ j < 2 ^ 62 then .ok (rngD 0 j) else .bad
  | _ => .bad
def rng2 : List D → Res (List D)
  | [.int i, .int j] => if -(2 ^ 62) ≤ i ∧ i < 2 ^ 62 ∧ -(2 ^ 62) ≤ j ∧ j < 2 ^ 62 then .ok (rngD i j) else .bad
  | _ => .bad
theorem id_range1 (hg : Gl X "range") (hm : X.mg "range" = none) (ha : PA X [a] (tL P F0 H0 W fs)) (hs : starEach [a] X.env = [(false, eval a X.env)] := by rfl) : PI X tg (.Call (.Name "range" p) [a] [] pos) (tI P F0 H0 W (fun ρ => fs ρ >>= rng1)) :=
  (pi_range1 hg hm ha hs).imp fun σ H R ⟨F, ρ, er, z⟩ => by
  refine ⟨F, ρ, er, (PostG.bind (rel := rLs P) z).imp ?_⟩
  rintro vs H1 ⟨F1, ds, g, i, q⟩
  unfold rng1 at q
  split at q
  · rename_i j
    obtain ⟨v, r, rfl, i1, i⟩ := i.uncons
    obtain rfl := i.unnil
    rw [Is] at i1
    subst i1
    split at q
    · rename_i hj
      refine ⟨j, rfl, hj.1, hj.2, ?_⟩
      have := q.here g.s (itr_D (lo := 0) (hi := j))
      simpa using this
    · exact q.elim
  · exact q.elim
theorem id_range2 (hg : Gl X "range") (hm : X.mg "range" = none) (ha : PA X [a, b] (tL P F0 H0 W fs)) (hs : starEach [a, b] X.env = [(false, eval a X.env), (false, eval b X.env)] := by rfl) (hs2 : starEach [b] X.env = [(false, eval b X.env)] := by rfl) : PI X tg (.Call (.Name "range" p) [a, b] [] pos) (tI P F0 H0 W (fun ρ => fs ρ >>= rng2)) :=
  (pi_range2 hg hm ha hs hs2).imp fun σ H R ⟨F, ρ, er, z⟩ => by
  refine ⟨F, ρ, er, (PostG.bind (rel := rLs P) z).imp ?_⟩
  rintro vs H1 ⟨F1, ds, g, i, q⟩
  unfold rng2 at q
  split at q
  · rename_i j k
    obtain ⟨v, r, rfl, i1, i⟩ := i.uncons
    obtain ⟨v2, r2, rfl, i2, i⟩ := i.uncons
    obtain rfl := i.unnil
    rw [Is] at i1 i2
    subst i1 i2
    split at q
    · rename_i hj
      exact ⟨j, k, rfl, hj, q.here g.s itr_D⟩
    · exact q.elim
  · exact q.elim
/-! ### zip, enumerate -/
def zipL (xs ys : List D) : List D := (xs.zip ys).map fun q => .tup [q.1, q.2]
theorem zipL_get {xs ys : List D} {j : Nat} {d : D} (h : (zipL xs ys)[j]? = some d) : ∃ x y, xs[j]? = some x ∧ ys[j]? = some y ∧ d = .tup [x, y] := by
  unfold zipL at h
  rw [List.getElem?_map] at h
  cases hz : (xs.zip ys)[j]? with
  | none =>
    rw [hz] at h
    cases h
  | some q =>
    rw [hz] at h
    cases h
    rw [List.getElem?_zip_eq_some] at hz
    exact ⟨q.1, q.2, hz.1, hz.2, rfl⟩
theorem zipL_len {xs ys : List D} : (zipL xs ys).length = min xs.length ys.length := by simp [zipL]
theorem pair_D {F1 H1 : Hp} {x y : D} {vx vy : V} {T : Addr} (e2 : Ex F1 H1) (hT : H1 T = none) (hx : Is P F1 x vx) (hy : Is P F1 y vy) : ∃ F2, Grow F1 H1 F2 (upd H1 T (.tup [vx, vy])) ∧ Is P F2 (.tup [x, y]) (.ref T) :=
  ⟨upd F1 T (.tup [vx, vy]), .new e2 hT, by rw [Is]; exact ⟨T, _, rfl, .inl upd_same, .cons (hx.mono (.new (e2.back hT)) x) (.cons (hy.mono (.new (e2.back hT)) y) .nil)⟩⟩
def zipD : List D → Res (List D)
  | [.lst xs, .lst ys] => .ok (zipL xs ys)
  | [.tup xs, .tup ys] => .ok (zipL xs ys)
  | _ => .bad
theorem id_zip {elts : List Expr} {kk : Nat} {tpos : Pos} (hg : Gl X "zip") (hm : X.mg "zip" = none) (ha : PA X [a, b] (tL P F0 H0 W fs)) (hs : starEach [a, b] X.env = (false, eval a X.env) :: starEach [b] X.env := by rfl) (hpl : (backTo pos (starEach [b] X.env)).any (·.1) = false := by rfl) :
    PI X (.Tuple elts kk tpos) (.Call (.Name "zip" p) [a, b] [] pos) (tI P F0 H0 W (fun ρ => fs ρ >>= zipD)) := (RZ.pi_zipA hg hm ha hs hpl).imp fun σ H R ⟨F, ρ, er, z⟩ => by
  refine ⟨F, ρ, er, (PostG.bind (rel := rLs P) z).imp ?_⟩
  rintro vs H1 ⟨F1, ds, g, i, q⟩
  unfold zipD at q
  split at q
  · rename_i xs ys
    obtain ⟨v, r, rfl, i1, i⟩ := i.uncons
    obtain ⟨v2, r2, rfl, i2, i⟩ := i.uncons
    obtain rfl := i.unnil
    rw [Is] at i1 i2
    obtain ⟨a1, vs1, rfl, h1, j1⟩ := i1
    obtain ⟨a2, vs2, rfl, h2, j2⟩ := i2
    refine ⟨a1, a2, vs1, vs2, rfl, .inl ⟨.inl (g.s.rd h1), .inl (g.s.rd h2), q.here g.s fun j F2 H2 e1 e2 => ?_⟩⟩
    have hr1 : SqL X.K H2 a1 vs1 := .inl ((e1.trans e2).rd h1)
    have hr2 : SqL X.K H2 a2 vs2 := .inl ((e1.trans e2).rd h2)
    refine ⟨fun d hd => ?_, fun hl => ⟨vs1, vs2, hr1, hr2, ?_⟩⟩
    · obtain ⟨x, y, hx, hy, rfl⟩ := zipL_get hd
      obtain ⟨vx, k1, k2⟩ := j1.get hx
      obtain ⟨vy, l1, l2⟩ := j2.get hy
      refine ⟨⟨vs1, vs2, vx, vy, hr1, hr2, k1, l1⟩, ?_⟩
      rintro v H3 ⟨T, x', y', rfl, hT, rfl, hx', hy'⟩
      have e3 := hx' vs1 hr1
      have e4 := hy' vs2 hr2
      rw [k1] at e3
      rw [l1] at e4
      cases e3
      cases e4
      exact pair_D e2 hT (k2.mono e1 x) (l2.mono e1 y)
    · rw [zipL_len, j1.length, j2.length] at hl
      omega
  · rename_i xs ys
    obtain ⟨v, r, rfl, i1, i⟩ := i.uncons
    obtain ⟨v2, r2, rfl, i2, i⟩ := i.uncons
    obtain rfl := i.unnil
    rw [Is] at i1 i2
    obtain ⟨a1, vs1, rfl, h1, j1⟩ := i1
    obtain ⟨a2, vs2, rfl, h2, j2⟩ := i2
    refine ⟨a1, a2, vs1, vs2, rfl, .inr ⟨.inl (g.s.rd h1), .inl (g.s.rd h2), q.here g.s fun j F2 H2 e1 e2 => ?_⟩⟩
    have hr1 : SqT X.K H2 a1 vs1 := .inl ((e1.trans e2).rd h1)
    have hr2 : SqT X.K H2 a2 vs2 := .inl ((e1.trans e2).rd h2)
    refine ⟨fun d hd => ?_, fun hl => ⟨vs1, vs2, hr1, hr2, ?_⟩⟩
    · obtain ⟨x, y, hx, hy, rfl⟩ := zipL_get hd
      obtain ⟨vx, k1, k2⟩ := j1.get hx
      obtain ⟨vy, l1, l2⟩ := j2.get hy
      refine ⟨⟨vs1, vs2, vx, vy, hr1, hr2, k1, l1⟩, ?_⟩
      rintro v H3 ⟨T, x', y', rfl, hT, rfl, hx', hy'⟩
      have e3 := hx' vs1 hr1
      have e4 := hy' vs2 hr2
      rw [k1] at e3
      rw [l1] at e4
      cases e3
      cases e4
      exact pair_D e2 hT (k2.mono e1 x) (l2.mono e1 y)
    · rw [zipL_len, j1.length, j2.length] at hl
      omega
  · exact q.elim
def enuL (xs : List D) : List D := xs.zipIdx.map fun q => .tup [.int (q.2 : Nat), q.1]
def enuD : List D → Res (List D)
  | [.lst xs] => .ok (enuL xs)
  | _ => .bad
theorem id_enum {elts : List Expr} {kk : Nat} {tpos : Pos} (hg : Gl X "enumerate") (hm : X.mg "enumerate" = none) (ha : PA X [a] (tL P F0 H0 W fs)) (hs : starEach [a] X.env = [(false, eval a X.env)] := by rfl) :
    PI X (.Tuple elts kk tpos) (.Call (.Name "enumerate" p) [a] [] pos) (tI P F0 H0 W (fun ρ => fs ρ >>= enuD)) := (pi_enum hg hm ha hs).imp fun σ H R ⟨F, ρ, er, z⟩ => by
  refine ⟨F, ρ, er, (PostG.bind (rel := rLs P) z).imp ?_⟩
  rintro vs H1 ⟨F1, ds, g, i, q⟩
  unfold enuD at q
  split at q
  · rename_i xs
    obtain ⟨v, r, rfl, i1, i⟩ := i.uncons
    obtain rfl := i.unnil
    rw [Is] at i1
    obtain ⟨a1, vs1, rfl, h1, j1⟩ := i1
    refine ⟨a1, vs1, rfl, .inl (g.s.rd h1), q.here g.s fun j F2 H2 e1 e2 => ?_⟩
    have hr1 : SqL X.K H2 a1 vs1 := .inl ((e1.trans e2).rd h1)
    refine ⟨fun d hd => ?_, fun hl => ⟨vs1, hr1, ?_⟩⟩
    · unfold enuL at hd
      rw [List.getElem?_map] at hd
      cases hz : xs.zipIdx[j]? with
      | none =>
        rw [hz] at hd
        cases hd
      | some q =>
        rw [hz] at hd
        cases hd
        rw [List.getElem?_zipIdx] at hz
        cases hx : xs[j]? with
        | none =>
          rw [hx] at hz
          cases hz
        | some x =>
          rw [hx] at hz
          simp at hz
          subst hz
          obtain ⟨vx, k1, k2⟩ := j1.get hx
          refine ⟨⟨vs1, vx, hr1, k1⟩, ?_⟩
          rintro v H3 ⟨T, x', rfl, hT, rfl, hx'⟩
          have e3 := hx' vs1 hr1
          rw [k1] at e3
          cases e3
          exact pair_D e2 hT is_int (k2.mono e1 x)
    · rw [← j1.length]
      simpa [enuL] using hl
  · exact q.elim
end
end DL
namespace DL
open PySem L2

def noErr {α : Type} : Res α → Res α
  | .ok a => .ok a
  | _ => .bad
theorem PostG.noErr {α β : Type} {P : Pm} {W W' : WX} {rel : Rel α β} {r : Res α} {F H : Hp} {σ σ' : St} {Q : β → Hp → Prop} (h : PostG P W rel (DL.noErr r) F σ H Q) : PostG P W' rel r F σ' H Q := by
  cases r with
  | ok a => exact h
  | err c p => exact h.elim
  | bad => exact h.elim
def wipeE (ρ : Env) : List Nat → Env
  | [] => ρ
  | v :: vs => (wipeE ρ vs).set v none
section
variable {P : Pm} {F0 : Fz} {H0 F H : Hp} {ρ : Env} {σ : St}
theorem wipeE_length : ∀ us : List Nat, (wipeE ρ us).length = ρ.length
  | [] => rfl
  | v :: us => by
    show ((wipeE ρ us).set v none).length = _
    rw [List.length_set, wipeE_length us]
theorem wipeE_some {i : Nat} {x : B} : ∀ {us : List Nat}, (wipeE ρ us)[i]? = some (some x) → ρ[i]? = some (some x) ∧ i ∉ us
  | [], h => ⟨h, by simp⟩
  | v :: us, h => by
    have h' : ((wipeE ρ us).set v none)[i]? = some (some x) := h
    by_cases q : v = i
    · subst q
      have hl : v < (wipeE ρ us).length := by simpa using lt_of_get h'
      rw [get_set_self hl] at h'
      cases h'
    · rw [List.getElem?_set_ne q] at h'
      obtain ⟨h1, h2⟩ := wipeE_some h'
      exact ⟨h1, by simp [h2, Ne.symm q]⟩
theorem wipe_keep {i : Nat} : ∀ {us : List Nat}, i ∉ us → (wipe σ us)[i]? = σ[i]?
  | [], _ => rfl
  | v :: us, h => by
    show ((wipe σ us).set v none)[i]? = _
    rw [List.getElem?_set_ne (fun q => h (by simp [q]))]
    exact wipe_keep fun q => h (List.mem_cons_of_mem _ q)
theorem wipe_twice (us : List Nat) : wipe (wipe σ us) us = wipe σ us := by
  apply List.ext_getElem?
  intro i
  by_cases q : i ∈ us
  · have k : ∀ (us : List Nat) (τ : St), i ∈ us → (wipe τ us)[i]? = if i < τ.length then some none else none := by
      intro us
      induction us with
      | nil => intro τ h; cases h
      | cons v vs ih =>
        intro τ h
        show ((wipe τ vs).set v none)[i]? = _
        by_cases e : v = i
        · subst e
          rw [List.getElem?_set]
          simp [wipe_length]
        · rw [List.getElem?_set_ne e]
          exact ih τ (by simpa [Ne.symm e] using h)
    rw [k us _ q, k us _ q, wipe_length]
  · rw [wipe_keep q]
theorem ER.wiped (r : ER P F0 H0 F ρ σ H) (us : List Nat) (h0 : F0.S = none ∨ 0 ∉ us) : ER P F0 H0 F (wipeE ρ us) (wipe σ us) H where
  g := r.g
  self := fun x hx => by
    rcases h0 with q | q
    · rw [q] at hx
      cases hx
    · rw [wipe_keep q]
      exact r.self x hx
  len := by rw [wipeE_length, wipe_length, r.len]
  sh := fun i d e => by
    obtain ⟨h1, h2⟩ := wipeE_some e
    rw [wipe_keep h2]
    exact r.sh i d h1
  ow := fun i d e => by
    obtain ⟨h1, h2⟩ := wipeE_some e
    rw [wipe_keep h2]
    exact r.ow i d h1
  nd := fun i j d e a q1 q2 q3 q4 => by
    obtain ⟨h1, h2⟩ := wipeE_some q1
    obtain ⟨h3, h4⟩ := wipeE_some q2
    rw [wipe_keep h2] at q3
    rw [wipe_keep h4] at q4
    exact r.nd i j d e a h1 h3 q3 q4
/-- an object that is nobody's by name is changed -/
theorem ER.other (r : ER P F0 H0 F ρ σ H) {p : Addr} {o : HO} (h0 : H0 p = none) (hf : F p = none) (hn : ∀ (i : Nat) (d : D), ρ[i]? = some (some (B.ow d)) → σ[i]? ≠ some (some (V.ref p))) : ER P F0 H0 F ρ σ (upd H p o) where
  g := ⟨r.g.f, fun b u e => by rw [upd_ne (ne_of_none e h0)]; exact r.g.h b u e, fun b u e => by rw [upd_ne (ne_of_none e hf)]; exact r.g.s b u e, r.g.n⟩
  self := r.self
  len := r.len
  sh := r.sh
  ow := fun i d e => by
    obtain ⟨a, h1, h2, h3, h4⟩ := r.ow i d e
    exact ⟨a, h1, h2, h3, h4.at (upd_ne fun z => hn i d e (by rw [h1, z]))⟩
  nd := r.nd
end
/-- the items of a comprehension -/
def lcD (h : D → Env → Option Env) (gt : Env → Res Bool) (fe : Env → Res D) (ρ : Env) : List D → Res (List D)
  | [] => .ok []
  | d :: r => match h d ρ with
    | none => .bad
    | some ρ1 => do
      let k ← noErr (gt ρ1)
      if k = true then (do let y ← noErr (fe ρ1); let ys ← lcD h gt fe ρ r; .ok (y :: ys)) else lcD h gt fe ρ r
section
variable {X : Cx} {P : Pm} {F0 : Fz} {H0 : Hp} {W : WX} {elt tg iter : Expr} {ifs : List Expr} {scope : Scope} {own : List (Str × Nat)} {pos : Pos} {fi : Env → Res (List D)} {h : D → Env → Option Env} {gt : Env → Res Bool} {fe : Env → Res D}
abbrev W0 : WX := fun _ _ _ _ => False
theorem Res.bind_eq_ok {α β : Type} {r : Res α} {k : α → Res β} {b : β} (h : (r >>= k) = .ok b) : ∃ a, r = .ok a ∧ k a = .ok b := by
  cases r with
  | ok a => exact ⟨a, rfl, h⟩
  | err c p => cases h
  | bad => cases h
theorem lc_of {F H : Hp} {ρ : Env} {σ : St} {Q : VK} {us : List Nat} (h0 : F0.S = none ∨ 0 ∉ us) (er : ER P F0 H0 F ρ σ H)
    (z : PostG P W (rNw P H) (do let items ← fi ρ; let ys ← lcD h gt fe (wipeE ρ us) items; mkL ys) F σ H Q) :
    tLc (tI P F0 H0 W fi) (tGt P F0 H0 us h) (tT P F0 H0 W0 gt) (tE P F0 H0 W0 fe) us σ H Q := by
  refine ⟨F, ρ, er, (PostG.bind (rel := ItD P) z).imp ?_⟩
  rintro J H1 ⟨FJ, items, gr, hJ, z1⟩
  intro Dn hD
  have erJ := er.grow gr
  cases hy : lcD h gt fe (wipeE ρ us) items with
  | bad =>
    rw [hy] at z1
    exact z1.elim
  | err c p =>
    exfalso
    revert hy
    clear z1 hJ
    suffices ∀ items, lcD h gt fe (wipeE ρ us) items ≠ .err c p from this items
    intro items
    induction items with
    | nil => intro q; cases q
    | cons d r ih =>
      intro q
      have q' : (match h d (wipeE ρ us) with
        | none => Res.bad
        | some ρ1 => do
          let k ← noErr (gt ρ1)
          if k = true then (do let y ← noErr (fe ρ1); let ys ← lcD h gt fe (wipeE ρ us) r; .ok (y :: ys)) else lcD h gt fe (wipeE ρ us) r) = .err c p := q
      cases hh : h d (wipeE ρ us) with
      | none =>
        rw [hh] at q'
        cases q'
      | some ρ1 =>
        rw [hh] at q'
        cases hg : gt ρ1 with
        | ok k =>
          have q2 : (if k = true then (do let y ← noErr (fe ρ1); let ys ← lcD h gt fe (wipeE ρ us) r; .ok (y :: ys)) else lcD h gt fe (wipeE ρ us) r) = .err c p := by
            have := q'
            simp only [hg] at this
            exact this
          split at q2
          · cases hf : fe ρ1 with
            | ok y =>
              rw [hf] at q2
              cases hr : lcD h gt fe (wipeE ρ us) r with
              | ok ys =>
                rw [hr] at q2
                cases q2
              | err c' p' =>
                rw [hr] at q2
                cases q2
                exact ih hr
              | bad =>
                rw [hr] at q2
                cases q2
            | err c' p' =>
              rw [hf] at q2
              cases q2
            | bad =>
              rw [hf] at q2
              cases q2
          · exact ih q2
        | err c' p' =>
          simp only [hg] at q'
          cases q'
        | bad =>
          simp only [hg] at q'
          cases q'
  | ok ys =>
    rw [hy] at z1
    replace z1 : PostG P W (rNw P H) (mkL ys) FJ σ H1 Q := z1
    unfold mkL at z1
    by_cases hsm : small ys.length = true
    case neg =>
      rw [if_neg hsm] at z1
      exact z1.elim
    rw [if_pos hsm] at z1
    have hne : ∀ (i : Nat) (d : D), (wipeE ρ us)[i]? = some (some (B.ow d)) → (wipe σ us)[i]? ≠ some (some (V.ref Dn)) := fun i d e q => by
      obtain ⟨a, k1, k2, k3, k4⟩ := (erJ.wiped us h0).ow i d e
      rw [q] at k1
      cases k1
      obtain ⟨o, ho⟩ := k4.there
      rw [hD] at ho
      cases ho
    have hFD : FJ Dn = none := gr.s.back hD
    have h0D : H0 Dn = none := erJ.g.h.back hD
    refine ⟨fun i m H' => m = items.length - i ∧ ∃ F' accD acc rest, Grow FJ H1 F' H' ∧ ER P F0 H0 F' (wipeE ρ us) (wipe σ us) H' ∧ F' Dn = none ∧ H' Dn = some (.lst acc) ∧ IsL P F' accD acc ∧ lcD h gt fe (wipeE ρ us) (items.drop i) = .ok rest ∧ accD ++ rest = ys, ⟨_, rfl, FJ, [], [], ys, .junk gr.s (.new hD), (erJ.wiped us h0).other h0D hFD hne, hFD, upd_same, .nil, hy, rfl⟩, ?_⟩
    rintro i m H' ⟨rfl, F', accD, acc, rest, g1, er1, f1, d1, i1, l1, e1⟩
    obtain ⟨j1, j2⟩ := hJ i F' H' g1.f g1.s
    rcases Nat.lt_or_ge i items.length with hi | hi
    · obtain ⟨k1, k2⟩ := j1 items[i] (List.getElem?_eq_getElem hi)
      rw [List.drop_eq_getElem_cons hi] at l1
      have l2 : (match h items[i] (wipeE ρ us) with
        | none => Res.bad
        | some ρ1 => do
          let k ← noErr (gt ρ1)
          if k = true then (do let y ← noErr (fe ρ1); let ys ← lcD h gt fe (wipeE ρ us) (items.drop (i + 1)); .ok (y :: ys)) else lcD h gt fe (wipeE ρ us) (items.drop (i + 1))) = .ok rest := l1
      cases hh : h items[i] (wipeE ρ us) with
      | none =>
        rw [hh] at l2
        cases l2
      | some ρ1 =>
        rw [hh] at l2
        obtain ⟨k, hk, l3⟩ := Res.bind_eq_ok (r := noErr (gt ρ1)) l2
        refine .inr ⟨k1, fun H' => ∃ F' accD acc rest, Grow FJ H1 F' H' ∧ ER P F0 H0 F' (wipeE ρ us) (wipe σ us) H' ∧ F' Dn = none ∧ H' Dn = some (.lst acc) ∧ IsL P F' accD acc ∧ lcD h gt fe (wipeE ρ us) (items.drop (i + 1)) = .ok rest ∧ accD ++ rest = ys, fun H' n' => ⟨_, by omega, rfl, n'⟩, ?_⟩
        intro x H2 hyl
        obtain ⟨F2, g2, i2⟩ := k2 x H2 hyl
        refine ⟨F2, wipeE ρ us, items[i], ρ1, er1.grow g2, i2, hh, fun σ2 er2 w2 => ⟨w2.trans (wipe_twice us), ?_⟩⟩
        refine ⟨F2, ρ1, er2, ?_⟩
        have hgt : gt ρ1 = .ok k := by
          cases hg : gt ρ1 with
          | ok k' =>
            rw [hg] at hk
            exact hk
          | err c p =>
            rw [hg] at hk
            cases hk
          | bad =>
            rw [hg] at hk
            cases hk
        rw [hgt]
        intro b F3 H3 g3 hb
        subst hb
        have er3 := (er1.grow g2).grow g3
        have fd3 : ∀ {Fa Ha Fb Hb : Hp}, Grow Fa Ha Fb Hb → Fa Dn = none → Ha Dn ≠ none → Fb Dn = none := fun {Fa Ha Fb Hb} g q1 q2 => by
          cases q : Fb Dn with
          | none => rfl
          | some o =>
            rcases g.n Dn o q with y | y
            · rw [q1] at y
              cases y
            · exact absurd y q2
        have n0 : H' Dn ≠ none := by rw [d1]; simp
        have f2 := fd3 g2 f1 n0
        have d2 : H2 Dn = some (.lst acc) := g2.h _ _ d1
        have n2 : H2 Dn ≠ none := by rw [d2]; simp
        have f3 := fd3 g3 f2 n2
        have d3 : H3 Dn = some (.lst acc) := g3.h _ _ d2
        have n3 : H3 Dn ≠ none := by rw [d3]; simp
        have hir := i1.mono (g2.f.trans g3.f) accD
        by_cases hb : b = true
        · rw [if_pos hb]
          rw [if_pos hb] at l3
          obtain ⟨y, hy1, l4⟩ := Res.bind_eq_ok (r := noErr (fe ρ1)) l3
          obtain ⟨ys', hy2, l5⟩ := Res.bind_eq_ok (r := lcD h gt fe (wipeE ρ us) (items.drop (i + 1))) l4
          cases l5
          have hfe : fe ρ1 = .ok y := by
            cases hg : fe ρ1 with
            | ok k' =>
              rw [hg] at hy1
              exact hy1
            | err c p =>
              rw [hg] at hy1
              cases hy1
            | bad =>
              rw [hg] at hy1
              cases hy1
          refine ⟨F3, ρ1, er2.grow g3, ?_⟩
          rw [hfe]
          intro v F4 H4 g4 i4
          have f4 := fd3 g4 f3 n3
          have d4 : H4 Dn = some (.lst acc) := g4.h _ _ d3
          refine ⟨acc, d4, ?_, F4, accD ++ [y], acc ++ [v], ys', ?_, (er3.grow g4).other h0D f4 hne, f4, upd_same, (hir.mono g4.f accD).append (.cons i4 .nil), hy2, by rw [← e1]; simp⟩
          · have hlen : acc.length ≤ ys.length := by
              rw [← e1, ← i1.length]
              simp
            exact Nat.lt_of_le_of_lt hlen (small_lt hsm)
          · have gg := ((g1.trans g2).trans g3).trans g4
            exact ⟨gg.f, fun b u e => by rw [upd_ne (ne_of_none e hD)]; exact gg.h b u e, fun b u e => by rw [upd_ne (ne_of_none e f4)]; exact gg.s b u e, gg.n⟩
        · rw [if_neg hb]
          rw [if_neg hb] at l3
          exact ⟨F3, accD, acc, rest, (g1.trans g2).trans g3, er3, f3, d3, hir, l3, e1⟩
    · rw [List.drop_eq_nil_of_le hi] at l1
      cases l1
      rw [List.append_nil] at e1
      subst e1
      exact .inl ⟨j2 hi, z1 _ F' H' g1 ⟨Dn, rfl, gr.h.back hD, f1, acc, d1, i1⟩⟩
theorem nd_lc {us : List Nat} (hc : X.calm = true) (hN : X.N.Nodup) (hi : PI X tg iter (tI P F0 H0 W fi)) (ok : BlkOk X.N X.env.scope scope own) (hu : own.map (·.2) = us)
    (hg : ∀ (s : Shared) (H : Hp) (C : Addr) (cl : List (Str × Addr)) (fp : List Addr), PG (X.blk s H scope (PySem.compEnvC scope cl C X.env) fp) tg (tGt P F0 H0 us h))
    (ht : ∀ (s : Shared) (H : Hp) (C : Addr) (cl : List (Str × Addr)) (fp : List Addr), PTs (X.blk s H scope (PySem.compEnvC scope cl C X.env) fp) ifs (tT P F0 H0 W0 gt))
    (he : ∀ (s : Shared) (H : Hp) (C : Addr) (cl : List (Str × Addr)) (fp : List Addr), PE (X.blk s H scope (PySem.compEnvC scope cl C X.env) fp) elt (tE P F0 H0 W0 fe)) (h0 : F0.S = none ∨ 0 ∉ us := by first | exact Or.inl rfl | exact Or.inr (by decide))
    (hs : ∀ x, foldedSetIterable iter X.env x = pure x := by intro _; rfl) :
    PE X (.ListComp elt [⟨tg, iter, ifs, 0⟩] scope pos) (tN P F0 H0 W (fun ρ => do let items ← fi ρ; let ys ← lcD h gt fe (wipeE ρ us) items; mkL ys)) :=
  (pe_lc hc hN hi ok hg ht he hs).imp fun σ H Q ⟨F, ρ, er, z⟩ => by
  rw [hu]
  exact lc_of h0 er z
end
end DL
namespace DL
open PySem L2

/-! ### == of data -/
mutual
def toPD : D → Option PyData
  | .non => some .none
  | .bl b => some (.bool b)
  | .int i => some (.int i)
  | .str s => some (.str s)
  | .lst xs => (toPDs xs).map .list
  | .tup xs => (toPDs xs).map .tuple
  | .dK _ _ => none
  | .dT _ _ => none
  | .obj _ _ => none
  | .scr _ => none
def toPDs : List D → Option (List PyData)
  | [] => some []
  | d :: ds => (toPD d).bind fun x => (toPDs ds).map fun xs => x :: xs
end
section
variable {P : Pm} {F H : Hp} {K : PySem.W.Frag}
mutual
theorem Is.dp (e : Ex F H) : ∀ (d : D) {v : V} {pd : PyData}, Is P F d v → toPD d = some pd → Dp K H v pd
  | .non, _, _, h, q => by rw [Is] at h; rw [toPD] at q; cases q; rw [h]; exact .non
  | .bl b, _, _, h, q => by rw [Is] at h; rw [toPD] at q; cases q; rw [h]; exact .bl b
  | .int i, _, _, h, q => by rw [Is] at h; rw [toPD] at q; cases q; rw [h]; exact .int i
  | .str s, _, _, h, q => by rw [Is] at h; rw [toPD] at q; cases q; rw [h]; exact .str s
  | .lst xs, _, _, h, q => by
    rw [Is] at h
    obtain ⟨a, vs, rfl, h2, h3⟩ := h
    rw [toPD] at q
    cases hx : toPDs xs with
    | none => rw [hx] at q; cases q
    | some ys =>
      rw [hx] at q
      cases q
      exact .lst (.inl (e.rd h2)) (IsL.dp e xs h3 hx)
  | .tup xs, _, _, h, q => by
    rw [Is] at h
    obtain ⟨a, vs, rfl, h2, h3⟩ := h
    rw [toPD] at q
    cases hx : toPDs xs with
    | none => rw [hx] at q; cases q
    | some ys =>
      rw [hx] at q
      cases q
      exact .tup (.inl (e.rd h2)) (IsL.dp e xs h3 hx)
  | .dK ks xs, _, _, h, q => by rw [toPD] at q; cases q
  | .dT ks xs, _, _, h, q => by rw [toPD] at q; cases q
  | .obj c xs, _, _, h, q => by rw [toPD] at q; cases q
  | .scr ns, _, _, h, q => by rw [toPD] at q; cases q
theorem IsL.dp (e : Ex F H) : ∀ (ds : List D) {vs : List V} {ps : List PyData}, IsL P F ds vs → toPDs ds = some ps → DpAll K H vs ps
  | [], _, _, h, q => by rw [IsL] at h; rw [toPDs] at q; cases q; rw [h]; exact .nil
  | d :: ds, _, _, h, q => by
    rw [IsL] at h
    obtain ⟨v, r, rfl, h2, h3⟩ := h
    rw [toPDs] at q
    cases hd : toPD d with
    | none => rw [hd] at q; cases q
    | some x =>
      cases hx : toPDs ds with
      | none => rw [hd, hx] at q; cases q
      | some xs =>
        rw [hd, hx] at q
        cases q
        exact .cons (Is.dp e d h2 hd) (IsL.dp e ds h3 hx)
end
theorem Vw.dp (e : Ex F H) : ∀ (d : D) {v : V} {pd : PyData}, Vw P F H d v → toPD d = some pd → Dp K H v pd
  | .non, _, _, h, q => by rw [toPD] at q; cases q; rw [show _ = V.non from h]; exact .non
  | .bl b, _, _, h, q => by rw [toPD] at q; cases q; rw [show _ = V.bl b from h]; exact .bl b
  | .int i, _, _, h, q => by rw [toPD] at q; cases q; rw [show _ = V.int i from h]; exact .int i
  | .str s, _, _, h, q => by rw [toPD] at q; cases q; rw [show _ = V.str s from h]; exact .str s
  | .lst xs, _, _, ⟨a, vs, h1, h2, h3⟩, q => by
    subst h1
    rw [toPD] at q
    cases hx : toPDs xs with
    | none => rw [hx] at q; cases q
    | some ys =>
      rw [hx] at q
      cases q
      exact .lst (.inl h2) (IsL.dp e xs h3 hx)
  | .tup xs, _, _, ⟨a, vs, h1, h0, h2, h3⟩, q => by
    subst h1
    rw [toPD] at q
    cases hx : toPDs xs with
    | none => rw [hx] at q; cases q
    | some ys =>
      rw [hx] at q
      cases q
      exact .tup (.inl h2) (IsL.dp e xs h3 hx)
  | .dK ks xs, _, _, h, q => by rw [toPD] at q; cases q
  | .dT ks xs, _, _, h, q => by rw [toPD] at q; cases q
  | .obj c xs, _, _, h, q => by rw [toPD] at q; cases q
  | .scr ns, _, _, h, q => by rw [toPD] at q; cases q
end
def eqP (x y : D) : Option Bool := (toPD x).bind fun a => (toPD y).bind fun b => if SeqAt.shaped a = true ∧ SeqAt.shaped b = true then some (PyData.eqv a b) else none
def eqD (x y : D) : Option D := (eqP x y).map .bl
def neD (x y : D) : Option D := (eqP x y).map fun b => .bl (!b)
section
variable {X : Cx} {P : Pm} {F0 : Fz} {H0 : Hp} {W : WX} {a b c e o : Expr} {es : List Expr} {fa fb fc : Env → Res D} {fs : Env → Res (List D)} {pos p apos : Pos} {σ : St} {H F : Hp}
theorem eqP_of {x y : D} {b : Bool} (h : eqP x y = some b) : ∃ p q, toPD x = some p ∧ toPD y = some q ∧ SeqAt.shaped p = true ∧ SeqAt.shaped q = true ∧ PyData.eqv p q = b := by
  unfold eqP at h
  cases hx : toPD x with
  | none => rw [hx] at h; cases h
  | some p =>
    cases hy : toPD y with
    | none => rw [hx, hy] at h; cases h
    | some q =>
      rw [hx, hy] at h
      have h' : (if SeqAt.shaped p = true ∧ SeqAt.shaped q = true then some (PyData.eqv p q) else none) = some b := h
      split at h'
      · rename_i hs
        cases h'
        exact ⟨p, q, rfl, rfl, hs.1, hs.2, rfl⟩
      · cases h'
theorem io_eq (hu : X.A.units + 64 < cLine) : OpR X (compareOp .Eq) (r2O P eqD) := fun pins s σ H x y u v Q I rx ry ⟨F, dx, dy, d, e, i1, i2, hd, q⟩ => by
  unfold eqD at hd
  cases hb : eqP dx dy with
  | none => rw [hb] at hd; cases hd
  | some b =>
    rw [hb] at hd
    cases hd
    obtain ⟨p1, p2, h1, h2, h3, h4, rfl⟩ := eqP_of hb
    exact op_eqD hu pins s σ H x y u v Q I rx ry ⟨p1, p2, i1.dp e dx h1, i2.dp e dy h2, h3, h4, q.bl e⟩
theorem io_ne (hu : X.A.units + 64 < cLine) : OpR X (compareOp .NotEq) (r2O P neD) := fun pins s σ H x y u v Q I rx ry ⟨F, dx, dy, d, e, i1, i2, hd, q⟩ => by
  unfold neD at hd
  cases hb : eqP dx dy with
  | none => rw [hb] at hd; cases hd
  | some b =>
    rw [hb] at hd
    cases hd
    obtain ⟨p1, p2, h1, h2, h3, h4, rfl⟩ := eqP_of hb
    exact op_neD hu pins s σ H x y u v Q I rx ry ⟨p1, p2, i1.dp e dx h1, i2.dp e dy h2, h3, h4, q.bl e⟩
/-! ### // -/
def fdivC (i j : Int) : Option D := if j ≠ 0 ∧ j.natAbs.log2 < 9000 then some (.int (i.fdiv j)) else none
theorem op_fdivNW : OpR X (binaryOp .FloorDiv) (rI (fun _ j => j ≠ 0 ∧ j.natAbs.log2 < 9000) fun i j => .int (i.fdiv j)) := opI fun _ _ _ _ _ _ _ hc q => PyProof.Rows.floordiv_int hc.1 q (.inl (PyProof.noPylong_of_log2 hc.2))
theorem io_fdiv : OpR X (binaryOp .FloorDiv) (r2O P (int2 fdivC)) := op_int2 op_fdivNW fun i j d H Q hg q => by
  unfold fdivC at hg
  split at hg
  · rename_i hc
    cases hg
    exact ⟨i, j, rfl, rfl, hc, q _ fun F => is_int⟩
  · cases hg
/-! ### is None -/
def isNone : D → Bool
  | .non => true
  | _ => false
theorem Vw.non {d : D} {v : V} (h : Vw P F H d v) : decide (v = .non) = isNone d := by
  cases d with
  | non => rw [show v = .non from h]; rfl
  | bl b => rw [show v = .bl b from h]; rfl
  | int b => rw [show v = .int b from h]; rfl
  | str b => rw [show v = .str b from h]; rfl
  | lst xs => obtain ⟨a, vs, rfl, _⟩ := h; rfl
  | tup xs => obtain ⟨a, vs, rfl, _⟩ := h; rfl
  | dK ks xs => obtain ⟨a, vs, rfl, _⟩ := h; rfl
  | dT ks xs => obtain ⟨a, vs, rfl, _⟩ := h; rfl
  | obj ks xs => obtain ⟨a, dx, vs, rfl, _⟩ := h; rfl
  | scr ns => obtain ⟨a, rfl, _⟩ := h; rfl
theorem pd_isN {j pos'} (ha : PE X a (tV P F0 H0 W fa)) : PC X .Is a (.Constant .none j pos') (tE P F0 H0 W (fun ρ => do let x ← fa ρ; .ok (.bl (isNone x)))) := ⟨fun pins s σ H Q I h => (pc_isN ha).run pins s σ H Q I (by
  obtain ⟨F, ρ, er, z⟩ := h
  refine ⟨F, ρ, er, (PostG.bind (rel := rVw P) z).imp ?_⟩
  rintro v H1 ⟨F1, d, g, i, q⟩
  have e : decide (v = .non) = isNone d := Vw.non i
  rw [e]
  exact q.here g.s is_bl)⟩
theorem pd_notN {j pos'} (ha : PE X a (tV P F0 H0 W fa)) : PC X .IsNot a (.Constant .none j pos') (tE P F0 H0 W (fun ρ => do let x ← fa ρ; .ok (.bl (!isNone x)))) := ⟨fun pins s σ H Q I h => (pc_notN ha).run pins s σ H Q I (by
  obtain ⟨F, ρ, er, z⟩ := h
  refine ⟨F, ρ, er, (PostG.bind (rel := rVw P) z).imp ?_⟩
  rintro v H1 ⟨F1, d, g, i, q⟩
  have e : decide (v = .non) = isNone d := Vw.non i
  rw [e]
  exact q.here g.s is_bl)⟩
/-! ### built-ins -/
theorem VwL.uncons {d : D} {ds : List D} {vs : List V} (h : VwL P F H (d :: ds) vs) : ∃ v r, vs = v :: r ∧ Vw P F H d v ∧ VwL P F H ds r := h
theorem VwL.unnil {vs : List V} (h : VwL P F H [] vs) : vs = [] := h
def cAbs : List D → Option D
  | [.int i] => some (.int (if i < 0 then -i else i))
  | _ => none
theorem ic_abs : CallR X (.builtin "abs") (rcO P cAbs) := fun pins s σ H xs us Q I rx ⟨F, ds, d, e, i, hd, q⟩ => by
  unfold cAbs at hd
  split at hd
  · cases hd
    obtain ⟨v, r, rfl, i1, i⟩ := i.uncons
    obtain rfl := i.unnil
    exact call_abs pins s σ H _ us Q I rx ⟨_, by rw [show v = V.int _ from i1], q.int e⟩
  · cases hd
def cInt : List D → Option D
  | [.int i] => some (.int i)
  | [.bl b] => some (.int (if b then 1 else 0))
  | _ => none
theorem ic_int : CallR X (.type "int") (rcO P cInt) := fun pins s σ H xs us Q I rx ⟨F, ds, d, e, i, hd, q⟩ => by
  unfold cInt at hd
  split at hd
  · cases hd
    obtain ⟨v, r, rfl, i1, i⟩ := i.uncons
    obtain rfl := i.unnil
    exact call_int1 pins s σ H _ us Q I rx (.inl ⟨_, by rw [show v = V.int _ from i1], q.int e⟩)
  · cases hd
    obtain ⟨v, r, rfl, i1, i⟩ := i.uncons
    obtain rfl := i.unnil
    exact call_int1 pins s σ H _ us Q I rx (.inr ⟨_, by rw [show v = V.bl _ from i1], q.int e⟩)
  · cases hd
def cLen : List D → Option D
  | [.lst xs] => some (.int (xs.length : Nat))
  | [.tup xs] => some (.int (xs.length : Nat))
  | [.str z] => if z.length ≤ 1000000 then some (.int (z.length : Nat)) else none
  | _ => none
theorem ic_len : CallR X (.builtin "len") (rcO P cLen) := fun pins s σ H xs us Q I rx ⟨F, ds, d, e, i, hd, q⟩ => by
  unfold cLen at hd
  split at hd
  · cases hd
    obtain ⟨v, r, rfl, i1, i⟩ := i.uncons
    obtain rfl := i.unnil
    obtain ⟨a, vs, rfl, h1, h2⟩ := i1
    exact call_len_seq pins s σ H _ us Q I rx ⟨a, vs, rfl, .inl (.inl h1), by rw [← h2.length]; exact q.int e⟩
  · cases hd
    obtain ⟨v, r, rfl, i1, i⟩ := i.uncons
    obtain rfl := i.unnil
    obtain ⟨a, vs, rfl, h0, h1, h2⟩ := i1
    exact call_len_seq pins s σ H _ us Q I rx ⟨a, vs, rfl, .inr (.inl h1), by rw [← h2.length]; exact q.int e⟩
  · split at hd
    · rename_i hl
      cases hd
      obtain ⟨v, r, rfl, i1, i⟩ := i.uncons
      obtain rfl := i.unnil
      exact call_len_str pins s σ H _ us Q I rx ⟨_, by rw [show v = V.str _ from i1], Nat.le_trans hl (by decide), q.int e⟩
    · cases hd
  · cases hd
/-- bools -/
def bls : List D → Option (List Bool)
  | [] => some []
  | .bl b :: r => (bls r).map fun bs => b :: bs
  | _ => none
theorem bls_of : ∀ {ds : List D} {bs : List Bool} {vs : List V}, bls ds = some bs → IsL P F ds vs → vs = bs.map V.bl
  | [], bs, vs, h, i => by
    cases h
    exact i.unnil
  | d :: r, bs, vs, h, i => by
    obtain ⟨v, r', rfl, i1, i2⟩ := i.uncons
    cases d with
    | bl b =>
      have h' : (bls r).map (fun bs => b :: bs) = some bs := h
      cases hr : bls r with
      | none => rw [hr] at h'; cases h'
      | some bs' =>
        rw [hr] at h'
        cases h'
        rw [un_bl i1, bls_of hr i2]
        rfl
    | _ => cases h
def cAny : List D → Option D
  | [.lst xs] => (bls xs).map fun bs => .bl (bs.any id)
  | _ => none
def cAll : List D → Option D
  | [.lst xs] => (bls xs).map fun bs => .bl (bs.all id)
  | _ => none
theorem ic_any (hc : X.calm = true) : CallR X (.builtin "any") (rcO P cAny) := fun pins s σ H xs us Q I rx ⟨F, ds, d, e, i, hd, q⟩ => by
  unfold cAny at hd
  split at hd
  · rename_i ys
    cases hb : bls ys with
    | none => rw [hb] at hd; cases hd
    | some bs =>
      rw [hb] at hd
      cases hd
      obtain ⟨v, r, rfl, i1, i⟩ := i.uncons
      obtain rfl := i.unnil
      obtain ⟨a, vs, rfl, h1, h2⟩ := i1
      exact cr_any hc pins s σ H _ us Q I rx ⟨a, bs, rfl, by rw [← bls_of hb h2]; exact .inl h1, q.bl e⟩
  · cases hd
theorem ic_all (hc : X.calm = true) : CallR X (.builtin "all") (rcO P cAll) := fun pins s σ H xs us Q I rx ⟨F, ds, d, e, i, hd, q⟩ => by
  unfold cAll at hd
  split at hd
  · rename_i ys
    cases hb : bls ys with
    | none => rw [hb] at hd; cases hd
    | some bs =>
      rw [hb] at hd
      cases hd
      obtain ⟨v, r, rfl, i1, i⟩ := i.uncons
      obtain rfl := i.unnil
      obtain ⟨a, vs, rfl, h1, h2⟩ := i1
      exact cr_all hc pins s σ H _ us Q I rx ⟨a, bs, rfl, by rw [← bls_of hb h2]; exact .inl h1, q.bl e⟩
  · cases hd
/-! ### isinstance -/
/-- what the text says of an own class, for isinstance -/
structure IsiC (K : PySem.W.Frag) (C : Addr) : Prop where
  cl : Cls K C
  ha : PySem.W.findIn K (.ref C) "__class__" = some (some (.builtin "object.__class__"))
  hn : PySem.W.specialIn K (.builtin "object.__class__") "__get__" = some (some (.builtin "getset_descriptor.__get__"))
  htk : PySem.W.takesIn K (.builtin "object.__class__") = some true
  hm : PySem.W.mroIn K C (.type "object") = some true
/-- the type of data -/
def tyD (P : Pm) : D → Value
  | .non => .type "NoneType"
  | .bl _ => .type "bool"
  | .int _ => .type "int"
  | .str _ => .type "str"
  | .lst _ => .type "list"
  | .tup _ => .type "tuple"
  | .dK _ _ => .type "dict"
  | .dT _ _ => .type "dict"
  | .obj c _ => .ref (P.C c)
  | .scr _ => .type "list"
theorem Vw.ty {K : PySem.W.Frag} (hI : ∀ c, IsiC K (P.C c)) {d : D} {v : V} (h : Vw P F H d v) (hs : ∀ ns, d ≠ .scr ns) : TyX K H v (tyD P d) := by
  cases d with
  | non => rw [show v = .non from h]; exact .base .non
  | bl b => rw [show v = .bl b from h]; exact .base (.bl b)
  | int b => rw [show v = .int b from h]; exact .base (.int b)
  | str b => rw [show v = .str b from h]; exact .base (.str b)
  | lst xs =>
    obtain ⟨a, vs, rfl, h1 | ⟨o, h1⟩, _⟩ := h
    · exact .base (.lst h1)
    · exact .base (.frz h1)
  | tup xs =>
    obtain ⟨a, vs, rfl, _, h1 | ⟨o, h1⟩, _⟩ := h
    · exact .base (.tup h1)
    · exact .fTuple h1
  | dK ks xs =>
    obtain ⟨a, vs, rfl, h1 | ⟨o, h1⟩, _⟩ := h
    · exact .base (.dK h1)
    · exact .fDict h1
  | dT ks xs =>
    obtain ⟨a, vs, rfl, h1, _⟩ := h
    exact .base (.dT h1)
  | obj c xs =>
    obtain ⟨a, dx, vs, rfl, h1, _⟩ := h
    exact .base (.ins h1 (hI c).cl (hI c).ha (hI c).hn (hI c).htk (hI c).hm)
  | scr ns => exact absurd rfl (hs ns)
end
end DL
namespace PySem
namespace ErrX
open PySem.W PySem.Calls PyProof.Rows PySem.HandSPX
/-! ### an own error over ListError over ValueError: super().__init__('..'); self.f = v -/
abbrev iArgs (f : Str) (p1 p2 : Pos) : Arguments := { posonlyargs := [], args := [{ arg := "self", annotation := none, pos := p1 }, { arg := f, annotation := none, pos := p2 }], vararg := none, kwonlyargs := [], kw_defaults := [], kwarg := none, defaults := [] }
abbrev iSuper (msg : Str) (j : Nat) (q0 q1 q2 q3 q4 q5 : Pos) : Stmt := .Expr (.Call (.Attribute (.Call (.Name "super" q0) [] [] q1) "__init__" q2) [.Constant (.str msg) j q3] [] q4) q5
abbrev iSet (f : Str) (r1 r2 r3 r4 : Pos) : Stmt := .Assign [.Attribute (.Name "self" r1) f r2] (.Name f r3) r4
abbrev iSc (f : Str) : Scope := { kind := .function, names := [(PySem.Str.ofString "self", .local), (f, .local), (PySem.Str.ofString "__class__", .free), (PySem.Str.ofString "super", .globalImplicit)], isGenerator := false, isCoroutine := false, more := [] }
/-- what the text of __init__ shows by itself (rfl, each) -/
structure ErrEv (fd : FuncData) (fI : Addr) (f msg : Str) (j : Nat) (q0 q1 q2 q3 q4 q5 r1 r2 r3 r4 : Pos) : Prop where
  he : ∃ pl : Sem Bool, ∀ L : Addr, eval (.Call (.Attribute (.Call (.Name "super" q0) [] [] q1) "__init__" q2) [.Constant (.str msg) j q3] [] q4) (callEnv fd L fI) = (do
      let ov ← attributeBase (.Call (.Name "super" q0) [] [] q1) "__init__" (callEnv fd L fI) (eval (.Call (.Name "super" q0) [] [] q1) (callEnv fd L fI))
      standAt q2.atName
      let (f, first) ← holding [ov] (getMethod ov "__init__" pl)
      callWith q4 f first (backTo q4 (starEach [.Constant (.str msg) j q3] (callEnv fd L fI))) [])
  hi : ∀ L : Addr, interactive (callEnv fd L fI) = false
  hs : ∀ L : Addr, swapsWith (.Call (.Attribute (.Call (.Name "super" q0) [] [] q1) "__init__" q2) [.Constant (.str msg) j q3] [] q4) none q5.line (callEnv fd L fI) = pure false
  hs2 : ∀ L : Addr, swapsWith (.Name f r3) (some (.Attribute (.Name "self" r1) f r2)) r4.line (callEnv fd L fI) = pure false
  st : ∀ L : Addr, starEach [.Constant (.str msg) j q3] (callEnv fd L fI) = (false, eval (.Constant (.str msg) j q3) (callEnv fd L fI)) :: starEach [] (callEnv fd L fI)
  bind : ∀ u v : Value, bindArgs fd ⟨[u, v], []⟩ = pure [(("self" : Str), u), (f, v)]
/-- what the text says of such a class at C: f its field, msg its message, x its name -/
structure ErrTxt (prog : Program) (K : Frag) (mg : Str → Option Value) (x f : Str) (C fI : Addr) : Prop where
  gC : mg x = some (.ref C)
  cls : ∃ nm q N bs bm sn sub ab col dd k0 k1 k2 k3 k5, K.lookup C = some (excClassObj nm q C N bs bm true sn sub ab col dd k0 k1 k2 k3 k5 "ValueError.__new__") ∧ refsVE bm = true
  sa : findIn K (.ref C) "__setattr__" = some (some (.builtin "object.__setattr__"))
  ga : findIn K (.ref C) "__getattribute__" = some (some (.builtin "BaseException.__getattribute__"))
  gg : findIn K (.ref C) "__getattr__" = some none
  noN : findIn K (.ref C) f = some none
  iC : findIn K (.ref C) "__init__" = some (some (.ref fI))
  tC : typeIn K (.ref fI) = some (.type "function")
  kC : keepIn K (.ref C) = true
  exC : subIn K (.ref C) (.type "BaseException") = some true
  veC : subIn K (.ref C) (.type "ValueError") = some true
  tyC : typeIn K (.ref C) = some (.type "type")
  hdC : hasDictIn K C = true
  mro : mroIn K C (.ref C) = some true
  sup : ks_superIn K C C "__init__" = some (some (.builtin "ValueError.__init__"))
  opq : nsIn K cStatics "thirdparty.any" = some none
  hsup : mg "super" = none
  htop : (prog.main.scope.names.lookup ("super" : Str)).isSome = false
  fn : ∃ (oc : Value) (od : Option Addr) (q msg : Str) (j : Nat) (doc pm : Value) (an : Option Addr) (ct : Value) (osl : Array (Option Value)) (cc cda : Addr) (p1 p2 q0 q1 q2 q3 q4 q5 r1 r2 r3 r4 : Pos) (ccl cl : Value) (cdd cld : Option Addr) (vs : Array Value) (ccs csl : Array (Option Value)) (file : Str) (tf : Tok),
    K.lookup fI = some ⟨oc, od, .func (ksFn "__init__" q (iArgs f p1 p2) [iSuper msg j q0 q1 q2 q3 q4 q5, iSet f r1 r2 r3 r4] (iSc f) .none .none doc pm an (.ref cda) ct cc), osl⟩ ∧ codeIn K (.ref cda) q = true ∧
    K.lookup cda = some ⟨ccl, cdd, .fields vs, ccs⟩ ∧ vs[2]? = some (.str file tf) ∧ ((prog.main.file : Str) == file) = true ∧ K.lookup cc = some ⟨cl, cld, .cell (some (.ref C)), csl⟩ ∧
    ErrEv (ksFn "__init__" q (iArgs f p1 p2) [iSuper msg j q0 q1 q2 q3 q4 q5, iSet f r1 r2 r3 r4] (iSc f) .none .none doc pm an (.ref cda) ct cc) fI f msg j q0 q1 q2 q3 q4 q5 r1 r2 r3 r4
/-- what __init__ leaves of a fresh exception at x -/
structure InitEnd (h h' : Heap) (x C dx t1 : Addr) (f : Str) (v : Value) : Prop where
  keep : ∀ b o, b ≠ x → h.get? b = some o → h'.get? b = some o
  obj : h'.get? x = some { cls := .ref C, dict := some dx, data := .fields #[.ref t1, .none, .none, .none, .bool false, .none] }
  dbig : h.objs.size ≤ dx
  dne : dx ≠ x
  ns : h'.Ns1 dx (fun y => if y = f then some v else none)
/-- a made error -/
structure OwnMade (h h' : Heap) (e C d : Addr) (f : Str) (v : Value) : Prop where
  keep : ∀ b o, h.get? b = some o → h'.get? b = some o
  new : h.objs.size ≤ e
  obj : ∃ oe vs, h'.get? e = some oe ∧ oe.cls = .ref C ∧ oe.dict = some d ∧ oe.data = .fields vs ∧ vs[1]? = some .none
  dbig : h.objs.size ≤ d
  dne : d ≠ e
  ns : h'.Ns1 d (fun y => if y = f then some v else none)
section
variable {prog : Program} {w : World} {A : Around} {E : Value → Shared → Prop} {h : Heap} {g : Array GenState} {d : Drawn} {t : Nat} {os : OsState}
variable {nm q : Str} {C N : Addr} {bs bm : List Value} {hdct : Bool} {sn : List Str} {sub : List Value} {ab : Bool} {col : Option Bool} {dd : Option Addr} {k0 k1 k2 k3 k5 : Option Value}
/-- the bound ValueError.__init__ is called -/
theorem call_mw {u e t0 : Addr} {rest : List Value} {Q : Value → Shared → Prop}
    (hC : h.get? C = some (excClassObj nm q C N bs bm hdct sn sub ab col dd k0 k1 k2 k3 k5 "ValueError.__new__")) (he : h.get? e = some (excO C t0)) (hu : h.get? u = some (kxs_mw "ValueError.__init__" e)) (hrest : rest.length ≤ sizeLine)
    (hq : ∀ h' t1, (∀ b o, b ≠ e → h.get? b = some o → h'.get? b = some o) → h'.get? e = some (excO C t1) → Q .none ⟨h', g, d, t, os⟩) :
    wpAny (model prog w) A (call (.ref u) rest) Q E ⟨h, g, d, t, os⟩ := by
  refine wpAny_call (codeAny_of_tree ?_)
  show wpAny _ A.in1 (callAny (.ref u) ⟨rest, []⟩) _ _ _
  simp only [callAny]
  refine wpAny_bind (wpAny_load hu ?_)
  simp only [kxs_mw, show (Value.type "method-wrapper" == Value.type "method" || Value.type "method-wrapper" == Value.type "builtin_function_or_method" || Value.type "method-wrapper" == Value.type "method-wrapper") = true by decide, if_true]
  refine W.KFB.if_so (by decide) ?_
  refine wpAny_bind (PySem.W.check_bound_init F.excBase_ValueError.toExcCallFacts hC he rfl ?_)
  refine wpAny_bind (wpAny_pure (wpAny_pure ?_))
  refine ⟨Code.quiet_builtin _ (by decide +kernel), codeAny_builtin F.excBase_ValueError.initEntry ?_⟩
  rw [Around.under_plainId F.excBase_ValueError.init.plain _]
  wp_walk
  refine hq _ h.objs.size (fun b o hb ho => ?_) ?_
  · rw [Heap.get?_update_other _ _ (Ne.symm hb)]
    exact Heap.get?_push_of_some _ ho
  · rw [Heap.get?_update_self _ (Heap.get?_push_of_some _ he) rfl]
    rfl
end
section
variable {prog : Program} {w : World} {A : Around} {E : Value → Shared → Prop} {R : Result → Shared → Prop} {s : Shared} {K : Frag} {mg mb : Str → Option Value} {C fI : Addr} {xn f : Str}
theorem at_of {M : Model} {c : Code} {α : Type} {t : Sem α} {Q : α → Shared → Prop} (h : wpAny M A t Q E s) : _root_.PySem.wpAt M A c t Q E s := fun Γ p _ hΓ => h Γ p hΓ
theorem err_init (T : ErrTxt prog K mg xn f C fI) (hfs : ¬ f = "self") (hfc : ¬ f = "__class__") (hfp : ¬ f = "super") (hfd : (f == ("__debug__" : Str)) = false) {x t0 : Addr} {v : Value} (X : K.In s.heap) (G : s.heap.Ns mainGlobals mg) (GB : s.heap.Ns builtinsNs mb) (hmb : mb "super" = some (.type "super")) (hlim : s.heap.NoLimit) (hx : s.heap.get? x = some (excO C t0)) (hnx : K.lookup x = none) (hroom : A.depth < recursionLimit)
    (hq : ∀ h' tk dx t1, InitEnd s.heap h' x C dx t1 f v → R (.ok (.ret .none)) { s with heap := h', toks := tk }) :
    codeAny (model prog w) A (.call (.ref fI) ⟨[.ref x, v], []⟩) R s := by
  obtain ⟨oc, od, q, msg, j, doc, pm, an, ct, osl, cc, cda, p1, p2, q0, q1, q2, q3, q4, q5, r1, r2, r3, r4, ccl, cl, cdd, cld, vs, ccs, csl, file, tf, ho, hcd, hcode, hvs, hfile, hcell, hev⟩ := T.fn
  obtain ⟨nm, qq, N, bs, bm, sn, sub, ab, col, dd, k0, k1, k2, k3, k5, hC, hbm⟩ := T.cls
  have hcl : clsIn K C = some { name := nm, bases := bs, mro := .ref C :: bm, ns := N, qualname := qq, hasDict := true, slotNames := sn, subclasses := sub, abstract := ab, collection := col, hasDel := false } := by unfold clsIn; rw [hC] <;> rfl
  have l1 : (iSc f).names.lookup ("self" : Str) = some .local := by simp [iSc, List.lookup]
  have hfs' : (f == ("self" : Str)) = false := beq_eq_false_iff_ne.mpr hfs
  have hfc' : (("__class__" : Str) == f) = false := beq_eq_false_iff_ne.mpr (Ne.symm hfc)
  have hfp' : (("super" : Str) == f) = false := beq_eq_false_iff_ne.mpr (Ne.symm hfp)
  have l2 : (iSc f).names.lookup f = some .local := by simp [iSc, List.lookup, hfs']
  have c1 : (("__class__" : Str) == ("self" : Str)) = false := by decide
  have c2 : (("super" : Str) == ("self" : Str)) = false := by decide
  have c3 : (("super" : Str) == ("__class__" : Str)) = false := by decide
  have l3 : (iSc f).names.lookup ("__class__" : Str) = some .free := by simp [iSc, List.lookup, c1, hfc']
  have l4 : (iSc f).names.lookup ("super" : Str) = some .globalImplicit := by simp [iSc, List.lookup, c2, c3, hfp']
  refine ks_codeAny_call_defAt (fd := ksFn "__init__" q (iArgs f p1 p2) [iSuper msg j q0 q1 q2 q3 q4 q5, iSet f r1 r2 r3 r4] (iSc f) .none .none doc pm an (.ref cda) ct cc) (body := [iSuper msg j q0 q1 q2 q3 q4 q5, iSet f r1 r2 r3 r4]) (binds := [("self", .ref x), (f, v)]) hroom (X _ _ ho) rfl hlim (codeRec_of X hcd) rfl (BindsTo.of_eq (hev.bind _ _)) ?_ ?_ (fun h₁ hns hk₁ => ?_)
  · intro y hy
    have hy' : y ∈ (iSc f).names := hy
    simp only [iSc, List.mem_cons, List.not_mem_nil, or_false] at hy'
    rcases hy' with rfl | rfl | rfl | rfl <;> (intro z; cases z)
  · intro y hy
    simp only [List.mem_cons, List.not_mem_nil, or_false] at hy
    rcases hy with rfl | rfl
    · exact l1
    · exact l2
  · have nself : (fun y => [(("self" : Str), Value.ref x), (f, v)].reverse.lookup y) "self" = some (.ref x) := by
      have : (("self" : Str) == f) = false := beq_eq_false_iff_ne.mpr (Ne.symm hfs)
      simp [List.lookup, this]
    have nf : (fun y => [(("self" : Str), Value.ref x), (f, v)].reverse.lookup y) f = some v := by simp [List.lookup]
    generalize hm : (fun y => [(("self" : Str), Value.ref x), (f, v)].reverse.lookup y) = m at hns nself nf
    have X₁ : K.In h₁ := X.keeps hk₁
    have hx₁ := hk₁ _ _ hx
    have hxL : s.heap.objs.size ≠ x := Nat.ne_of_gt (Heap.lt_size hx)
    obtain ⟨hp, gn, dr, tk, os⟩ := s
    -- super().__init__('..')
    obtain ⟨pl, he⟩ := hev.he
    refine ks_wpAt_execs_cons (ks_wpAt_Expr_any (ks_wpAt_MethodCall (pl := pl) ?_ (he _)) (hev.hi _) (hev.hs _))
    · refine ks_wpAt_super_base (f := fI) (cc := cda) l4 l3 (by decide) rfl (X₁ _ _ ho) rfl rfl rfl (X₁ _ _ hcode) rfl hvs hfile T.htop ?_
      refine ks_loadName_global rfl l4 (loadGlobal_builtin (G.keeps hk₁) T.hsup (GB.keeps hk₁) hmb ⟨rfl, ?_⟩)
      refine wpAny_loadName_free rfl l3 rfl ⟨_, X₁ _ _ hcell, rfl⟩ ?_
      refine wpAny_loadName_local rfl l1 hns nself ?_
      refine ks_wpAny_isType_cls (X₁ _ _ hC) rfl ⟨rfl, ?_⟩
      refine ks_wpAny_call_super (X₁ _ _ hC) rfl hx₁ rfl (fun c e => by cases e) (looks_mroIn X₁ T.mro) (fun h₂ e2 k₂ => ?_)
      have X₂ : K.In h₂ := X₁.keeps k₂
      have hx₂ := k₂ _ _ hx₁
      have I₂ : InstAt h₂ x (excO C t0) C none := ⟨hx₂, rfl, rfl, trivial⟩
      have hI : Looks (model prog w) h₂ (isInstance (.ref x) (.type "ValueError")) true := I₂.type.andThen (looks_subIn X₂ T.veC)
      have hm2 := T.sup
      unfold ks_superIn at hm2
      rw [hcl] at hm2
      refine kxs_getMethod kxs_ValueError e2 (looks_opaque X₂ T.opq) (l₀ := .ref C :: bm) ?_ rfl X₂ hm2 hI (ks_ne X₂ I₂ hcl) (by decide) ?_
      · exact fun A Q E s k q => wpAny_bind ((looks_clsIn X₂ hcl) A _ E s k (wpAny_pure q))
      show wpAny _ _ (callWith q4 (.ref h₂.objs.size) [] _ []) _ _ _
      refine kxs_callWith (i := "ValueError.__init__") (x := x) (u := h₂.objs.size) ?_ ?_
      · rw [hev.st]
        rfl
      · rw [hev.st]
        refine evalArgs_plain ?_
        refine Calls.spliced_cons (wpAny_Constant_str (x := msg) (k := j) (pos := q3) (Calls.spliced_nil ?_))
        refine ⟨Heap.get?_push_at rfl rfl, ?_⟩
        have kP : ∀ b o, h₂.get? b = some o → (h₂.push (kxs_mw "ValueError.__init__" x)).get? b = some o := fun b o e => Heap.get?_push_of_some _ e
        refine call_mw (t0 := t0) (kP _ _ (X₂ _ _ hC)) (kP _ _ hx₂) (Heap.get?_push_at rfl rfl) (by show 1 ≤ sizeLine; decide) fun h₃ t1 k₃ hx₃ => ?_
        show _root_.PySem.wpAt _ _ _ (execs _ _) _ _ _
        -- self.f = v
        have keep0 : ∀ b o, b ≠ x → hp.get? b = some o → h₃.get? b = some o := fun b o hb e => k₃ b o hb (kP _ _ (k₂ _ _ (hk₁ _ _ e)))
        have keep1 : ∀ b o, b ≠ x → h₁.get? b = some o → h₃.get? b = some o := fun b o hb e => k₃ b o hb (kP _ _ (k₂ _ _ e))
        have X₃ : K.In h₃ := fun a o e => k₃ a o (fun z => by rw [z, hnx] at e; cases e) (kP _ _ (X₂ a o e))
        have hns₃ : h₃.Ns hp.objs.size m := by
          obtain ⟨oL, es, ep, hL, r⟩ := hns
          exact ⟨oL, es, ep, keep1 _ _ hxL hL, r⟩
        refine ks_wpAt_execs_cons (ks_wpAt_Assign_Attr (at_of ?_) (hev.hs2 _))
        refine wpAny_Name (wpAny_loadName_local rfl l2 hns₃ nf ?_) hfd
        refine wpAny_Name (wpAny_loadName_local rfl l1 hns₃ nself ?_) (by decide)
        refine set_plain X₃ (ox := excO C t1) (od := none) ⟨hx₃, rfl, rfl, trivial⟩ T.sa ?_
        refine exc_osa X₃ hx₃ hcl (show refsVE (.ref C :: bm) = true from hbm) rfl T.noN (fun h₄ tk₄ dx k₄ dn dne hx₄ hn₄ => ?_)
        show _root_.PySem.wpAt _ _ _ (execs _ _) _ _ _
        refine at_of (wpAny_execs_nil ?_)
        refine hq h₄ tk₄ dx t1 ⟨fun b o hb e => k₄ b o hb (keep0 b o hb e), hx₄, ?_, dne, hn₄⟩
        have z1 : hp.objs.size < h₃.objs.size := hns₃.lt
        exact Nat.le_of_lt (Nat.lt_of_lt_of_le z1 dn)
end
end ErrX
end PySem
namespace PySem
namespace ErrX
open PySem.W PySem.Calls PyProof.Rows PySem.HandSPX
section
variable {prog : Program} {w : World} {A : Around} {E : Value → Shared → Prop} {R : Result → Shared → Prop} {s : Shared} {K : Frag} {mg mb : Str → Option Value} {C fI : Addr} {xn f : Str}
/-- f is a plain name -/
structure FldOk (f : Str) : Prop where
  ns : ¬ f = "self"
  nc : ¬ f = "__class__"
  np : ¬ f = "super"
  nd : (f == ("__debug__" : Str)) = false
theorem err_made (T : ErrTxt prog K mg xn f C fI) (hf : FldOk f) {v : Value} (X : K.In s.heap) (G : s.heap.Ns mainGlobals mg) (GB : s.heap.Ns builtinsNs mb) (hmb : mb "super" = some (.type "super")) (hlim : s.heap.NoLimit) (hroom : A.depth + 1 < recursionLimit)
    (hq : ∀ h' tk e d, OwnMade s.heap h' e C d f v → R (.ok (.ret (.ref e))) { s with heap := h', toks := tk }) :
    codeAny (model prog w) A (.call (.ref C) ⟨[v], []⟩) R s := by
  obtain ⟨nm, qq, N, bs, bm, sn, sub, ab, col, dd, k0, k1, k2, k3, k5, hC, hbm⟩ := T.cls
  obtain ⟨hp, gn, dr, tk, os⟩ := s
  have kq : ∀ b o, hp.get? b = some o → ((hp.push (kdv_tup [v])).push (excO C hp.objs.size)).get? b = some o := fun b o e => Heap.get?_push_of_some _ (Heap.get?_push_of_some _ e)
  have hg2 : ((hp.push (kdv_tup [v])).push (excO C hp.objs.size)).get? (hp.objs.size + 1) = some (excO C hp.objs.size) := by heap_get
  have hnx : K.lookup (hp.objs.size + 1) = none := by
    cases e : K.lookup (hp.objs.size + 1) with
    | none => rfl
    | some o =>
      have z : hp.get? (hp.objs.size + 1) = some o := X _ _ e
      exact absurd (Nat.lt_of_succ_lt (Heap.lt_size z)) (Nat.lt_irrefl _)
  have h1 : [v].length ≤ sizeLine := by show 1 ≤ sizeLine; decide
  refine call_own F.excBase_ValueError (fun Z => refsVE_contains Z bm hbm) (X _ _ hC) (looks_findIn X T.iC) (fun self => bind_fn X self T.tC) h1 ?_
  refine err_init (s := ⟨(hp.push (kdv_tup [v])).push (excO C hp.objs.size), gn, dr, tk, os⟩) T hf.ns hf.nc hf.np hf.nd (X.keeps kq) (G.keeps kq) (GB.keeps kq) hmb (hlim.keeps kq) hg2 hnx ?_ fun h' tk' dx t1 ⟨k', hx, dn, dne, hns⟩ => ?_
  · show A.depth + 1 < recursionLimit
    exact hroom
  · have old : ∀ b o, hp.get? b = some o → h'.get? b = some o := fun b o e => k' b o (Nat.ne_of_lt (Nat.lt_succ_of_lt (Heap.lt_size e))) (kq b o e)
    have z : hp.objs.size + 1 + 1 ≤ dx := by
      first
        | (simpa only [Heap.size_push] using dn)
        | exact dn
        | (have q := dn; rw [Heap.size_push, Heap.size_push] at q; exact q)
    exact ⟨rfl, hq h' tk' (hp.objs.size + 1) dx ⟨old, Nat.le_succ _, ⟨_, _, hx, rfl, rfl, rfl, rfl⟩, Nat.le_trans (Nat.le_trans (Nat.le_succ _) (Nat.le_succ _)) z, dne, hns⟩⟩
end
end ErrX
end PySem
namespace DL
open PySem L2 PySem.ErrX
theorem relO_one {v : V} {v' : Value} {f : Str} (r : RelV v v') (y : Str) : RelO (List.lookup y [(f, v)]) (if y = f then some v' else none) := by
  by_cases hw : y = f
  · subst hw
    rw [if_pos rfl, show List.lookup y [(y, v)] = some v by simp [List.lookup]]
    exact r
  · have qw : (y == f) = false := by simpa using hw
    rw [if_neg hw, show List.lookup y [(f, v)] = none by simp [List.lookup, qw]]
    trivial
section
variable {X : Cx} {C fI : Addr} {xn f : Str}
/-- an own error made of one value -/
def tMkE (C : Addr) (f : Str) (ta : TA) : L2.St → Hp → XK → Prop := fun σ H Q => ta σ H fun vs H1 => ∃ v, vs = [v] ∧ ∀ d, H1 d = none → Q (.ref C) (some d) (upd H1 d (.xd [(f, v)]))
theorem pmk_err {a : Expr} {ta : TA} {p pos : Pos} {k : Nat} (T : ErrTxt X.prog X.K X.mg xn f C fI) (hfo : FldOk f) (hr : Room k X.A) (ha : PA X [a] ta) (hg : Gl X xn) (hdb : (xn == ("__debug__" : Str)) = false)
    (he : starEach (a :: []) X.env = (false, eval a X.env) :: starEach [] X.env := by rfl) (hpl : (backTo pos (starEach [] X.env)).any (·.1) = false := by rfl) :
    PMk X (.Call (.Name xn p) [a] [] pos) (tMkE C f ta) := by
  intro pins s σ H Q I h
  refine wpAny_Call_Name_kw (ld_glob I hg T.gC ?_ hdb)
  refine PySem.W.callWith_K (h₀ := X.base) I.ok.mod.kin T.kC (thn (ha.run pos pins s σ H _ I h) fun us s1 hh => ?_) he hpl
  obtain ⟨vs, H1, I1, r1, v, ev, q1⟩ := hh
  subst ev
  refine ⟨I1.kIn, ?_⟩
  cases r1 with
  | cons rv rn =>
    rename_i v' us'
    cases rn
    show wpAny _ _ (call (.ref C) [v']) _ _ _
    have hlim := I1.nolimit
    obtain ⟨mb, hmb1, hmb2⟩ := I1.ok.mod.blt
    have G1 := I1.ok.mod.glob.keeps I1.bk
    have G2 := hmb1.keeps I1.bk
    obtain ⟨hp, g, dr, tk, os⟩ := s1
    refine wpAny_call (err_made T hfo I1.kIn G1 G2 ((hmb2 "super" (by decide)).trans (by decide +kernel)) hlim (by have := hr.dp; omega) fun h' tk' e d M => ?_)
    show MkP X pins σ Q (.ref e) ⟨h', g, dr, tk', os⟩
    obtain ⟨oe, fv, hoe, hc, hd, hdat, h1⟩ := M.obj
    obtain ⟨G', g1, g2⟩ := restrict h' fun b => decide (b ≠ e)
    have gk : ∀ b, b ≠ e → G'.get? b = h'.get? b := fun b hb => g1 b (decide_eq_true hb)
    have ge : G'.get? e = none := g2 e (by simp)
    have old : ∀ b o, hp.get? b = some o → G'.get? b = some o := fun b o q => (gk b (Nat.ne_of_lt (Nat.lt_of_lt_of_le (Heap.lt_size q) M.new))).trans (M.keep b o q)
    have ob : ObjOk X.prog X.w (upd H1 d (.xd [(f, v)])) G' d (.xd [(f, v)]) := ⟨_, M.ns.at (fun o q => (gk d M.dne).trans q), fun y => relO_one rv y⟩
    have J : Inv X pins σ (upd H1 d (.xd [(f, v)])) ⟨G', g, dr, tk', os⟩ := I1.laid (t' := tk') old M.dbig ob
    refine ⟨e, oe, fv, ⟨G', g, dr, tk', os⟩, _, .ref C, some d, rfl, J, fun b o q => ?_, ge, hoe, ⟨hc, hd⟩, hdat, h1, ?_, rfl, I1.bare, raises_own T.exC T.tyC, q1 d (I1.hok.fresh M.dbig)⟩
    · by_cases hb : b = e
      · have q' : G'.get? b = some o := q
        rw [hb, ge] at q'
        cases q'
      · exact (gk b hb).symm.trans q
    · rw [upd_ne (Ne.symm M.dne)]
      exact I1.hok.fresh M.new
/-- e.f of the error that the suite holds -/
def tFE (C : Addr) (f : Str) (a : Addr) (cls : Value) (d : Option Addr) (te : TE) : TE := fun σ H Q => te σ H fun x H1 => x = .ref a ∧ cls = .ref C ∧ ∃ (dd : Addr) (v : V), d = some dd ∧ H1 dd = some (.xd [(f, v)]) ∧ Q v H1
theorem pe_fe {a : Addr} {oe : Obj} {cls : Value} {d : Option Addr} {pn : List (Addr × Obj)} {e : Expr} {te : TE} {pos : Pos} (T : ErrTxt X.prog X.K X.mg xn f C fI) (hz : Zc cls d oe) (hf : ∃ vs, oe.data = .fields vs) (he : PE (X.suite a ((a, oe) :: pn)) e te)
    (hb : attributeBase e f X.env (eval e X.env) = eval e X.env := by rfl) : PE (X.suite a ((a, oe) :: pn)) (.Attribute e f pos) (tFE C f a cls d te) := by
  refine ⟨fun pins s σ H Q I h => ?_⟩
  refine attr_of hb (thn (he.run pins s σ H _ I h) fun u s1 hh => ?_)
  obtain ⟨x, H1, I1, rx, ex, ec, dd, v, ed, ea, q⟩ := hh
  subst ex
  obtain rfl : u = Value.ref a := rx
  subst ec
  subst ed
  obtain ⟨ha, _⟩ := I1.pin (a, oe) (List.mem_append_left _ List.mem_cons_self)
  obtain ⟨vs, hd⟩ := hf
  obtain ⟨mA, hns, hr⟩ := (I1.hok dd _ ea : ObjOk X.prog X.w H1 s1.heap dd (.xd [(f, v)]))
  obtain ⟨od, ho, hl⟩ := lookIn_ns hns
  obtain ⟨u, hu, ru⟩ := RelO.some_of (v := v) (o := mA f) (by rw [← (show List.lookup f [(f, v)] = some v by simp [List.lookup])]; exact hr f)
  have J : PySem.W.InstAt s1.heap a oe C (some od) := ⟨ha, hz.1, by unfold PySem.W.notCls; rw [hd] <;> rfl, by rw [hz.2]; exact ho⟩
  exact HandSPX.exc_get I1.kIn J T.ga T.gg T.exC (PySem.W.findObj_own T.hdC T.noN rfl (by rw [hl, hu])) (handed_of ru) ⟨v, H1, I1.tok _, ru, q⟩
end
end DL
namespace DL
open PySem L2 PySem.ErrX
section
variable {X : Cx} {P : Pm} {F0 : Fz} {H0 : Hp} {W : WX} {a b c e o : Expr} {es : List Expr} {fa fb fc : Env → Res D} {fs : Env → Res (List D)} {pos p apos : Pos} {st : Stmt} {sts tts : List Stmt} {g g1 g2 : Env → RS}
/-- code that is never come to -/
theorem sd_never : PS X st (tS P F0 H0 W (fun _ => .bad)) := ps_never.imp fun N σ H ⟨F, ρ, er, z⟩ => z
/-- raise Own(e) -/
theorem sd_raise {cn : Nat} {xn f : Str} {C fI : Addr} {k : Nat} {pos2 : Pos} (hc : X.calm = true) (tk : Takes X W) (T : ErrTxt X.prog X.K X.mg xn f C fI) (hxc : P.xc cn = .ref C) (hxf : P.xf cn = f) (hfo : FldOk f) (hr : Room k X.A) (ha : PE X a (tE P F0 H0 W fa)) (hg : Gl X xn) (hdb : (xn == ("__debug__" : Str)) = false)
    (he : starEach (a :: []) X.env = (false, eval a X.env) :: starEach [] X.env := by rfl) (hpl : (backTo pos (starEach [] X.env)).any (·.1) = false := by rfl) :
    PS X (.Raise (some (.Call (.Name xn p) [a] [] pos)) none pos2) (tS P F0 H0 W (fun ρ => bindS (fa ρ) ρ fun d => .err cn (some d) ρ)) :=
  (ps_raise hc tk (pmk_err T hfo hr (pa_cons ha pa_nil he) hg hdb he hpl)).imp fun N σ H ⟨F, ρ, er, z⟩ => by
  refine ⟨F, ρ, er, (PostS.bind (rel := rIs P) er z).imp ?_⟩
  rintro v H1 ⟨F1, d, g, i, q⟩
  refine ⟨v, rfl, fun dct hd => ?_⟩
  have er1 := (er.grow g).grow (Grow.junk g.s (.new hd) : Grow F1 H1 F1 (upd H1 dct (.xd [(f, v)])))
  have := q σ F1 _ (some dct) er1 (.refl F1) ⟨dct, v, rfl, by rw [hxf]; exact upd_same, i⟩
  rw [hxc] at this
  exact this
/-! ### try: body, except X as n: return e -/
def tryD (gb : Env → RS) (c : Nat) (gs : Option D → Env → Res D) : Env → RS := fun ρ => match gb ρ with
  | .err c' p ρ' => if c' = c then bindS (gs p ρ') ρ' .rt else .bad
  | r => r
/-- an expression of a suite that holds the error number c -/
def tX (P : Pm) (F0 : Fz) (H0 : Hp) (c i : Nat) (a : Addr) (cls : Value) (x : Option Addr) (fx : Option D → Env → Res D) : TE := fun σ H Q => ∃ F ρ p, ER P F0 H0 F ρ σ H ∧ σ[i]? = some (some (.ref a)) ∧ cls = P.xc c ∧ ErrAt P F H c p x ∧ PostG P W0 (rIs P) (fx p ρ) F σ H Q
theorem ER.drop {F H : Hp} {ρ : Env} {σ : L2.St} (r : ER P F0 H0 F ρ σ H) (i : Nat) (v : Option V) (h0 : F0.S = none ∨ i ≠ 0) : ER P F0 H0 F (ρ.set i none) (σ.set i v) H where
  g := r.g
  self := fun x hx => by
    rcases h0 with q | q
    · rw [q] at hx
      cases hx
    · rw [List.getElem?_set_ne q]
      exact r.self x hx
  len := by simp [r.len]
  sh := fun j d q => by
    by_cases hj : i = j
    · subst hj
      have hl : i < ρ.length := by simpa using lt_of_get q
      rw [get_set_self hl] at q
      cases q
    · rw [List.getElem?_set_ne hj] at q ⊢
      exact r.sh j d q
  ow := fun j d q => by
    by_cases hj : i = j
    · subst hj
      have hl : i < ρ.length := by simpa using lt_of_get q
      rw [get_set_self hl] at q
      cases q
    · rw [List.getElem?_set_ne hj] at q ⊢
      exact r.ow j d q
  nd := fun j k d e a q1 q2 q3 q4 => by
    by_cases hj : i = j
    · subst hj
      have hl : i < ρ.length := by simpa using lt_of_get q1
      rw [get_set_self hl] at q1
      cases q1
    · by_cases hk : i = k
      · subst hk
        have hl : i < ρ.length := by simpa using lt_of_get q2
        rw [get_set_self hl] at q2
        cases q2
      · rw [List.getElem?_set_ne hj] at q1 q3
        rw [List.getElem?_set_ne hk] at q2 q4
        exact r.nd j k d e a q1 q2 q3 q4
theorem tryD_err {gb : Env → RS} {cn : Nat} {gs : Option D → Env → Res D} {ρ ρ' : Env} {c' : Nat} {p : Option D} (h : gb ρ = .err c' p ρ') : tryD gb cn gs ρ = if c' = cn then bindS (gs p ρ') ρ' .rt else .bad := by
  unfold tryD
  rw [h]
section
variable {gb : Env → RS} {gs : Option D → Env → Res D} {cn i : Nat} {x n : Str} {cv : Value} {np rp pos' : Pos} {body : List Stmt}
theorem PostS.try_ {F : Hp} {ρ : Env} {N : Ends} {ts : Addr → Value → Option Addr → TS} {W' : WX} (z : PostS P F0 H0 W F (tryD gb cn gs ρ) N)
    (hW : ∀ p ρ' σ F' H' x, ER P F0 H0 F' ρ' σ H' → Ex F F' → ErrAt P F' H' cn p x → PostS P F0 H0 W F (bindS (gs p ρ') ρ' .rt) N → W' (P.xc cn) x σ H') : PostS P F0 H0 W' F (gb ρ) N := by
  cases hg : gb ρ with
  | nx ρ' =>
    have e : tryD gb cn gs ρ = .nx ρ' := by unfold tryD; rw [hg]
    rw [e] at z
    exact z
  | rt d =>
    have e : tryD gb cn gs ρ = .rt d := by unfold tryD; rw [hg]
    rw [e] at z
    exact z
  | bk ρ' =>
    have e : tryD gb cn gs ρ = .bk ρ' := by unfold tryD; rw [hg]
    rw [e] at z
    exact z
  | ct ρ' =>
    have e : tryD gb cn gs ρ = .ct ρ' := by unfold tryD; rw [hg]
    rw [e] at z
    exact z
  | bad =>
    have e : tryD gb cn gs ρ = .bad := by unfold tryD; rw [hg]
    rw [e] at z
    exact z
  | err c' p ρ' =>
    rw [tryD_err hg] at z
    by_cases hc : c' = cn
    · rw [if_pos hc] at z
      subst hc
      exact fun σ F' H' y er ex q => hW p ρ' σ F' H' y er ex q z
    · rw [if_neg hc] at z
      exact z.elim
theorem sd_tryAs {te : Expr} (hs : X.stack = X.env :: X.outer) (hf : X.env.frame = some X.env.locals) (hN : X.N.Nodup) (hi : X.N[i]? = some n) (hln : X.env.kindOf n = some .local) (hcv : Names X x cv) (hex : PySem.W.exmOne X.K (P.xc cn) cv = some true) (h0 : F0.S = none := by rfl)
    (hb : ∀ (W : WX) (pn : List (Addr × Obj)) (xe : Value → Shared → Prop), Takes (X.tr pn xe) W → PassesOwn (model X.prog X.w) X.A X.env xe → PSs (X.tr pn xe) body (tS P F0 H0 W gb))
    (hsu : ∀ (a : Addr) (oe : Obj) (cls : Value) (d : Option Addr) (pn : List (Addr × Obj)), Zc cls d oe → (∃ vs, oe.data = .fields vs) → PE (X.suite a ((a, oe) :: pn)) te (tX P F0 H0 cn i a cls d fun p ρ => noErr (gs p ρ)))
    (tk : Takes X (fun _ _ _ _ => False) := by exact L2.takes0) :
    PS X (.Try body [.ExceptHandler (some (.Name x np)) (some n) [.Return (some te) rp] pos'] [] [] pos) (tS P F0 H0 W (tryD gb cn fun p ρ => if i < ρ.length then noErr (gs p (ρ.set i none)) else .bad)) :=
  (ps_try_as (tb := fun W => tS P F0 H0 W gb) (ts := fun a cls d => tRet (tX P F0 H0 cn i a cls d fun p ρ => noErr (gs p ρ))) (Wout := fun _ _ _ _ => False) hs hf hN hi hln hcv tk hb (fun a oe cls d pn hz hd => pss_one (ps_ret (hsu a oe cls d pn hz hd)))).imp fun N σ H ⟨F, ρ, er, z⟩ => by
  refine ⟨F, ρ, er, PostS.try_ (ts := fun _ _ _ => tNext) z ?_⟩
  rintro p ρ' σ' F' H' y er' ex' q z'
  refine ⟨true, hex, fun _ a ha => ?_, fun q => by cases q⟩
  by_cases hl : i < ρ'.length
  · rw [if_pos hl] at z'
    refine ⟨F', ρ'.set i none, p, er'.drop i (some (.ref a)) (.inl h0), get_set_self (er'.len ▸ hl), rfl, q, ?_⟩
    show PostG P W0 (rIs P) (noErr (gs p (ρ'.set i none))) F' _ H' N.rt
    cases hr : gs p (ρ'.set i none) with
    | ok d =>
      rw [hr] at z'
      exact fun v F2 H2 g2 i2 => z' v F2 H2 (er'.g.trans g2) (ex'.trans g2.f) i2
    | err c p =>
      rw [hr] at z'
      exact z'.elim
    | bad =>
      rw [hr] at z'
      exact z'.elim
  · rw [if_neg hl] at z'
    exact z'.elim
/-- except X: return e -/
theorem sd_try {te : Expr} (hs : X.stack = X.env :: X.outer) (hf : X.env.frame = some X.env.locals) (hcv : Names X x cv) (hex : PySem.W.exmOne X.K (P.xc cn) cv = some true) {gt : Env → Res D}
    (hb : ∀ (W : WX) (pn : List (Addr × Obj)) (xe : Value → Shared → Prop), Takes (X.tr pn xe) W → PassesOwn (model X.prog X.w) X.A X.env xe → PSs (X.tr pn xe) body (tS P F0 H0 W gb))
    (hsu : ∀ (a : Addr) (oe : Obj) (cls : Value) (d : Option Addr) (pn : List (Addr × Obj)), Zc cls d oe → (∃ vs, oe.data = .fields vs) → PE (X.suite a ((a, oe) :: pn)) te (tE P F0 H0 W0 gt))
    (tk : Takes X (fun _ _ _ _ => False) := by exact L2.takes0) :
    PS X (.Try body [.ExceptHandler (some (.Name x np)) none [.Return (some te) rp] pos'] [] [] pos) (tS P F0 H0 W (tryD gb cn fun _ ρ => noErr (gt ρ))) :=
  (ps_try_only (tb := fun W => tS P F0 H0 W gb) (ts := fun _ _ _ => tRet (tE P F0 H0 W0 gt)) (Wout := fun _ _ _ _ => False) hs hf hcv tk hb (fun a oe cls d pn hz hd => pss_one (ps_ret (hsu a oe cls d pn hz hd)))).imp fun N σ H ⟨F, ρ, er, z⟩ => by
  refine ⟨F, ρ, er, PostS.try_ (ts := fun _ _ _ => tNext) z ?_⟩
  rintro p ρ' σ' F' H' y er' ex' q z'
  refine ⟨true, hex, fun _ a ha => ?_, fun q => by cases q⟩
  refine ⟨F', ρ', er', ?_⟩
  cases hr : gt ρ' with
  | ok d =>
    rw [hr] at z'
    exact fun v F2 H2 g2 i2 => z' v F2 H2 (er'.g.trans g2) (ex'.trans g2.f) i2
  | err c p =>
    rw [hr] at z'
    exact z'.elim
  | bad =>
    rw [hr] at z'
    exact z'.elim
end
/-! ### what a suite says -/
section
variable {cn i : Nat} {x n f : Str} {ad : Addr} {oe : Obj} {cls : Value} {d : Option Addr} {pn : List (Addr × Obj)} {C fI : Addr}
def payD (p : Option D) : Res D := match p with
  | some d => .ok d
  | none => .bad
theorem xd_fe {p1 pos : Pos} (T : ErrTxt X.prog X.K X.mg x f C fI) (hxc : P.xc cn = .ref C) (hxf : P.xf cn = f) (hz : Zc cls d oe) (hf : ∃ vs, oe.data = .fields vs) (hN : X.N[i]? = some n) (hv : Vis X.env.scope n) (hd : (n == ("__debug__" : Str)) = false := by decide) (hcd : (n == ("__classdict__" : Str)) = false := by decide)
    (hb : attributeBase (.Name n p1) f X.env (eval (.Name n p1) X.env) = eval (.Name n p1) X.env := by rfl) :
    PE (X.suite ad ((ad, oe) :: pn)) (.Attribute (.Name n p1) f pos) (tX P F0 H0 cn i ad cls d fun p _ => noErr (payD p)) :=
  (pe_fe T hz hf (pe_var (X := X.suite ad ((ad, oe) :: pn)) hN hv hd hcd) hb).imp fun σ H Q ⟨F, ρ, p, er, hi, hc, he, z⟩ => by
  cases p with
  | none => exact z.elim
  | some dd =>
    obtain ⟨a1, v, h1, h2, h3⟩ := he
    rw [hxf] at h2
    exact ⟨.ref ad, hi, rfl, hc.trans hxc, a1, v, h1, h2, PostG.here (rel := rIs P) z er.s h3⟩
theorem xd_lift {te : Expr} {gt : Env → Res D} (h : PE (X.suite ad ((ad, oe) :: pn)) te (tE P F0 H0 W0 gt)) : PE (X.suite ad ((ad, oe) :: pn)) te (tX P F0 H0 cn i ad cls d fun _ ρ => noErr (gt ρ)) :=
  h.imp fun σ H Q ⟨F, ρ, p, er, hi, hc, he, z⟩ => ⟨F, ρ, er, PostG.noErr z⟩
/-- (constant, e.f) -/
theorem xd_pair {e1 e2 : Expr} {k : Nat} {pos : Pos} {dv : D} {vv : V} {gx : Option D → Env → Res D} (h1 : PE (X.suite ad ((ad, oe) :: pn)) e1 (tC vv)) (hv : ∀ F, Is P F dv vv) (h2 : PE (X.suite ad ((ad, oe) :: pn)) e2 (tX P F0 H0 cn i ad cls d fun p ρ => noErr (gx p ρ)))
    (hs1 : starEach [e1, e2] X.env = (false, eval e1 X.env) :: starEach [e2] X.env := by rfl) (hs2 : starEach [e2] X.env = (false, eval e2 X.env) :: starEach [] X.env := by rfl) :
    PE (X.suite ad ((ad, oe) :: pn)) (.Tuple [e1, e2] k pos) (tX P F0 H0 cn i ad cls d fun p ρ => noErr (do let y ← gx p ρ; .ok (.tup [dv, y]))) :=
  (pe_tup (pa_cons h1 (pa_cons h2 pa_nil hs2) hs1)).imp fun σ H Q ⟨F, ρ, p, er, hi, hc, he, z⟩ => by
  refine ⟨F, ρ, p, er, hi, hc, he, ?_⟩
  replace z : PostG P W0 (rIs P) (noErr (do let y ← gx p ρ; .ok (.tup [dv, y]))) F σ H Q := z
  show PostG P W0 (rIs P) (noErr (gx p ρ)) F σ H _
  cases hr : gx p ρ with
  | ok y =>
    rw [hr] at z
    intro v F' H' g i2
    refine ⟨by show 2 ≤ sizeLine; decide, fun q hq => ?_⟩
    exact z _ (upd F' q (.tup [vv, v])) _ (g.trans (.new g.s hq)) (by show Is P _ (.tup [dv, y]) _; rw [Is]; exact ⟨q, _, rfl, .inl upd_same, .cons (hv _) (.cons (i2.mono (.new (g.s.back hq)) y) .nil)⟩)
  | err c p =>
    rw [hr] at z
    exact z.elim
  | bad =>
    rw [hr] at z
    exact z.elim
end
end
end DL
namespace DL
open PySem L2 PySem.ErrX
section
variable {X : Cx} {P : Pm} {F0 : Fz} {H0 : Hp} {W : WX} {a b c e o : Expr} {es : List Expr} {fa fb fc : Env → Res D} {fs : Env → Res (List D)} {pos p apos : Pos} {st : Stmt} {sts tts : List Stmt} {g g1 g2 : Env → RS} {F H : Hp} {σ : L2.St}
/-! ### isinstance(e, T) -/
def notScr : D → Bool
  | .scr _ => false
  | _ => true
def isiD (ib : D → Option Bool) (x : D) : Res D := if notScr x = true then (match ib x with
  | some b => .ok (.bl b)
  | none => .bad) else .bad
theorem pd_isi {x2 : Str} {tv : V} {u : Value} {ib : D → Option Bool} {p1 p2 : Pos} (hI : ∀ c, IsiC X.K (P.C c)) (kit : ∀ d b, ib d = some b → PySem.W.kitOne X.K (tyD P d) u = some b) (hcl : ClsV tv u) (ht : PE X (.Name x2 p2) (tC tv)) (ha : PE X a (tV P F0 H0 W fa)) (hg : Gl X "isinstance") (hm : X.mg "isinstance" = none)
    (h1 : starEach [a, .Name x2 p2] X.env = (false, eval a X.env) :: starEach [.Name x2 p2] X.env := by rfl) (h2 : (backTo pos (starEach [.Name x2 p2] X.env)).any (·.1) = false := by rfl) (h3 : starEach [.Name x2 p2] X.env = (false, eval (.Name x2 p2) X.env) :: starEach [] X.env := by rfl) :
    PE X (.Call (.Name "isinstance" p1) [a, .Name x2 p2] [] pos) (tE P F0 H0 W (fun ρ => do let x ← fa ρ; isiD ib x)) :=
  (pe_callB call_isi hg hm (by decide +kernel) (pa_cons ha (pa_cons ht pa_nil h3) h1) (by decide) (by decide) h1 h2).imp fun σ H Q ⟨F, ρ, er, z⟩ => by
  refine ⟨F, ρ, er, (PostG.bind (rel := rVw P) z).imp ?_⟩
  rintro v H1 ⟨F1, d, g, i, q⟩
  unfold isiD at q
  split at q
  · rename_i hns
    cases hb : ib d with
    | none =>
      rw [hb] at q
      exact q.elim
    | some b =>
      rw [hb] at q
      exact ⟨v, tv, _, u, b, rfl, hcl, i.ty hI (fun ns e => by subst e; cases hns), kit d b hb, q.here g.s is_bl⟩
  · exact q.elim
/-! ### self.f = e -/
def setF (nm : Nat → List Str) (f : Str) (ρ : Env) (i : Nat) (d : D) : RS := match ρ[i]? with
  | some (some (.ow (.obj c xs))) => if (nm c)[xs.length]? = some f ∧ xs.length < 100 then .nx (ρ.set i (some (.ow (.obj c (xs ++ [d]))))) else .bad
  | _ => .bad
theorem putF_new {f : Str} {v : V} : ∀ {fs : List (Str × V)}, (∀ q ∈ fs, q.1 ≠ f) → putF f v fs = fs ++ [(f, v)]
  | [], _ => rfl
  | q :: r, h => by
    have h1 := h q List.mem_cons_self
    obtain ⟨k, w⟩ := q
    show (if k = f then (k, v) :: r else (k, w) :: putF f v r) = _
    rw [if_neg h1, putF_new fun z hz => h z (List.mem_cons_of_mem _ hz)]
    rfl
theorem zip_snoc {α β : Type} {v : β} {k : α} : ∀ {ks : List α} {vs : List β}, ks[vs.length]? = some k → ks.zip (vs ++ [v]) = ks.zip vs ++ [(k, v)]
  | [], vs, h => by simp at h
  | k0 :: ks, [], h => by
    simp at h
    subst h
    simp
  | k0 :: ks, v0 :: vs, h => by
    simp at h
    simp [zip_snoc h]
theorem sd_fld {i : Nat} {x f : Str} {p1 pos' : Pos} (hcl : ∀ c, f ∈ P.nm c → Cls X.K (P.C c) ∧ NoAttr X.K (P.C c) f) (hnd : ∀ c, (P.nm c).Nodup) (hv : PE X e (tE P F0 H0 W fa)) (hN : X.N[i]? = some x := by rfl) (hvi : Vis X.env.scope x := by first | exact Or.inl rfl | exact Or.inr (Or.inl rfl) | exact Or.inr (Or.inr rfl)) (hd : (x == ("__debug__" : Str)) = false := by decide)
    (hcd : (x == ("__classdict__" : Str)) = false := by decide) (hs : swapsWith e (some (.Attribute (.Name x p1) f pos')) pos.line X.env = pure false := by rfl) :
    PS X (.Assign [.Attribute (.Name x p1) f pos'] e pos) (tS P F0 H0 W (fun ρ => bindS (fa ρ) ρ fun d => setF P.nm f ρ i d)) := (ps_fld (pe_var hN hvi hd hcd) hv hs).imp fun N σ H ⟨F, ρ, er, z⟩ => by
  refine ⟨F, ρ, er, (PostS.bind (rel := rIs P) er z).imp ?_⟩
  rintro v H1 ⟨F1, d, g, j, z1⟩
  unfold setF at z1
  split at z1
  · rename_i c xs q
    obtain ⟨ad, h1, h2, h3, dx, vs, h4, h5, h6⟩ := (er.grow g).ow i _ q
    split at z1
    · rename_i hk
      have hk1 : (P.nm c)[vs.length]? = some f := by rw [← h6.length]; exact hk.1
      obtain ⟨k1, k2⟩ := hcl c (List.mem_of_getElem? hk1)
      refine ⟨.ref ad, h1, ad, P.C c, dx, _, rfl, h4, k1, k2, ?_, ?_⟩
      · rw [List.length_zip, ← h6.length]
        exact Nat.lt_of_le_of_lt (Nat.min_le_right _ _) (Nat.lt_trans hk.2 (by decide))
      · have e1 : putF f v ((P.nm c).zip vs) = (P.nm c).zip (vs ++ [v]) := by
          rw [zip_snoc hk1]
          refine putF_new fun q hq hqf => ?_
          obtain ⟨n, hn⟩ := List.getElem?_of_mem hq
          rw [List.getElem?_zip_eq_some] at hn
          have hlt : n < vs.length := lt_of_get hn.2
          have e3 : (P.nm c)[n]? = some f := by rw [hn.1, hqf]
          have : n = vs.length := nodup_ix (hnd c) e3 hk1
          omega
        rw [e1]
        refine z1 σ F1 _ ((er.grow g).mut q h1 ⟨dx, vs ++ [v], upd_same, ?_, h6.append (.cons j .nil)⟩) (.refl F1)
        have := lt_of_get hk1
        simp
        omega
    · exact z1.elim
  · exact z1.elim
/-! ### texts -/
def small2 (n m : Nat) : Bool := decide (n + m ≤ 1000000)
/-- + of ints, texts, lists, tuples -/
def addD : D → D → Option D
  | .int i, .int j => some (.int (i + j))
  | .str x, .str y => if small2 x.length y.length = true then some (.str (x ++ y)) else none
  | _, _ => none
theorem io_addS : OpR X (binaryOp .Add) (r2O P addD) := fun pins s σ H x y u v Q I rx ry ⟨F, dx, dy, d, e, i1, i2, hd, q⟩ => by
  unfold addD at hd
  split at hd
  · cases hd
    exact op_add pins s σ H x y u v Q I rx ry ⟨_, _, i1, i2, q.int e⟩
  · split at hd
    · rename_i hz
      cases hd
      exact op_add_str pins s σ H x y u v Q I rx ry ⟨_, _, i1, i2, Nat.le_trans (of_decide_eq_true hz) (by decide), q.str e⟩
    · cases hd
  · cases hd
/-- list + list: a new list -/
def catD : D → D → Option D
  | .lst xs, .lst ys => if small2 xs.length ys.length = true then some (.lst (xs ++ ys)) else none
  | _, _ => none
theorem notIn_sign {c : Nat} {z : Str} : True := trivial
def inS : D → D → Option D
  | .str ⟨cs⟩, .str z => match cs.toList with
    | [c] => some (.bl (decide (c ∈ z.cps.toList)))
    | _ => none
  | _, _ => none
def notInS : D → D → Option D
  | .str ⟨cs⟩, .str z => match cs.toList with
    | [c] => some (.bl (!decide (c ∈ z.cps.toList)))
    | _ => none
  | _, _ => none
theorem arr_one {cs : Array Nat} {c : Nat} (h : cs.toList = [c]) : cs = #[c] := by
  cases cs
  simp at h
  subst h
  rfl
theorem io_inS : OpR X (compareOp .In) (r2O P inS) := fun pins s σ H x y u v Q I rx ry ⟨F, dx, dy, d, e, i1, i2, hd, q⟩ => by
  unfold inS at hd
  split at hd
  · split at hd
    · rename_i c hc
      cases hd
      have := arr_one hc
      subst this
      exact op_in_sign pins s σ H x y u v Q I rx ry ⟨c, _, i1, i2, q.bl e⟩
    · cases hd
  · cases hd
theorem io_notInS : OpR X (compareOp .NotIn) (r2O P notInS) := fun pins s σ H x y u v Q I rx ry ⟨F, dx, dy, d, e, i1, i2, hd, q⟩ => by
  unfold notInS at hd
  split at hd
  · split at hd
    · rename_i c hc
      cases hd
      have := arr_one hc
      subst this
      exact op_notIn_sign pins s σ H x y u v Q I rx ry ⟨c, _, i1, i2, q.bl e⟩
    · cases hd
  · cases hd
/-! ### slices of texts and lists -/
abbrev rOp : Rel (Option Int) (Option Int) := fun _ _ d v => v = d
abbrev tOp' (P : Pm) (F0 : Fz) (H0 : Hp) (W : WX) (f : Env → Res (Option Int)) : TO := tG P F0 H0 W rOp f
def ptI : D → Res (Option Int)
  | .int i => .ok (some i)
  | _ => .bad
theorem _root_.L2.PO.imp {e : Option Expr} {t t' : TO} (h : PO X e t) (q : ∀ σ H Q, t' σ H Q → t σ H Q) : PO X e t' := ⟨fun pins s σ H Q I z => h.run pins s σ H Q I (q σ H Q z)⟩
theorem po_no : PO X none (tOp' P F0 H0 W (fun _ => .ok none)) := po_none.imp fun σ H Q ⟨F, ρ, er, z⟩ => z.here er.s rfl
theorem po_so (h : PE X e (tE P F0 H0 W fa)) : PO X (some e) (tOp' P F0 H0 W (fun ρ => fa ρ >>= ptI)) := (po_some h).imp fun σ H Q ⟨F, ρ, er, z⟩ => by
  refine ⟨F, ρ, er, (PostG.bind (rel := rIs P) z).imp ?_⟩
  rintro v H1 ⟨F1, d, g, i, q⟩
  unfold ptI at q
  split at q
  · exact ⟨_, un_int i, q.here g.s rfl⟩
  · exact q.elim
def cutD (xs : List D) (lo hi : Option Int) : List D := (xs.drop (HT.sIx xs.length 0 lo)).take (HT.sIx xs.length xs.length hi - HT.sIx xs.length 0 lo)
def slcD (x : D) (lo hi : Option Int) : Option D := match x with
  | .str z => if z.length ≤ 1000000 then some (.str (cutS z lo hi)) else none
  | .lst xs => some (.lst (cutD xs lo hi))
  | .tup xs => some (.tup (cutD xs lo hi))
  | _ => none
theorem IsL.cut {ds : List D} {vs : List V} (h : IsL P F ds vs) (lo hi : Option Int) : IsL P F (cutD ds lo hi) (cutV vs lo hi) := by
  unfold cutD cutV
  rw [h.length]
  exact (h.drop _).take _
theorem pd_slc {lo hi : Option Expr} {fl fh : Env → Res (Option Int)} {p2 : Pos} (ha : PE X a (tV P F0 H0 W fa)) (hl : PO X lo (tOp' P F0 H0 W fl)) (hh : PO X hi (tOp' P F0 H0 W fh)) :
    PE X (.Subscript a (.Slice lo hi none p2) pos) (tE P F0 H0 W (fun ρ => do let x ← fa ρ; let l ← fl ρ; let h ← fh ρ; opt (slcD x l h))) :=
  (pe_slice ((sl_str.or sl_list).or sl_tupA) ha hl hh).imp fun σ H Q ⟨F, ρ, er, z⟩ => by
  refine ⟨F, ρ, er, (PostG.bind (rel := rVw P) z).imp ?_⟩
  rintro x H1 ⟨F1, d, g1, i1, z1⟩
  refine ⟨F1, ρ, er.grow g1, (PostG.bind (rel := rOp) z1).imp ?_⟩
  rintro l H2 ⟨F2, l', g2, rfl, z2⟩
  refine ⟨F2, ρ, (er.grow g1).grow g2, (PostG.bind (rel := rOp) z2).imp ?_⟩
  rintro h H3 ⟨F3, h', g3, rfl, z3⟩
  obtain ⟨dr, hd, q⟩ := opt_of z3
  have i3 : Vw P F3 H3 d x := (i1.mono g2.f g2.h d).mono g3.f g3.h d
  unfold slcD at hd
  split at hd
  · split at hd
    · rename_i hz
      cases hd
      exact .inl (.inl ⟨_, i3, Nat.le_trans hz (by decide), Out.str q g3.s⟩)
    · cases hd
  · cases hd
    obtain ⟨ad, vs, rfl, h1, h2⟩ := i3
    exact .inl (.inr ⟨ad, vs, rfl, .inl h1, Out.lst q g3.s (h2.cut _ _)⟩)
  · cases hd
    obtain ⟨ad, vs, rfl, h0, h1, h2⟩ := i3
    refine .inr ⟨ad, vs, rfl, .inl h1, fun hw => ?_, fun _ => Out.tup q g3.s (h2.cut _ _)⟩
    have ew : cutV vs l h = vs := by
      unfold cutV
      rw [hw.1, hw.2]
      simp
    have h5 := h2.cut l h
    rw [ew] at h5
    exact Out.here q g3.s (by rw [Is]; exact ⟨ad, vs, rfl, h0, h5⟩)
  · cases hd
end
end DL
namespace DL
open PySem L2 PySem.ErrX
section
variable {X : Cx} {P : Pm} {F0 : Fz} {H0 : Hp} {W : WX} {a b c e o : Expr} {es : List Expr} {fa fb fc : Env → Res D} {fs : Env → Res (List D)} {pos p apos : Pos} {st : Stmt} {sts tts : List Stmt} {g g1 g2 : Env → RS} {F H : Hp} {σ : L2.St}
/-! ### e.split(sep) -/
def strD : D → Res Str
  | .str x => .ok x
  | _ => .bad
abbrev rSt : Rel Str V := fun _ _ d v => v = .str d
theorem strD_of {d : D} {v : V} {Q : V → Hp → Prop} (s : Ex F H) (i : Is P F d v) (h : PostG P W rSt (strD d) F σ H Q) : ∃ x, v = .str x ∧ Q v H := by
  cases d with
  | str x => exact ⟨x, un_str i, h.here s (un_str i)⟩
  | _ => exact h.elim
def splD (x y : Str) : Res D := if (y.length == 0) = false ∧ x.length ≤ 1000000 then .ok (.lst ((Txt.split x y).map .str)) else .bad
theorem isL_strs {ys : List Str} : IsL P F (ys.map D.str) (ys.map V.str) := by
  induction ys with
  | nil => exact .nil
  | cons y ys ih => exact .cons is_str ih
theorem nd_split {apos pos : Pos} (ho : PE X o (tE P F0 H0 W fa)) (he : PE X e (tE P F0 H0 W fb))
    (hbase : attributeBase o "split" X.env (eval o X.env) = eval o X.env := by rfl)
    (hfew : ((backTo pos (starEach [e] X.env)).all (fun x => !x.1) && (backToKw pos (keywordEach [] X.env)).all (fun x => x.1.isSome)
      && decide (([e] : List Expr).length + ([] : List Keyword).length + (if ([] : List Keyword).isEmpty then 0 else 1) < 30)) = true := by rfl)
    (hline : (apos.endLine == pos.line) = true := by rfl) (hs1 : starEach [e] X.env = (false, eval e X.env) :: starEach [] X.env := by rfl) (hplain : (backTo pos (starEach [] X.env)).any (·.1) = false := by rfl) :
    PE X (.Call (.Attribute o "split" apos) [e] [] pos) (tN P F0 H0 W (fun ρ => do let x ← fa ρ; let s ← strD x; let y ← fb ρ; let t ← strD y; splD s t)) :=
  (pe_bm PySem.F.plainAttrs_str PySem.F.slot_str_split PySem.F.type_str_split mt_split ho (pa_cons he pa_nil hs1) hbase hfew hline hs1 hplain).imp fun σ H Q ⟨F, ρ, er, z⟩ => by
  refine ⟨F, ρ, er, (PostG.bind (rel := rIs P) z).imp ?_⟩
  rintro x H1 ⟨F1, d, g1, i1, z1⟩
  obtain ⟨x', rfl, F1', s', g1', e1', z1'⟩ := strD_of g1.s i1 (PostG.bind (rel := rSt) z1)
  cases e1'
  have er1 := (er.grow g1).grow g1'
  refine ⟨rfl, F1', ρ, er1, (PostG.bind (rel := rIs P) z1').imp ?_⟩
  rintro y H2 ⟨F2, d2, g2, i2, z2⟩
  obtain ⟨y', rfl, F3, t', g3, e3, z3⟩ := strD_of g2.s i2 (PostG.bind (rel := rSt) z2)
  cases e3
  unfold splD at z3
  by_cases hz : (y'.length == 0) = false ∧ x'.length ≤ 1000000
  · rw [if_pos hz] at z3
    refine ⟨x', y', rfl, rfl, hz.1, Nat.le_trans (Nat.add_le_add_right hz.2 2) (by decide), fun p hp => ?_⟩
    exact z3 _ F3 _ (.junk g3.s (.new hp)) ⟨p, rfl, (((g1.trans g1').trans g2).trans g3).h.back hp, g3.s.back hp, _, upd_same, isL_strs⟩
  · rw [if_neg hz] at z3
    exact z3.elim
/-! ### int(e), str(e) -/
def cInt2 : List D → Option D
  | [.int i] => some (.int i)
  | [.bl b] => some (.int (if b then 1 else 0))
  | [.str x] => if x.length ≤ 640 then (PySem.intText? x).map .int else none
  | _ => none
theorem ic_int2 : CallR X (.type "int") (rcO P cInt2) := fun pins s σ H xs us Q I rx ⟨F, ds, d, e, i, hd, q⟩ => by
  unfold cInt2 at hd
  split at hd
  · cases hd
    obtain ⟨v, r, rfl, i1, i⟩ := i.uncons
    obtain rfl := i.unnil
    exact call_int1 pins s σ H _ us Q I rx (.inl ⟨_, by rw [show v = V.int _ from i1], q.int e⟩)
  · cases hd
    obtain ⟨v, r, rfl, i1, i⟩ := i.uncons
    obtain rfl := i.unnil
    exact call_int1 pins s σ H _ us Q I rx (.inr ⟨_, by rw [show v = V.bl _ from i1], q.int e⟩)
  · rename_i x
    split at hd
    · rename_i hl
      cases hn : PySem.intText? x with
      | none =>
        rw [hn] at hd
        cases hd
      | some n =>
        rw [hn] at hd
        cases hd
        obtain ⟨v, r, rfl, i1, i⟩ := i.uncons
        obtain rfl := i.unnil
        exact call_int_str pins s σ H _ us Q I rx ⟨x, n, by rw [show v = V.str _ from i1], hn, hl, q.int e⟩
    · cases hd
  · cases hd
/-! ### an own function called somewhere below -/
theorem run_at {k n : Nat} {f : Addr} {fd : FuncData} {ps : List Str} {G : List D → Res D} {A' : Around} {pins : List (Addr × Obj)} {s : Shared} {Q : VK} {us : List Value} {vs : List V} {ds : List D} (Fn : FnOk X.prog X.w X.K X.mg X.base (L2.CX X.prog X.w) k f fd ps (spD P n G)) (sb : Sub X k A') (hb : Binds X.K fd ps [])
    (tk : Takes X W) (I : Inv X pins σ H s) (r : Vals vs us) (sx : Ex F H) (i : IsL P F ds vs) (z : PostG P W (rIs P) (fnG n G ds) F σ H Q) : wpAny (model X.prog X.w) A' (call (.ref f) us) (EP X pins σ Q) X.xe s := by
  have h : spD P n G vs H Q (WE W σ) := by
    have := fnG_of (dvs := []) (dds := []) (n := n) (G := G) (E := WE W σ) Dfl.nil sx i (by rw [List.append_nil]; exact z.sig)
    rw [List.append_nil] at this
    exact this
  have hl : (us ++ []).length = ps.length := by rw [List.append_nil, ← r.length]; exact Fn.len _ _ _ _ h
  have e0 : Env0 X.prog X.w X.K X.mg X.base A' X.stack s H := { I.env0 with frames := by rw [sb.fr]; exact I.env0.frames }
  have hbb := hb s us I.kIn hl
  rw [List.append_nil] at hbb
  refine wpAny_call (codeAny_mono (Fn.run A' X.stack s H ⟨us, []⟩ us vs Q (WE W σ) sb.room e0 hbb r h) fun r s' hq => ?_)
  cases r with
  | error e => exact passAt tk σ pins H s e s' I hq
  | ok fl =>
    cases fl with
    | ret u => exact I.after hq
    | next => exact False.elim hq
    | brk => exact False.elim hq
    | cont => exact False.elim hq
theorem sub_here {k : Nat} (hr : Room k X.A) : Sub X k X.A := ⟨hr, rfl⟩
/-- an own class's method by its name -/
structure OwnM (K : PySem.W.Frag) (C : Addr) (m : Str) (f : Addr) : Prop where
  at_ : PySem.W.findIn K (.ref C) m = some (some (.ref f))
  fn : PySem.W.isFn K (.ref f) = true
theorem inst_at {pins : List (Addr × Obj)} {s : Shared} {ad C dx : Addr} {fs : List (Str × V)} (I : Inv X pins σ H s) (h : H ad = some (.ins C dx fs)) : ∃ ox od, PySem.W.InstAt s.heap ad ox C od := by
  obtain ⟨mA, ho, _⟩ := ins_get I.hok h
  obtain ⟨od, h1, _⟩ := lookIn_ns ho.ns
  exact ⟨_, some od, ho.obj, rfl, rfl, h1⟩
/-! ### - and str of numbers: ints and instances of the class number 0 -/
def negN (G : List D → Res D) : D → Res D
  | .int i => .ok (.int (-i))
  | .obj 0 xs => fnG 1 G [.obj 0 xs]
  | _ => .bad
theorem CmpBack_of {Q : VK} {pins : List (Addr × Obj)} {u : Value} {s : Shared} (h : EP X pins σ Q u s) : PySem.W.CmpBack (EP X pins σ Q) u s := by
  obtain ⟨v, H', I, r, q⟩ := h
  cases u with
  | notImplemented => cases v <;> (first | (obtain ⟨t, e⟩ := r; cases e) | cases r)
  | _ => exact ⟨v, H', I, r, q⟩
theorem pd_neg {k : Nat} {f : Addr} {fd : FuncData} {ps : List Str} {G : List D → Res D} (Fn : FnOk X.prog X.w X.K X.mg X.base (L2.CX X.prog X.w) k f fd ps (spD P 1 G)) (M : OwnM X.K (P.C 0) "__neg__" f) (hr : Room k X.A) (hb : Binds X.K fd ps []) (tk : Takes X W) (ha : PE X a (tE P F0 H0 W fa)) :
    PE X (.UnaryOp .USub a pos) (tE P F0 H0 W (fun ρ => do let x ← fa ρ; negN G x)) := by
  refine ⟨fun pins s σ H Q I h => ?_⟩
  refine PyProof.Rows.UnaryOp_ (thn (ha.run pins s σ H _ I (tG.bind (rel := rIs P) (f := fa) (k := fun _ x => negN G x) h)) ?_)
  rintro v s1 ⟨x, H1, I1, r1, F1, ρ, d, er, i1, q1⟩
  unfold negN at q1
  split at q1
  · have ex := un_int i1
    subst ex
    exact un_neg pins s1 σ H1 _ v Q I1 r1 ⟨_, rfl, q1.here er.s is_int⟩
  · obtain ⟨ad, dx, vs, rfl, h1, h2, h3⟩ := obj_of i1
    obtain rfl : v = Value.ref ad := r1
    obtain ⟨ox, od, J⟩ := inst_at I1 (er.s _ _ h1)
    obtain ⟨m, Fr⟩ := I1.fr
    refine PySem.W.ksp_neg Fr I1.ok.mod.kin J M.at_ M.fn ?_
    exact run_at (vs := [.ref ad]) (ds := [_]) Fn (sub_here hr) hb tk I1 (.cons rfl .nil) er.s (.cons i1 .nil) q1
  · exact q1.elim
def strN (G : List D → Res D) : D → Res D
  | .int i => if i.natAbs.log2 < 1920 then .ok (.str (toString i)) else .bad
  | .obj 0 xs => do let y ← fnG 1 G [.obj 0 xs]; let z ← strD y; .ok (.str z)
  | _ => .bad
theorem pd_strN {p1 : Pos} {k : Nat} {f : Addr} {fd : FuncData} {ps : List Str} {G : List D → Res D} (Fn : FnOk X.prog X.w X.K X.mg X.base (L2.CX X.prog X.w) k f fd ps (spD P 1 G)) (M : OwnM X.K (P.C 0) "__str__" f) (hr : Room (k + 2) X.A) (hb : Binds X.K fd ps []) (tk : Takes X W) (hg : Gl X "str") (hm : X.mg "str" = none) (ha : PE X a (tE P F0 H0 W fa))
    (he : starEach [a] X.env = (false, eval a X.env) :: starEach [] X.env := by rfl) (hpl : (backTo pos (starEach [] X.env)).any (·.1) = false := by rfl) :
    PE X (.Call (.Name "str" p1) [a] [] pos) (tE P F0 H0 W (fun ρ => do let x ← fa ρ; strN G x)) := by
  refine ⟨fun pins s σ H Q I h => ?_⟩
  refine wpAny_Call_Name_kw (ld_blt (u := .type "str") I hg hm (by decide +kernel) ?_)
  obtain ⟨F, ρ, er, z⟩ := h
  refine PyProof.Rows.callWith_type1 (thn ((pa_cons ha pa_nil he).run pos pins s σ H (fun vs H1 => ∃ v, vs = [v] ∧ ∃ F1 d, Grow F H F1 H1 ∧ Is P F1 d v ∧ PostG P W (rIs P) (strN G d) F1 σ H1 Q) I ⟨F, ρ, er, (PostG.bind (rel := rIs P) z).imp fun v H1 q => ⟨v, rfl, q⟩⟩) ?_) he hpl
  rintro us s1 ⟨vs, H1, I1, r1, v, rfl, F1, d, g1, i1, q1⟩
  obtain ⟨u, rfl, rv⟩ := Vals.one r1
  unfold strN at q1
  split at q1
  · have ex := un_int i1
    subst ex
    split at q1
    · rename_i hl
      exact call_str_int pins s1 σ H1 _ _ Q I1 r1 ⟨_, rfl, hl, q1.here g1.s is_str⟩
    · exact q1.elim
  · obtain ⟨ad, dx, vs, rfl, h1, h2, h3⟩ := obj_of i1
    obtain rfl : u = Value.ref ad := rv
    obtain ⟨ox, od, J⟩ := inst_at I1 (g1.s _ _ h1)
    refine PySem.W.kso_call ?_ I1.kIn J M.at_ M.fn ?_
    · have := (hr.in1.in1).units0
      exact this
    · refine thn (run_at (A' := X.A.in1.in1) (vs := [.ref ad]) (ds := [_]) Fn ((sub_here hr).in1.in1) hb tk I1 (.cons rfl .nil) g1.s (.cons i1 .nil) (PostG.bind (rel := rIs P) q1)) ?_
      rintro w s2 ⟨v2, H2, I2, r2, F2, d2, g2, i2, q2⟩
      obtain ⟨x', rfl, F3, t', g3, e3, z3⟩ := strD_of g2.s i2 (PostG.bind (rel := rSt) q2)
      cases e3
      obtain ⟨t, rfl⟩ := r2
      exact ⟨.str x', H2, I2, ⟨t, rfl⟩, z3.here g3.s is_str⟩
  · exact q1.elim
end
end DL
namespace DL
open PySem L2 PySem.ErrX
section
variable {X : Cx} {P : Pm} {F0 : Fz} {H0 : Hp} {W : WX} {a b c e o : Expr} {es : List Expr} {fa fb fc : Env → Res D} {fs : Env → Res (List D)} {pos p apos : Pos} {st : Stmt} {sts tts : List Stmt} {g g1 g2 : Env → RS} {F H : Hp} {σ : L2.St}
/-! ### + of ints, texts, lists, tuples -/
theorem Inv.rdl {pins : List (Addr × Obj)} {s : Shared} {l : Addr} {xs : List V} (I : Inv X pins σ H s) (h : Rd H l (.lst xs)) : xs.length ≤ sizeLine ∧ ∃ (its : List Value) (n : Nat), Vals xs its ∧ s.heap.get? l = some { cls := .type "list", data := .seq its.toArray n } :=
  (h.ok I.hok : ObjOk X.prog X.w H s.heap l (.lst xs))
def rCatR : R2 := fun x y H Q => ∃ l b xs zs, x = .ref l ∧ y = .ref b ∧ Rd H l (.lst xs) ∧ Rd H b (.lst zs) ∧ xs.length + zs.length ≤ sizeLine ∧ ∀ p, H p = none → Q (.ref p) (upd H p (.lst (xs ++ zs)))
theorem op_catR : OpR X (binaryOp .Add) rCatR := by
  intro pins s σ H x y v u Q I rx ry h
  obtain ⟨l, b, xs, zs, rfl, rfl, hH, hB, hz, q⟩ := h
  cases rx
  cases ry
  obtain ⟨z1, its1, n1, v1, e1⟩ := Inv.rdl I hH
  obtain ⟨z2, its2, n2, v2, e2⟩ := Inv.rdl I hB
  refine PySem.P.add_list e1 e2 ?_ (by rw [List.size_toArray, List.size_toArray, ← v1.length, ← v2.length]; exact hz)
  rw [show its1.toArray ++ its2.toArray = (its1 ++ its2).toArray by simp]
  exact ⟨.ref _, _, I.lnew (t' := s.toks) (v1.append v2) (by rw [List.length_append]; exact hz), rfl, q _ I.fresh⟩
def addA : D → D → Option D
  | .int i, .int j => some (.int (i + j))
  | .str x, .str y => if small2 x.length y.length = true then some (.str (x ++ y)) else none
  | .lst xs, .lst ys => if small2 xs.length ys.length = true then some (.lst (xs ++ ys)) else none
  | .tup xs, .tup ys => if small2 xs.length ys.length = true then some (.tup (xs ++ ys)) else none
  | _, _ => none
theorem io_addA : OpR X (binaryOp .Add) (r2O P addA) := fun pins s σ H x y u v Q I rx ry ⟨F, dx, dy, d, e, i1, i2, hd, q⟩ => by
  unfold addA at hd
  split at hd
  · cases hd
    exact op_add pins s σ H x y u v Q I rx ry ⟨_, _, i1, i2, q.int e⟩
  · split at hd
    · rename_i hz
      cases hd
      exact op_add_str pins s σ H x y u v Q I rx ry ⟨_, _, i1, i2, Nat.le_trans (of_decide_eq_true hz) (by decide), q.str e⟩
    · cases hd
  · split at hd
    · rename_i hz
      cases hd
      obtain ⟨a1, vs1, rfl, h1, j1⟩ := i1
      obtain ⟨a2, vs2, rfl, h2, j2⟩ := i2
      exact op_catR pins s σ H _ _ u v Q I rx ry ⟨a1, a2, vs1, vs2, rfl, rfl, h1, h2, by rw [← j1.length, ← j2.length]; exact Nat.le_trans (of_decide_eq_true hz) (by decide), q.lst e (j1.append j2)⟩
    · cases hd
  · split at hd
    · rename_i hz
      cases hd
      obtain ⟨a1, vs1, rfl, f1, h1, j1⟩ := i1
      obtain ⟨a2, vs2, rfl, f2, h2, j2⟩ := i2
      refine op_catA pins s σ H _ _ u v Q I rx ry ⟨a1, a2, vs1, vs2, rfl, rfl, .inl h1, .inl h2, by rw [← j1.length, ← j2.length]; exact Nat.le_trans (of_decide_eq_true hz) (by decide), fun h0 => ?_, fun _ h0 => ?_, fun _ _ => q.tup e (j1.append j2)⟩
      · have hj := j1.append j2
        rw [h0] at hj
        exact q.here e (by rw [Is]; exact ⟨a2, vs2, rfl, f2, hj⟩)
      · have hj := j1.append j2
        rw [h0, List.append_nil] at hj
        exact q.here e (by rw [Is]; exact ⟨a1, vs1, rfl, f1, hj⟩)
    · cases hd
  · cases hd
/-! ### list(e), tuple(e) of lists and tuples -/
def cList : List D → Option D
  | [.lst xs] => some (.lst xs)
  | [.tup xs] => some (.lst xs)
  | _ => none
theorem ic_list : CallR X (.type "list") (rcO P cList) := fun pins s σ H xs us Q I rx ⟨F, ds, d, e, i, hd, q⟩ => by
  unfold cList at hd
  split at hd
  · cases hd
    obtain ⟨v, r, rfl, i1, i⟩ := i.uncons
    obtain rfl := i.unnil
    obtain ⟨ad, vs, rfl, h1, h2⟩ := i1
    exact call_list_of pins s σ H _ us Q I rx ⟨ad, vs, rfl, .inl (.inl h1), q.lst e h2⟩
  · cases hd
    obtain ⟨v, r, rfl, i1, i⟩ := i.uncons
    obtain rfl := i.unnil
    obtain ⟨ad, vs, rfl, h0, h1, h2⟩ := i1
    exact call_list_of pins s σ H _ us Q I rx ⟨ad, vs, rfl, .inr (.inl h1), q.lst e h2⟩
  · cases hd
def cTup : List D → Option D
  | [.lst xs] => some (.tup xs)
  | [.tup xs] => some (.tup xs)
  | _ => none
theorem ic_tup : CallR X (.type "tuple") (rcO P cTup) := fun pins s σ H xs us Q I rx ⟨F, ds, d, e, i, hd, q⟩ => by
  unfold cTup at hd
  split at hd
  · cases hd
    obtain ⟨v, r, rfl, i1, i⟩ := i.uncons
    obtain rfl := i.unnil
    obtain ⟨ad, vs, rfl, h1, h2⟩ := i1
    exact call_tuple_of pins s σ H _ us Q I rx ⟨ad, vs, rfl, .inl ⟨.inl h1, q.tup e h2⟩⟩
  · cases hd
    obtain ⟨v, r, rfl, i1, i⟩ := i.uncons
    obtain rfl := i.unnil
    obtain ⟨ad, vs, rfl, h0, h1, h2⟩ := i1
    exact call_tuple_of pins s σ H _ us Q I rx ⟨ad, vs, rfl, .inr ⟨.inl h1, q.here e (by rw [Is]; exact ⟨ad, vs, rfl, h0, h2⟩)⟩⟩
  · cases hd
/-! ### f-strings -/
def fmtD : D → Res Str
  | .str y => if y.length ≤ 1000000 then .ok y else .bad
  | .int i => if i.natAbs.log2 < 1920 then .ok (toString i) else .bad
  | _ => .bad
/-- a part of an f-string -/
structure PF (X : Cx) (P : Pm) (F0 : Fz) (H0 : Hp) (W : WX) (e : Expr) (t : TE) (f : Env → Res Str) : Prop where
  pe : PE X e t
  rd : ∀ σ H (Q : V → Hp → Prop), tG P F0 H0 W rSt f σ H Q → t σ H Q
theorem pf_fmt {pos : Pos} (he : PE X e (tE P F0 H0 W fa)) : PF X P F0 H0 W (.FormattedValue e (-1) none pos) (tFmt (tE P F0 H0 W fa)) (fun ρ => fa ρ >>= fmtD) := ⟨pe_fmt he, fun σ H Q ⟨F, ρ, er, z⟩ => by
  refine ⟨F, ρ, er, (PostG.bind (rel := rIs P) z).imp ?_⟩
  rintro v H1 ⟨F1, d, g, i, q⟩
  unfold fmtD at q
  split at q
  · split at q
    · rename_i hl
      exact .inl ⟨_, un_str i, Nat.le_trans hl (by decide), q.here g.s rfl⟩
    · exact q.elim
  · split at q
    · rename_i hl
      exact .inr ⟨_, un_int i, hl, q.here g.s rfl⟩
    · exact q.elim
  · exact q.elim⟩
theorem pf_str {x : Str} {j : Nat} {pos : Pos} : PF X P F0 H0 W (.Constant (.str x) j pos) (tC (.str x)) (fun _ => .ok x) := ⟨pe_str, fun σ H Q ⟨F, ρ, er, z⟩ => PostG.here (rel := rSt) z er.s rfl⟩
theorem pd_f1 {f1 : Env → Res Str} {t1 : TE} {pos : Pos} (h : PF X P F0 H0 W e t1 f1) : PE X (.JoinedStr [e] pos) (tE P F0 H0 W (fun ρ => do let x ← f1 ρ; .ok (.str x))) := (pe_joined1 h.pe).imp fun σ H Q ⟨F, ρ, er, z⟩ => by
  refine h.rd σ H Q ⟨F, ρ, er, (PostG.bind (rel := rSt) z).imp ?_⟩
  rintro v H1 ⟨F1, d, g, rfl, q⟩
  exact q.here g.s is_str
def ckS (x : Str) : Res Str := if x.length ≤ 1000000 then .ok x else .bad
abbrev rStr : Rel Str Str := fun _ _ d v => v = d
theorem ckS_of {x : Str} {Q : Str → Hp → Prop} (s : Ex F H) (h : PostG P W rStr (ckS x) F σ H Q) : x.length ≤ sizeLine ∧ Q x H := by
  unfold ckS at h
  by_cases hl : x.length ≤ 1000000
  · rw [if_pos hl] at h
    exact ⟨Nat.le_trans hl (by decide), h.here s rfl⟩
  · rw [if_neg hl] at h
    exact h.elim
theorem pd_f3 {e1 e2 e3 : Expr} {f1 f2 f3 : Env → Res Str} {t1 t2 t3 : TE} {pos : Pos} (h1 : PF X P F0 H0 W e1 t1 f1) (h2 : PF X P F0 H0 W e2 t2 f2) (h3 : PF X P F0 H0 W e3 t3 f3) :
    PE X (.JoinedStr [e1, e2, e3] pos) (tE P F0 H0 W (fun ρ => do let x ← f1 ρ; let u ← ckS (Str.empty ++ x); let y ← f2 ρ; let v ← ckS (u ++ y); let z ← f3 ρ; let w ← ckS (v ++ z); .ok (.str w))) :=
  (pe_joined (.cons h1.pe (.cons h2.pe (.cons h3.pe .nil)))).imp fun σ H Q ⟨F, ρ, er, z⟩ => by
  refine h1.rd σ H _ ⟨F, ρ, er, (PostG.bind (rel := rSt) z).imp ?_⟩
  rintro v1 H1 ⟨F1, x, g1, rfl, z1⟩
  obtain ⟨l1, F1', u, g1', rfl, z1'⟩ := ckS_of g1.s (PostG.bind (rel := rStr) z1)
  refine ⟨x, rfl, l1, h2.rd σ H1 _ ⟨F1', ρ, (er.grow g1).grow g1', (PostG.bind (rel := rSt) z1').imp ?_⟩⟩
  rintro v2 H2 ⟨F2, y, g2, rfl, z2⟩
  obtain ⟨l2, F2', v, g2', rfl, z2'⟩ := ckS_of g2.s (PostG.bind (rel := rStr) z2)
  refine ⟨y, rfl, l2, h3.rd σ H2 _ ⟨F2', ρ, (((er.grow g1).grow g1').grow g2).grow g2', (PostG.bind (rel := rSt) z2').imp ?_⟩⟩
  rintro v3 H3 ⟨F3, w, g3, rfl, z3⟩
  obtain ⟨l3, F3', v, g3', rfl, z3'⟩ := ckS_of g3.s (PostG.bind (rel := rStr) z3)
  exact ⟨w, rfl, l3, z3'.here g3'.s is_str⟩
end
end DL
namespace DL
open PySem L2

/-! ### the functions' shapes, by name -/
abbrev fK (d : D) : Env → Res D := fun _ => .ok d
abbrev fOp (r : D → D → Option D) (a b : Env → Res D) : Env → Res D := fun ρ => do let x ← a ρ; let y ← b ρ; opt (r x y)
abbrev fU (r : D → Option D) (a : Env → Res D) : Env → Res D := fun ρ => do let x ← a ρ; opt (r x)
abbrev fM (r : D → Res D) (a : Env → Res D) : Env → Res D := fun ρ => do let x ← a ρ; r x
abbrev fIsN (a : Env → Res D) : Env → Res D := fun ρ => do let x ← a ρ; .ok (.bl (isNone x))
abbrev fNotN (a : Env → Res D) : Env → Res D := fun ρ => do let x ← a ρ; .ok (.bl (!isNone x))
abbrev tB' (a : Env → Res D) : Env → Res Bool := fun ρ => a ρ >>= bo
abbrev tNot' (a : Env → Res Bool) : Env → Res Bool := fun ρ => do let x ← a ρ; .ok (!x)
abbrev tAnd' (a b : Env → Res Bool) : Env → Res Bool := fun ρ => do let x ← a ρ; if x = true then b ρ else .ok false
abbrev tOr' (a b : Env → Res Bool) : Env → Res Bool := fun ρ => do let x ← a ρ; if x = true then .ok true else b ρ
abbrev vAnd (a b : Env → Res D) : Env → Res D := fun ρ => do let x ← a ρ; let k ← bo x; if k = true then b ρ else .ok (.bl false)
abbrev vOr (a b : Env → Res D) : Env → Res D := fun ρ => do let x ← a ρ; let k ← bo x; if k = true then .ok (.bl true) else b ρ
abbrev vNot (a : Env → Res D) : Env → Res D := fun ρ => do let x ← a ρ; let k ← bo x; .ok (.bl (!k))
abbrev fIf (c : Env → Res Bool) (a b : Env → Res D) : Env → Res D := fun ρ => do let k ← c ρ; if k = true then a ρ else b ρ
abbrev lNil : Env → Res (List D) := fun _ => .ok []
abbrev lCons (a : Env → Res D) (l : Env → Res (List D)) : Env → Res (List D) := fun ρ => do let x ← a ρ; let xs ← l ρ; .ok (x :: xs)
abbrev fLst (l : Env → Res (List D)) : Env → Res D := fun ρ => l ρ >>= mkL
abbrev fTup (l : Env → Res (List D)) : Env → Res D := fun ρ => l ρ >>= mkT
abbrev fCall (n : Nat) (G : List D → Res D) (l : Env → Res (List D)) : Env → Res D := fun ρ => do let xs ← l ρ; fnG n G xs
abbrev fMk (c n : Nat) (G : List D → Res (List D)) (l : Env → Res (List D)) : Env → Res D := fun ρ => do let xs ← l ρ; mkG c n G xs
abbrev fB (rc : List D → Option D) (l : Env → Res (List D)) : Env → Res D := fun ρ => do let xs ← l ρ; opt (rc xs)
abbrev fSlc (a : Env → Res D) (l h : Env → Res (Option Int)) : Env → Res D := fun ρ => do let x ← a ρ; let u ← l ρ; let v ← h ρ; opt (slcD x u v)
abbrev oNo : Env → Res (Option Int) := fun _ => .ok none
abbrev oSo (a : Env → Res D) : Env → Res (Option Int) := fun ρ => a ρ >>= ptI
abbrev fSplit (a b : Env → Res D) : Env → Res D := fun ρ => do let x ← a ρ; let s ← strD x; let y ← b ρ; let t ← strD y; splD s t
abbrev fLc (fi : Env → Res (List D)) (h : D → Env → Option Env) (gt : Env → Res Bool) (fe : Env → Res D) (us : List Nat) : Env → Res D := fun ρ => do let items ← fi ρ; let ys ← lcD h gt fe (wipeE ρ us) items; mkL ys
abbrev iSq (a : Env → Res D) : Env → Res (List D) := fun ρ => a ρ >>= seqD
abbrev iR1 (l : Env → Res (List D)) : Env → Res (List D) := fun ρ => l ρ >>= rng1
abbrev tYes' : Env → Res Bool := fun _ => .ok true
abbrev zF (a : Env → Res D) : Env → Res Str := fun ρ => a ρ >>= fmtD
abbrev zS (x : Str) : Env → Res Str := fun _ => .ok x
abbrev fF1 (f1 : Env → Res Str) : Env → Res D := fun ρ => do let x ← f1 ρ; .ok (.str x)
abbrev fF3 (f1 f2 f3 : Env → Res Str) : Env → Res D := fun ρ => do let x ← f1 ρ; let u ← ckS (Str.empty ++ x); let y ← f2 ρ; let v ← ckS (u ++ y); let z ← f3 ρ; let w ← ckS (v ++ z); .ok (.str w)
abbrev sSeq (g1 g2 : Env → RS) : Env → RS := fun ρ => seqS (g1 ρ) g2
abbrev sRet (a : Env → Res D) : Env → RS := fun ρ => bindS (a ρ) ρ .rt
abbrev sIf (c : Env → Res Bool) (g1 g2 : Env → RS) : Env → RS := fun ρ => bindS (c ρ) ρ fun k => if k = true then g1 ρ else g2 ρ
abbrev sSet (i : Nat) (a : Env → Res D) : Env → RS := fun ρ => bindS (a ρ) ρ fun d => .nx (ρ.set i (some (.sh d)))
abbrev sSetO (i : Nat) (a : Env → Res D) : Env → RS := fun ρ => bindS (a ρ) ρ fun d => .nx (ρ.set i (some (.ow d)))
abbrev sFor (fi : Env → Res (List D)) (h : D → Env → Option Env) (g : Env → RS) : Env → RS := fun ρ => bindS (fi ρ) ρ fun items => forD h g items ρ
abbrev sApp (i : Nat) (a : Env → Res D) : Env → RS := fun ρ => bindS (isOw i ρ) ρ fun _ => bindS (a ρ) ρ fun d => appD i ρ d
abbrev sPar (i j : Nat) (l : Env → Res (List D)) : Env → RS := fun ρ => bindS (l ρ) ρ (par2 i j ρ)
abbrev sAsg (a : Env → Res D) (h : D → Env → Option Env) : Env → RS := fun ρ => bindS (a ρ) ρ fun d => match h d ρ with | some ρ' => .nx ρ' | none => .bad
abbrev sRaise (c : Nat) (a : Env → Res D) : Env → RS := fun ρ => bindS (a ρ) ρ fun d => .err c (some d) ρ
abbrev sFld (nm : Nat → List Str) (f : Str) (i : Nat) (a : Env → Res D) : Env → RS := fun ρ => bindS (a ρ) ρ fun d => setF nm f ρ i d
abbrev sFrz (i : Nat) (g : Env → RS) : Env → RS := fun ρ => g (frz i ρ)
abbrev sBad : Env → RS := fun _ => .bad
abbrev sTryAs (gb : Env → RS) (c i : Nat) (gs : Option D → Env → Res D) : Env → RS := tryD gb c fun p ρ => if i < ρ.length then noErr (gs p (ρ.set i none)) else .bad

section
variable {X : Cx} {P : Pm} {F0 : Fz} {H0 : Hp} {W : WX} {a b c e o : Expr} {es : List Expr} {fa fb fc : Env → Res D} {fs : Env → Res (List D)} {pos p apos : Pos} {st : Stmt} {sts tts : List Stmt} {g g1 g2 : Env → RS} {F H : Hp} {σ : L2.St}
variable {k n : Nat} {x : Str} {G : List D → Res D} {GI : List D → Res (List D)}
/-! ### what the program's own things keep -/
structure CalD (prog : Program) (w : World) (K : PySem.W.Frag) (mg : Str → Option Value) (base : Heap) (P : Pm) (k : Nat) (x : Str) (n : Nat) (G : List D → Res D) : Prop where
  ex : ∃ f fd ps, FnOk prog w K mg base (L2.CX prog w) k f fd ps (spD P n G) ∧ mg x = some (.ref f) ∧ PySem.W.keepIn K (.ref f) = true ∧ Binds K fd ps []
theorem pd_cal (c : CalD X.prog X.w X.K X.mg X.base P k x n G) (hr : Room k X.A) (tk : Takes X W) (ha : PA X (e :: es) (tL P F0 H0 W fs)) (hg : Gl X x := by rfl) (hdb : (x == ("__debug__" : Str)) = false := by decide) (he : starEach (e :: es) X.env = (false, eval e X.env) :: starEach es X.env := by rfl) (hpl : (backTo pos (starEach es X.env)).any (·.1) = false := by rfl) :
    PE X (.Call (.Name x p) (e :: es) [] pos) (tE P F0 H0 W (fCall n G fs)) := by
  obtain ⟨f, fd, ps, h1, h2, h3, h4⟩ := c.ex
  have := pd_call (p := p) h1 hr hg h2 h3 h4 .nil Dfl.nil tk ha hdb he hpl
  simpa only [List.append_nil] using this
structure MkD (prog : Program) (w : World) (K : PySem.W.Frag) (mg : Str → Option Value) (base : Heap) (P : Pm) (k : Nat) (x : Str) (cn n : Nat) (G : List D → Res (List D)) : Prop where
  ex : ∃ f fd ps, Mk K (P.C cn) f ∧ FnOk prog w K mg base (L2.CX prog w) k f fd ps (spI P cn n G) ∧ mg x = some (.ref (P.C cn)) ∧ Binds K fd ps []
theorem pd_mk {cn : Nat} (c : MkD X.prog X.w X.K X.mg X.base P k x cn n GI) (hr : Room (k + 1) X.A) (tk : Takes X W) (ha : PA X (e :: es) (tL P F0 H0 W fs)) (hg : Gl X x := by rfl) (hdb : (x == ("__debug__" : Str)) = false := by decide) (he : starEach (e :: es) X.env = (false, eval e X.env) :: starEach es X.env := by rfl) (hpl : (backTo pos (starEach es X.env)).any (·.1) = false := by rfl) :
    PE X (.Call (.Name x p) (e :: es) [] pos) (tE P F0 H0 W (fMk cn n GI fs)) := by
  obtain ⟨f, fd, ps, h0, h1, h2, h4⟩ := c.ex
  have := pd_make (p := p) h0 h1 hr hg h2 h4 .nil Dfl.nil tk ha hdb he hpl
  simpa only [List.append_nil] using this
structure OwnD (prog : Program) (w : World) (K : PySem.W.Frag) (mg : Str → Option Value) (base : Heap) (P : Pm) (k : Nat) (m : Str) (cn n : Nat) (G : List D → Res D) : Prop where
  ex : ∃ f fd ps, FnOk prog w K mg base (L2.CX prog w) k f fd ps (spD P n G) ∧ OwnM K (P.C cn) m f ∧ Binds K fd ps []
theorem pd_ngD (c : OwnD X.prog X.w X.K X.mg X.base P k "__neg__" 0 1 G) (hr : Room k X.A) (tk : Takes X W) (ha : PE X a (tE P F0 H0 W fa)) : PE X (.UnaryOp .USub a pos) (tE P F0 H0 W (fM (negN G) fa)) := by
  obtain ⟨f, fd, ps, h0, h1, h2⟩ := c.ex
  exact pd_neg h0 h1 hr h2 tk ha
theorem pd_stD {p1 : Pos} (c : OwnD X.prog X.w X.K X.mg X.base P k "__str__" 0 1 G) (hr : Room (k + 2) X.A) (tk : Takes X W) (hm : X.mg "str" = none) (ha : PE X a (tE P F0 H0 W fa)) (hg : Gl X "str" := by rfl) (he : starEach [a] X.env = (false, eval a X.env) :: starEach [] X.env := by rfl) (hpl : (backTo pos (starEach [] X.env)).any (·.1) = false := by rfl) :
    PE X (.Call (.Name "str" p1) [a] [] pos) (tE P F0 H0 W (fM (strN G) fa)) := by
  obtain ⟨f, fd, ps, h0, h1, h2⟩ := c.ex
  exact pd_strN h0 h1 hr h2 tk hg hm ha he hpl
/-! ### comparisons as tests, as values -/
theorem td_pc {cop : CmpOp} {f : Env → Res D} (h : PC X cop a b (tE P F0 H0 W f)) (hm : behindInMarks cop b = false) : PT X (.Compare a [cop] [b] pos) (tT P F0 H0 W (tB' f)) := (pt_cmp h hm).imp fun _ _ _ z => tB_of z
theorem pd_pcv {cop : CmpOp} {f : Env → Res D} (h : PC X cop a b (tE P F0 H0 W f)) (hm : behindInMarks cop b = false) : PE X (.Compare a [cop] [b] pos) (tE P F0 H0 W f) := pe_cmp h hm
theorem td_yes : PTs X [] (tT P F0 H0 W tYes') := ⟨fun pins s σ H Q I ⟨F, ρ, er, z⟩ => pts_nil.run pins s σ H Q I (z.here er.s rfl)⟩
/-! ### the script -/
def cLenS : List D → Option D
  | [.scr ns] => some (.int (ns.length : Nat))
  | _ => none
theorem ic_lenS (hK : P.K = X.K) : CallR X (.builtin "len") (rcO P cLenS) := fun pins s σ H xs us Q I rx ⟨F, ds, d, e, i, hd, q⟩ => by
  unfold cLenS at hd
  split at hd
  · cases hd
    obtain ⟨v, r, rfl, i1, i⟩ := i.uncons
    obtain rfl := i.unnil
    obtain ⟨a, rfl, h1⟩ := i1
    rw [hK] at h1
    exact call_len_seq pins s σ H _ us Q I rx ⟨a, _, rfl, .inl h1, by simpa using q.here e is_int⟩
  · cases hd
def itemS : D → D → Option D
  | .scr ns, .int i => (atI ns i).map .int
  | _, _ => none
theorem atI_map {α β : Type} {f : α → β} {xs : List α} {i : Int} {v : α} (h : atI xs i = some v) : atI (xs.map f) i = some (f v) := by
  unfold atI at h ⊢
  rw [List.length_map]
  cases hj : ixN xs.length i with
  | none =>
    rw [hj] at h
    cases h
  | some j =>
    rw [hj] at h
    have h' : xs[j]? = some v := h
    show (xs.map f)[j]? = some (f v)
    rw [List.getElem?_map, h']
    rfl
theorem pd_ixS (hK : P.K = X.K) (ha : PE X a (tV P F0 H0 W fa)) (hb : PE X b (tV P F0 H0 W fb)) (hs : PlainIx b) : PE X (.Subscript a b pos) (tE P F0 H0 W (fOp itemS fa fb)) :=
  (pe_ix ix_seq ha hb hs).imp fun σ H Q z => by
  obtain ⟨F, ρ, er, z⟩ := two_of z
  refine ⟨F, ρ, er, z.imp fun x H1 ⟨F1, ρ1, er1, z1⟩ => ⟨F1, ρ1, er1, z1.imp ?_⟩⟩
  rintro y H2 ⟨F2, dx, dy, s2, i1, i2, z2⟩
  obtain ⟨d, hd, q⟩ := opt_of z2
  unfold itemS at hd
  split at hd
  · rename_i ns i
    obtain ⟨p, rfl, h1⟩ := i1
    rw [hK] at h1
    obtain rfl : y = .int i := i2
    cases hz : atI ns i with
    | none =>
      rw [hz] at hd
      cases hd
    | some z =>
      rw [hz] at hd
      cases hd
      exact .inl ⟨p, _, i, .int z, rfl, rfl, h1, atI_map hz, q _ F2 H2 (.refl s2) is_int⟩
  · cases hd
end
section
variable {prog : Program} {w : World} {K : PySem.W.Frag} {mg : Str → Option Value} {base : Heap} {P : Pm}
/-- an __init__ with defaults -/
theorem fndJ {c : Nat} {x qual : Str} {params : Arguments} {body : List Stmt} {scope : Scope} {dvs : List V} {kws : List (Str × V)} {f : Addr} {fd : FuncData} {N ps : List Str} {k : Nat} {g : Env → RS} {n : Nat} (hn : ps.length = n + 1) (hN : N ≠ []) (Fu : FunD K x qual params body scope dvs kws f fd) (S : FnScope N ps scope)
    (hbody : ∀ (cdv : Value) (A : Around) (outer : List PySem.Env) (s : Shared) (H F0 H0 : Hp) (x : Addr) (E : XK), Room k (A.deeper (PyProof.Rows.envOfC qual scope s.heap.objs.size f cdv)) →
      PSs (cxOf (L2.CX prog w) prog w K mg base N qual scope f cdv A outer s H E) body (tS P ⟨F0, some x⟩ H0 (WE0 E) g)) :
    FnOk prog w K mg base (L2.CX prog w) (k + 1) f fd ps (spI P c n (runI c g N.length)) := by
  refine Fu.ok S (fun vs H Q E ⟨x, dx, args, F, ds, e, _, _, _, i, hl, _⟩ => by rw [e, List.length_cons, ← i.length, hl, hn]) (fun cdv A outer s H vs Q E hr h => ?_)
  obtain ⟨x, dx, args, F, ds, rfl, hx, hf, sx, i, hl, z⟩ := h
  refine ⟨_, hbody cdv A outer s H F (minus H x) x E hr, F, env0I c N.length ds, er_startI hN sx i hx hf, ?_⟩
  unfold runI at z
  cases hg : g (env0I c N.length ds) with
  | nx ρ =>
    rw [hg] at z
    intro σ F' H' er _
    replace z : PostG P (WE0 E) (fun F' _ fs v => v = .non ∧ Is P F' (.obj c fs) (.ref x)) (selfF c ρ) F [] (minus H x) Q := z
    have hx0 := er.self x rfl
    cases hs : selfF c ρ with
    | bad =>
      rw [hs] at z
      exact z.elim
    | err e p => exact absurd hs selfF_noerr
    | ok xs =>
      rw [hs] at z
      rcases selfF_of hs with q | q
      · obtain ⟨a, h1, h2, h3, h4⟩ := er.ow 0 _ q
        rw [hx0] at h1
        cases h1
        obtain ⟨F2, e1, e2, i2, n2⟩ := h4.still er.s h3
        refine z .non F2 H' ⟨er.g.f.trans e1, er.g.h, e2, fun b o hb => ?_⟩ ⟨rfl, i2⟩
        rcases n2 b o hb with y | y
        · exact er.g.n b o y
        · exact .inr (y ▸ minus_same)
      · obtain ⟨v, h1, h2⟩ := er.sh 0 _ q
        rw [hx0] at h1
        cases h1
        exact z .non F' H' er.g ⟨rfl, h2⟩
  | rt d =>
    rw [hg] at z
    exact z.elim
  | bk ρ =>
    rw [hg] at z
    exact z.elim
  | ct ρ =>
    rw [hg] at z
    exact z.elim
  | err e p ρ =>
    rw [hg] at z
    exact fun σ F' H' y er _ q => z F' H' y er.g q
  | bad =>
    rw [hg] at z
    exact z.elim
/-- a def, its name, its promise -/
theorem calD {x y qual : Str} {st : Stmt} {f : Addr} {fd : FuncData} {N ps : List Str} {k : Nat} {g : Env → RS} (Fu : Fun K x qual st f fd) (S : FnScope N ps (defScope st)) (hm : mg y = some (.ref f)) (hb : Binds K fd ps [])
    (hbody : ∀ (cdv : Value) (A : Around) (outer : List PySem.Env) (s : Shared) (H F0 : Hp) (E : XK), Room k (A.deeper (PyProof.Rows.envOfC qual (defScope st) s.heap.objs.size f cdv)) →
      PSs (cxOf (L2.CX prog w) prog w K mg base N qual (defScope st) f cdv A outer s H E) (defBody st) (tS P ⟨F0, none⟩ H (WE0 E) g)) :
    CalD prog w K mg base P (k + 1) y ps.length (runB g N.length) := ⟨f, fd, ps, fnd Fu S hbody, hm, Fu.kp, hb⟩
theorem ownD {c : Nat} {x qual : Str} {st : Stmt} {f : Addr} {fd : FuncData} {N ps : List Str} {k : Nat} {g : Env → RS} (Fu : Fun K x qual st f fd) (S : FnScope N ps (defScope st)) (hm : OwnM K (P.C c) x f) (hb : Binds K fd ps [])
    (hbody : ∀ (cdv : Value) (A : Around) (outer : List PySem.Env) (s : Shared) (H F0 : Hp) (E : XK), Room k (A.deeper (PyProof.Rows.envOfC qual (defScope st) s.heap.objs.size f cdv)) →
      PSs (cxOf (L2.CX prog w) prog w K mg base N qual (defScope st) f cdv A outer s H E) (defBody st) (tS P ⟨F0, none⟩ H (WE0 E) g)) :
    OwnD prog w K mg base P (k + 1) x c ps.length (runB g N.length) := ⟨f, fd, ps, fnd Fu S hbody, hm, hb⟩
theorem mkD {c : Nat} {x y qual : Str} {params : Arguments} {body : List Stmt} {scope : Scope} {dvs : List V} {kws : List (Str × V)} {f : Addr} {fd : FuncData} {N ps : List Str} {k : Nat} {g : Env → RS} {n : Nat} (hn : ps.length = n + 1) (hN : N ≠ []) (Fu : FunD K x qual params body scope dvs kws f fd) (S : FnScope N ps scope) (M : Mk K (P.C c) f) (hm : mg y = some (.ref (P.C c))) (hb : Binds K fd ps [])
    (hbody : ∀ (cdv : Value) (A : Around) (outer : List PySem.Env) (s : Shared) (H F0 H0 : Hp) (x : Addr) (E : XK), Room k (A.deeper (PyProof.Rows.envOfC qual scope s.heap.objs.size f cdv)) →
      PSs (cxOf (L2.CX prog w) prog w K mg base N qual scope f cdv A outer s H E) body (tS P ⟨F0, some x⟩ H0 (WE0 E) g)) :
    MkD prog w K mg base P (k + 1) y c n (runI c g N.length) := ⟨f, fd, ps, M, fndJ hn hN Fu S hbody, hm, hb⟩
/-- the law's head: what a law's def must answer -/
theorem law_post {G : List D → Res D} (hp : P.K = K) (hG : ∀ ns : List Int, ns.length ≤ 63 → G [.scr ns] = .ok (.bl true)) (H : Hp) (a : Addr) (ns : List Int) (hl : ns.length ≤ 63) (hS : SqL K H a (ns.map V.int)) :
    spD P 1 G [.ref a] H (fun v _ => v = .bl true) fun _ _ _ => False := by
  refine ⟨H, [.scr ns], .refl H, .cons (by rw [Is]; exact ⟨a, rfl, hp ▸ hS⟩) .nil, rfl, ?_⟩
  rw [hG ns hl]
  intro v F' H' _ h
  exact un_bl h
end
end DL
namespace DL
open PySem L2
abbrev dSub : D → D → Option D := int2 fun i j => some (.int (i - j))
abbrev dLt : D → D → Option D := int2 fun i j => some (.bl (decide (i < j)))
abbrev dLe : D → D → Option D := int2 fun i j => some (.bl (decide (i ≤ j)))
abbrev dGt : D → D → Option D := int2 fun i j => some (.bl (decide (j < i)))
abbrev dGe : D → D → Option D := int2 fun i j => some (.bl (decide (j ≤ i)))
/-- turns that a while is given -/
def big : Nat := 10 ^ 400
def ib_int : D → Option Bool
  | .int _ => some true
  | .bl _ => some true
  | .scr _ => none
  | _ => some false
def ib_bool : D → Option Bool
  | .bl _ => some true
  | .scr _ => none
  | _ => some false
def ib_Ratio : D → Option Bool
  | .obj _ _ => some true
  | .scr _ => none
  | _ => some false
section
variable {X : Cx} {P : Pm} {F0 : Fz} {H0 : Hp} {W : WX} {pos : Pos}
theorem pd_gl {x z : Str} (hg : Gl X x) (hm : ∃ t, X.mg x = some (.str z t)) (hd : (x == ("__debug__" : Str)) = false) : PE X (.Name x pos) (tE P F0 H0 W (fK (.str z))) := by
  obtain ⟨t, ht⟩ := hm
  exact pd_const (pe_glob hg ht (v := .str z) ⟨t, rfl⟩ hd) fun F => by rw [Is]
end
/-- no built-in's object is one of the class at C -/
structure NoB (K : PySem.W.Frag) (C : Addr) : Prop where
  n1 : PySem.W.kitOne K (.type "NoneType") (.ref C) = some false
  n2 : PySem.W.kitOne K (.type "bool") (.ref C) = some false
  n3 : PySem.W.kitOne K (.type "int") (.ref C) = some false
  n4 : PySem.W.kitOne K (.type "str") (.ref C) = some false
  n5 : PySem.W.kitOne K (.type "list") (.ref C) = some false
  n6 : PySem.W.kitOne K (.type "tuple") (.ref C) = some false
  n7 : PySem.W.kitOne K (.type "dict") (.ref C) = some false
section
variable {K : PySem.W.Frag} {P : Pm} {C : Addr}
theorem kit_int (h : ∀ c, PySem.W.kitOne K (.ref (P.C c)) (.type "int") = some false) : ∀ d b, ib_int d = some b → PySem.W.kitOne K (tyD P d) (.type "int") = some b := by
  intro d b hb
  cases d <;> simp only [ib_int, Option.some.injEq] at hb <;> (try subst hb) <;> first | exact kit_ty rfl | exact h _ | cases hb
theorem kit_bool (h : ∀ c, PySem.W.kitOne K (.ref (P.C c)) (.type "bool") = some false) : ∀ d b, ib_bool d = some b → PySem.W.kitOne K (tyD P d) (.type "bool") = some b := by
  intro d b hb
  cases d <;> simp only [ib_bool, Option.some.injEq] at hb <;> (try subst hb) <;> first | exact kit_ty rfl | exact h _ | cases hb
theorem kit_Ratio (hC : ∀ c, P.C c = C) (h : NoB K C) : ∀ d b, ib_Ratio d = some b → PySem.W.kitOne K (tyD P d) (.ref C) = some b := by
  intro d b hb
  cases d <;> simp only [ib_Ratio, Option.some.injEq] at hb <;> (try subst hb) <;> first | exact h.n1 | exact h.n2 | exact h.n3 | exact h.n4 | exact h.n5 | exact h.n6 | exact h.n7 | cases hb | skip
  show PySem.W.kitOne K (.ref (P.C _)) (.ref C) = some true
  rw [hC]
  unfold PySem.W.kitOne
  rw [if_pos (by simp)]
end
end DL
namespace DL
open PySem L2
theorem seq_nx (ρ : Env) (g : Env → RS) : seqS (.nx ρ) g = g ρ := rfl
theorem seq_rt (d : D) (g : Env → RS) : seqS (.rt d) g = .rt d := rfl
theorem seq_err (c : Nat) (p : Option D) (ρ : Env) (g : Env → RS) : seqS (.err c p ρ) g = .err c p ρ := rfl
theorem bnd_ok {α : Type} (d : α) (ρ : Env) (k : α → RS) : bindS (.ok d) ρ k = k d := rfl
theorem bnd_err {α : Type} (c : Nat) (p : Option D) (ρ : Env) (k : α → RS) : bindS (Res.err c p : Res α) ρ k = .err c p ρ := rfl
theorem loop_nx (ρ : Env) (g : Env → RS) : loopK (.nx ρ) g = g ρ := rfl
theorem loop_rt (d : D) (g : Env → RS) : loopK (.rt d) g = .rt d := rfl
theorem for_nil (h : D → Env → Option Env) (g : Env → RS) (ρ : Env) : forD h g [] ρ = .nx ρ := rfl
theorem for_cons (h : D → Env → Option Env) (g : Env → RS) (d : D) (r : List D) (ρ : Env) : forD h g (d :: r) ρ = match h d ρ with | none => .bad | some ρ1 => loopK (g ρ1) (forD h g r) := rfl
theorem int_i (i : Int) : cInt2 [.int i] = some (.int i) := rfl
theorem mod_ok {i j : Int} (h : j ≠ 0) : modC i j = some (.int (i.fmod j)) := if_neg h
theorem fdiv_ok {i j : Int} (h : j ≠ 0) (h2 : j.natAbs.log2 < 9000) : fdivC i j = some (.int (i.fdiv j)) := if_pos ⟨h, h2⟩
theorem mul_ok {i j : Int} (h : i.natAbs.log2 + j.natAbs.log2 < 1000000) : mulC i j = some (.int (i * j)) := if_pos h
theorem log2_lt {n k : Nat} (h : n < 2 ^ k) (hk : 0 < k) : n.log2 < k := by
  by_cases h0 : n = 0
  · subst h0
    simpa using hk
  · exact (Nat.log2_lt h0).mpr h
/-- the greatest common divisor by rests -/
theorem gcd_loop (body : Env → RS) (hb : ∀ a b : Nat, b ≠ 0 → body [some (.sh (.int a)), some (.sh (.int b))] = .nx [some (.sh (.int b)), some (.sh (.int ((a % b : Nat) : Int)))]) :
    ∀ (n a b : Nat), b < n → whileD (tB' (fOp dGt (peek 1) (fK (.int 0)))) body n [some (.sh (.int a)), some (.sh (.int b))] = .nx [some (.sh (.int (Nat.gcd a b))), some (.sh (.int 0))]
  | 0, a, b, h => by omega
  | n + 1, a, b, h => by
    by_cases hz : b = 0
    · subst hz
      rw [Nat.gcd_zero_right]
      rfl
    · have hlt : a % b < b := Nat.mod_lt _ (by omega)
      have ih := gcd_loop body hb n b (a % b) (by omega)
      rw [Nat.gcd_comm b, ← Nat.gcd_rec, Nat.gcd_comm b] at ih
      have hd : decide ((0 : Int) < (b : Int)) = true := by simp; omega
      rw [← ih, whileD]
      simp only [tB', fOp, peek, fK, List.getElem?_cons_succ, List.getElem?_cons_zero, Res.bind_ok, dGt, int2, opt, bo, bnd_ok, hd, if_true, hb a b hz, loop_nx]
end DL
namespace DL
open PySem L2 PySem.PyData
theorem beq_s (x y : Str) : (x == y) = decide (x = y) := by
  by_cases h : x = y
  · subst h
    simp
  · rw [decide_eq_false h]
    exact beq_eq_false_iff_ne.mpr h
theorem beq_i (x y : Int) : (x == y) = decide (x = y) := by
  by_cases h : x = y
  · subst h
    simp
  · rw [decide_eq_false h]
    exact beq_eq_false_iff_ne.mpr h
theorem eq_ii (i j : Int) : eqD (.int i) (.int j) = some (.bl (decide (i = j))) := by
  simp [eqD, eqP, toPD, SeqAt.shaped, PyData.canLay0, PyData.depth, PyData.eqv, beq_i]
theorem ne_ii (i j : Int) : neD (.int i) (.int j) = some (.bl (!decide (i = j))) := by
  simp [neD, eqP, toPD, SeqAt.shaped, PyData.canLay0, PyData.depth, PyData.eqv, beq_i]
theorem eq_ss {x y : Str} (hx : strOk x = true) (hy : strOk y = true) : eqD (.str x) (.str y) = some (.bl (decide (x = y))) := by
  simp [eqD, eqP, toPD, SeqAt.shaped, PyData.canLay0, PyData.depth, PyData.eqv, hx, hy, beq_s]
theorem ne_ss {x y : Str} (hx : strOk x = true) (hy : strOk y = true) : neD (.str x) (.str y) = some (.bl (!decide (x = y))) := by
  simp [neD, eqP, toPD, SeqAt.shaped, PyData.canLay0, PyData.depth, PyData.eqv, hx, hy, beq_s]
theorem toPDs_str (xs : List Str) : toPDs (xs.map .str) = some (xs.map .str) := by
  induction xs with
  | nil => rfl
  | cons a r ih => simp [toPDs, toPD, ih]
theorem canLay_strs : ∀ (xs : List Str), (∀ x ∈ xs, strOk x = true) → PyData.canLayAll0 (xs.map .str) = true
  | [], _ => rfl
  | x :: r, h => by
    simp [PyData.canLayAll0, PyData.canLay0, h x List.mem_cons_self, canLay_strs r fun y hy => h y (List.mem_cons_of_mem _ hy)]
theorem depth_strs : ∀ (xs : List Str), PyData.depthAll (xs.map .str) ≤ 1
  | [] => by simp [PyData.depthAll]
  | x :: r => by
    have := depth_strs r
    simp [PyData.depthAll, PyData.depth]
    omega
theorem eqvAll_strs : ∀ (xs ys : List Str), PyData.eqvAll (xs.map .str) (ys.map .str) = decide (xs = ys)
  | [], [] => rfl
  | [], _ :: _ => rfl
  | _ :: _, [] => rfl
  | x :: r, y :: q => by
    simp [PyData.eqvAll, PyData.eqv, eqvAll_strs r q, beq_s]
theorem eqP_strs {xs ys : List Str} (hx : ∀ x ∈ xs, strOk x = true) (hy : ∀ x ∈ ys, strOk x = true) : eqP (.lst (xs.map .str)) (.lst (ys.map .str)) = some (decide (xs = ys)) := by
  have h1 := depth_strs xs
  have h2 := depth_strs ys
  simp only [eqP, toPD, toPDs_str, Option.map_some, Option.bind_some]
  have s1 : SeqAt.shaped (.list (xs.map .str)) = true := by
    simp [SeqAt.shaped, PyData.canLay0, PyData.depth, canLay_strs xs hx]
    omega
  have s2 : SeqAt.shaped (.list (ys.map .str)) = true := by
    simp [SeqAt.shaped, PyData.canLay0, PyData.depth, canLay_strs ys hy]
    omega
  rw [if_pos ⟨s1, s2⟩, PyData.eqv, eqvAll_strs]
end DL
namespace DL.K3
open PySem L2
def nmv : Nat → List Str := fun _ => ["top", "bottom"]
def g__law_cell : Env → RS := (sSeq (sIf (tB' (fOp dLt (peek 1) (fB cLenS (lCons (peek 0) lNil))))
  (sRet (fOp itemS (peek 0) (peek 1)))
  .nx)
  (sRet (fK (.int 0))))
def G__law_cell : List D → Res D := runB g__law_cell 2
def fr__law_row_0 : Env → RS := (sFor (iSq (look 1)) (hName 3)
  (sSeq (sApp 2 (fOp (int2 modC) (fB cInt2 (lCons (peek 0) lNil)) (peek 3)))
  (sSet 0 (fOp (int2 fdivC) (peek 0) (peek 3)))))
def fr__law_row_1 : Env → RS := (sFor (iR1 (lCons (fB cLen (lCons (peek 1) lNil)) lNil)) (hName 5)
  (sSeq (sSet 6 (fOp addA (fOp (int2 modC) (fB cInt2 (lCons (fOp (int2 powC) (fOp addA (fOp addA (peek 4) (fOp (int2 mulC) (fK (.int 7919)) (peek 5))) (fK (.int 104729))) (fK (.int 5))) lNil)) (fK (.int 2147483647))) (peek 5)))
  (sApp 2 (fOp (int2 modC) (fB cInt2 (lCons (fOp (int2 modC) (fB cInt2 (lCons (fOp (int2 mulC) (peek 6) (fK (.int 40692))) lNil)) (fK (.int 2147483629))) lNil)) (fOp itemD (peek 1) (peek 5))))))
def g__law_row : Env → RS := (sSeq (sSetO 2 (fLst lNil))
  (sSeq (sIf (tB' (fOp dGe (peek 0) (fOp (int2 powC) (fK (.int 10)) (fK (.int 18)))))
  (sSeq fr__law_row_0
  (sFrz 2 (sRet (look 2))))
  .nx)
  (sSeq (sSet 4 (fOp (int2 modC) (fB cInt2 (lCons (peek 0) lNil)) (fK (.int 2147483647))))
  (sSeq fr__law_row_1
  (sFrz 2 (sRet (look 2)))))))
def G__law_row : List D → Res D := runB g__law_row 7
def wh__law_share_0 : Env → RS := (whileD (tB' (fOp dGt (peek 1) (fK (.int 0)))) (sPar 0 1 (lCons (look 1) (lCons (fOp (int2 modC) (fB cInt2 (lCons (peek 0) lNil)) (peek 1)) lNil))) big)
def g__law_share : Env → RS := (sSeq (sPar 0 1 (lCons (fB cAbs (lCons (peek 0) lNil)) (lCons (fB cAbs (lCons (peek 1) lNil)) lNil)))
  (sSeq wh__law_share_0
  (sRet (look 0))))
def G__law_share : List D → Res D := runB g__law_share 2
def g__law_low : Env → RS := (sSeq (sSet 2 (fCall 2 G__law_share (lCons (look 0) (lCons (look 1) lNil))))
  (sSeq (sIf (tB' (fOp dLt (peek 1) (fK (.int 0))))
  (sSet 2 (fU negC (peek 2)))
  .nx)
  (sRet (fTup (lCons (fOp (int2 fdivC) (peek 0) (peek 2)) (lCons (fOp (int2 fdivC) (peek 1) (peek 2)) lNil))))))
def G__law_low : List D → Res D := runB g__law_low 3
def g_Ratio___str__ : Env → RS := (sSeq (sIf (tB' (fOp eqD (fU (fldD nmv "bottom") (peek 0)) (fK (.int 1))))
  (sRet (fF1 (zF (fU (fldD nmv "top") (peek 0)))))
  .nx)
  (sRet (fF3 (zF (fU (fldD nmv "top") (peek 0))) (zS "/") (zF (fU (fldD nmv "bottom") (peek 0))))))
def G_Ratio___str__ : List D → Res D := runB g_Ratio___str__ 1
def g__law_number_text : Env → RS := (sSeq (sIf (tB' (fOp eqD (fOp itemD (peek 0) (fK (.int 1))) (fK (.int 1))))
  (sRet (fM (strN G_Ratio___str__) (fOp itemD (peek 0) (fK (.int 0)))))
  .nx)
  (sRet (fOp addA (fOp addA (fM (strN G_Ratio___str__) (fOp itemD (peek 0) (fK (.int 0)))) (fK (.str "/"))) (fM (strN G_Ratio___str__) (fOp itemD (peek 0) (fK (.int 1)))))))
def G__law_number_text : List D → Res D := runB g__law_number_text 1
def lc_is_count_0 : Env → Res D := (fLc (iSq (look 0)) (hName 1) (tB' (fOp notInS (peek 1) (fK (.str "0123456789")))) (look 1) [1])
def g_is_count : Env → RS := (sSeq (sIf (tOr' (tB' (fOp eqD (peek 0) (fK (.str "")))) (tB' (fOp neD lc_is_count_0 (fLst lNil))))
  (sRet (fK (.bl false)))
  .nx)
  (sRet (vOr (fOp eqD (peek 0) (fK (.str "0"))) (fOp neD (fOp itemD (peek 0) (fK (.int 0))) (fK (.str "0"))))))
def G_is_count : List D → Res D := runB g_is_count 2
def g_halves_of : Env → RS := (sRet (fIf (tB' (fM (isiD ib_Ratio) (peek 0))) (fTup (lCons (fU (fldD nmv "top") (peek 0)) (lCons (fU (fldD nmv "bottom") (peek 0)) lNil))) (fTup (lCons (look 0) (lCons (fK (.int 1)) lNil)))))
def G_halves_of : List D → Res D := runB g_halves_of 1
def wh_common_0 : Env → RS := (whileD (tB' (fOp dGt (peek 1) (fK (.int 0)))) (sPar 0 1 (lCons (look 1) (lCons (fOp (int2 modC) (peek 0) (peek 1)) lNil))) big)
def g_common : Env → RS := (sSeq (sPar 0 1 (lCons (fB cAbs (lCons (peek 0) lNil)) (lCons (fB cAbs (lCons (peek 1) lNil)) lNil)))
  (sSeq wh_common_0
  (sRet (look 0))))
def G_common : List D → Res D := runB g_common 2
def g_Ratio___init__ : Env → RS := (sSeq (sIf (tB' (fOp eqD (peek 2) (fK (.int 0))))
  sBad
  .nx)
  (sSeq (sSet 3 (fCall 2 G_common (lCons (look 1) (lCons (look 2) lNil))))
  (sSeq (sIf (tB' (fOp dLt (peek 2) (fK (.int 0))))
  (sSet 3 (fU negC (peek 3)))
  .nx)
  (sSeq (sFld nmv "top" 0 (fOp (int2 fdivC) (peek 1) (peek 3)))
  (sFld nmv "bottom" 0 (fOp (int2 fdivC) (peek 2) (peek 3)))))))
def G_Ratio___init__ : List D → Res (List D) := runI 0 g_Ratio___init__ 4
def g_plain : Env → RS := (sSeq (sAsg (fCall 1 G_halves_of (lCons (look 0) lNil)) (hTup fun ds ρ => if ds.length = 2 then (hCons (hName 1) (hCons (hName 2) hNil)) ds ρ else none))
  (sRet (fIf (tB' (fOp eqD (peek 2) (fK (.int 1)))) (look 1) (look 0))))
def G_plain : List D → Res D := runB g_plain 3
def g_quotient : Env → RS := (sSeq (sAsg (fCall 1 G_halves_of (lCons (look 0) lNil)) (hTup fun ds ρ => if ds.length = 2 then (hCons (hName 2) (hCons (hName 3) hNil)) ds ρ else none))
  (sSeq (sAsg (fCall 1 G_halves_of (lCons (look 1) lNil)) (hTup fun ds ρ => if ds.length = 2 then (hCons (hName 4) (hCons (hName 5) hNil)) ds ρ else none))
  (sRet (fCall 1 G_plain (lCons (fMk 0 2 G_Ratio___init__ (lCons (fOp (int2 mulC) (peek 2) (peek 5)) (lCons (fOp (int2 mulC) (peek 3) (peek 4)) lNil))) lNil)))))
def G_quotient : List D → Res D := runB g_quotient 6
def lc_read_count_0 : Env → Res D := (fLc (iSq (look 1)) (hName 2) tYes' (fCall 1 G_is_count (lCons (look 2) lNil)) [2])
def g_read_count : Env → RS := (sSeq (sSet 1 (fSplit (look 0) (fK (.str "/"))))
  (sSeq (sIf (tOr' (tB' (fOp dGt (fB cLen (lCons (peek 1) lNil)) (fK (.int 2)))) (tOr' (tNot' (tB' (fB cAll (lCons lc_read_count_0 lNil)))) (tB' (fOp eqD (fSlc (peek 1) (oSo (fK (.int 1))) oNo) (fLst (lCons (fK (.str "0")) lNil))))))
  (sRet (fK .non))
  .nx)
  (sRet (fCall 2 G_quotient (lCons (fB cInt2 (lCons (fOp itemD (peek 1) (fK (.int 0))) lNil)) (lCons (fIf (tB' (fOp eqD (fB cLen (lCons (peek 1) lNil)) (fK (.int 2)))) (fB cInt2 (lCons (fOp itemD (peek 1) (fU negC (fK (.int 1)))) lNil)) (fK (.int 1))) lNil))))))
def G_read_count : List D → Res D := runB g_read_count 3
def g_Ratio___neg__ : Env → RS := (sRet (fMk 0 2 G_Ratio___init__ (lCons (fU negC (fU (fldD nmv "top") (peek 0))) (lCons (fU (fldD nmv "bottom") (peek 0)) lNil))))
def G_Ratio___neg__ : List D → Res D := runB g_Ratio___neg__ 1
def g_read_number : Env → RS := (sSeq (sSet 1 (fCall 1 G_read_count (lCons (fIf (tB' (fOp eqD (fSlc (peek 0) oNo (oSo (fK (.int 1)))) (fK (.str "-")))) (fSlc (peek 0) (oSo (fK (.int 1))) oNo) (look 0)) lNil)))
  (sSeq (sIf (tB' (fIsN (peek 1)))
  (sRaise 0 (look 0))
  .nx)
  (sSeq (sSet 1 (fIf (tB' (fOp eqD (fSlc (peek 0) oNo (oSo (fK (.int 1)))) (fK (.str "-")))) (fM (negN G_Ratio___neg__) (look 1)) (look 1)))
  (sSeq (sIf (tB' (fOp neD (fM (strN G_Ratio___str__) (look 1)) (peek 0)))
  (sRaise 0 (look 0))
  .nx)
  (sRet (look 1))))))
def G_read_number : List D → Res D := runB g_read_number 2
def g__law_told : Env → RS := (sTryAs (sRet (fTup (lCons (fK (.str "number")) (lCons (fCall 1 G_read_number (lCons (look 0) lNil)) lNil)))) 0 1 (fun p ρ => do let y ← (fun p _ => payD p) p ρ; .ok (.tup [.str "none", y])))
def G__law_told : List D → Res D := runB g__law_told 2
def lc__law_digits_0 : Env → Res D := (fLc (iSq (look 0)) (hName 1) (tB' (fOp notInS (peek 1) (fK (.str "0123456789")))) (look 1) [1])
def g__law_digits : Env → RS := (sSeq (sIf (tOr' (tB' (fOp eqD (peek 0) (fK (.str "")))) (tB' (fOp neD lc__law_digits_0 (fLst lNil))))
  (sRet (fK (.bl false)))
  .nx)
  (sRet (vOr (fOp eqD (peek 0) (fK (.str "0"))) (fOp neD (fOp itemD (peek 0) (fK (.int 0))) (fK (.str "0"))))))
def G__law_digits : List D → Res D := runB g__law_digits 2
def lc__law_read_0 : Env → Res D := (fLc (iSq (look 2)) (hName 3) tYes' (fCall 1 G__law_digits (lCons (look 3) lNil)) [3])
def g__law_read : Env → RS := (sSeq (sSet 1 (fIf (tB' (fOp eqD (fSlc (peek 0) oNo (oSo (fK (.int 1)))) (fK (.str "-")))) (fSlc (peek 0) (oSo (fK (.int 1))) oNo) (look 0)))
  (sSeq (sSet 2 (fSplit (look 1) (fK (.str "/"))))
  (sSeq (sIf (tOr' (tB' (fOp dGt (fB cLen (lCons (peek 2) lNil)) (fK (.int 2)))) (tNot' (tB' (fB cAll (lCons lc__law_read_0 lNil)))))
  (sRet (fK .non))
  .nx)
  (sSeq (sPar 4 5 (lCons (fB cInt2 (lCons (fOp itemD (peek 2) (fK (.int 0))) lNil)) (lCons (fIf (tB' (fOp eqD (fB cLen (lCons (peek 2) lNil)) (fK (.int 2)))) (fB cInt2 (lCons (fOp itemD (peek 2) (fU negC (fK (.int 1)))) lNil)) (fK (.int 1))) lNil)))
  (sSeq (sIf (tOr' (tB' (fOp eqD (peek 5) (fK (.int 0)))) (tOr' (tAnd' (tB' (fOp eqD (fB cLen (lCons (peek 2) lNil)) (fK (.int 2)))) (tB' (fOp eqD (peek 5) (fK (.int 1))))) (tAnd' (tB' (fOp dGt (fCall 2 G__law_share (lCons (look 4) (lCons (look 5) lNil))) (fK (.int 1)))) (tB' (fOp eqD (fB cLen (lCons (peek 2) lNil)) (fK (.int 2)))))))
  (sRet (fK .non))
  .nx)
  (sSeq (sIf (tOr' (tAnd' (tB' (fOp eqD (fSlc (peek 0) oNo (oSo (fK (.int 1)))) (fK (.str "-")))) (tB' (fOp eqD (peek 4) (fK (.int 0))))) (tAnd' (tB' (fOp eqD (peek 4) (fK (.int 0)))) (tB' (fOp eqD (fB cLen (lCons (peek 2) lNil)) (fK (.int 2))))))
  (sRet (fK .non))
  .nx)
  (sRet (fTup (lCons (fIf (tB' (fOp eqD (fSlc (peek 0) oNo (oSo (fK (.int 1)))) (fK (.str "-")))) (fU negC (peek 4)) (look 4)) (lCons (look 5) lNil))))))))))
def G__law_read : List D → Res D := runB g__law_read 6
def g__law_is : Env → RS := (sSeq (sIf (tB' (fOp eqD (fOp itemD (peek 1) (fK (.int 1))) (fK (.int 1))))
  (sRet (vAnd (fM (isiD ib_int) (peek 0)) (vAnd (vNot (fM (isiD ib_bool) (peek 0))) (fOp eqD (peek 0) (fOp itemD (peek 1) (fK (.int 0)))))))
  .nx)
  (sRet (vAnd (fM (isiD ib_Ratio) (peek 0)) (fOp eqD (fTup (lCons (fU (fldD nmv "top") (peek 0)) (lCons (fU (fldD nmv "bottom") (peek 0)) lNil))) (peek 1)))))
def G__law_is : List D → Res D := runB g__law_is 2
def g__law_as_due : Env → RS := (sSeq (sPar 1 2 (lCons (fCall 1 G__law_read (lCons (look 0) lNil)) (lCons (fCall 1 G__law_told (lCons (look 0) lNil)) lNil)))
  (sSeq (sIf (tB' (fIsN (peek 1)))
  (sRet (fOp eqD (peek 2) (fTup (lCons (fK (.str "none")) (lCons (look 0) lNil)))))
  .nx)
  (sRet (vAnd (fOp eqD (fOp itemD (peek 2) (fK (.int 0))) (fK (.str "number"))) (fCall 2 G__law_is (lCons (fOp itemD (peek 2) (fK (.int 1))) (lCons (look 1) lNil)))))))
def G__law_as_due : List D → Res D := runB g__law_as_due 3
def g__law_sign : Env → RS := (sSeq (sSet 1 (fK (.str " !\"#$&'()*+,-./0123456789:;<=>?@ABCDEFGHIJKLMNOPQRSTUVWXYZ[\\]^_`")))
  (sSeq (sSet 1 (fOp addA (peek 1) (fK (.str "abcdefghijklmnopqrstuvwxyz{|}~\n"))))
  (sRet (fOp itemD (peek 1) (fOp (int2 modC) (peek 0) (fK (.int 95)))))))
def G__law_sign : List D → Res D := runB g__law_sign 2
def g__law_spoilt : Env → RS := (sSeq (sSet 4 (fOp (int2 modC) (peek 2) (fOp addA (fB cLen (lCons (peek 0) lNil)) (fK (.int 1)))))
  (sSeq (sIf (tB' (fOp eqD (peek 1) (fK (.int 0))))
  (sRet (look 0))
  .nx)
  (sSeq (sIf (tB' (fOp eqD (peek 1) (fK (.int 1))))
  (sRet (fOp addA (fOp addA (fSlc (peek 0) oNo (oSo (look 4))) (fCall 1 G__law_sign (lCons (look 3) lNil))) (fSlc (peek 0) (oSo (look 4)) oNo)))
  .nx)
  (sSeq (sIf (tB' (fOp eqD (peek 1) (fK (.int 2))))
  (sRet (fOp addA (fSlc (peek 0) oNo (oSo (look 4))) (fSlc (peek 0) (oSo (fOp addA (peek 4) (fK (.int 1)))) oNo)))
  .nx)
  (sSeq (sIf (tB' (fOp eqD (peek 1) (fK (.int 3))))
  (sRet (fOp addA (fOp addA (fSlc (peek 0) oNo (oSo (look 4))) (fCall 1 G__law_sign (lCons (look 3) lNil))) (fSlc (peek 0) (oSo (fOp addA (peek 4) (fK (.int 1)))) oNo)))
  .nx)
  (sRet (fOp addA (fOp addA (fSlc (peek 0) oNo (oSo (look 4))) (fSlc (peek 0) (oSo (look 4)) (oSo (fOp addA (peek 4) (fK (.int 1)))))) (fSlc (peek 0) (oSo (look 4)) oNo))))))))
def G__law_spoilt : List D → Res D := runB g__law_spoilt 5
def fr_law_0 : Env → RS := (sFor (iSq (fLst (lCons (fCall 4 G__law_spoilt (lCons (look 5) (lCons (fOp itemD (peek 1) (fK (.int 2))) (lCons (fOp itemD (peek 1) (fK (.int 3))) (lCons (fOp itemD (peek 1) (fK (.int 4))) lNil))))) (lCons (fOp itemD (peek 6) (fOp (int2 modC) (fOp itemD (peek 1) (fK (.int 5))) (fB cLen (lCons (peek 6) lNil)))) (lCons (fOp itemD (peek 6) (fOp (int2 modC) (fOp itemD (peek 1) (fK (.int 4))) (fB cLen (lCons (peek 6) lNil)))) lNil))))) (hName 7)
  (sIf (tOr' (tNot' (tB' (fCall 1 G__law_as_due (lCons (look 7) lNil)))) (tNot' (tB' (fCall 1 G__law_as_due (lCons (look 7) lNil)))))
  (sRet (fK (.bl false)))
  .nx))
def g_law : Env → RS := (sSeq (sSet 1 (fCall 2 G__law_row (lCons (fCall 2 G__law_cell (lCons (look 0) (lCons (fK (.int 2)) lNil))) (lCons (fLst (lCons (fK (.int 2)) (lCons (fK (.int 3)) (lCons (fK (.int 5)) (lCons (fK (.int 70)) (lCons (fK (.int 95)) (lCons (fK (.int 40)) lNil))))))) lNil))))
  (sSeq (sPar 2 3 (lCons (fCall 2 G__law_cell (lCons (look 0) (lCons (fK (.int 0)) lNil))) (lCons (fOp addA (fB cAbs (lCons (fCall 2 G__law_cell (lCons (look 0) (lCons (fK (.int 1)) lNil))) lNil)) (fK (.int 1))) lNil)))
  (sSeq (sIf (tB' (fOp eqD (fOp itemD (peek 1) (fK (.int 0))) (fK (.int 0))))
  (sPar 2 3 (lCons (fOp dSub (fOp (int2 modC) (fB cInt2 (lCons (peek 2) lNil)) (fK (.int 40))) (fK (.int 20))) (lCons (fOp addA (fOp (int2 modC) (fB cInt2 (lCons (peek 3) lNil)) (fK (.int 12))) (fK (.int 1))) lNil)))
  .nx)
  (sSeq (sIf (tB' (fOp eqD (fOp itemD (peek 1) (fK (.int 1))) (fK (.int 0))))
  (sSet 3 (fK (.int 1)))
  .nx)
  (sSeq (sSet 4 (fCall 2 G__law_low (lCons (fOp (int2 mulC) (fOp (int2 modC) (fB cInt2 (lCons (peek 2) lNil)) (fOp (int2 powC) (fK (.int 10)) (fK (.int 28)))) (fOp itemD (fLst (lCons (fK (.int 1)) (lCons (fU negC (fK (.int 1))) lNil))) (fOp itemD (peek 1) (fK (.int 0))))) (lCons (fOp addA (fOp (int2 modC) (fOp dSub (fB cInt2 (lCons (peek 3) lNil)) (fK (.int 1))) (fOp (int2 powC) (fK (.int 10)) (fK (.int 28)))) (fK (.int 1))) lNil))))
  (sSeq (sSet 5 (fCall 1 G__law_number_text (lCons (look 4) lNil)))
  (sSeq (sIf (tOr' (tB' (fOp neD (fM (strN G_Ratio___str__) (fMk 0 2 G_Ratio___init__ (lCons (fOp itemD (peek 4) (fK (.int 0))) (lCons (fOp itemD (peek 4) (fK (.int 1))) lNil)))) (peek 5))) (tOr' (tB' (fOp neD (fM (strN G_Ratio___str__) (fCall 1 G_plain (lCons (fMk 0 2 G_Ratio___init__ (lCons (fOp itemD (peek 4) (fK (.int 0))) (lCons (fOp itemD (peek 4) (fK (.int 1))) lNil))) lNil))) (peek 5))) (tNot' (tB' (fCall 1 G__law_as_due (lCons (look 5) lNil))))))
  (sRet (fK (.bl false)))
  .nx)
  (sSeq (sSet 6 (fLst (lCons (fK (.str "")) (lCons (fK (.str "-")) (lCons (fK (.str "-0")) (lCons (fK (.str "0")) (lCons (fK (.str "00")) (lCons (fK (.str "01")) (lCons (fK (.str "1/1")) (lCons (fK (.str "2/4")) (lCons (fK (.str "0/5")) (lCons (fK (.str "1/0")) (lCons (fK (.str "-1/0")) (lCons (fK (.str "3/")) (lCons (fK (.str "/3")) (lCons (fK (.str "1/02")) (lCons (fK (.str "+1")) lNil)))))))))))))))))
  (sSeq (sSet 6 (fOp addA (peek 6) (fLst (lCons (fK (.str " 1")) (lCons (fK (.str "1 ")) (lCons (fK (.str "--1")) (lCons (fK (.str "1/-2")) (lCons (fK (.str "-1/2")) (lCons (fK (.str "1//2")) (lCons (fK (.str "1/2/3")) (lCons (fK (.str "1.5")) (lCons (fK (.str "1e3")) (lCons (fK (.str "0x1")) (lCons (fK (.str "1_0")) (lCons (fK (.str "1\n")) lNil)))))))))))))))
  (sSeq (sSet 6 (fOp addA (peek 6) (fLst (lCons (fK (.str "-7/3")) (lCons (fK (.str "a")) (lCons (fK (.str "-00")) (lCons (fK (.str "7/7")) (lCons (fK (.str "10")) lNil))))))))
  (sSeq fr_law_0
  (sRet (fK (.bl true))))))))))))))
def G_law : List D → Res D := runB g_law 8
end DL.K3
namespace DL.K3
open PySem L2
theorem abs_e (a : Int) : (if a < 0 then -a else a) = ((a.natAbs : Nat) : Int) := by
  split <;> omega
theorem fmod_n (a b : Nat) : ((a : Int).fmod (b : Int)) = ((a % b : Nat) : Int) := by
  rw [Int.fmod_eq_emod_of_nonneg _ (Int.natCast_nonneg b)]
  exact (Int.natCast_emod a b).symm
theorem share_eq (a b : Int) (h : b.natAbs < big) : G__law_share [.int a, .int b] = .ok (.int (Nat.gcd a.natAbs b.natAbs)) := by
  have hb : ∀ a b : Nat, b ≠ 0 → (sPar 0 1 (lCons (look 1) (lCons (fOp (int2 modC) (fB cInt2 (lCons (peek 0) lNil)) (peek 1)) lNil))) [some (.sh (.int a)), some (.sh (.int b))] = .nx [some (.sh (.int b)), some (.sh (.int ((a % b : Nat) : Int)))] := by
    intro a b hb
    have e := mod_ok (i := (a : Int)) (j := (b : Int)) (by omega)
    rw [fmod_n] at e
    simp [fK, fOp, fU, fM, fIsN, fNotN, tB', tNot', tAnd', tOr', vAnd, vOr, vNot, fIf, lNil, lCons, fLst, fTup, fCall, fMk, fB, fSlc, oNo, oSo, fSplit, fLc, iSq, iR1, tYes', zF, zS, fF1, fF3, sSeq, sRet, sIf, sSet, sSetO, sFor, sApp, sPar, sAsg, sRaise, sFld, sFrz, sBad, sTryAs, look, peek, bo, opt, mkL, mkT, small, fnG, mkG, int2, negC, seqD, hName, hCons, hNil, hTup, par2, appD, isOw, frz, setF, ptI, isiD, notScr, env0, env0I, selfF, runB, runI, cAbs, cLen, isNone, strD, payD, tryD, noErr, cLenS, itemS, dSub, dLt, dLe, dGt, dGe, Res.bind_ok, Res.bind_err, Res.bind_bad, seq_nx, seq_rt, seq_err, bnd_ok, bnd_err, loop_nx, loop_rt, for_nil, for_cons, int_i, e]
  have w := gcd_loop _ hb big a.natAbs b.natAbs h
  have e0 : G__law_share [.int a, .int b] = runB (sSeq (whileD (tB' (fOp dGt (peek 1) (fK (.int 0)))) (sPar 0 1 (lCons (look 1) (lCons (fOp (int2 modC) (fB cInt2 (lCons (peek 0) lNil)) (peek 1)) lNil))) big) (sRet (look 0))) 2 [.int a.natAbs, .int b.natAbs] := by
    rw [← abs_e a, ← abs_e b]
    rfl
  rw [e0]
  show (match seqS (whileD _ _ big [some (.sh (.int a.natAbs)), some (.sh (.int b.natAbs))]) _ with
    | .rt d => Res.ok d
    | .nx _ => .ok .non
    | .err c p _ => .err c p
    | _ => .bad) = _
  rw [w]
  rfl
theorem common_eq (a b : Int) (h : b.natAbs < big) : G_common [.int a, .int b] = .ok (.int (Nat.gcd a.natAbs b.natAbs)) := by
  have hb : ∀ a b : Nat, b ≠ 0 → (sPar 0 1 (lCons (look 1) (lCons (fOp (int2 modC) (peek 0) (peek 1)) lNil))) [some (.sh (.int a)), some (.sh (.int b))] = .nx [some (.sh (.int b)), some (.sh (.int ((a % b : Nat) : Int)))] := by
    intro a b hb
    have e := mod_ok (i := (a : Int)) (j := (b : Int)) (by omega)
    rw [fmod_n] at e
    simp [fK, fOp, fU, fM, fIsN, fNotN, tB', tNot', tAnd', tOr', vAnd, vOr, vNot, fIf, lNil, lCons, fLst, fTup, fCall, fMk, fB, fSlc, oNo, oSo, fSplit, fLc, iSq, iR1, tYes', zF, zS, fF1, fF3, sSeq, sRet, sIf, sSet, sSetO, sFor, sApp, sPar, sAsg, sRaise, sFld, sFrz, sBad, sTryAs, look, peek, bo, opt, mkL, mkT, small, fnG, mkG, int2, negC, seqD, hName, hCons, hNil, hTup, par2, appD, isOw, frz, setF, ptI, isiD, notScr, env0, env0I, selfF, runB, runI, cAbs, cLen, isNone, strD, payD, tryD, noErr, cLenS, itemS, dSub, dLt, dLe, dGt, dGe, Res.bind_ok, Res.bind_err, Res.bind_bad, seq_nx, seq_rt, seq_err, bnd_ok, bnd_err, loop_nx, loop_rt, for_nil, for_cons, int_i, e]
  have w := gcd_loop _ hb big a.natAbs b.natAbs h
  have e0 : G_common [.int a, .int b] = runB (sSeq (whileD (tB' (fOp dGt (peek 1) (fK (.int 0)))) (sPar 0 1 (lCons (look 1) (lCons (fOp (int2 modC) (peek 0) (peek 1)) lNil))) big) (sRet (look 0))) 2 [.int a.natAbs, .int b.natAbs] := by
    rw [← abs_e a, ← abs_e b]
    rfl
  rw [e0]
  show (match seqS (whileD _ _ big [some (.sh (.int a.natAbs)), some (.sh (.int b.natAbs))]) _ with
    | .rt d => Res.ok d
    | .nx _ => .ok .non
    | .err c p _ => .err c p
    | _ => .bad) = _
  rw [w]
  rfl
/-- what is divided by the common divisor -/
def ct (a b : Int) : Int := a / (Nat.gcd a.natAbs b.natAbs : Int)
def cb (a b : Int) : Int := b / (Nat.gcd a.natAbs b.natAbs : Int)
theorem gcd_pos {a b : Int} (hb : 0 < b) : 0 < Nat.gcd a.natAbs b.natAbs := Nat.gcd_pos_of_pos_right _ (by omega)
theorem gcd_le {a b : Int} (hb : 0 < b) : Nat.gcd a.natAbs b.natAbs ≤ b.natAbs := Nat.gcd_le_right _ (by omega)
theorem low_eq (a b : Int) (hb : 0 < b) (h : b.natAbs < big) : G__law_low [.int a, .int b] = .ok (.tup [.int (ct a b), .int (cb a b)]) := by
  have hs := share_eq a b h
  have hp := gcd_pos (a := a) hb
  have hl := gcd_le (a := a) hb
  have hlg : ((Nat.gcd a.natAbs b.natAbs : Nat) : Int).natAbs.log2 < 9000 := log2_lt (by
    have : big < 2 ^ 9000 := by decide +kernel
    omega) (by decide)
  have d1 := fdiv_ok (i := a) (j := (Nat.gcd a.natAbs b.natAbs : Int)) (by omega) hlg
  have d2 := fdiv_ok (i := b) (j := (Nat.gcd a.natAbs b.natAbs : Int)) (by omega) hlg
  rw [Int.fdiv_eq_ediv_of_nonneg _ (by omega)] at d1 d2
  have hn : ¬ b < 0 := by omega
  unfold G__law_low g__law_low
  simp [fK, fOp, fU, fM, fIsN, fNotN, tB', tNot', tAnd', tOr', vAnd, vOr, vNot, fIf, lNil, lCons, fLst, fTup, fCall, fMk, fB, fSlc, oNo, oSo, fSplit, fLc, iSq, iR1, tYes', zF, zS, fF1, fF3, sSeq, sRet, sIf, sSet, sSetO, sFor, sApp, sPar, sAsg, sRaise, sFld, sFrz, sBad, sTryAs, look, peek, bo, opt, mkL, mkT, small, fnG, mkG, int2, negC, seqD, hName, hCons, hNil, hTup, par2, appD, isOw, frz, setF, ptI, isiD, notScr, env0, env0I, selfF, runB, runI, cAbs, cLen, isNone, strD, payD, tryD, noErr, cLenS, itemS, dSub, dLt, dLe, dGt, dGe, Res.bind_ok, Res.bind_err, Res.bind_bad, seq_nx, seq_rt, seq_err, bnd_ok, bnd_err, loop_nx, loop_rt, for_nil, for_cons, int_i, hs, hn, d1, d2, ct, cb]
theorem init_eq (a b : Int) (hb : 0 < b) (h : b.natAbs < big) : G_Ratio___init__ [.int a, .int b] = .ok [.int (ct a b), .int (cb a b)] := by
  have hs := common_eq a b h
  have hp := gcd_pos (a := a) hb
  have hl := gcd_le (a := a) hb
  have hlg : ((Nat.gcd a.natAbs b.natAbs : Nat) : Int).natAbs.log2 < 9000 := log2_lt (by
    have : big < 2 ^ 9000 := by decide +kernel
    omega) (by decide)
  have d1 := fdiv_ok (i := a) (j := (Nat.gcd a.natAbs b.natAbs : Int)) (by omega) hlg
  have d2 := fdiv_ok (i := b) (j := (Nat.gcd a.natAbs b.natAbs : Int)) (by omega) hlg
  rw [Int.fdiv_eq_ediv_of_nonneg _ (by omega)] at d1 d2
  have hn : ¬ b < 0 := by omega
  have h0 : eqD (.int b) (.int 0) = some (.bl false) := by
    rw [eq_ii, decide_eq_false (by omega)]
  unfold G_Ratio___init__ g_Ratio___init__
  simp [fK, fOp, fU, fM, fIsN, fNotN, tB', tNot', tAnd', tOr', vAnd, vOr, vNot, fIf, lNil, lCons, fLst, fTup, fCall, fMk, fB, fSlc, oNo, oSo, fSplit, fLc, iSq, iR1, tYes', zF, zS, fF1, fF3, sSeq, sRet, sIf, sSet, sSetO, sFor, sApp, sPar, sAsg, sRaise, sFld, sFrz, sBad, sTryAs, look, peek, bo, opt, mkL, mkT, small, fnG, mkG, int2, negC, seqD, hName, hCons, hNil, hTup, par2, appD, isOw, frz, setF, ptI, isiD, notScr, env0, env0I, selfF, runB, runI, cAbs, cLen, isNone, strD, payD, tryD, noErr, cLenS, itemS, dSub, dLt, dLe, dGt, dGe, Res.bind_ok, Res.bind_err, Res.bind_bad, seq_nx, seq_rt, seq_err, bnd_ok, bnd_err, loop_nx, loop_rt, for_nil, for_cons, int_i, hs, hn, d1, d2, ct, cb, h0, nmv]
end DL.K3
namespace DL.K3
open PySem L2 PySem.PyData
abbrev ch (c : Nat) : Str := ⟨#[c]⟩
theorem lc_filter (z : Str) (x : Option B) : ∀ cs : List Nat, lcD (hName 1) (tB' (fOp notInS (peek 1) (fK (.str z)))) (look 1) [x, none] (cs.map fun c => .str (ch c)) = .ok ((cs.filter fun c => !decide (c ∈ z.cps.toList)).map fun c => .str (ch c))
  | [] => rfl
  | c :: r => by
    have ih := lc_filter z x r
    have e : notInS (.str (ch c)) (.str z) = some (.bl (!decide (c ∈ z.cps.toList))) := rfl
    rw [List.map_cons, lcD, ih]
    by_cases h : c ∈ z.cps.toList
    · have h' : c ∈ z.cps := by simpa using h
      simp [fK, fOp, fU, fM, fIsN, fNotN, tB', tNot', tAnd', tOr', vAnd, vOr, vNot, fIf, lNil, lCons, fLst, fTup, fCall, fMk, fB, fSlc, oNo, oSo, fSplit, fLc, iSq, iR1, tYes', zF, zS, fF1, fF3, sSeq, sRet, sIf, sSet, sSetO, sFor, sApp, sPar, sAsg, sRaise, sFld, sFrz, sBad, sTryAs, look, peek, bo, opt, mkL, mkT, small, fnG, mkG, int2, negC, seqD, hName, hCons, hNil, hTup, par2, appD, isOw, frz, setF, ptI, isiD, notScr, env0, env0I, selfF, runB, runI, cAbs, cLen, isNone, strD, payD, tryD, noErr, cLenS, itemS, dSub, dLt, dLe, dGt, dGe, Res.bind_ok, Res.bind_err, Res.bind_bad, seq_nx, seq_rt, seq_err, bnd_ok, bnd_err, loop_nx, loop_rt, for_nil, for_cons, int_i, e, h, h', List.filter_cons]
    · have h' : ¬ c ∈ z.cps := by simpa using h
      simp [fK, fOp, fU, fM, fIsN, fNotN, tB', tNot', tAnd', tOr', vAnd, vOr, vNot, fIf, lNil, lCons, fLst, fTup, fCall, fMk, fB, fSlc, oNo, oSo, fSplit, fLc, iSq, iR1, tYes', zF, zS, fF1, fF3, sSeq, sRet, sIf, sSet, sSetO, sFor, sApp, sPar, sAsg, sRaise, sFld, sFrz, sBad, sTryAs, look, peek, bo, opt, mkL, mkT, small, fnG, mkG, int2, negC, seqD, hName, hCons, hNil, hTup, par2, appD, isOw, frz, setF, ptI, isiD, notScr, env0, env0I, selfF, runB, runI, cAbs, cLen, isNone, strD, payD, tryD, noErr, cLenS, itemS, dSub, dLt, dLe, dGt, dGe, Res.bind_ok, Res.bind_err, Res.bind_bad, seq_nx, seq_rt, seq_err, bnd_ok, bnd_err, loop_nx, loop_rt, for_nil, for_cons, int_i, e, h, h', List.filter_cons]
def dgs : List Nat := [48, 49, 50, 51, 52, 53, 54, 55, 56, 57]
theorem dgs_is : (Str.ofString "0123456789").cps.toList = dgs := by decide +kernel
theorem mem_dgs (c : Nat) : c ∈ dgs ↔ 48 ≤ c ∧ c ≤ 57 := by
  simp [dgs]
  omega
theorem ok_ch {w : Str} (h : strOk w = true) : ∀ c ∈ w.cps.toList, c < 0x110000 := by
  intro c hc
  have := Array.all_eq_true'.mp h c (by simpa using hc)
  simpa using this
theorem ok_ofc {c : Nat} (h : c < 0x110000) : strOk (ch c) = true := by
  simp [strOk, h]
/-- a count's text: no leading nought -/
def cnt (l : List Nat) : Bool := !l.isEmpty && l.all (fun c => decide (48 ≤ c ∧ c ≤ 57)) && (l == [48] || l.head? != some 48)
theorem filt_nil (l : List Nat) : (l.filter fun c => !decide (c ∈ dgs)) = [] ↔ l.all (fun c => decide (48 ≤ c ∧ c ≤ 57)) = true := by
  simp [List.filter_eq_nil_iff, mem_dgs, List.all_eq_true]
theorem str_nil (w : Str) : (w = Str.ofString "") ↔ w.cps.toList = [] := by
  constructor
  · intro h
    subst h
    decide
  · intro h
    exact TL.ext_tl h
theorem chars_strs (l : List Nat) : (l.map fun c => D.str (ch c)) = (l.map ch).map .str := by simp
theorem str0 (w : Str) : (w = Str.ofString "0") ↔ w.cps.toList = [48] := by
  constructor
  · intro h
    subst h
    decide
  · intro h
    exact TL.ext_tl h
theorem ch48 (c : Nat) : (ch c = Str.ofString "0") ↔ c = 48 := by
  rw [str0]
  simp
theorem isCount_g (g : Env → RS) (z : Str) (hz : z.cps.toList = dgs) (hg : g = (sSeq (sIf (tOr' (tB' (fOp eqD (peek 0) (fK (.str "")))) (tB' (fOp neD (fLc (iSq (look 0)) (hName 1) (tB' (fOp notInS (peek 1) (fK (.str z)))) (look 1) [1]) (fLst lNil))))
  (sRet (fK (.bl false)))
  .nx)
  (sRet (vOr (fOp eqD (peek 0) (fK (.str "0"))) (fOp neD (fOp itemD (peek 0) (fK (.int 0))) (fK (.str "0")))))))
    (w : Str) (hw : strOk w = true) (hl : w.length ≤ 1000) : runB g 2 [.str w] = .ok (.bl (cnt w.cps.toList)) := by
  subst hg
  have e1 := eq_ss hw (y := Str.ofString "") (by decide +kernel)
  have e2 := eq_ss hw (y := Str.ofString "0") (by decide +kernel)
  have hf := lc_filter z (some (.sh (.str w))) w.cps.toList
  rw [hz, chars_strs, chars_strs] at hf
  have hn : neD (.lst (((w.cps.toList.filter fun c => !decide (c ∈ dgs)).map ch).map .str)) (.lst []) = some (.bl (!decide ((w.cps.toList.filter fun c => !decide (c ∈ dgs)).map ch = []))) := by
    unfold neD
    rw [show (D.lst []) = .lst (([] : List Str).map .str) from rfl, eqP_strs ?_ (by simp)]
    · rfl
    · intro x hx
      obtain ⟨c, hc, rfl⟩ := List.mem_map.mp hx
      exact ok_ofc (ok_ch hw c (List.mem_filter.mp hc).1)
  have hlen : (((w.cps.toList.filter fun c => !decide (c ∈ dgs)).map ch).map D.str).length ≤ 1000000 := by
    have := List.length_filter_le (fun c => !decide (c ∈ dgs)) w.cps.toList
    simp only [List.length_map]
    have : w.cps.toList.length = w.length := Array.length_toList
    omega
  have hm : mkL (((w.cps.toList.filter fun c => !decide (c ∈ dgs)).map ch).map D.str) = .ok (.lst (((w.cps.toList.filter fun c => !decide (c ∈ dgs)).map ch).map D.str)) := by
    unfold mkL small
    rw [if_pos (by simpa using hlen)]
  have hlc : fLc (iSq (look 0)) (hName 1) (tB' (fOp notInS (peek 1) (fK (.str z)))) (look 1) [1] [some (.sh (.str w)), none] = .ok (.lst (((w.cps.toList.filter fun c => !decide (c ∈ dgs)).map ch).map D.str)) := by
    show (lcD (hName 1) (tB' (fOp notInS (peek 1) (fK (.str z)))) (look 1) [some (.sh (.str w)), none] (w.cps.toList.map fun c => .str (ch c)) >>= mkL) = _
    rw [chars_strs, hf]
    exact hm
  have cond : ∀ b1 b2 : Bool, eqD (.str w) (.str (Str.ofString "")) = some (.bl b1) → decide ((w.cps.toList.filter fun c => !decide (c ∈ dgs)).map ch = []) = b2 →
      tOr' (tB' (fOp eqD (peek 0) (fK (.str "")))) (tB' (fOp neD (fLc (iSq (look 0)) (hName 1) (tB' (fOp notInS (peek 1) (fK (.str z)))) (look 1) [1]) (fLst lNil))) [some (.sh (.str w)), none] = .ok (b1 || !b2) := by
    intro b1 b2 k1 k2
    have c1 : tB' (fOp eqD (peek 0) (fK (.str ""))) [some (.sh (.str w)), none] = .ok b1 := by simp [fK, fOp, fU, fM, fIsN, fNotN, tB', tNot', tAnd', tOr', vAnd, vOr, vNot, fIf, lNil, lCons, fLst, fTup, fCall, fMk, fB, fSlc, oNo, oSo, fSplit, fLc, iSq, iR1, tYes', zF, zS, fF1, fF3, sSeq, sRet, sIf, sSet, sSetO, sFor, sApp, sPar, sAsg, sRaise, sFld, sFrz, sBad, sTryAs, look, peek, bo, opt, mkL, mkT, small, fnG, mkG, int2, negC, seqD, hName, hCons, hNil, hTup, par2, appD, isOw, frz, setF, ptI, isiD, notScr, env0, env0I, selfF, runB, runI, cAbs, cLen, isNone, strD, payD, tryD, noErr, cLenS, itemS, dSub, dLt, dLe, dGt, dGe, Res.bind_ok, Res.bind_err, Res.bind_bad, seq_nx, seq_rt, seq_err, bnd_ok, bnd_err, loop_nx, loop_rt, for_nil, for_cons, int_i, k1]
    have c2 : tB' (fOp neD (fLc (iSq (look 0)) (hName 1) (tB' (fOp notInS (peek 1) (fK (.str z)))) (look 1) [1]) (fLst lNil)) [some (.sh (.str w)), none] = .ok (!b2) := by
      show ((fLc (iSq (look 0)) (hName 1) (tB' (fOp notInS (peek 1) (fK (.str z)))) (look 1) [1] [some (.sh (.str w)), none] >>= fun x => (fLst lNil [some (.sh (.str w)), none] >>= fun y => opt (neD x y))) >>= bo) = _
      rw [hlc]
      show (opt (neD _ (.lst [])) >>= bo) = _
      rw [hn, k2]
      rfl
    show (tB' (fOp eqD (peek 0) (fK (.str ""))) [some (.sh (.str w)), none] >>= fun x => if x = true then .ok true else tB' (fOp neD (fLc (iSq (look 0)) (hName 1) (tB' (fOp notInS (peek 1) (fK (.str z)))) (look 1) [1]) (fLst lNil)) [some (.sh (.str w)), none]) = _
    rw [c1, c2]
    cases b1 <;> rfl
  have whole : ∀ b : Bool, tOr' (tB' (fOp eqD (peek 0) (fK (.str "")))) (tB' (fOp neD (fLc (iSq (look 0)) (hName 1) (tB' (fOp notInS (peek 1) (fK (.str z)))) (look 1) [1]) (fLst lNil))) [some (.sh (.str w)), none] = .ok b →
      runB (sSeq (sIf (tOr' (tB' (fOp eqD (peek 0) (fK (.str "")))) (tB' (fOp neD (fLc (iSq (look 0)) (hName 1) (tB' (fOp notInS (peek 1) (fK (.str z)))) (look 1) [1]) (fLst lNil)))) (sRet (fK (.bl false))) .nx)
        (sRet (vOr (fOp eqD (peek 0) (fK (.str "0"))) (fOp neD (fOp itemD (peek 0) (fK (.int 0))) (fK (.str "0")))))) 2 [.str w]
      = if b = true then .ok (.bl false) else runB (sRet (vOr (fOp eqD (peek 0) (fK (.str "0"))) (fOp neD (fOp itemD (peek 0) (fK (.int 0))) (fK (.str "0"))))) 2 [.str w] := by
    intro b hb
    show (match seqS (bindS (tOr' (tB' (fOp eqD (peek 0) (fK (.str "")))) (tB' (fOp neD (fLc (iSq (look 0)) (hName 1) (tB' (fOp notInS (peek 1) (fK (.str z)))) (look 1) [1]) (fLst lNil))) [some (.sh (.str w)), none]) _ _) _ with
      | .rt d => Res.ok d
      | .nx _ => .ok .non
      | .err c p _ => .err c p
      | _ => .bad) = _
    rw [hb]
    cases b <;> rfl
  by_cases h0 : w.cps.toList = []
  · have d1 : decide (w = Str.ofString "") = true := decide_eq_true ((str_nil w).mpr h0)
    rw [d1] at e1
    rw [whole _ (cond _ _ e1 rfl)]
    simp [cnt, h0]
  have d1 : decide (w = Str.ofString "") = false := decide_eq_false fun h => h0 ((str_nil w).mp h)
  rw [d1] at e1
  by_cases h1 : w.cps.toList.all (fun c => decide (48 ≤ c ∧ c ≤ 57)) = true
  · have q1 := (filt_nil _).mpr h1
    obtain ⟨c, r, hcr⟩ : ∃ c r, w.cps.toList = c :: r := by
      cases q : w.cps.toList with
      | nil => exact absurd q h0
      | cons c r => exact ⟨c, r, rfl⟩
    have it : itemD (.str w) (.int 0) = some (.str (ch c)) := by
      show (if w.length ≤ 1000000 then (atI w.cps.toList 0).map fun c => D.str ⟨#[c]⟩ else none) = _
      rw [if_pos (by omega), hcr, show (0 : Int) = ((0 : Nat) : Int) from rfl, atI_nat (j := 0) (v := c) rfl]
      rfl
    have e3 := ne_ss (ok_ofc (ok_ch hw c (by rw [hcr]; simp))) (y := Str.ofString "0") (by decide +kernel)
    rw [whole _ (cond _ true e1 (by rw [q1]; decide))]
    have hz0 : decide (w = Str.ofString "0") = (w.cps.toList == [48]) := by
      by_cases q : w.cps.toList = [48]
      · rw [q, decide_eq_true ((str0 w).mpr q)]
        rfl
      · rw [decide_eq_false fun h => q ((str0 w).mp h)]
        exact (beq_eq_false_iff_ne.mpr q).symm
    have hz1 : decide (ch c = Str.ofString "0") = (w.cps.toList.head? == some 48) := by
      rw [hcr]
      by_cases q : c = 48
      · rw [decide_eq_true ((ch48 c).mpr q), q]
        rfl
      · rw [decide_eq_false fun h => q ((ch48 c).mp h)]
        symm
        simp [q]
    rw [hz0] at e2
    rw [hz1] at e3
    have hc : cnt w.cps.toList = (w.cps.toList == [48] || w.cps.toList.head? != some 48) := by
      unfold cnt
      rw [h1]
      simp [hcr]
    rw [hc]
    cases q2 : (w.cps.toList == [48])
    · rw [q2] at e2
      simp [fK, fOp, fU, fM, fIsN, fNotN, tB', tNot', tAnd', tOr', vAnd, vOr, vNot, fIf, lNil, lCons, fLst, fTup, fCall, fMk, fB, fSlc, oNo, oSo, fSplit, fLc, iSq, iR1, tYes', zF, zS, fF1, fF3, sSeq, sRet, sIf, sSet, sSetO, sFor, sApp, sPar, sAsg, sRaise, sFld, sFrz, sBad, sTryAs, look, peek, bo, opt, mkL, mkT, small, fnG, mkG, int2, negC, seqD, hName, hCons, hNil, hTup, par2, appD, isOw, frz, setF, ptI, isiD, notScr, env0, env0I, selfF, runB, runI, cAbs, cLen, isNone, strD, payD, tryD, noErr, cLenS, itemS, dSub, dLt, dLe, dGt, dGe, Res.bind_ok, Res.bind_err, Res.bind_bad, seq_nx, seq_rt, seq_err, bnd_ok, bnd_err, loop_nx, loop_rt, for_nil, for_cons, int_i, e2, it, e3, bne]
    · rw [q2] at e2
      simp [fK, fOp, fU, fM, fIsN, fNotN, tB', tNot', tAnd', tOr', vAnd, vOr, vNot, fIf, lNil, lCons, fLst, fTup, fCall, fMk, fB, fSlc, oNo, oSo, fSplit, fLc, iSq, iR1, tYes', zF, zS, fF1, fF3, sSeq, sRet, sIf, sSet, sSetO, sFor, sApp, sPar, sAsg, sRaise, sFld, sFrz, sBad, sTryAs, look, peek, bo, opt, mkL, mkT, small, fnG, mkG, int2, negC, seqD, hName, hCons, hNil, hTup, par2, appD, isOw, frz, setF, ptI, isiD, notScr, env0, env0I, selfF, runB, runI, cAbs, cLen, isNone, strD, payD, tryD, noErr, cLenS, itemS, dSub, dLt, dLe, dGt, dGe, Res.bind_ok, Res.bind_err, Res.bind_bad, seq_nx, seq_rt, seq_err, bnd_ok, bnd_err, loop_nx, loop_rt, for_nil, for_cons, int_i, e2]
  · have q1 : decide ((w.cps.toList.filter fun c => !decide (c ∈ dgs)).map ch = []) = false := decide_eq_false fun h => h1 ((filt_nil _).mp (List.map_eq_nil_iff.mp h))
    rw [whole _ (cond _ _ e1 q1)]
    have : cnt w.cps.toList = false := by
      unfold cnt
      rw [Bool.eq_false_iff.mpr h1]
      simp
    rw [this]
    rfl
theorem isCount_eq (w : Str) (hw : strOk w = true) (hl : w.length ≤ 1000) : G_is_count [.str w] = .ok (.bl (cnt w.cps.toList)) := isCount_g g_is_count _ dgs_is rfl w hw hl
theorem digits_eq (w : Str) (hw : strOk w = true) (hl : w.length ≤ 1000) : G__law_digits [.str w] = .ok (.bl (cnt w.cps.toList)) := isCount_g g__law_digits _ dgs_is rfl w hw hl
end DL.K3
namespace DL.K3
open PySem L2 PySem.PyData
/-! ### numbers' texts -/
abbrev Zt (i : Int) : Str := Str.ofString (toString i)
abbrev cl (x : Str) : List Nat := x.cps.toList
open PySem.NumText in
theorem zt_dig (n : Nat) : AllDigits (cl (Zt n)) := by
  intro c hc
  rw [show cl (Zt n) = _ from PySem.W.KIN.signs_num n] at hc
  obtain ⟨x, hx, rfl⟩ := List.mem_map.mp hc
  exact PyProof.Rows.digit_range (Nat.isDigit_of_mem_toDigits (by decide) (by decide) hx)
open PySem.NumText in
theorem zt_val (n : Nat) : digitsVal (cl (Zt n)) = n := by
  rw [show cl (Zt n) = _ from PySem.W.KIN.signs_num n]
  exact PySem.W.KIN.val_back n
theorem zt_ne (n : Nat) : cl (Zt n) ≠ [] := by
  rw [show cl (Zt n) = _ from PySem.W.KIN.signs_num n]
  intro h
  have := PyProof.Rows.tDigits_len_ge 10 n
  rw [List.map_eq_nil_iff.mp h] at this
  simp at this
theorem zt_inj {m n : Nat} (h : Zt m = Zt n) : m = n := by
  rw [← zt_val m, ← zt_val n, h]
open PySem.NumText in
theorem cnt_dig {l : List Nat} (h : cnt l = true) : AllDigits l ∧ l ≠ [] ∧ (l = [48] ∨ ∃ c r, l = c :: r ∧ 49 ≤ c) := by
  unfold cnt at h
  simp only [Bool.and_eq_true, Bool.or_eq_true, List.all_eq_true, decide_eq_true_eq, bne_iff_ne, beq_iff_eq, Bool.not_eq_true', List.isEmpty_eq_false_iff] at h
  obtain ⟨⟨h1, h2⟩, h3⟩ := h
  refine ⟨h2, h1, ?_⟩
  rcases h3 with h3 | h3
  · exact .inl h3
  · cases l with
    | nil => exact absurd rfl h1
    | cons c r =>
      refine .inr ⟨c, r, rfl, ?_⟩
      have := h2 c List.mem_cons_self
      have h4 : c ≠ 48 := by simpa using h3
      omega
theorem of_nat {c : Nat} (h : 48 ≤ c ∧ c ≤ 57) : (Char.ofNat c).toNat = c := by
  have : c = 48 ∨ c = 49 ∨ c = 50 ∨ c = 51 ∨ c = 52 ∨ c = 53 ∨ c = 54 ∨ c = 55 ∨ c = 56 ∨ c = 57 := by omega
  rcases this with h | h | h | h | h | h | h | h | h | h <;> subst h <;> rfl
theorem drop_head {p : Nat → Bool} {c : Nat} {r : List Nat} : ∀ {l : List Nat}, l.dropWhile p = c :: r → p c = false
  | [], h => by cases h
  | x :: l, h => by
    rw [List.dropWhile_cons] at h
    split at h
    · exact drop_head h
    · rename_i q
      cases h
      simpa using q
open PySem.NumText in
/-- a count is the text of its number -/
theorem cnt_text {w : Str} (h : cnt (cl w) = true) : w = Zt (digitsVal (cl w)) := by
  obtain ⟨h1, h2, h3⟩ := cnt_dig h
  have e : Nat.toDigits 10 (digitsVal (cl w)) = (cl w).map Char.ofNat := by
    refine toDigits_digitsVal ((cl w).length - 1) (cl w) ?_ h1 ?_
    · have : (cl w).length ≠ 0 := fun q => h2 (List.length_eq_zero_iff.mp q)
      omega
    · rcases h3 with h3 | h3
      · left
        rw [h3]
        rfl
      · exact .inr h3
  refine TL.ext_tl ?_
  show cl w = cl (Zt _)
  rw [show cl (Zt _) = _ from PySem.W.KIN.signs_num _, e, List.map_map]
  symm
  refine (List.map_congr_left (g := id) ?_).trans (List.map_id _)
  intro c hc
  exact of_nat (h1 c hc)
open PySem.NumText in
theorem cnt_int {w : Str} (h : cnt (cl w) = true) (hl : w.length ≤ 640) : cInt2 [.str w] = some (.int ((digitsVal (cl w) : Nat) : Int)) := by
  obtain ⟨h1, h2, _⟩ := cnt_dig h
  show (if w.length ≤ 640 then (PySem.intText? w).map D.int else none) = _
  rw [if_pos hl, intText_digits h1 h2 (by omega)]
  rfl
open PySem.NumText in
theorem zt_cnt (n : Nat) : cnt (cl (Zt n)) = true := by
  have hd := zt_dig n
  have e := toDigits_all (cl (Zt n)) hd
  rw [zt_val] at e
  have e2 : cl (Zt n) = (Nat.toDigits 10 n).map Char.toNat := PySem.W.KIN.signs_num n
  have h2 : (cl (Zt n)).all (fun c => decide (48 ≤ c ∧ c ≤ 57)) = true := by
    rw [List.all_eq_true]
    intro c hc
    exact decide_eq_true (hd c hc)
  cases q : (cl (Zt n)).dropWhile (· == 48) with
  | nil =>
    rw [q] at e
    have e3 : cl (Zt n) = [48] := by
      rw [e2, e]
      rfl
    rw [e3]
    decide
  | cons c r =>
    rw [q] at e
    have hn : c ≠ 48 := by
      have := drop_head q
      simpa using this
    have hm : ∀ x ∈ c :: r, 48 ≤ x ∧ x ≤ 57 := fun x hx => hd x ((List.dropWhile_sublist _).mem (by rw [q]; exact hx))
    have e3 : cl (Zt n) = c :: r := by
      rw [e2, e]
      show ((c :: r).map Char.ofNat).map Char.toNat = c :: r
      rw [List.map_map]
      refine (List.map_congr_left (g := id) ?_).trans (List.map_id _)
      intro x hx
      exact of_nat (hm x hx)
    rw [e3] at h2 ⊢
    unfold cnt
    rw [h2]
    simp [hn]
theorem zt_neg (n : Nat) (h : 0 < n) : cl (Zt (-(n : Int))) = 45 :: cl (Zt n) := by
  have e := PyProof.Rows.toString_neg (n := -(n : Int)) (by omega)
  rw [show (0 : Int) - (-(n : Int)) = (n : Int) by omega] at e
  show (Str.ofString (toString (-(n : Int)))).cps.toList = _
  rw [e, PyProof.Rows.signs_ofString]
  show _ = 45 :: (Str.ofString (toString (n : Int))).cps.toList
  rw [PyProof.Rows.signs_ofString, String.toList_append, List.map_append]
  rfl
/-! ### parts between strokes -/
theorem spl_cases : ∀ (l acc : List Nat), 47 ∉ acc → (TL.spl [47] 0 acc l = [acc ++ l] ∧ 47 ∉ acc ++ l) ∨ ∃ w r, acc ++ l = w ++ 47 :: r ∧ 47 ∉ w ∧ TL.spl [47] 0 acc l = w :: TL.spl [47] 0 [] r
  | [], acc, h => by
    left
    rw [TL.spl_nil]
    simpa using h
  | c :: r, acc, h => by
    by_cases hc : c = 47
    · subst hc
      right
      refine ⟨acc, r, rfl, h, ?_⟩
      rw [TL.spl_hit (by simp [TL.pre])]
      rfl
    · rw [TL.spl_miss (TL.pre_of_head _ _ hc)]
      have := spl_cases r (acc ++ [c]) (by simp [h]; exact fun q => hc q.symm)
      simpa using this
theorem spl_ne (l : List Nat) : TL.spl [47] 0 [] l ≠ [] := by
  rcases spl_cases l [] (by simp) with ⟨h, _⟩ | ⟨w, r, _, _, h⟩ <;> rw [h] <;> simp
theorem spl_one {l w : List Nat} (h : TL.spl [47] 0 [] l = [w]) : l = w ∧ 47 ∉ w := by
  rcases spl_cases l [] (by simp) with ⟨e, q⟩ | ⟨v, r, _, _, e⟩
  · rw [e] at h
    cases h
    exact ⟨rfl, q⟩
  · rw [e] at h
    injection h with h1 h2
    exact absurd h2 (spl_ne r)
theorem spl_two {l w v : List Nat} (h : TL.spl [47] 0 [] l = [w, v]) : l = w ++ 47 :: v ∧ 47 ∉ w ∧ 47 ∉ v := by
  rcases spl_cases l [] (by simp) with ⟨e, q⟩ | ⟨u, r, e1, q, e⟩
  · rw [e] at h
    cases h
  · rw [e] at h
    injection h with h1 h2
    obtain ⟨h3, h4⟩ := spl_one h2
    subst h1 h3
    exact ⟨e1, q, h4⟩
end DL.K3
namespace DL.K3
open PySem L2 PySem.PyData
def lim : Nat := 10 ^ 300
theorem lg {i : Int} (h : i.natAbs < lim) : i.natAbs.log2 < 1100 := log2_lt (by
  have : lim < 2 ^ 1100 := by decide +kernel
  omega) (by decide)
theorem log_one : Nat.log2 1 = 0 := by decide +kernel
theorem fld_top (p q : D) : fldD nmv "top" (.obj 0 [p, q]) = some p := rfl
theorem fld_bot (p q : D) : fldD nmv "bottom" (.obj 0 [p, q]) = some q := by
  show ((["top", "bottom"] : List Str).zip [p, q]).lookup ("bottom" : Str) = _
  have h : (("bottom" : Str) == ("top" : Str)) = false := by decide +kernel
  have h2 : (("bottom" : Str) == ("bottom" : Str)) = true := by decide +kernel
  simp [List.lookup, h]
theorem it0 (p q : D) : itemD (.tup [p, q]) (.int 0) = some p := rfl
theorem it1 (p q : D) : itemD (.tup [p, q]) (.int 1) = some q := rfl
theorem halves_int (u : Int) : G_halves_of [.int u] = .ok (.tup [.int u, .int 1]) := by
  unfold G_halves_of g_halves_of
  simp [fK, fOp, fU, fM, fIsN, fNotN, tB', tNot', tAnd', tOr', vAnd, vOr, vNot, fIf, lNil, lCons, fLst, fTup, fCall, fMk, fB, fSlc, oNo, oSo, fSplit, fLc, iSq, iR1, tYes', zF, zS, fF1, fF3, sSeq, sRet, sIf, sSet, sSetO, sFor, sApp, sPar, sAsg, sRaise, sFld, sFrz, sBad, sTryAs, look, peek, bo, opt, mkL, mkT, small, fnG, mkG, int2, negC, seqD, hName, hCons, hNil, hTup, par2, appD, isOw, frz, setF, ptI, isiD, notScr, env0, env0I, selfF, runB, runI, cAbs, cLen, isNone, strD, payD, tryD, noErr, cLenS, itemS, dSub, dLt, dLe, dGt, dGe, Res.bind_ok, Res.bind_err, Res.bind_bad, seq_nx, seq_rt, seq_err, bnd_ok, bnd_err, loop_nx, loop_rt, for_nil, for_cons, int_i, ib_Ratio]
theorem halves_obj (p q : D) : G_halves_of [.obj 0 [p, q]] = .ok (.tup [p, q]) := by
  unfold G_halves_of g_halves_of
  simp [fK, fOp, fU, fM, fIsN, fNotN, tB', tNot', tAnd', tOr', vAnd, vOr, vNot, fIf, lNil, lCons, fLst, fTup, fCall, fMk, fB, fSlc, oNo, oSo, fSplit, fLc, iSq, iR1, tYes', zF, zS, fF1, fF3, sSeq, sRet, sIf, sSet, sSetO, sFor, sApp, sPar, sAsg, sRaise, sFld, sFrz, sBad, sTryAs, look, peek, bo, opt, mkL, mkT, small, fnG, mkG, int2, negC, seqD, hName, hCons, hNil, hTup, par2, appD, isOw, frz, setF, ptI, isiD, notScr, env0, env0I, selfF, runB, runI, cAbs, cLen, isNone, strD, payD, tryD, noErr, cLenS, itemS, dSub, dLt, dLe, dGt, dGe, Res.bind_ok, Res.bind_err, Res.bind_bad, seq_nx, seq_rt, seq_err, bnd_ok, bnd_err, loop_nx, loop_rt, for_nil, for_cons, int_i, ib_Ratio, fld_top, fld_bot]
theorem plain_obj (p q : Int) : G_plain [.obj 0 [.int p, .int q]] = .ok (if q = 1 then .int p else .obj 0 [.int p, .int q]) := by
  unfold G_plain g_plain
  by_cases h : q = 1
  · simp [fK, fOp, fU, fM, fIsN, fNotN, tB', tNot', tAnd', tOr', vAnd, vOr, vNot, fIf, lNil, lCons, fLst, fTup, fCall, fMk, fB, fSlc, oNo, oSo, fSplit, fLc, iSq, iR1, tYes', zF, zS, fF1, fF3, sSeq, sRet, sIf, sSet, sSetO, sFor, sApp, sPar, sAsg, sRaise, sFld, sFrz, sBad, sTryAs, look, peek, bo, opt, mkL, mkT, small, fnG, mkG, int2, negC, seqD, hName, hCons, hNil, hTup, par2, appD, isOw, frz, setF, ptI, isiD, notScr, env0, env0I, selfF, runB, runI, cAbs, cLen, isNone, strD, payD, tryD, noErr, cLenS, itemS, dSub, dLt, dLe, dGt, dGe, Res.bind_ok, Res.bind_err, Res.bind_bad, seq_nx, seq_rt, seq_err, bnd_ok, bnd_err, loop_nx, loop_rt, for_nil, for_cons, int_i, halves_obj, eq_ii, h]
  · simp [fK, fOp, fU, fM, fIsN, fNotN, tB', tNot', tAnd', tOr', vAnd, vOr, vNot, fIf, lNil, lCons, fLst, fTup, fCall, fMk, fB, fSlc, oNo, oSo, fSplit, fLc, iSq, iR1, tYes', zF, zS, fF1, fF3, sSeq, sRet, sIf, sSet, sSetO, sFor, sApp, sPar, sAsg, sRaise, sFld, sFrz, sBad, sTryAs, look, peek, bo, opt, mkL, mkT, small, fnG, mkG, int2, negC, seqD, hName, hCons, hNil, hTup, par2, appD, isOw, frz, setF, ptI, isiD, notScr, env0, env0I, selfF, runB, runI, cAbs, cLen, isNone, strD, payD, tryD, noErr, cLenS, itemS, dSub, dLt, dLe, dGt, dGe, Res.bind_ok, Res.bind_err, Res.bind_bad, seq_nx, seq_rt, seq_err, bnd_ok, bnd_err, loop_nx, loop_rt, for_nil, for_cons, int_i, halves_obj, eq_ii, h]
/-- a number as the program has it -/
def num (p q : Int) : D := if q = 1 then .int p else .obj 0 [.int p, .int q]
theorem quo_eq (u l : Int) (hl : 0 < l) (h1 : u.natAbs < lim) (h2 : l.natAbs < lim) : G_quotient [.int u, .int l] = .ok (num (ct u l) (cb u l)) := by
  have m1 := mul_ok (i := u) (j := 1) (by have := lg h1; have := log_one; show u.natAbs.log2 + Nat.log2 1 < _; omega)
  have m2 := mul_ok (i := 1) (j := l) (by have := lg h2; have := log_one; show Nat.log2 1 + l.natAbs.log2 < _; omega)
  rw [Int.mul_one] at m1
  rw [Int.one_mul] at m2
  have hi := init_eq u l hl (Nat.lt_of_lt_of_le h2 (by decide +kernel))
  have hp := plain_obj (ct u l) (cb u l)
  unfold G_quotient g_quotient
  simp [fK, fOp, fU, fM, fIsN, fNotN, tB', tNot', tAnd', tOr', vAnd, vOr, vNot, fIf, lNil, lCons, fLst, fTup, fCall, fMk, fB, fSlc, oNo, oSo, fSplit, fLc, iSq, iR1, tYes', zF, zS, fF1, fF3, sSeq, sRet, sIf, sSet, sSetO, sFor, sApp, sPar, sAsg, sRaise, sFld, sFrz, sBad, sTryAs, look, peek, bo, opt, mkL, mkT, small, fnG, mkG, int2, negC, seqD, hName, hCons, hNil, hTup, par2, appD, isOw, frz, setF, ptI, isiD, notScr, env0, env0I, selfF, runB, runI, cAbs, cLen, isNone, strD, payD, tryD, noErr, cLenS, itemS, dSub, dLt, dLe, dGt, dGe, Res.bind_ok, Res.bind_err, Res.bind_bad, seq_nx, seq_rt, seq_err, bnd_ok, bnd_err, loop_nx, loop_rt, for_nil, for_cons, int_i, halves_int, m1, m2, hi, hp, num]
theorem ctext (x : Str) : Str.empty ++ x = x := Str.append_left_empty rfl
/-- its text -/
def ntx (p q : Int) : Str := if q = 1 then Zt p else Zt p ++ "/" ++ Zt q
theorem zt_len {i : Int} (h : i.natAbs < lim) : (Zt i).length ≤ 302 := by
  have hn : ∀ n : Nat, n < lim → (Zt n).length ≤ 301 := fun n hn => PyProof.Rows.toString_length_le (by omega) (by decide) (Int.lt_of_lt_of_le (show (n : Int) < ((10 ^ 300 : Nat) : Int) from by exact_mod_cast hn) (by decide +kernel))
  rcases Int.lt_or_le i 0 with q | q
  · have e := zt_neg i.natAbs (by omega)
    have e2 : -((i.natAbs : Nat) : Int) = i := by omega
    rw [e2] at e
    have h3 := hn _ h
    have l1 : (cl (Zt i)).length = (Zt i).length := Array.length_toList
    have l2 : (cl (Zt i.natAbs)).length = (Zt i.natAbs).length := Array.length_toList
    rw [e] at l1
    simp only [List.length_cons] at l1
    omega
  · have e2 : ((i.natAbs : Nat) : Int) = i := by omega
    have := hn _ h
    rw [e2] at this
    omega
theorem fmt_i {i : Int} (h : i.natAbs < lim) : fmtD (.int i) = .ok (Zt i) := by
  show (if i.natAbs.log2 < 1920 then Res.ok (Zt i) else .bad) = _
  rw [if_pos (by have := lg h; omega)]
theorem strn_i {i : Int} (G : List D → Res D) (h : i.natAbs < lim) : strN G (.int i) = .ok (.str (Zt i)) := by
  show (if i.natAbs.log2 < 1920 then Res.ok (D.str (Zt i)) else .bad) = _
  rw [if_pos (by have := lg h; omega)]
theorem app_len (x y : Str) : (x ++ y).length = x.length + y.length := by
  have a := TL.len_tl (x ++ y)
  rw [TL.tl_append, List.length_append, ← TL.len_tl, ← TL.len_tl] at a
  exact a
theorem ck_ok {x : Str} (h : x.length ≤ 1000000) : ckS x = .ok x := if_pos h
theorem rstr_eq (p q : Int) (h1 : p.natAbs < lim) (h2 : q.natAbs < lim) : G_Ratio___str__ [.obj 0 [.int p, .int q]] = .ok (.str (ntx p q)) := by
  have a1 := zt_len h1
  have a2 := zt_len h2
  have hs : (Str.ofString "/").length = 1 := by decide +kernel
  unfold G_Ratio___str__ g_Ratio___str__
  by_cases hq : q = 1
  · simp [fK, fOp, fU, fM, fIsN, fNotN, tB', tNot', tAnd', tOr', vAnd, vOr, vNot, fIf, lNil, lCons, fLst, fTup, fCall, fMk, fB, fSlc, oNo, oSo, fSplit, fLc, iSq, iR1, tYes', zF, zS, fF1, fF3, sSeq, sRet, sIf, sSet, sSetO, sFor, sApp, sPar, sAsg, sRaise, sFld, sFrz, sBad, sTryAs, look, peek, bo, opt, mkL, mkT, small, fnG, mkG, int2, negC, seqD, hName, hCons, hNil, hTup, par2, appD, isOw, frz, setF, ptI, isiD, notScr, env0, env0I, selfF, runB, runI, cAbs, cLen, isNone, strD, payD, tryD, noErr, cLenS, itemS, dSub, dLt, dLe, dGt, dGe, Res.bind_ok, Res.bind_err, Res.bind_bad, seq_nx, seq_rt, seq_err, bnd_ok, bnd_err, loop_nx, loop_rt, for_nil, for_cons, int_i, fld_top, fld_bot, eq_ii, hq, fmt_i h1, ntx]
  · have c1 := ck_ok (x := Zt p) (by omega)
    have c2 := ck_ok (x := Zt p ++ Str.ofString "/") (by rw [app_len]; omega)
    have c3 := ck_ok (x := Zt p ++ Str.ofString "/" ++ Zt q) (by rw [app_len, app_len]; omega)
    simp [fK, fOp, fU, fM, fIsN, fNotN, tB', tNot', tAnd', tOr', vAnd, vOr, vNot, fIf, lNil, lCons, fLst, fTup, fCall, fMk, fB, fSlc, oNo, oSo, fSplit, fLc, iSq, iR1, tYes', zF, zS, fF1, fF3, sSeq, sRet, sIf, sSet, sSetO, sFor, sApp, sPar, sAsg, sRaise, sFld, sFrz, sBad, sTryAs, look, peek, bo, opt, mkL, mkT, small, fnG, mkG, int2, negC, seqD, hName, hCons, hNil, hTup, par2, appD, isOw, frz, setF, ptI, isiD, notScr, env0, env0I, selfF, runB, runI, cAbs, cLen, isNone, strD, payD, tryD, noErr, cLenS, itemS, dSub, dLt, dLe, dGt, dGe, Res.bind_ok, Res.bind_err, Res.bind_bad, seq_nx, seq_rt, seq_err, bnd_ok, bnd_err, loop_nx, loop_rt, for_nil, for_cons, int_i, fld_top, fld_bot, eq_ii, hq, fmt_i h1, fmt_i h2, ntx, ctext, c1, c2, c3]
theorem strn_num (p q : Int) (h1 : p.natAbs < lim) (h2 : q.natAbs < lim) : strN G_Ratio___str__ (num p q) = .ok (.str (ntx p q)) := by
  unfold num
  by_cases hq : q = 1
  · rw [if_pos hq, strn_i _ h1]
    simp [ntx, hq]
  · rw [if_neg hq]
    show (fnG 1 G_Ratio___str__ [.obj 0 [.int p, .int q]] >>= fun y => strD y >>= fun z => Res.ok (D.str z)) = _
    have e : fnG 1 G_Ratio___str__ [.obj 0 [.int p, .int q]] = .ok (.str (ntx p q)) := rstr_eq p q h1 h2
    rw [e]
    rfl
end DL.K3
namespace DL.K3
open PySem L2 PySem.PyData
/-! ### words -/
def wok (w : Str) : Prop := strOk w = true ∧ w.length ≤ 299
theorem lc_words (i : Nat) (hi : i = 2 ∨ i = 3) (G : List D → Res D) (hG : ∀ w, strOk w = true → w.length ≤ 1000 → G [.str w] = .ok (.bl (cnt (cl w)))) (ρ : Env) (hρ : i < ρ.length) :
    ∀ ws : List Str, (∀ w ∈ ws, wok w) → lcD (hName i) tYes' (fCall 1 G (lCons (look i) lNil)) ρ (ws.map .str) = .ok (ws.map fun w => .bl (cnt (cl w)))
  | [], _ => rfl
  | w :: r, h => by
    have ih := lc_words i hi G hG ρ hρ r fun x hx => h x (List.mem_cons_of_mem _ hx)
    have hw := h w List.mem_cons_self
    have e := hG w hw.1 (by have := hw.2; omega)
    rw [List.map_cons, lcD, ih]
    have l1 : (ρ.set i (some (.sh (.str w))))[i]? = some (some (.sh (.str w))) := by simp [hρ]
    have l2 : fCall 1 G (lCons (look i) lNil) (ρ.set i (some (.sh (.str w)))) = .ok (.bl (cnt (cl w))) := by
      show ((look i (ρ.set i (some (.sh (.str w)))) >>= fun x => Res.ok [x]) >>= fun xs => fnG 1 G xs) = _
      unfold look
      rw [l1]
      exact e
    show (noErr (Res.ok true) >>= fun k => if k = true then (noErr (fCall 1 G (lCons (look i) lNil) (ρ.set i (some (.sh (.str w))))) >>= fun y => Res.ok _ >>= fun ys => Res.ok (y :: ys)) else _) = _
    rw [l2]
    rfl
theorem bls_map (ws : List Str) : bls (ws.map fun w => D.bl (cnt (cl w))) = some (ws.map fun w => cnt (cl w)) := by
  induction ws with
  | nil => rfl
  | cons a r ih => simp [bls, ih]
theorem call_all (ws : List Str) : cAll [.lst (ws.map fun w => .bl (cnt (cl w)))] = some (.bl (ws.all fun w => cnt (cl w))) := by
  show (bls (ws.map fun w => D.bl (cnt (cl w)))).map (fun bs => D.bl (bs.all id)) = _
  rw [bls_map]
  simp [List.all_map]
theorem lcc_eq (s : Str) (ws : List Str) (h : ∀ w ∈ ws, wok w) (hn : ws.length ≤ 1000) : lc_read_count_0 [some (.sh (.str s)), some (.sh (.lst (ws.map .str))), none] = .ok (.lst (ws.map fun w => .bl (cnt (cl w)))) := by
  show (lcD (hName 2) tYes' (fCall 1 G_is_count (lCons (look 2) lNil)) [some (.sh (.str s)), some (.sh (.lst (ws.map .str))), none] (ws.map .str) >>= mkL) = _
  rw [lc_words 2 (.inl rfl) _ isCount_eq _ (by simp) ws h]
  show mkL _ = _
  unfold mkL small
  rw [if_pos (by simp; omega)]
theorem lcl_eq (t s : Str) (ws : List Str) (x y : Option B) (h : ∀ w ∈ ws, wok w) (hn : ws.length ≤ 1000) : lc__law_read_0 [some (.sh (.str t)), some (.sh (.str s)), some (.sh (.lst (ws.map .str))), none, x, y] = .ok (.lst (ws.map fun w => .bl (cnt (cl w)))) := by
  show (lcD (hName 3) tYes' (fCall 1 G__law_digits (lCons (look 3) lNil)) [some (.sh (.str t)), some (.sh (.str s)), some (.sh (.lst (ws.map .str))), none, x, y] (ws.map .str) >>= mkL) = _
  rw [lc_words 3 (.inr rfl) _ digits_eq _ (by simp) ws h]
  show mkL _ = _
  unfold mkL small
  rw [if_pos (by simp; omega)]
theorem spl_sub : ∀ (n : Nat) (l : List Nat), l.length ≤ n → ∀ w ∈ TL.spl [47] 0 [] l, (∀ c ∈ w, c ∈ l) ∧ w.length ≤ l.length
  | n, l, hn, w, hw => by
    rcases spl_cases l [] (by simp) with ⟨e, _⟩ | ⟨v, r, e1, _, e⟩
    · rw [e] at hw
      simp at hw
      subst hw
      exact ⟨fun c h => h, Nat.le_refl _⟩
    · rw [e] at hw
      have e1' : l = v ++ 47 :: r := e1
      rcases List.mem_cons.mp hw with h | h
      · subst h
        rw [e1']
        exact ⟨fun c hc => List.mem_append_left _ hc, by simp⟩
      · cases n with
        | zero =>
          rw [e1'] at hn
          simp at hn
        | succ n =>
          have hr : r.length ≤ n := by
            rw [e1'] at hn
            simp at hn
            omega
          have := spl_sub n r hr w h
          rw [e1']
          exact ⟨fun c hc => List.mem_append_right _ (List.mem_cons_of_mem _ (this.1 c hc)), by simp; omega⟩
theorem spl_len : ∀ (n : Nat) (l : List Nat), l.length ≤ n → (TL.spl [47] 0 [] l).length ≤ l.length + 1
  | n, l, hn => by
    rcases spl_cases l [] (by simp) with ⟨e, _⟩ | ⟨v, r, e1, _, e⟩
    · rw [e]
      simp
    · rw [e]
      have e1' : l = v ++ 47 :: r := e1
      cases n with
      | zero =>
        rw [e1'] at hn
        simp at hn
      | succ n =>
        have hr : r.length ≤ n := by
          rw [e1'] at hn
          simp at hn
          omega
        have := spl_len n r hr
        rw [e1']
        simp
        omega
/-- the words of a text -/
def wds (s : Str) : List Str := (TL.spl [47] 0 [] (cl s)).map fun l => ⟨l.toArray⟩
theorem spl_eq (s : Str) (h : s.length ≤ 299) : splD s "/" = .ok (.lst ((wds s).map .str)) := by
  show (if ((Str.ofString "/").length == 0) = false ∧ s.length ≤ 1000000 then Res.ok (D.lst ((Txt.split s (Str.ofString "/")).map .str)) else .bad) = _
  rw [if_pos ⟨by decide +kernel, by omega⟩]
  have e : Txt.split (SX.S (cl s)) (SX.S [47]) = (TL.spl [47] 0 [] (cl s)).map SX.S := SX.split_S (by simp) (by decide)
  have e1 : SX.S (cl s) = s := TL.mk_tl s
  have e2 : SX.S [47] = Str.ofString "/" := by decide +kernel
  rw [e1, e2] at e
  rw [e]
  rfl
theorem ok_of {s : Str} (h : ∀ c ∈ cl s, c < 0x110000) : strOk s = true := by
  show s.cps.all _ = true
  rw [← Array.all_toList, List.all_eq_true]
  intro c hc
  exact decide_eq_true (h c hc)
theorem wds_ok {s : Str} (h : wok s) : ∀ w ∈ wds s, wok w := by
  intro w hw
  obtain ⟨l, hl, rfl⟩ := List.mem_map.mp hw
  have := spl_sub _ _ (Nat.le_refl _) l hl
  have h2 : (cl s).length = s.length := Array.length_toList
  refine ⟨ok_of fun c hc => ok_ch h.1 c (this.1 c (by simpa using hc)), ?_⟩
  have h3 := this.2
  have h4 := h.2
  show l.toArray.size ≤ 299
  simp
  omega
theorem wds_len {s : Str} (h : wok s) : (wds s).length ≤ 1000 := by
  have := spl_len _ (cl s) (Nat.le_refl _)
  have h2 : (cl s).length = s.length := Array.length_toList
  have := h.2
  simp [wds]
  omega
end DL.K3
namespace DL.K3
open PySem L2 PySem.PyData PySem.NumText
theorem rc_bad {s : Str} (h : wok s) (hb : 2 < (wds s).length ∨ ((wds s).all fun w => cnt (cl w)) = false) : G_read_count [.str s] = .ok .non := by
  have e1 := spl_eq s h.2
  have e2 := lcc_eq s (wds s) (wds_ok h) (wds_len h)
  have e3 := call_all (wds s)
  unfold G_read_count g_read_count
  by_cases hg : 2 < (wds s).length
  · have hg' : (2 : Int) < ((wds s).length : Int) := by omega
    simp [fK, fOp, fU, fM, fIsN, fNotN, tB', tNot', tAnd', tOr', vAnd, vOr, vNot, fIf, lNil, lCons, fLst, fTup, fCall, fMk, fB, fSlc, oNo, oSo, fSplit, fLc, iSq, iR1, tYes', zF, zS, fF1, fF3, sSeq, sRet, sIf, sSet, sSetO, sFor, sApp, sPar, sAsg, sRaise, sFld, sFrz, sBad, sTryAs, look, peek, bo, opt, mkL, mkT, small, fnG, mkG, int2, negC, seqD, hName, hCons, hNil, hTup, par2, appD, isOw, frz, setF, ptI, isiD, notScr, env0, env0I, selfF, runB, runI, cAbs, cLen, isNone, strD, payD, tryD, noErr, cLenS, itemS, dSub, dLt, dLe, dGt, dGe, Res.bind_ok, Res.bind_err, Res.bind_bad, seq_nx, seq_rt, seq_err, bnd_ok, bnd_err, loop_nx, loop_rt, for_nil, for_cons, int_i, e1, hg']
  · have hg' : ¬ (2 : Int) < ((wds s).length : Int) := by omega
    have ha : ((wds s).all fun w => cnt (cl w)) = false := by
      rcases hb with q | q
      · exact absurd q hg
      · exact q
    rw [ha] at e3
    simp [fK, fOp, fU, fM, fIsN, fNotN, tB', tNot', tAnd', tOr', vAnd, vOr, vNot, fIf, lNil, lCons, fLst, fTup, fCall, fMk, fB, fSlc, oNo, oSo, fSplit, fLc, iSq, iR1, tYes', zF, zS, fF1, fF3, sSeq, sRet, sIf, sSet, sSetO, sFor, sApp, sPar, sAsg, sRaise, sFld, sFrz, sBad, sTryAs, look, peek, bo, opt, mkL, mkT, small, fnG, mkG, int2, negC, seqD, hName, hCons, hNil, hTup, par2, appD, isOw, frz, setF, ptI, isiD, notScr, env0, env0I, selfF, runB, runI, cAbs, cLen, isNone, strD, payD, tryD, noErr, cLenS, itemS, dSub, dLt, dLe, dGt, dGe, Res.bind_ok, Res.bind_err, Res.bind_bad, seq_nx, seq_rt, seq_err, bnd_ok, bnd_err, loop_nx, loop_rt, for_nil, for_cons, int_i, e1, hg', e2, e3]
theorem vmul (w : Str) (hl : w.length ≤ 299) (h : cnt (cl w) = true) : (digitsVal (cl w)) < lim := by
  rcases Nat.lt_or_ge (digitsVal (cl w)) lim with q | q
  · exact q
  · have e := cnt_text h
    have e2 : cl w = (Nat.toDigits 10 (digitsVal (cl w))).map Char.toNat := (congrArg cl e).trans (PySem.W.KIN.signs_num _)
    have l := PyProof.Rows.digits10_ge (k := 300) q
    have l2 : (cl w).length = w.length := Array.length_toList
    have l3 := congrArg List.length e2
    rw [List.length_map] at l3
    omega
theorem ct_one (u : Int) : ct u 1 = u := by simp [ct]
theorem cb_one (u : Int) : cb u 1 = 1 := by simp [cb]
theorem rc_one {s w : Str} (h : wok s) (hs : wds s = [w]) (hc : cnt (cl w) = true) : G_read_count [.str s] = .ok (.int ((digitsVal (cl w) : Nat) : Int)) := by
  have hw : wok w := wds_ok h w (by rw [hs]; simp)
  have e1 := spl_eq s h.2
  rw [hs] at e1
  have e2 := lcc_eq s [w] (by simpa using hw) (by simp)
  have e3 := call_all [w]
  simp [hc] at e2 e3
  have e4 := cnt_int hc (by have := hw.2; omega)
  have hv : ((digitsVal (cl w) : Nat) : Int).natAbs < lim := by
    simpa using vmul w hw.2 hc
  have e5 := quo_eq ((digitsVal (cl w) : Nat) : Int) 1 (by decide) hv (by decide +kernel)
  rw [ct_one, cb_one] at e5
  have e6 : eqD (.lst []) (.lst [.str (Str.ofString "0")]) = some (.bl false) := by
    show (eqP (.lst (([] : List Str).map .str)) (.lst ([Str.ofString "0"].map .str))).map D.bl = _
    rw [eqP_strs (by simp) (by simp; decide +kernel)]
    rfl
  have e7 : slcD (.lst [.str w]) (some 1) none = some (.lst []) := rfl
  have e8 : itemD (.lst [.str w]) (.int 0) = some (.str w) := rfl
  unfold G_read_count g_read_count
  simp [fK, fOp, fU, fM, fIsN, fNotN, tB', tNot', tAnd', tOr', vAnd, vOr, vNot, fIf, lNil, lCons, fLst, fTup, fCall, fMk, fB, fSlc, oNo, oSo, fSplit, fLc, iSq, iR1, tYes', zF, zS, fF1, fF3, sSeq, sRet, sIf, sSet, sSetO, sFor, sApp, sPar, sAsg, sRaise, sFld, sFrz, sBad, sTryAs, look, peek, bo, opt, mkL, mkT, small, fnG, mkG, int2, negC, seqD, hName, hCons, hNil, hTup, par2, appD, isOw, frz, setF, ptI, isiD, notScr, env0, env0I, selfF, runB, runI, cAbs, cLen, isNone, strD, payD, tryD, noErr, cLenS, itemS, dSub, dLt, dLe, dGt, dGe, Res.bind_ok, Res.bind_err, Res.bind_bad, seq_nx, seq_rt, seq_err, bnd_ok, bnd_err, loop_nx, loop_rt, for_nil, for_cons, int_i, e1, e2, e3, e4, e5, e6, e7, e8, eq_ii, num]
theorem v_zero {v : Str} (h : cnt (cl v) = true) : (v = Str.ofString "0") ↔ digitsVal (cl v) = 0 := by
  constructor
  · intro e
    subst e
    decide +kernel
  · intro e
    have := cnt_text h
    rw [e] at this
    exact this
theorem rc_two {s w v : Str} (h : wok s) (hs : wds s = [w, v]) (hc : cnt (cl w) = true) (hd : cnt (cl v) = true) :
    G_read_count [.str s] = .ok (if digitsVal (cl v) = 0 then .non else num (ct (digitsVal (cl w) : Int) (digitsVal (cl v) : Int)) (cb (digitsVal (cl w) : Int) (digitsVal (cl v) : Int))) := by
  have hw : wok w := wds_ok h w (by rw [hs]; simp)
  have hv : wok v := wds_ok h v (by rw [hs]; simp)
  have e1 := spl_eq s h.2
  rw [hs] at e1
  have e2 := lcc_eq s [w, v] (by simp; exact ⟨hw, hv⟩) (by simp)
  have e3 := call_all [w, v]
  simp [hc, hd] at e2 e3
  have e4 := cnt_int hc (by have := hw.2; omega)
  have e4' := cnt_int hd (by have := hv.2; omega)
  have h1 : ((digitsVal (cl w) : Nat) : Int).natAbs < lim := by
    simpa using vmul w hw.2 hc
  have h2 : ((digitsVal (cl v) : Nat) : Int).natAbs < lim := by
    simpa using vmul v hv.2 hd
  have e6 : eqD (.lst [.str v]) (.lst [.str (Str.ofString "0")]) = some (.bl (decide (digitsVal (cl v) = 0))) := by
    show (eqP (.lst ([v].map .str)) (.lst ([Str.ofString "0"].map .str))).map D.bl = _
    rw [eqP_strs (by simpa using hv.1) (by simp; decide +kernel)]
    have : decide ([v] = [Str.ofString "0"]) = decide (digitsVal (cl v) = 0) := by
      by_cases q : v = Str.ofString "0"
      · rw [decide_eq_true ((v_zero hd).mp q), q]
        decide +kernel
      · rw [decide_eq_false fun e => q ((v_zero hd).mpr e)]
        exact decide_eq_false fun e => q (List.cons.inj e).1
    rw [this]
    rfl
  have e7 : slcD (.lst [.str w, .str v]) (some 1) none = some (.lst [.str v]) := rfl
  have e8 : itemD (.lst [.str w, .str v]) (.int 0) = some (.str w) := rfl
  have e9 : itemD (.lst [.str w, .str v]) (.int (-1)) = some (.str v) := rfl
  unfold G_read_count g_read_count
  by_cases hz : digitsVal (cl v) = 0
  · rw [decide_eq_true hz] at e6
    simp [fK, fOp, fU, fM, fIsN, fNotN, tB', tNot', tAnd', tOr', vAnd, vOr, vNot, fIf, lNil, lCons, fLst, fTup, fCall, fMk, fB, fSlc, oNo, oSo, fSplit, fLc, iSq, iR1, tYes', zF, zS, fF1, fF3, sSeq, sRet, sIf, sSet, sSetO, sFor, sApp, sPar, sAsg, sRaise, sFld, sFrz, sBad, sTryAs, look, peek, bo, opt, mkL, mkT, small, fnG, mkG, int2, negC, seqD, hName, hCons, hNil, hTup, par2, appD, isOw, frz, setF, ptI, isiD, notScr, env0, env0I, selfF, runB, runI, cAbs, cLen, isNone, strD, payD, tryD, noErr, cLenS, itemS, dSub, dLt, dLe, dGt, dGe, Res.bind_ok, Res.bind_err, Res.bind_bad, seq_nx, seq_rt, seq_err, bnd_ok, bnd_err, loop_nx, loop_rt, for_nil, for_cons, int_i, e1, e2, e3, e4, e6, e7, hz]
  · rw [decide_eq_false hz] at e6
    have e5 := quo_eq ((digitsVal (cl w) : Nat) : Int) ((digitsVal (cl v) : Nat) : Int) (by omega) h1 h2
    simp [fK, fOp, fU, fM, fIsN, fNotN, tB', tNot', tAnd', tOr', vAnd, vOr, vNot, fIf, lNil, lCons, fLst, fTup, fCall, fMk, fB, fSlc, oNo, oSo, fSplit, fLc, iSq, iR1, tYes', zF, zS, fF1, fF3, sSeq, sRet, sIf, sSet, sSetO, sFor, sApp, sPar, sAsg, sRaise, sFld, sFrz, sBad, sTryAs, look, peek, bo, opt, mkL, mkT, small, fnG, mkG, int2, negC, seqD, hName, hCons, hNil, hTup, par2, appD, isOw, frz, setF, ptI, isiD, notScr, env0, env0I, selfF, runB, runI, cAbs, cLen, isNone, strD, payD, tryD, noErr, cLenS, itemS, dSub, dLt, dLe, dGt, dGe, Res.bind_ok, Res.bind_err, Res.bind_bad, seq_nx, seq_rt, seq_err, bnd_ok, bnd_err, loop_nx, loop_rt, for_nil, for_cons, int_i, e1, e2, e3, e4, e4', e5, e6, e7, e8, e9, eq_ii, hz]
/-! ### the sign ahead -/
def nb (t : Str) : Bool := (cl t).head? == some 45
def bd (t : Str) : Str := if nb t = true then cutS t (some 1) none else t
theorem cut_first (t : Str) : cl (cutS t none (some 1)) = (cl t).take 1 := by
  have l : (cl t).length = t.length := Array.length_toList
  show ((cl t).drop 0).take (min 1 t.length - 0) = _
  rw [List.drop_zero, ← l]
  cases cl t <;> simp
theorem cut_rest (t : Str) : cl (cutS t (some 1) none) = (cl t).drop 1 := by
  have l : (cl t).length = t.length := Array.length_toList
  show ((cl t).drop (min 1 t.length)).take (t.length - min 1 t.length) = _
  rw [← l]
  cases cl t <;> simp
theorem eq_minus {t : Str} (h : wok t) : eqD (.str (cutS t none (some 1))) (.str (Str.ofString "-")) = some (.bl (nb t)) := by
  rw [eq_ss (ok_of fun c hc => ok_ch h.1 c (List.mem_of_mem_take (by rw [cut_first] at hc; exact hc))) (by decide +kernel)]
  have : decide (cutS t none (some 1) = Str.ofString "-") = nb t := by
    have e1 : cl (Str.ofString "-") = [45] := by decide +kernel
    have e2 := cut_first t
    unfold nb
    by_cases q : (cl t).take 1 = [45]
    · rw [decide_eq_true (TL.ext_tl (by show cl _ = cl _; rw [e2, e1, q]))]
      cases hc : cl t with
      | nil => rw [hc] at q; cases q
      | cons c r =>
        rw [hc] at q
        simp at q
        subst q
        rfl
    · rw [decide_eq_false fun e => q (by rw [← e2, e, e1])]
      cases hc : cl t with
      | nil => rfl
      | cons c r =>
        rw [hc] at q
        symm
        simp at q ⊢
        exact q
  rw [this]
theorem sl_first {t : Str} (h : wok t) : slcD (.str t) none (some 1) = some (.str (cutS t none (some 1))) := if_pos (by have := h.2; omega)
theorem sl_rest {t : Str} (h : wok t) : slcD (.str t) (some 1) none = some (.str (cutS t (some 1) none)) := if_pos (by have := h.2; omega)
theorem bd_ok {t : Str} (h : wok t) : wok (bd t) := by
  unfold bd
  split
  · refine ⟨ok_of fun c hc => ok_ch h.1 c (List.mem_of_mem_drop (by rw [cut_rest] at hc; exact hc)), ?_⟩
    have := cutS_length t (some 1) none
    have := h.2
    omega
  · exact h
theorem bd_is (t : Str) : cl t = if nb t = true then 45 :: cl (bd t) else cl (bd t) := by
  unfold bd
  split
  · rename_i h
    rw [cut_rest]
    unfold nb at h
    cases hc : cl t with
    | nil => rw [hc] at h; cases h
    | cons c r =>
      rw [hc] at h
      simp at h
      subst h
      rfl
  · rfl
end DL.K3
namespace DL.K3
open PySem L2 PySem.PyData PySem.NumText
/-! ### the law's own reading -/
theorem body_e {t : Str} (h : wok t) : (if nb t = true then Res.ok (D.str (cutS t (some 1) none)) else Res.ok (D.str t)) = .ok (.str (bd t)) := by
  unfold bd
  split <;> rfl
theorem bd_t {t : Str} (h : nb t = true) : cutS t (some 1) none = bd t := by
  unfold bd
  rw [if_pos h]
theorem bd_f {t : Str} (h : nb t = false) : bd t = t := by
  unfold bd
  rw [h]
  rfl
theorem lr_bad {t : Str} (h : wok t) (hb : 2 < (wds (bd t)).length ∨ ((wds (bd t)).all fun w => cnt (cl w)) = false) : G__law_read [.str t] = .ok .non := by
  have hk := bd_ok h
  have e1 := spl_eq (bd t) hk.2
  have e2 := lcl_eq t (bd t) (wds (bd t)) none none (wds_ok hk) (wds_len hk)
  have e3 := call_all (wds (bd t))
  have a1 := sl_first h
  have a2 := sl_rest h
  have a3 := eq_minus h
  have a4 := body_e h
  unfold G__law_read g__law_read
  by_cases hg : 2 < (wds (bd t)).length
  · have hg' : (2 : Int) < ((wds (bd t)).length : Int) := by omega
    simp [fK, fOp, fU, fM, fIsN, fNotN, tB', tNot', tAnd', tOr', vAnd, vOr, vNot, fIf, lNil, lCons, fLst, fTup, fCall, fMk, fB, fSlc, oNo, oSo, fSplit, fLc, iSq, iR1, tYes', zF, zS, fF1, fF3, sSeq, sRet, sIf, sSet, sSetO, sFor, sApp, sPar, sAsg, sRaise, sFld, sFrz, sBad, sTryAs, look, peek, bo, opt, mkL, mkT, small, fnG, mkG, int2, negC, seqD, hName, hCons, hNil, hTup, par2, appD, isOw, frz, setF, ptI, isiD, notScr, env0, env0I, selfF, runB, runI, cAbs, cLen, isNone, strD, payD, tryD, noErr, cLenS, itemS, dSub, dLt, dLe, dGt, dGe, Res.bind_ok, Res.bind_err, Res.bind_bad, seq_nx, seq_rt, seq_err, bnd_ok, bnd_err, loop_nx, loop_rt, for_nil, for_cons, int_i, a1, a2, a3, a4, e1, hg']
  · have hg' : ¬ (2 : Int) < ((wds (bd t)).length : Int) := by omega
    have ha : ((wds (bd t)).all fun w => cnt (cl w)) = false := by
      rcases hb with q | q
      · exact absurd q hg
      · exact q
    rw [ha] at e3
    simp [fK, fOp, fU, fM, fIsN, fNotN, tB', tNot', tAnd', tOr', vAnd, vOr, vNot, fIf, lNil, lCons, fLst, fTup, fCall, fMk, fB, fSlc, oNo, oSo, fSplit, fLc, iSq, iR1, tYes', zF, zS, fF1, fF3, sSeq, sRet, sIf, sSet, sSetO, sFor, sApp, sPar, sAsg, sRaise, sFld, sFrz, sBad, sTryAs, look, peek, bo, opt, mkL, mkT, small, fnG, mkG, int2, negC, seqD, hName, hCons, hNil, hTup, par2, appD, isOw, frz, setF, ptI, isiD, notScr, env0, env0I, selfF, runB, runI, cAbs, cLen, isNone, strD, payD, tryD, noErr, cLenS, itemS, dSub, dLt, dLe, dGt, dGe, Res.bind_ok, Res.bind_err, Res.bind_bad, seq_nx, seq_rt, seq_err, bnd_ok, bnd_err, loop_nx, loop_rt, for_nil, for_cons, int_i, a1, a2, a3, a4, e1, hg', e2, e3]
def sg (b : Bool) (u : Int) : Int := if b = true then -u else u
theorem sg_e (b : Bool) (u : Int) : (if b = true then Res.ok (D.int (-u)) else Res.ok (D.int u)) = .ok (.int (sg b u)) := by
  unfold sg
  cases b <;> rfl
theorem lr_one {t w : Str} (h : wok t) (hs : wds (bd t) = [w]) (hc : cnt (cl w) = true) :
    G__law_read [.str t] = .ok (if nb t = true ∧ digitsVal (cl w) = 0 then .non else .tup [.int (sg (nb t) (digitsVal (cl w) : Int)), .int 1]) := by
  have hk := bd_ok h
  have hw : wok w := wds_ok hk w (by rw [hs]; simp)
  have e1 := spl_eq (bd t) hk.2
  rw [hs] at e1
  have e2 := lcl_eq t (bd t) [w] none none (by simpa using hw) (by simp)
  have e3 := call_all [w]
  simp [hc] at e2 e3
  have e4 := cnt_int hc (by have := hw.2; omega)
  have e8 : itemD (.lst [.str w]) (.int 0) = some (.str w) := rfl
  have a1 := sl_first h
  have a2 := sl_rest h
  have a3 := eq_minus h
  have a4 := body_e h
  have a5 := share_eq (digitsVal (cl w) : Int) 1 (by decide +kernel)
  have a6 : ((Nat.gcd ((digitsVal (cl w) : Nat) : Int).natAbs (1 : Int).natAbs : Nat) : Int) = 1 := by simp
  rw [a6] at a5
  have a7 := sg_e (nb t) (digitsVal (cl w) : Int)
  unfold G__law_read g__law_read
  cases hn : nb t
  · rw [bd_f hn] at e1 e2
    rw [hn] at a3
    by_cases hz : digitsVal (cl w) = 0
    · rw [hz] at a5 e4
      simp only [Int.natCast_zero, Int.natCast_one] at a5 e4
      simp [fK, fOp, fU, fM, fIsN, fNotN, tB', tNot', tAnd', tOr', vAnd, vOr, vNot, fIf, lNil, lCons, fLst, fTup, fCall, fMk, fB, fSlc, oNo, oSo, fSplit, fLc, iSq, iR1, tYes', zF, zS, fF1, fF3, sSeq, sRet, sIf, sSet, sSetO, sFor, sApp, sPar, sAsg, sRaise, sFld, sFrz, sBad, sTryAs, look, peek, bo, opt, mkL, mkT, small, fnG, mkG, int2, negC, seqD, hName, hCons, hNil, hTup, par2, appD, isOw, frz, setF, ptI, isiD, notScr, env0, env0I, selfF, runB, runI, cAbs, cLen, isNone, strD, payD, tryD, noErr, cLenS, itemS, dSub, dLt, dLe, dGt, dGe, Res.bind_ok, Res.bind_err, Res.bind_bad, seq_nx, seq_rt, seq_err, bnd_ok, bnd_err, loop_nx, loop_rt, for_nil, for_cons, int_i, a1, a2, a3, a5, e1, e2, e3, e4, e8, eq_ii, hz, sg]
    · simp [fK, fOp, fU, fM, fIsN, fNotN, tB', tNot', tAnd', tOr', vAnd, vOr, vNot, fIf, lNil, lCons, fLst, fTup, fCall, fMk, fB, fSlc, oNo, oSo, fSplit, fLc, iSq, iR1, tYes', zF, zS, fF1, fF3, sSeq, sRet, sIf, sSet, sSetO, sFor, sApp, sPar, sAsg, sRaise, sFld, sFrz, sBad, sTryAs, look, peek, bo, opt, mkL, mkT, small, fnG, mkG, int2, negC, seqD, hName, hCons, hNil, hTup, par2, appD, isOw, frz, setF, ptI, isiD, notScr, env0, env0I, selfF, runB, runI, cAbs, cLen, isNone, strD, payD, tryD, noErr, cLenS, itemS, dSub, dLt, dLe, dGt, dGe, Res.bind_ok, Res.bind_err, Res.bind_bad, seq_nx, seq_rt, seq_err, bnd_ok, bnd_err, loop_nx, loop_rt, for_nil, for_cons, int_i, a1, a2, a3, a5, e1, e2, e3, e4, e8, eq_ii, hz, sg]
  · have hb := bd_t hn
    rw [hn] at a3
    by_cases hz : digitsVal (cl w) = 0
    · rw [hz] at a5 e4
      simp only [Int.natCast_zero, Int.natCast_one] at a5 e4
      simp [fK, fOp, fU, fM, fIsN, fNotN, tB', tNot', tAnd', tOr', vAnd, vOr, vNot, fIf, lNil, lCons, fLst, fTup, fCall, fMk, fB, fSlc, oNo, oSo, fSplit, fLc, iSq, iR1, tYes', zF, zS, fF1, fF3, sSeq, sRet, sIf, sSet, sSetO, sFor, sApp, sPar, sAsg, sRaise, sFld, sFrz, sBad, sTryAs, look, peek, bo, opt, mkL, mkT, small, fnG, mkG, int2, negC, seqD, hName, hCons, hNil, hTup, par2, appD, isOw, frz, setF, ptI, isiD, notScr, env0, env0I, selfF, runB, runI, cAbs, cLen, isNone, strD, payD, tryD, noErr, cLenS, itemS, dSub, dLt, dLe, dGt, dGe, Res.bind_ok, Res.bind_err, Res.bind_bad, seq_nx, seq_rt, seq_err, bnd_ok, bnd_err, loop_nx, loop_rt, for_nil, for_cons, int_i, hb, a1, a2, a3, a5, e1, e2, e3, e4, e8, eq_ii, hz, sg]
    · simp [fK, fOp, fU, fM, fIsN, fNotN, tB', tNot', tAnd', tOr', vAnd, vOr, vNot, fIf, lNil, lCons, fLst, fTup, fCall, fMk, fB, fSlc, oNo, oSo, fSplit, fLc, iSq, iR1, tYes', zF, zS, fF1, fF3, sSeq, sRet, sIf, sSet, sSetO, sFor, sApp, sPar, sAsg, sRaise, sFld, sFrz, sBad, sTryAs, look, peek, bo, opt, mkL, mkT, small, fnG, mkG, int2, negC, seqD, hName, hCons, hNil, hTup, par2, appD, isOw, frz, setF, ptI, isiD, notScr, env0, env0I, selfF, runB, runI, cAbs, cLen, isNone, strD, payD, tryD, noErr, cLenS, itemS, dSub, dLt, dLe, dGt, dGe, Res.bind_ok, Res.bind_err, Res.bind_bad, seq_nx, seq_rt, seq_err, bnd_ok, bnd_err, loop_nx, loop_rt, for_nil, for_cons, int_i, hb, a1, a2, a3, a5, e1, e2, e3, e4, e8, eq_ii, hz, sg]
theorem lr_two {t w v : Str} (h : wok t) (hs : wds (bd t) = [w, v]) (hc : cnt (cl w) = true) (hd : cnt (cl v) = true) :
    G__law_read [.str t] = .ok (if digitsVal (cl v) = 0 ∨ digitsVal (cl v) = 1 ∨ 1 < Nat.gcd (digitsVal (cl w)) (digitsVal (cl v)) then .non else .tup [.int (sg (nb t) (digitsVal (cl w) : Int)), .int (digitsVal (cl v) : Int)]) := by
  have hk := bd_ok h
  have hw : wok w := wds_ok hk w (by rw [hs]; simp)
  have hv : wok v := wds_ok hk v (by rw [hs]; simp)
  have e1 := spl_eq (bd t) hk.2
  rw [hs] at e1
  have e2 := lcl_eq t (bd t) [w, v] none none (by simp; exact ⟨hw, hv⟩) (by simp)
  have e3 := call_all [w, v]
  simp [hc, hd] at e2 e3
  have e4 := cnt_int hc (by have := hw.2; omega)
  have e4' := cnt_int hd (by have := hv.2; omega)
  have e8 : itemD (.lst [.str w, .str v]) (.int 0) = some (.str w) := rfl
  have e9 : itemD (.lst [.str w, .str v]) (.int (-1)) = some (.str v) := rfl
  have a1 := sl_first h
  have a2 := sl_rest h
  have a3 := eq_minus h
  generalize hu : digitsVal (cl w) = u at *
  generalize hl : digitsVal (cl v) = l at *
  have a5 := share_eq (u : Int) (l : Int) (by
    have := vmul v hv.2 hd
    rw [hl] at this
    have h3 : lim ≤ big := by decide +kernel
    show ((l : Nat) : Int).natAbs < big
    omega)
  simp only [Int.natAbs_natCast] at a5
  have nz : ¬ (l = 0 ∨ l = 1 ∨ 1 < Nat.gcd u l) → u ≠ 0 := by
    intro q e
    subst e
    rw [Nat.gcd_zero_left] at q
    omega
  by_cases q0 : l = 0
  · subst q0
    simp only [Int.natCast_zero, Int.natCast_one] at a5 e4'
    unfold G__law_read g__law_read
    cases hn : nb t
    · rw [bd_f hn] at e1 e2
      rw [hn] at a3
      simp [fK, fOp, fU, fM, fIsN, fNotN, tB', tNot', tAnd', tOr', vAnd, vOr, vNot, fIf, lNil, lCons, fLst, fTup, fCall, fMk, fB, fSlc, oNo, oSo, fSplit, fLc, iSq, iR1, tYes', zF, zS, fF1, fF3, sSeq, sRet, sIf, sSet, sSetO, sFor, sApp, sPar, sAsg, sRaise, sFld, sFrz, sBad, sTryAs, look, peek, bo, opt, mkL, mkT, small, fnG, mkG, int2, negC, seqD, hName, hCons, hNil, hTup, par2, appD, isOw, frz, setF, ptI, isiD, notScr, env0, env0I, selfF, runB, runI, cAbs, cLen, isNone, strD, payD, tryD, noErr, cLenS, itemS, dSub, dLt, dLe, dGt, dGe, Res.bind_ok, Res.bind_err, Res.bind_bad, seq_nx, seq_rt, seq_err, bnd_ok, bnd_err, loop_nx, loop_rt, for_nil, for_cons, int_i, a1, a2, a3, a5, e1, e2, e3, e4, e4', e8, e9, eq_ii]
    · have hb := bd_t hn
      rw [hn] at a3
      simp [fK, fOp, fU, fM, fIsN, fNotN, tB', tNot', tAnd', tOr', vAnd, vOr, vNot, fIf, lNil, lCons, fLst, fTup, fCall, fMk, fB, fSlc, oNo, oSo, fSplit, fLc, iSq, iR1, tYes', zF, zS, fF1, fF3, sSeq, sRet, sIf, sSet, sSetO, sFor, sApp, sPar, sAsg, sRaise, sFld, sFrz, sBad, sTryAs, look, peek, bo, opt, mkL, mkT, small, fnG, mkG, int2, negC, seqD, hName, hCons, hNil, hTup, par2, appD, isOw, frz, setF, ptI, isiD, notScr, env0, env0I, selfF, runB, runI, cAbs, cLen, isNone, strD, payD, tryD, noErr, cLenS, itemS, dSub, dLt, dLe, dGt, dGe, Res.bind_ok, Res.bind_err, Res.bind_bad, seq_nx, seq_rt, seq_err, bnd_ok, bnd_err, loop_nx, loop_rt, for_nil, for_cons, int_i, hb, a1, a2, a3, a5, e1, e2, e3, e4, e4', e8, e9, eq_ii]
  by_cases q1 : l = 1
  · subst q1
    simp only [Int.natCast_zero, Int.natCast_one] at a5 e4'
    unfold G__law_read g__law_read
    cases hn : nb t
    · rw [bd_f hn] at e1 e2
      rw [hn] at a3
      simp [fK, fOp, fU, fM, fIsN, fNotN, tB', tNot', tAnd', tOr', vAnd, vOr, vNot, fIf, lNil, lCons, fLst, fTup, fCall, fMk, fB, fSlc, oNo, oSo, fSplit, fLc, iSq, iR1, tYes', zF, zS, fF1, fF3, sSeq, sRet, sIf, sSet, sSetO, sFor, sApp, sPar, sAsg, sRaise, sFld, sFrz, sBad, sTryAs, look, peek, bo, opt, mkL, mkT, small, fnG, mkG, int2, negC, seqD, hName, hCons, hNil, hTup, par2, appD, isOw, frz, setF, ptI, isiD, notScr, env0, env0I, selfF, runB, runI, cAbs, cLen, isNone, strD, payD, tryD, noErr, cLenS, itemS, dSub, dLt, dLe, dGt, dGe, Res.bind_ok, Res.bind_err, Res.bind_bad, seq_nx, seq_rt, seq_err, bnd_ok, bnd_err, loop_nx, loop_rt, for_nil, for_cons, int_i, a1, a2, a3, a5, e1, e2, e3, e4, e4', e8, e9, eq_ii]
    · have hb := bd_t hn
      rw [hn] at a3
      simp [fK, fOp, fU, fM, fIsN, fNotN, tB', tNot', tAnd', tOr', vAnd, vOr, vNot, fIf, lNil, lCons, fLst, fTup, fCall, fMk, fB, fSlc, oNo, oSo, fSplit, fLc, iSq, iR1, tYes', zF, zS, fF1, fF3, sSeq, sRet, sIf, sSet, sSetO, sFor, sApp, sPar, sAsg, sRaise, sFld, sFrz, sBad, sTryAs, look, peek, bo, opt, mkL, mkT, small, fnG, mkG, int2, negC, seqD, hName, hCons, hNil, hTup, par2, appD, isOw, frz, setF, ptI, isiD, notScr, env0, env0I, selfF, runB, runI, cAbs, cLen, isNone, strD, payD, tryD, noErr, cLenS, itemS, dSub, dLt, dLe, dGt, dGe, Res.bind_ok, Res.bind_err, Res.bind_bad, seq_nx, seq_rt, seq_err, bnd_ok, bnd_err, loop_nx, loop_rt, for_nil, for_cons, int_i, hb, a1, a2, a3, a5, e1, e2, e3, e4, e4', e8, e9, eq_ii]
  have q0' : ¬ (l : Int) = 0 := by omega
  have q1' : ¬ (l : Int) = 1 := by omega
  by_cases q2 : 1 < Nat.gcd u l
  · have q2' : (1 : Int) < ((Nat.gcd u l : Nat) : Int) := by omega
    unfold G__law_read g__law_read
    cases hn : nb t
    · rw [bd_f hn] at e1 e2
      rw [hn] at a3
      simp [fK, fOp, fU, fM, fIsN, fNotN, tB', tNot', tAnd', tOr', vAnd, vOr, vNot, fIf, lNil, lCons, fLst, fTup, fCall, fMk, fB, fSlc, oNo, oSo, fSplit, fLc, iSq, iR1, tYes', zF, zS, fF1, fF3, sSeq, sRet, sIf, sSet, sSetO, sFor, sApp, sPar, sAsg, sRaise, sFld, sFrz, sBad, sTryAs, look, peek, bo, opt, mkL, mkT, small, fnG, mkG, int2, negC, seqD, hName, hCons, hNil, hTup, par2, appD, isOw, frz, setF, ptI, isiD, notScr, env0, env0I, selfF, runB, runI, cAbs, cLen, isNone, strD, payD, tryD, noErr, cLenS, itemS, dSub, dLt, dLe, dGt, dGe, Res.bind_ok, Res.bind_err, Res.bind_bad, seq_nx, seq_rt, seq_err, bnd_ok, bnd_err, loop_nx, loop_rt, for_nil, for_cons, int_i, a1, a2, a3, a5, e1, e2, e3, e4, e4', e8, e9, eq_ii, q0, q1, q2, q0', q1', q2']
    · have hb := bd_t hn
      rw [hn] at a3
      simp [fK, fOp, fU, fM, fIsN, fNotN, tB', tNot', tAnd', tOr', vAnd, vOr, vNot, fIf, lNil, lCons, fLst, fTup, fCall, fMk, fB, fSlc, oNo, oSo, fSplit, fLc, iSq, iR1, tYes', zF, zS, fF1, fF3, sSeq, sRet, sIf, sSet, sSetO, sFor, sApp, sPar, sAsg, sRaise, sFld, sFrz, sBad, sTryAs, look, peek, bo, opt, mkL, mkT, small, fnG, mkG, int2, negC, seqD, hName, hCons, hNil, hTup, par2, appD, isOw, frz, setF, ptI, isiD, notScr, env0, env0I, selfF, runB, runI, cAbs, cLen, isNone, strD, payD, tryD, noErr, cLenS, itemS, dSub, dLt, dLe, dGt, dGe, Res.bind_ok, Res.bind_err, Res.bind_bad, seq_nx, seq_rt, seq_err, bnd_ok, bnd_err, loop_nx, loop_rt, for_nil, for_cons, int_i, hb, a1, a2, a3, a5, e1, e2, e3, e4, e4', e8, e9, eq_ii, q0, q1, q2, q0', q1', q2']
  · have q2' : ¬ (1 : Int) < ((Nat.gcd u l : Nat) : Int) := by omega
    have hz := nz (by omega)
    have hz' : ¬ (u : Int) = 0 := by omega
    unfold G__law_read g__law_read
    cases hn : nb t
    · rw [bd_f hn] at e1 e2
      rw [hn] at a3
      simp [fK, fOp, fU, fM, fIsN, fNotN, tB', tNot', tAnd', tOr', vAnd, vOr, vNot, fIf, lNil, lCons, fLst, fTup, fCall, fMk, fB, fSlc, oNo, oSo, fSplit, fLc, iSq, iR1, tYes', zF, zS, fF1, fF3, sSeq, sRet, sIf, sSet, sSetO, sFor, sApp, sPar, sAsg, sRaise, sFld, sFrz, sBad, sTryAs, look, peek, bo, opt, mkL, mkT, small, fnG, mkG, int2, negC, seqD, hName, hCons, hNil, hTup, par2, appD, isOw, frz, setF, ptI, isiD, notScr, env0, env0I, selfF, runB, runI, cAbs, cLen, isNone, strD, payD, tryD, noErr, cLenS, itemS, dSub, dLt, dLe, dGt, dGe, Res.bind_ok, Res.bind_err, Res.bind_bad, seq_nx, seq_rt, seq_err, bnd_ok, bnd_err, loop_nx, loop_rt, for_nil, for_cons, int_i, a1, a2, a3, a5, e1, e2, e3, e4, e4', e8, e9, eq_ii, q0, q1, q2, q0', q1', q2', hz, hz', sg]
    · have hb := bd_t hn
      rw [hn] at a3
      simp [fK, fOp, fU, fM, fIsN, fNotN, tB', tNot', tAnd', tOr', vAnd, vOr, vNot, fIf, lNil, lCons, fLst, fTup, fCall, fMk, fB, fSlc, oNo, oSo, fSplit, fLc, iSq, iR1, tYes', zF, zS, fF1, fF3, sSeq, sRet, sIf, sSet, sSetO, sFor, sApp, sPar, sAsg, sRaise, sFld, sFrz, sBad, sTryAs, look, peek, bo, opt, mkL, mkT, small, fnG, mkG, int2, negC, seqD, hName, hCons, hNil, hTup, par2, appD, isOw, frz, setF, ptI, isiD, notScr, env0, env0I, selfF, runB, runI, cAbs, cLen, isNone, strD, payD, tryD, noErr, cLenS, itemS, dSub, dLt, dLe, dGt, dGe, Res.bind_ok, Res.bind_err, Res.bind_bad, seq_nx, seq_rt, seq_err, bnd_ok, bnd_err, loop_nx, loop_rt, for_nil, for_cons, int_i, hb, a1, a2, a3, a5, e1, e2, e3, e4, e4', e8, e9, eq_ii, q0, q1, q2, q0', q1', q2', hz, hz', sg]
end DL.K3
namespace DL.K3
open PySem L2 PySem.PyData PySem.NumText
theorem zt_chars (i : Int) : ∀ c ∈ cl (Zt i), c = 45 ∨ (48 ≤ c ∧ c ≤ 57) := by
  intro c hc
  rcases Int.lt_or_le i 0 with q | q
  · have e := zt_neg i.natAbs (by omega)
    rw [show -((i.natAbs : Nat) : Int) = i by omega] at e
    rw [e] at hc
    rcases List.mem_cons.mp hc with h | h
    · exact .inl h
    · exact .inr (zt_dig _ c h)
  · rw [show i = ((i.natAbs : Nat) : Int) by omega] at hc
    exact .inr (zt_dig _ c hc)
theorem zt_ok (i : Int) : strOk (Zt i) = true := ok_of fun c hc => by
  have := zt_chars i c hc
  omega
theorem cl_slash : cl (Str.ofString "/") = [47] := by decide +kernel
theorem cl_app (x y : Str) : cl (x ++ y) = cl x ++ cl y := TL.tl_append x y
theorem ntx_cl (a q : Int) (h : q ≠ 1) : cl (ntx a q) = cl (Zt a) ++ 47 :: cl (Zt q) := by
  unfold ntx
  rw [if_neg h, cl_app, cl_app, cl_slash]
  simp
theorem ntx_one (a : Int) : ntx a 1 = Zt a := if_pos rfl
theorem ntx_ok (a q : Int) : strOk (ntx a q) = true := by
  by_cases h : q = 1
  · rw [h, ntx_one]
    exact zt_ok a
  · refine ok_of fun c hc => ?_
    rw [ntx_cl a q h] at hc
    rcases List.mem_append.mp hc with z | z
    · exact by have := zt_chars a c z; omega
    · rcases List.mem_cons.mp z with y | y
      · omega
      · have := zt_chars q c y
        omega
theorem num_some (p q : Int) : isNone (num p q) = false := by
  unfold num
  split <;> rfl
theorem cop_ct {p q : Int} (h : Nat.gcd p.natAbs q.natAbs = 1) : ct p q = p ∧ cb p q = q := by
  unfold ct cb
  rw [h]
  simp
theorem neg_num (p q : Int) (hq : 0 < q) (h2 : q.natAbs < lim) (hg : Nat.gcd p.natAbs q.natAbs = 1) : negN G_Ratio___neg__ (num p q) = .ok (num (-p) q) := by
  unfold num
  by_cases h : q = 1
  · rw [if_pos h, if_pos h]
    rfl
  · rw [if_neg h, if_neg h]
    have hi := init_eq (-p) q hq (Nat.lt_of_lt_of_le h2 (by decide +kernel))
    have hc := cop_ct (p := -p) (q := q) (by rw [Int.natAbs_neg]; exact hg)
    rw [hc.1, hc.2] at hi
    show G_Ratio___neg__ [.obj 0 [.int p, .int q]] = _
    unfold G_Ratio___neg__ g_Ratio___neg__
    simp [fK, fOp, fU, fM, fIsN, fNotN, tB', tNot', tAnd', tOr', vAnd, vOr, vNot, fIf, lNil, lCons, fLst, fTup, fCall, fMk, fB, fSlc, oNo, oSo, fSplit, fLc, iSq, iR1, tYes', zF, zS, fF1, fF3, sSeq, sRet, sIf, sSet, sSetO, sFor, sApp, sPar, sAsg, sRaise, sFld, sFrz, sBad, sTryAs, look, peek, bo, opt, mkL, mkT, small, fnG, mkG, int2, negC, seqD, hName, hCons, hNil, hTup, par2, appD, isOw, frz, setF, ptI, isiD, notScr, env0, env0I, selfF, runB, runI, cAbs, cLen, isNone, strD, payD, tryD, noErr, cLenS, itemS, dSub, dLt, dLe, dGt, dGe, Res.bind_ok, Res.bind_err, Res.bind_bad, seq_nx, seq_rt, seq_err, bnd_ok, bnd_err, loop_nx, loop_rt, for_nil, for_cons, int_i, fld_top, fld_bot, hi]
theorem rn_none {t : Str} (h : wok t) (hr : G_read_count [.str (bd t)] = .ok .non) : G_read_number [.str t] = .err 0 (some (.str t)) := by
  have a1 := sl_first h
  have a2 := sl_rest h
  have a3 := eq_minus h
  unfold G_read_number g_read_number
  cases hn : nb t
  · rw [bd_f hn] at hr
    rw [hn] at a3
    simp [fK, fOp, fU, fM, fIsN, fNotN, tB', tNot', tAnd', tOr', vAnd, vOr, vNot, fIf, lNil, lCons, fLst, fTup, fCall, fMk, fB, fSlc, oNo, oSo, fSplit, fLc, iSq, iR1, tYes', zF, zS, fF1, fF3, sSeq, sRet, sIf, sSet, sSetO, sFor, sApp, sPar, sAsg, sRaise, sFld, sFrz, sBad, sTryAs, look, peek, bo, opt, mkL, mkT, small, fnG, mkG, int2, negC, seqD, hName, hCons, hNil, hTup, par2, appD, isOw, frz, setF, ptI, isiD, notScr, env0, env0I, selfF, runB, runI, cAbs, cLen, isNone, strD, payD, tryD, noErr, cLenS, itemS, dSub, dLt, dLe, dGt, dGe, Res.bind_ok, Res.bind_err, Res.bind_bad, seq_nx, seq_rt, seq_err, bnd_ok, bnd_err, loop_nx, loop_rt, for_nil, for_cons, int_i, a1, a2, a3, hr]
  · have hb := bd_t hn
    rw [hn] at a3
    simp [fK, fOp, fU, fM, fIsN, fNotN, tB', tNot', tAnd', tOr', vAnd, vOr, vNot, fIf, lNil, lCons, fLst, fTup, fCall, fMk, fB, fSlc, oNo, oSo, fSplit, fLc, iSq, iR1, tYes', zF, zS, fF1, fF3, sSeq, sRet, sIf, sSet, sSetO, sFor, sApp, sPar, sAsg, sRaise, sFld, sFrz, sBad, sTryAs, look, peek, bo, opt, mkL, mkT, small, fnG, mkG, int2, negC, seqD, hName, hCons, hNil, hTup, par2, appD, isOw, frz, setF, ptI, isiD, notScr, env0, env0I, selfF, runB, runI, cAbs, cLen, isNone, strD, payD, tryD, noErr, cLenS, itemS, dSub, dLt, dLe, dGt, dGe, Res.bind_ok, Res.bind_err, Res.bind_bad, seq_nx, seq_rt, seq_err, bnd_ok, bnd_err, loop_nx, loop_rt, for_nil, for_cons, int_i, hb, a1, a2, a3, hr]
theorem rn_num {t : Str} (h : wok t) {p q : Int} (hr : G_read_count [.str (bd t)] = .ok (num p q)) (hq : 0 < q) (h1 : p.natAbs < lim) (h2 : q.natAbs < lim) (hg : Nat.gcd p.natAbs q.natAbs = 1) :
    G_read_number [.str t] = if ntx (sg (nb t) p) q = t then .ok (num (sg (nb t) p) q) else .err 0 (some (.str t)) := by
  have a1 := sl_first h
  have a2 := sl_rest h
  have a3 := eq_minus h
  have a4 := neg_num p q hq h2 hg
  have a5 := num_some p q
  simp only [isNone] at a5
  unfold G_read_number g_read_number
  cases hn : nb t
  · rw [bd_f hn] at hr
    rw [hn] at a3
    have b1 := strn_num p q h1 h2
    have b2 := ne_ss (ntx_ok p q) h.1
    by_cases z : ntx p q = t
    · rw [decide_eq_true z] at b2
      rw [z] at b1 b2
      simp [fK, fOp, fU, fM, fIsN, fNotN, tB', tNot', tAnd', tOr', vAnd, vOr, vNot, fIf, lNil, lCons, fLst, fTup, fCall, fMk, fB, fSlc, oNo, oSo, fSplit, fLc, iSq, iR1, tYes', zF, zS, fF1, fF3, sSeq, sRet, sIf, sSet, sSetO, sFor, sApp, sPar, sAsg, sRaise, sFld, sFrz, sBad, sTryAs, look, peek, bo, opt, mkL, mkT, small, fnG, mkG, int2, negC, seqD, hName, hCons, hNil, hTup, par2, appD, isOw, frz, setF, ptI, isiD, notScr, env0, env0I, selfF, runB, runI, cAbs, cLen, isNone, strD, payD, tryD, noErr, cLenS, itemS, dSub, dLt, dLe, dGt, dGe, Res.bind_ok, Res.bind_err, Res.bind_bad, seq_nx, seq_rt, seq_err, bnd_ok, bnd_err, loop_nx, loop_rt, for_nil, for_cons, int_i, a1, a2, a3, a5, hr, b1, b2, sg, z]
    · rw [decide_eq_false z] at b2
      simp [fK, fOp, fU, fM, fIsN, fNotN, tB', tNot', tAnd', tOr', vAnd, vOr, vNot, fIf, lNil, lCons, fLst, fTup, fCall, fMk, fB, fSlc, oNo, oSo, fSplit, fLc, iSq, iR1, tYes', zF, zS, fF1, fF3, sSeq, sRet, sIf, sSet, sSetO, sFor, sApp, sPar, sAsg, sRaise, sFld, sFrz, sBad, sTryAs, look, peek, bo, opt, mkL, mkT, small, fnG, mkG, int2, negC, seqD, hName, hCons, hNil, hTup, par2, appD, isOw, frz, setF, ptI, isiD, notScr, env0, env0I, selfF, runB, runI, cAbs, cLen, isNone, strD, payD, tryD, noErr, cLenS, itemS, dSub, dLt, dLe, dGt, dGe, Res.bind_ok, Res.bind_err, Res.bind_bad, seq_nx, seq_rt, seq_err, bnd_ok, bnd_err, loop_nx, loop_rt, for_nil, for_cons, int_i, a1, a2, a3, a5, hr, b1, b2, sg, z]
  · have hb := bd_t hn
    rw [hn] at a3
    have b1 := strn_num (-p) q (by rw [Int.natAbs_neg]; exact h1) h2
    have b2 := ne_ss (ntx_ok (-p) q) h.1
    by_cases z : ntx (-p) q = t
    · rw [decide_eq_true z] at b2
      rw [z] at b1 b2
      simp [fK, fOp, fU, fM, fIsN, fNotN, tB', tNot', tAnd', tOr', vAnd, vOr, vNot, fIf, lNil, lCons, fLst, fTup, fCall, fMk, fB, fSlc, oNo, oSo, fSplit, fLc, iSq, iR1, tYes', zF, zS, fF1, fF3, sSeq, sRet, sIf, sSet, sSetO, sFor, sApp, sPar, sAsg, sRaise, sFld, sFrz, sBad, sTryAs, look, peek, bo, opt, mkL, mkT, small, fnG, mkG, int2, negC, seqD, hName, hCons, hNil, hTup, par2, appD, isOw, frz, setF, ptI, isiD, notScr, env0, env0I, selfF, runB, runI, cAbs, cLen, isNone, strD, payD, tryD, noErr, cLenS, itemS, dSub, dLt, dLe, dGt, dGe, Res.bind_ok, Res.bind_err, Res.bind_bad, seq_nx, seq_rt, seq_err, bnd_ok, bnd_err, loop_nx, loop_rt, for_nil, for_cons, int_i, hb, a1, a2, a3, a4, a5, hr, b1, b2, sg, z]
    · rw [decide_eq_false z] at b2
      simp [fK, fOp, fU, fM, fIsN, fNotN, tB', tNot', tAnd', tOr', vAnd, vOr, vNot, fIf, lNil, lCons, fLst, fTup, fCall, fMk, fB, fSlc, oNo, oSo, fSplit, fLc, iSq, iR1, tYes', zF, zS, fF1, fF3, sSeq, sRet, sIf, sSet, sSetO, sFor, sApp, sPar, sAsg, sRaise, sFld, sFrz, sBad, sTryAs, look, peek, bo, opt, mkL, mkT, small, fnG, mkG, int2, negC, seqD, hName, hCons, hNil, hTup, par2, appD, isOw, frz, setF, ptI, isiD, notScr, env0, env0I, selfF, runB, runI, cAbs, cLen, isNone, strD, payD, tryD, noErr, cLenS, itemS, dSub, dLt, dLe, dGt, dGe, Res.bind_ok, Res.bind_err, Res.bind_bad, seq_nx, seq_rt, seq_err, bnd_ok, bnd_err, loop_nx, loop_rt, for_nil, for_cons, int_i, hb, a1, a2, a3, a4, a5, hr, b1, b2, sg, z]
theorem told_none {t : Str} (hr : G_read_number [.str t] = .err 0 (some (.str t))) : G__law_told [.str t] = .ok (.tup [.str "none", .str t]) := by
  unfold G__law_told g__law_told
  simp [fK, fOp, fU, fM, fIsN, fNotN, tB', tNot', tAnd', tOr', vAnd, vOr, vNot, fIf, lNil, lCons, fLst, fTup, fCall, fMk, fB, fSlc, oNo, oSo, fSplit, fLc, iSq, iR1, tYes', zF, zS, fF1, fF3, sSeq, sRet, sIf, sSet, sSetO, sFor, sApp, sPar, sAsg, sRaise, sFld, sFrz, sBad, sTryAs, look, peek, bo, opt, mkL, mkT, small, fnG, mkG, int2, negC, seqD, hName, hCons, hNil, hTup, par2, appD, isOw, frz, setF, ptI, isiD, notScr, env0, env0I, selfF, runB, runI, cAbs, cLen, isNone, strD, payD, tryD, noErr, cLenS, itemS, dSub, dLt, dLe, dGt, dGe, Res.bind_ok, Res.bind_err, Res.bind_bad, seq_nx, seq_rt, seq_err, bnd_ok, bnd_err, loop_nx, loop_rt, for_nil, for_cons, int_i, hr]
theorem told_num {t : Str} {d : D} (hr : G_read_number [.str t] = .ok d) : G__law_told [.str t] = .ok (.tup [.str "number", d]) := by
  unfold G__law_told g__law_told
  simp [fK, fOp, fU, fM, fIsN, fNotN, tB', tNot', tAnd', tOr', vAnd, vOr, vNot, fIf, lNil, lCons, fLst, fTup, fCall, fMk, fB, fSlc, oNo, oSo, fSplit, fLc, iSq, iR1, tYes', zF, zS, fF1, fF3, sSeq, sRet, sIf, sSet, sSetO, sFor, sApp, sPar, sAsg, sRaise, sFld, sFrz, sBad, sTryAs, look, peek, bo, opt, mkL, mkT, small, fnG, mkG, int2, negC, seqD, hName, hCons, hNil, hTup, par2, appD, isOw, frz, setF, ptI, isiD, notScr, env0, env0I, selfF, runB, runI, cAbs, cLen, isNone, strD, payD, tryD, noErr, cLenS, itemS, dSub, dLt, dLe, dGt, dGe, Res.bind_ok, Res.bind_err, Res.bind_bad, seq_nx, seq_rt, seq_err, bnd_ok, bnd_err, loop_nx, loop_rt, for_nil, for_cons, int_i, hr]
theorem eq_tup_ss {x y : Str} (hx : strOk x = true) (hy : strOk y = true) : eqD (.tup [.str x, .str y]) (.tup [.str x, .str y]) = some (.bl true) := by
  simp [eqD, eqP, toPD, toPDs, SeqAt.shaped, PyData.canLay0, PyData.canLayAll0, PyData.depth, PyData.depthAll, PyData.eqv, PyData.eqvAll, hx, hy, beq_s]
theorem eq_tup_ii (i j k l : Int) : eqD (.tup [.int i, .int j]) (.tup [.int k, .int l]) = some (.bl (decide (i = k) && decide (j = l))) := by
  simp [eqD, eqP, toPD, toPDs, SeqAt.shaped, PyData.canLay0, PyData.canLayAll0, PyData.depth, PyData.depthAll, PyData.eqv, PyData.eqvAll, beq_i]
theorem is_num (p q : Int) : G__law_is [num p q, .tup [.int p, .int q]] = .ok (.bl true) := by
  unfold G__law_is g__law_is num
  by_cases h : q = 1
  · simp [fK, fOp, fU, fM, fIsN, fNotN, tB', tNot', tAnd', tOr', vAnd, vOr, vNot, fIf, lNil, lCons, fLst, fTup, fCall, fMk, fB, fSlc, oNo, oSo, fSplit, fLc, iSq, iR1, tYes', zF, zS, fF1, fF3, sSeq, sRet, sIf, sSet, sSetO, sFor, sApp, sPar, sAsg, sRaise, sFld, sFrz, sBad, sTryAs, look, peek, bo, opt, mkL, mkT, small, fnG, mkG, int2, negC, seqD, hName, hCons, hNil, hTup, par2, appD, isOw, frz, setF, ptI, isiD, notScr, env0, env0I, selfF, runB, runI, cAbs, cLen, isNone, strD, payD, tryD, noErr, cLenS, itemS, dSub, dLt, dLe, dGt, dGe, Res.bind_ok, Res.bind_err, Res.bind_bad, seq_nx, seq_rt, seq_err, bnd_ok, bnd_err, loop_nx, loop_rt, for_nil, for_cons, int_i, it0, it1, eq_ii, h, ib_int, ib_bool]
  · simp [fK, fOp, fU, fM, fIsN, fNotN, tB', tNot', tAnd', tOr', vAnd, vOr, vNot, fIf, lNil, lCons, fLst, fTup, fCall, fMk, fB, fSlc, oNo, oSo, fSplit, fLc, iSq, iR1, tYes', zF, zS, fF1, fF3, sSeq, sRet, sIf, sSet, sSetO, sFor, sApp, sPar, sAsg, sRaise, sFld, sFrz, sBad, sTryAs, look, peek, bo, opt, mkL, mkT, small, fnG, mkG, int2, negC, seqD, hName, hCons, hNil, hTup, par2, appD, isOw, frz, setF, ptI, isiD, notScr, env0, env0I, selfF, runB, runI, cAbs, cLen, isNone, strD, payD, tryD, noErr, cLenS, itemS, dSub, dLt, dLe, dGt, dGe, Res.bind_ok, Res.bind_err, Res.bind_bad, seq_nx, seq_rt, seq_err, bnd_ok, bnd_err, loop_nx, loop_rt, for_nil, for_cons, int_i, it0, it1, eq_ii, h, ib_Ratio, fld_top, fld_bot, eq_tup_ii]
theorem due_none {t : Str} (h : wok t) (h1 : G__law_read [.str t] = .ok .non) (h2 : G_read_number [.str t] = .err 0 (some (.str t))) : G__law_as_due [.str t] = .ok (.bl true) := by
  have e1 := told_none h2
  have e2 := eq_tup_ss (x := Str.ofString "none") (by decide +kernel) h.1
  unfold G__law_as_due g__law_as_due
  simp [fK, fOp, fU, fM, fIsN, fNotN, tB', tNot', tAnd', tOr', vAnd, vOr, vNot, fIf, lNil, lCons, fLst, fTup, fCall, fMk, fB, fSlc, oNo, oSo, fSplit, fLc, iSq, iR1, tYes', zF, zS, fF1, fF3, sSeq, sRet, sIf, sSet, sSetO, sFor, sApp, sPar, sAsg, sRaise, sFld, sFrz, sBad, sTryAs, look, peek, bo, opt, mkL, mkT, small, fnG, mkG, int2, negC, seqD, hName, hCons, hNil, hTup, par2, appD, isOw, frz, setF, ptI, isiD, notScr, env0, env0I, selfF, runB, runI, cAbs, cLen, isNone, strD, payD, tryD, noErr, cLenS, itemS, dSub, dLt, dLe, dGt, dGe, Res.bind_ok, Res.bind_err, Res.bind_bad, seq_nx, seq_rt, seq_err, bnd_ok, bnd_err, loop_nx, loop_rt, for_nil, for_cons, int_i, h1, e1, e2]
theorem due_num {t : Str} {p q : Int} (h1 : G__law_read [.str t] = .ok (.tup [.int p, .int q])) (h2 : G_read_number [.str t] = .ok (num p q)) : G__law_as_due [.str t] = .ok (.bl true) := by
  have e1 := told_num h2
  have e2 := eq_ss (x := Str.ofString "number") (y := Str.ofString "number") (by decide +kernel) (by decide +kernel)
  have e3 := is_num p q
  unfold G__law_as_due g__law_as_due
  simp [fK, fOp, fU, fM, fIsN, fNotN, tB', tNot', tAnd', tOr', vAnd, vOr, vNot, fIf, lNil, lCons, fLst, fTup, fCall, fMk, fB, fSlc, oNo, oSo, fSplit, fLc, iSq, iR1, tYes', zF, zS, fF1, fF3, sSeq, sRet, sIf, sSet, sSetO, sFor, sApp, sPar, sAsg, sRaise, sFld, sFrz, sBad, sTryAs, look, peek, bo, opt, mkL, mkT, small, fnG, mkG, int2, negC, seqD, hName, hCons, hNil, hTup, par2, appD, isOw, frz, setF, ptI, isiD, notScr, env0, env0I, selfF, runB, runI, cAbs, cLen, isNone, strD, payD, tryD, noErr, cLenS, itemS, dSub, dLt, dLe, dGt, dGe, Res.bind_ok, Res.bind_err, Res.bind_bad, seq_nx, seq_rt, seq_err, bnd_ok, bnd_err, loop_nx, loop_rt, for_nil, for_cons, int_i, h1, e1, e2, e3, it0, it1]
theorem app_inj : ∀ {a b : List Nat} {x y : List Nat}, 47 ∉ a → 47 ∉ b → a ++ 47 :: x = b ++ 47 :: y → a = b ∧ x = y
  | [], [], x, y, _, _, h => by
    simp at h
    exact ⟨rfl, h⟩
  | [], c :: b, x, y, _, hb, h => by
    simp at h
    exact absurd (by simp [h.1]) hb
  | c :: a, [], x, y, ha, _, h => by
    simp at h
    exact absurd (by simp [h.1]) ha
  | c :: a, d :: b, x, y, ha, hb, h => by
    simp at h
    have := app_inj (a := a) (b := b) (fun q => ha (List.mem_cons_of_mem _ q)) (fun q => hb (List.mem_cons_of_mem _ q)) h.2
    exact ⟨by rw [h.1, this.1], this.2⟩
theorem zt_no47 (i : Int) : 47 ∉ cl (Zt i) := fun h => by
  have := zt_chars i 47 h
  omega
theorem due_all {t : Str} (h : wok t) : G__law_as_due [.str t] = .ok (.bl true) := by
  have hk := bd_ok h
  have hbt := bd_is t
  cases hw : wds (bd t) with
  | nil =>
    exfalso
    exact spl_ne _ (List.map_eq_nil_iff.mp hw)
  | cons w r =>
    by_cases hbad : 2 < (wds (bd t)).length ∨ ((wds (bd t)).all fun w => cnt (cl w)) = false
    · exact due_none h (lr_bad h hbad) (rn_none h (rc_bad hk hbad))
    have hlen : ¬ 2 < (wds (bd t)).length := fun q => hbad (.inl q)
    have hall : ((wds (bd t)).all fun w => cnt (cl w)) = true := by
      cases q : ((wds (bd t)).all fun w => cnt (cl w)) with
      | true => rfl
      | false => exact absurd (.inr q) hbad
    rw [hw] at hlen hall
    have hc : cnt (cl w) = true := by
      rw [List.all_cons, Bool.and_eq_true] at hall
      exact hall.1
    have hwk : wok w := wds_ok hk w (by rw [hw]; simp)
    have eu := cnt_text hc
    have hu := vmul w hwk.2 hc
    have hsp : TL.spl [47] 0 [] (cl (bd t)) = (w :: r).map cl := by
      rw [← hw]
      unfold wds
      rw [List.map_map]
      exact (List.map_id _).symm
    cases r with
    | nil =>
      have e1 := lr_one h hw hc
      have e2 := rc_one hk hw hc
      obtain ⟨e3, _⟩ := spl_one hsp
      have e4 : bd t = w := TL.ext_tl e3
      rw [e4] at hbt
      generalize digitsVal (cl w) = u at *
      have hn : num ((u : Nat) : Int) 1 = .int u := if_pos rfl
      rw [← hn] at e2
      have e5 := rn_num h e2 (by decide) (by simpa using hu) (by decide +kernel) (by simp)
      rw [ntx_one] at e5
      by_cases z : nb t = true ∧ u = 0
      · rw [if_pos z] at e1
        rw [if_neg ?_] at e5
        · exact due_none h e1 e5
        · intro q
          rw [z.1, z.2] at q
          rw [if_pos z.1] at hbt
          have q2 : cl (Zt (sg true ((0 : Nat) : Int))) = 45 :: cl w := by rw [q]; exact hbt
          have q3 : cl (Zt (sg true ((0 : Nat) : Int))) = [48] := by decide +kernel
          rw [q3] at q2
          cases q2
      · rw [if_neg z] at e1
        rw [if_pos ?_] at e5
        · exact due_num e1 e5
        · refine TL.ext_tl ?_
          show cl (Zt _) = cl t
          rw [hbt, eu]
          cases hn2 : nb t with
          | false => rfl
          | true =>
            have hpos : 0 < u := by
              rcases Nat.eq_zero_or_pos u with q | q
              · exact absurd ⟨hn2, q⟩ z
              · exact q
            exact zt_neg u hpos
    | cons v r2 =>
      cases r2 with
      | cons x r3 =>
        exfalso
        simp at hlen
      | nil =>
        have hd : cnt (cl v) = true := by
          simp only [List.all_cons, Bool.and_eq_true] at hall
          exact hall.2.1
        have hvk : wok v := wds_ok hk v (by rw [hw]; simp)
        have el := cnt_text hd
        have hl := vmul v hvk.2 hd
        have e1 := lr_two h hw hc hd
        have e2 := rc_two hk hw hc hd
        obtain ⟨e3, n1, n2⟩ := spl_two hsp
        rw [e3] at hbt
        generalize digitsVal (cl w) = u at *
        generalize digitsVal (cl v) = l at *
        by_cases z0 : l = 0
        · rw [if_pos z0] at e2
          rw [if_pos (.inl z0)] at e1
          exact due_none h e1 (rn_none h e2)
        · rw [if_neg z0] at e2
          have hgp : 0 < Nat.gcd u l := Nat.gcd_pos_of_pos_right _ (by omega)
          have p1 : ct (u : Int) (l : Int) = ((u / Nat.gcd u l : Nat) : Int) := by
            simp [ct]
          have p2 : cb (u : Int) (l : Int) = ((l / Nat.gcd u l : Nat) : Int) := by
            simp [cb]
          have hql : l / Nat.gcd u l ≤ l := Nat.div_le_self _ _
          have hpu : u / Nat.gcd u l ≤ u := Nat.div_le_self _ _
          have hqp : 0 < l / Nat.gcd u l := Nat.div_pos (Nat.gcd_le_right _ (by omega)) hgp
          have hcop : Nat.gcd (u / Nat.gcd u l) (l / Nat.gcd u l) = 1 := Nat.gcd_div_gcd_div_gcd_of_pos_right (by omega)
          rw [p1, p2] at e2
          have e5 := rn_num h e2 (by omega) (by rw [Int.natAbs_natCast]; omega) (by rw [Int.natAbs_natCast]; omega) (by rw [Int.natAbs_natCast, Int.natAbs_natCast]; exact hcop)
          by_cases z1 : l = 1 ∨ 1 < Nat.gcd u l
          · rw [if_pos (.inr z1)] at e1
            rw [if_neg ?_] at e5
            · exact due_none h e1 e5
            · intro q
              have q1 : cl (ntx (sg (nb t) ((u / Nat.gcd u l : Nat) : Int)) ((l / Nat.gcd u l : Nat) : Int)) = cl t := by rw [q]
              rw [hbt] at q1
              by_cases z2 : ((l / Nat.gcd u l : Nat) : Int) = 1
              · rw [z2, ntx_one] at q1
                refine zt_no47 _ (by rw [q1]; split <;> simp)
              · rw [ntx_cl _ _ z2] at q1
                have q2 : cl (Zt ((l / Nat.gcd u l : Nat) : Int)) = cl v := by
                  cases hn2 : nb t with
                  | false =>
                    rw [hn2] at q1
                    exact (app_inj (zt_no47 _) n1 q1).2
                  | true =>
                    rw [hn2] at q1
                    exact (app_inj (b := 45 :: cl w) (zt_no47 _) (by simp [n1]) q1).2
                have q3 : l / Nat.gcd u l = l := zt_inj ((TL.ext_tl q2).trans el)
                have q4 : Nat.gcd u l = 1 := by
                  rcases Nat.lt_or_ge 1 (Nat.gcd u l) with y | y
                  · have := Nat.div_lt_self (by omega : 0 < l) y
                    omega
                  · omega
                rw [q3] at z2
                omega
          · have z1a : l ≠ 1 := fun q => z1 (.inl q)
            have z1b : Nat.gcd u l = 1 := by
              have : ¬ 1 < Nat.gcd u l := fun q => z1 (.inr q)
              omega
            have z3 : ¬ (l = 0 ∨ l = 1 ∨ 1 < Nat.gcd u l) := by omega
            rw [if_neg z3] at e1
            rw [z1b, Nat.div_one, Nat.div_one] at e5
            rw [if_pos ?_] at e5
            · exact due_num e1 e5
            · refine TL.ext_tl ?_
              show cl (ntx _ _) = cl t
              rw [ntx_cl _ _ (by omega), hbt, eu, el]
              cases hn2 : nb t with
              | false => rfl
              | true =>
                have hpos : 0 < u := by
                  rcases Nat.eq_zero_or_pos u with q | q
                  · subst q
                    rw [Nat.gcd_zero_left] at z1b
                    omega
                  · exact q
                show cl (Zt (-(u : Int))) ++ _ = _
                rw [zt_neg u hpos]
                rfl
end DL.K3
namespace DL.K3
open PySem L2 PySem.PyData PySem.NumText
theorem cell_ok (ns : List Int) (k : Nat) : ∃ i : Int, G__law_cell [.scr ns, .int k] = .ok (.int i) := by
  unfold G__law_cell g__law_cell
  by_cases h : (k : Int) < (ns.length : Int)
  · have e : atI ns (k : Int) = some (ns[k]'(by omega)) := atI_nat (by simp)
    exact ⟨ns[k]'(by omega), by simp [fK, fOp, fU, fM, fIsN, fNotN, tB', tNot', tAnd', tOr', vAnd, vOr, vNot, fIf, lNil, lCons, fLst, fTup, fCall, fMk, fB, fSlc, oNo, oSo, fSplit, fLc, iSq, iR1, tYes', zF, zS, fF1, fF3, sSeq, sRet, sIf, sSet, sSetO, sFor, sApp, sPar, sAsg, sRaise, sFld, sFrz, sBad, sTryAs, look, peek, bo, opt, mkL, mkT, small, fnG, mkG, int2, negC, seqD, hName, hCons, hNil, hTup, par2, appD, isOw, frz, setF, ptI, isiD, notScr, env0, env0I, selfF, runB, runI, cAbs, cLen, isNone, strD, payD, tryD, noErr, cLenS, itemS, dSub, dLt, dLe, dGt, dGe, Res.bind_ok, Res.bind_err, Res.bind_bad, seq_nx, seq_rt, seq_err, bnd_ok, bnd_err, loop_nx, loop_rt, for_nil, for_cons, int_i, h, e]⟩
  · exact ⟨0, by simp [fK, fOp, fU, fM, fIsN, fNotN, tB', tNot', tAnd', tOr', vAnd, vOr, vNot, fIf, lNil, lCons, fLst, fTup, fCall, fMk, fB, fSlc, oNo, oSo, fSplit, fLc, iSq, iR1, tYes', zF, zS, fF1, fF3, sSeq, sRet, sIf, sSet, sSetO, sFor, sApp, sPar, sAsg, sRaise, sFld, sFrz, sBad, sTryAs, look, peek, bo, opt, mkL, mkT, small, fnG, mkG, int2, negC, seqD, hName, hCons, hNil, hTup, par2, appD, isOw, frz, setF, ptI, isiD, notScr, env0, env0I, selfF, runB, runI, cAbs, cLen, isNone, strD, payD, tryD, noErr, cLenS, itemS, dSub, dLt, dLe, dGt, dGe, Res.bind_ok, Res.bind_err, Res.bind_bad, seq_nx, seq_rt, seq_err, bnd_ok, bnd_err, loop_nx, loop_rt, for_nil, for_cons, int_i, h]⟩
theorem fm {i j : Int} (h : 0 < j) : 0 ≤ i.fmod j ∧ i.fmod j < j := by
  rw [Int.fmod_eq_emod_of_nonneg _ (by omega)]
  exact ⟨Int.emod_nonneg _ (by omega), Int.emod_lt_of_pos _ h⟩
/-- numbers below their sizes -/
structure Row (d : D) : Prop where
  ex : ∃ a b c d' e f : Int, d = .lst [.int a, .int b, .int c, .int d', .int e, .int f] ∧ (0 ≤ a ∧ a < 2) ∧ (0 ≤ b ∧ b < 3) ∧ (0 ≤ c ∧ c < 5) ∧ (0 ≤ d' ∧ d' < 70) ∧ (0 ≤ e ∧ e < 95) ∧ (0 ≤ f ∧ f < 40)
abbrev szs : List D := [.int 2, .int 3, .int 5, .int 70, .int 95, .int 40]
theorem p18 : powC 10 18 = some (.int 1000000000000000000) := by
  unfold powC
  rw [if_pos (by decide +kernel)]
  rfl
theorem p28 : powC 10 28 = some (.int 10000000000000000000000000000) := by
  unfold powC
  rw [if_pos (by decide +kernel)]
  rfl
theorem for_st (i : Nat) (g : Env → RS) (d : D) (r : List D) (ρ : Env) : forD (hName i) g (d :: r) ρ = loopK (g (ρ.set i (some (.sh d)))) (forD (hName i) g r) := rfl
def rbody : Env → RS := (sSeq (sSet 6 (fOp addA (fOp (int2 modC) (fB cInt2 (lCons (fOp (int2 powC) (fOp addA (fOp addA (peek 4) (fOp (int2 mulC) (fK (.int 7919)) (peek 5))) (fK (.int 104729))) (fK (.int 5))) lNil)) (fK (.int 2147483647))) (peek 5))) (sApp 2 (fOp (int2 modC) (fB cInt2 (lCons (fOp (int2 modC) (fB cInt2 (lCons (fOp (int2 mulC) (peek 6) (fK (.int 40692))) lNil)) (fK (.int 2147483629))) lNil)) (fOp itemD (peek 1) (peek 5)))))
theorem row_step (S k size : Int) (xs : List D) (x0 x3 x6 : Option B) (hS : 0 ≤ S ∧ S < 2147483647) (hk : 0 ≤ k ∧ k ≤ 5) (hsz : itemD (.lst szs) (.int k) = some (.int size)) (hpos : 0 < size) (hl : xs.length < 1000) :
    ∃ (r : Int) (x6' : Option B), (0 ≤ r ∧ r < size) ∧ rbody [x0, some (.sh (.lst szs)), some (.ow (.lst xs)), x3, some (.sh (.int S)), some (.sh (.int k)), x6] = .nx [x0, some (.sh (.lst szs)), some (.ow (.lst (xs ++ [.int r]))), x3, some (.sh (.int S)), some (.sh (.int k)), x6'] := by
  have h1 : mulC 7919 k = some (.int (7919 * k)) := mul_ok (by
    have a : Nat.log2 (7919 : Int).natAbs < 20 := by decide +kernel
    have b : k.natAbs.log2 < 5 := log2_lt (by omega) (by decide)
    omega)
  have h2 : powC (S + 7919 * k + 104729) 5 = some (.int ((S + 7919 * k + 104729) ^ 5)) := by
    unfold powC
    rw [if_pos ⟨by decide, by decide, by omega⟩]
    rfl
  have h3 := mod_ok (i := (S + 7919 * k + 104729) ^ 5) (j := 2147483647) (by decide)
  have b3 := fm (i := (S + 7919 * k + 104729) ^ 5) (j := 2147483647) (by decide)
  generalize ((S + 7919 * k + 104729) ^ 5).fmod 2147483647 = m at *
  have h4 : mulC (m + k) 40692 = some (.int ((m + k) * 40692)) := mul_ok (by
    have a : Nat.log2 (40692 : Int).natAbs < 20 := by decide +kernel
    have b : (m + k).natAbs.log2 < 40 := log2_lt (by omega) (by decide)
    omega)
  have h5 := mod_ok (i := (m + k) * 40692) (j := 2147483629) (by decide)
  generalize ((m + k) * 40692).fmod 2147483629 = y at *
  have h6 := mod_ok (i := y) (j := size) (by omega)
  have b6 := fm (i := y) (j := size) hpos
  refine ⟨y.fmod size, some (.sh (.int (m + k))), b6, ?_⟩
  have hl' : xs.length + 1 ≤ 1000000 := by omega
  unfold rbody
  simp [fK, fOp, fU, fM, fIsN, fNotN, tB', tNot', tAnd', tOr', vAnd, vOr, vNot, fIf, lNil, lCons, fLst, fTup, fCall, fMk, fB, fSlc, oNo, oSo, fSplit, fLc, iSq, iR1, tYes', zF, zS, fF1, fF3, sSeq, sRet, sIf, sSet, sSetO, sFor, sApp, sPar, sAsg, sRaise, sFld, sFrz, sBad, sTryAs, look, peek, bo, opt, mkL, mkT, small, fnG, mkG, int2, negC, seqD, hName, hCons, hNil, hTup, par2, appD, isOw, frz, setF, ptI, isiD, notScr, env0, env0I, selfF, runB, runI, cAbs, cLen, isNone, strD, payD, tryD, noErr, cLenS, itemS, dSub, dLt, dLe, dGt, dGe, Res.bind_ok, Res.bind_err, Res.bind_bad, seq_nx, seq_rt, seq_err, bnd_ok, bnd_err, loop_nx, loop_rt, for_nil, for_cons, int_i, addA, h1, h2, h3, h4, h5, h6, hsz, hl']
theorem row_ok (c : Int) : ∃ d, G__law_row [.int c, .lst szs] = .ok d ∧ Row d := by
  have m2 := fun i : Int => mod_ok (i := i) (j := 2) (by decide)
  have m3 := fun i : Int => mod_ok (i := i) (j := 3) (by decide)
  have m5 := fun i : Int => mod_ok (i := i) (j := 5) (by decide)
  have m70 := fun i : Int => mod_ok (i := i) (j := 70) (by decide)
  have m95 := fun i : Int => mod_ok (i := i) (j := 95) (by decide)
  have m40 := fun i : Int => mod_ok (i := i) (j := 40) (by decide)
  have f2 := fun i : Int => fdiv_ok (i := i) (j := 2) (by decide) (by decide +kernel)
  have f3 := fun i : Int => fdiv_ok (i := i) (j := 3) (by decide) (by decide +kernel)
  have f5 := fun i : Int => fdiv_ok (i := i) (j := 5) (by decide) (by decide +kernel)
  have f70 := fun i : Int => fdiv_ok (i := i) (j := 70) (by decide) (by decide +kernel)
  have f95 := fun i : Int => fdiv_ok (i := i) (j := 95) (by decide) (by decide +kernel)
  have f40 := fun i : Int => fdiv_ok (i := i) (j := 40) (by decide) (by decide +kernel)
  unfold G__law_row g__law_row
  by_cases h : (1000000000000000000 : Int) ≤ c
  · refine ⟨_, by simp [fK, fOp, fU, fM, fIsN, fNotN, tB', tNot', tAnd', tOr', vAnd, vOr, vNot, fIf, lNil, lCons, fLst, fTup, fCall, fMk, fB, fSlc, oNo, oSo, fSplit, fLc, iSq, iR1, tYes', zF, zS, fF1, fF3, sSeq, sRet, sIf, sSet, sSetO, sFor, sApp, sPar, sAsg, sRaise, sFld, sFrz, sBad, sTryAs, look, peek, bo, opt, mkL, mkT, small, fnG, mkG, int2, negC, seqD, hName, hCons, hNil, hTup, par2, appD, isOw, frz, setF, ptI, isiD, notScr, env0, env0I, selfF, runB, runI, cAbs, cLen, isNone, strD, payD, tryD, noErr, cLenS, itemS, dSub, dLt, dLe, dGt, dGe, Res.bind_ok, Res.bind_err, Res.bind_bad, seq_nx, seq_rt, seq_err, bnd_ok, bnd_err, loop_nx, loop_rt, for_nil, for_cons, int_i, p18, h, fr__law_row_0, m2, m3, m5, m70, m95, m40, f2, f3, f5, f70, f95, f40]; rfl, ?_⟩
    exact ⟨_, _, _, _, _, _, rfl, fm (by decide), fm (by decide), fm (by decide), fm (by decide), fm (by decide), fm (by decide)⟩
  · have hS := fm (i := c) (j := 2147483647) (by decide)
    have m1 := mod_ok (i := c) (j := 2147483647) (by decide)
    generalize c.fmod 2147483647 = S at *
    obtain ⟨r0, z0, b0, e0⟩ := row_step S 0 2 [] (some (.sh (.int c))) none none hS (by decide) rfl (by decide) (by simp)
    obtain ⟨r1, z1, b1, e1⟩ := row_step S 1 3 [.int r0] (some (.sh (.int c))) none z0 hS (by decide) rfl (by decide) (by simp)
    obtain ⟨r2, z2, b2, e2⟩ := row_step S 2 5 [.int r0, .int r1] (some (.sh (.int c))) none z1 hS (by decide) rfl (by decide) (by simp)
    obtain ⟨r3, z3, b3, e3⟩ := row_step S 3 70 [.int r0, .int r1, .int r2] (some (.sh (.int c))) none z2 hS (by decide) rfl (by decide) (by simp)
    obtain ⟨r4, z4, b4, e4⟩ := row_step S 4 95 [.int r0, .int r1, .int r2, .int r3] (some (.sh (.int c))) none z3 hS (by decide) rfl (by decide) (by simp)
    obtain ⟨r5, z5, b5, e5⟩ := row_step S 5 40 [.int r0, .int r1, .int r2, .int r3, .int r4] (some (.sh (.int c))) none z4 hS (by decide) rfl (by decide) (by simp)
    have el : fr__law_row_1 [some (.sh (.int c)), some (.sh (.lst szs)), some (.ow (.lst [])), none, some (.sh (.int S)), none, none] = forD (hName 5) rbody [.int 0, .int 1, .int 2, .int 3, .int 4, .int 5] [some (.sh (.int c)), some (.sh (.lst szs)), some (.ow (.lst [])), none, some (.sh (.int S)), none, none] := rfl
    have er : fr__law_row_1 [some (.sh (.int c)), some (.sh (.lst szs)), some (.ow (.lst [])), none, some (.sh (.int S)), none, none] = .nx [some (.sh (.int c)), some (.sh (.lst szs)), some (.ow (.lst [.int r0, .int r1, .int r2, .int r3, .int r4, .int r5])), none, some (.sh (.int S)), some (.sh (.int 5)), z5] := by
      simp only [List.nil_append, List.cons_append] at e0 e1 e2 e3 e4 e5
      rw [el]
      simp only [for_st, List.set, e0, e1, e2, e3, e4, e5, loop_nx, for_nil]
    refine ⟨.lst [.int r0, .int r1, .int r2, .int r3, .int r4, .int r5], by simp [fK, fOp, fU, fM, fIsN, fNotN, tB', tNot', tAnd', tOr', vAnd, vOr, vNot, fIf, lNil, lCons, fLst, fTup, fCall, fMk, fB, fSlc, oNo, oSo, fSplit, fLc, iSq, iR1, tYes', zF, zS, fF1, fF3, sSeq, sRet, sIf, sSet, sSetO, sFor, sApp, sPar, sAsg, sRaise, sFld, sFrz, sBad, sTryAs, look, peek, bo, opt, mkL, mkT, small, fnG, mkG, int2, negC, seqD, hName, hCons, hNil, hTup, par2, appD, isOw, frz, setF, ptI, isiD, notScr, env0, env0I, selfF, runB, runI, cAbs, cLen, isNone, strD, payD, tryD, noErr, cLenS, itemS, dSub, dLt, dLe, dGt, dGe, Res.bind_ok, Res.bind_err, Res.bind_bad, seq_nx, seq_rt, seq_err, bnd_ok, bnd_err, loop_nx, loop_rt, for_nil, for_cons, int_i, p18, h, m1, er], ?_⟩
    exact ⟨_, _, _, _, _, _, rfl, b0, b1, b2, b3, b4, b5⟩
end DL.K3
namespace DL.K3
open PySem L2 PySem.PyData PySem.NumText
def q0 : Env → RS := (sSet 1 (fCall 2 G__law_row (lCons (fCall 2 G__law_cell (lCons (look 0) (lCons (fK (.int 2)) lNil))) (lCons (fLst (lCons (fK (.int 2)) (lCons (fK (.int 3)) (lCons (fK (.int 5)) (lCons (fK (.int 70)) (lCons (fK (.int 95)) (lCons (fK (.int 40)) lNil))))))) lNil))))
def q1 : Env → RS := (sPar 2 3 (lCons (fCall 2 G__law_cell (lCons (look 0) (lCons (fK (.int 0)) lNil))) (lCons (fOp addA (fB cAbs (lCons (fCall 2 G__law_cell (lCons (look 0) (lCons (fK (.int 1)) lNil))) lNil)) (fK (.int 1))) lNil)))
def q2 : Env → RS := (sIf (tB' (fOp eqD (fOp itemD (peek 1) (fK (.int 0))) (fK (.int 0)))) (sPar 2 3 (lCons (fOp dSub (fOp (int2 modC) (fB cInt2 (lCons (peek 2) lNil)) (fK (.int 40))) (fK (.int 20))) (lCons (fOp addA (fOp (int2 modC) (fB cInt2 (lCons (peek 3) lNil)) (fK (.int 12))) (fK (.int 1))) lNil))) .nx)
def q3 : Env → RS := (sIf (tB' (fOp eqD (fOp itemD (peek 1) (fK (.int 1))) (fK (.int 0)))) (sSet 3 (fK (.int 1))) .nx)
def q4 : Env → RS := (sSet 4 (fCall 2 G__law_low (lCons (fOp (int2 mulC) (fOp (int2 modC) (fB cInt2 (lCons (peek 2) lNil)) (fOp (int2 powC) (fK (.int 10)) (fK (.int 28)))) (fOp itemD (fLst (lCons (fK (.int 1)) (lCons (fU negC (fK (.int 1))) lNil))) (fOp itemD (peek 1) (fK (.int 0))))) (lCons (fOp addA (fOp (int2 modC) (fOp dSub (fB cInt2 (lCons (peek 3) lNil)) (fK (.int 1))) (fOp (int2 powC) (fK (.int 10)) (fK (.int 28)))) (fK (.int 1))) lNil))))
def q5 : Env → RS := (sSet 5 (fCall 1 G__law_number_text (lCons (look 4) lNil)))
def q6 : Env → RS := (sIf (tOr' (tB' (fOp neD (fM (strN G_Ratio___str__) (fMk 0 2 G_Ratio___init__ (lCons (fOp itemD (peek 4) (fK (.int 0))) (lCons (fOp itemD (peek 4) (fK (.int 1))) lNil)))) (peek 5))) (tOr' (tB' (fOp neD (fM (strN G_Ratio___str__) (fCall 1 G_plain (lCons (fMk 0 2 G_Ratio___init__ (lCons (fOp itemD (peek 4) (fK (.int 0))) (lCons (fOp itemD (peek 4) (fK (.int 1))) lNil))) lNil))) (peek 5))) (tNot' (tB' (fCall 1 G__law_as_due (lCons (look 5) lNil)))))) (sRet (fK (.bl false))) .nx)
def q7 : Env → RS := (sSet 6 (fLst (lCons (fK (.str "")) (lCons (fK (.str "-")) (lCons (fK (.str "-0")) (lCons (fK (.str "0")) (lCons (fK (.str "00")) (lCons (fK (.str "01")) (lCons (fK (.str "1/1")) (lCons (fK (.str "2/4")) (lCons (fK (.str "0/5")) (lCons (fK (.str "1/0")) (lCons (fK (.str "-1/0")) (lCons (fK (.str "3/")) (lCons (fK (.str "/3")) (lCons (fK (.str "1/02")) (lCons (fK (.str "+1")) lNil)))))))))))))))))
def q8 : Env → RS := (sSet 6 (fOp addA (peek 6) (fLst (lCons (fK (.str " 1")) (lCons (fK (.str "1 ")) (lCons (fK (.str "--1")) (lCons (fK (.str "1/-2")) (lCons (fK (.str "-1/2")) (lCons (fK (.str "1//2")) (lCons (fK (.str "1/2/3")) (lCons (fK (.str "1.5")) (lCons (fK (.str "1e3")) (lCons (fK (.str "0x1")) (lCons (fK (.str "1_0")) (lCons (fK (.str "1\n")) lNil)))))))))))))))
def q9 : Env → RS := (sSet 6 (fOp addA (peek 6) (fLst (lCons (fK (.str "-7/3")) (lCons (fK (.str "a")) (lCons (fK (.str "-00")) (lCons (fK (.str "7/7")) (lCons (fK (.str "10")) lNil))))))))
def qT3 : Env → RS := (sSeq fr_law_0 (sRet (fK (.bl true))))
def qT2 : Env → RS := (sSeq q7 (sSeq q8 (sSeq q9 qT3)))
def qT : Env → RS := (sSeq q4 (sSeq q5 (sSeq q6 qT2)))
theorem law_parts : g_law = (sSeq q0 (sSeq q1 (sSeq q2 (sSeq q3 qT)))) := rfl
theorem add_s {x y : Str} (h : x.length + y.length ≤ 1000000) : addA (.str x) (.str y) = some (.str (x ++ y)) := by
  show (if small2 x.length y.length = true then some (D.str (x ++ y)) else none) = _
  rw [if_pos (by simp [small2]; exact h)]
theorem slc_s {t : Str} (h : t.length ≤ 1000000) (lo hi : Option Int) : slcD (.str t) lo hi = some (.str (cutS t lo hi)) := if_pos h
theorem cut_ok {t : Str} (h : strOk t = true) (lo hi : Option Int) : strOk (cutS t lo hi) = true := ok_of fun c hc => by
  have hc' : c ∈ ((t.cps.toList.drop (HT.sIx t.length 0 lo)).take (HT.sIx t.length t.length hi - HT.sIx t.length 0 lo)) := hc
  exact ok_ch h c (List.mem_of_mem_drop (List.mem_of_mem_take hc'))
theorem app_ok {x y : Str} (hx : strOk x = true) (hy : strOk y = true) : strOk (x ++ y) = true := ok_of fun c hc => by
  rw [cl_app] at hc
  rcases List.mem_append.mp hc with z | z
  · exact ok_ch hx c z
  · exact ok_ch hy c z
abbrev sgA : Str := Str.ofString " !\"#$&'()*+,-./0123456789:;<=>?@ABCDEFGHIJKLMNOPQRSTUVWXYZ[\\]^_`"
abbrev sgB : Str := Str.ofString "abcdefghijklmnopqrstuvwxyz{|}~\n"
theorem sg_len : (sgA ++ sgB).length = 95 := by decide +kernel
theorem sg_ok : strOk (sgA ++ sgB) = true := by decide +kernel
theorem sign_ok (k : Int) : ∃ s : Str, G__law_sign [.int k] = .ok (.str s) ∧ strOk s = true ∧ s.length = 1 := by
  have h1 : addA (.str sgA) (.str sgB) = some (.str (sgA ++ sgB)) := add_s (by decide +kernel)
  have h2 := mod_ok (i := k) (j := 95) (by decide)
  have b := fm (i := k) (j := 95) (by decide)
  have hl : (cl (sgA ++ sgB)).length = 95 := (Array.length_toList).trans sg_len
  have h3 : itemD (.str (sgA ++ sgB)) (.int (k.fmod 95)) = some (.str (ch ((cl (sgA ++ sgB))[(k.fmod 95).toNat]'(by omega)))) := by
    show (if (sgA ++ sgB).length ≤ 1000000 then (atI (cl (sgA ++ sgB)) (k.fmod 95)).map fun c => D.str ⟨#[c]⟩ else none) = _
    rw [if_pos (by rw [sg_len]; decide)]
    have e : k.fmod 95 = (((k.fmod 95).toNat : Nat) : Int) := by omega
    have e2 : atI (cl (sgA ++ sgB)) (k.fmod 95) = some ((cl (sgA ++ sgB))[(k.fmod 95).toNat]'(by omega)) := by
      exact (congrArg (atI (cl (sgA ++ sgB))) e).trans (atI_nat (List.getElem?_eq_getElem (by omega)))
    rw [e2]
    rfl
  refine ⟨ch ((cl (sgA ++ sgB))[(k.fmod 95).toNat]'(by omega)), ?_, ok_ofc (ok_ch sg_ok _ (List.getElem_mem _)), rfl⟩
  unfold G__law_sign g__law_sign
  simp [fK, fOp, fU, fM, fIsN, fNotN, tB', tNot', tAnd', tOr', vAnd, vOr, vNot, fIf, lNil, lCons, fLst, fTup, fCall, fMk, fB, fSlc, oNo, oSo, fSplit, fLc, iSq, iR1, tYes', zF, zS, fF1, fF3, sSeq, sRet, sIf, sSet, sSetO, sFor, sApp, sPar, sAsg, sRaise, sFld, sFrz, sBad, sTryAs, look, peek, bo, opt, mkL, mkT, small, fnG, mkG, int2, negC, seqD, hName, hCons, hNil, hTup, par2, appD, isOw, frz, setF, ptI, isiD, notScr, env0, env0I, selfF, runB, runI, cAbs, cLen, isNone, strD, payD, tryD, noErr, cLenS, itemS, dSub, dLt, dLe, dGt, dGe, Res.bind_ok, Res.bind_err, Res.bind_bad, seq_nx, seq_rt, seq_err, bnd_ok, bnd_err, loop_nx, loop_rt, for_nil, for_cons, int_i, h1, h2, h3]
theorem spoilt_ok (t : Str) (ht : strOk t = true) (hl : t.length ≤ 90) (kind place k : Int) : ∃ s : Str, G__law_spoilt [.str t, .int kind, .int place, .int k] = .ok (.str s) ∧ wok s := by
  obtain ⟨z, hz, z1, z2⟩ := sign_ok k
  have h0 : addA (.int (t.length : Nat)) (.int 1) = some (.int ((t.length : Int) + 1)) := rfl
  have h1 := mod_ok (i := place) (j := (t.length : Int) + 1) (by omega)
  generalize place.fmod ((t.length : Int) + 1) = p at *
  have s0 := slc_s (t := t) (by omega) none (some p)
  have s1 := slc_s (t := t) (by omega) (some p) none
  have s2 := slc_s (t := t) (by omega) (some (p + 1)) none
  have s3 := slc_s (t := t) (by omega) (some p) (some (p + 1))
  have a0 : addA (.int p) (.int 1) = some (.int (p + 1)) := rfl
  have l0 := cutS_length t none (some p)
  have l1 := cutS_length t (some p) none
  have l2 := cutS_length t (some (p + 1)) none
  have l3 := cutS_length t (some p) (some (p + 1))
  have k0 := cut_ok ht none (some p)
  have k1 := cut_ok ht (some p) none
  have k2 := cut_ok ht (some (p + 1)) none
  have k3 := cut_ok ht (some p) (some (p + 1))
  have hlt : t.length ≤ 1000000 := by omega
  generalize cutS t none (some p) = w0 at *
  generalize cutS t (some p) none = w1 at *
  generalize cutS t (some (p + 1)) none = w2 at *
  generalize cutS t (some p) (some (p + 1)) = w3 at *
  have q0 : addA (.str w0) (.str z) = some (.str (w0 ++ z)) := add_s (by omega)
  have q1 : addA (.str (w0 ++ z)) (.str w1) = some (.str (w0 ++ z ++ w1)) := add_s (by rw [app_len]; omega)
  have q2 : addA (.str w0) (.str w2) = some (.str (w0 ++ w2)) := add_s (by omega)
  have q3 : addA (.str (w0 ++ z)) (.str w2) = some (.str (w0 ++ z ++ w2)) := add_s (by rw [app_len]; omega)
  have q4 : addA (.str w0) (.str w3) = some (.str (w0 ++ w3)) := add_s (by omega)
  have q5 : addA (.str (w0 ++ w3)) (.str w1) = some (.str (w0 ++ w3 ++ w1)) := add_s (by rw [app_len]; omega)
  have g0 : wok t := ⟨ht, by omega⟩
  have g1 : wok (w0 ++ z ++ w1) := ⟨app_ok (app_ok k0 z1) k1, by rw [app_len, app_len]; omega⟩
  have g2 : wok (w0 ++ w2) := ⟨app_ok k0 k2, by rw [app_len]; omega⟩
  have g3 : wok (w0 ++ z ++ w2) := ⟨app_ok (app_ok k0 z1) k2, by rw [app_len, app_len]; omega⟩
  have g4 : wok (w0 ++ w3 ++ w1) := ⟨app_ok (app_ok k0 k3) k1, by rw [app_len, app_len]; omega⟩
  unfold G__law_spoilt g__law_spoilt
  by_cases c0 : kind = 0
  · exact ⟨t, by simp [fK, fOp, fU, fM, fIsN, fNotN, tB', tNot', tAnd', tOr', vAnd, vOr, vNot, fIf, lNil, lCons, fLst, fTup, fCall, fMk, fB, fSlc, oNo, oSo, fSplit, fLc, iSq, iR1, tYes', zF, zS, fF1, fF3, sSeq, sRet, sIf, sSet, sSetO, sFor, sApp, sPar, sAsg, sRaise, sFld, sFrz, sBad, sTryAs, look, peek, bo, opt, mkL, mkT, small, fnG, mkG, int2, negC, seqD, hName, hCons, hNil, hTup, par2, appD, isOw, frz, setF, ptI, isiD, notScr, env0, env0I, selfF, runB, runI, cAbs, cLen, isNone, strD, payD, tryD, noErr, cLenS, itemS, dSub, dLt, dLe, dGt, dGe, Res.bind_ok, Res.bind_err, Res.bind_bad, seq_nx, seq_rt, seq_err, bnd_ok, bnd_err, loop_nx, loop_rt, for_nil, for_cons, int_i, hlt, h0, h1, eq_ii, c0], g0⟩
  by_cases c1 : kind = 1
  · exact ⟨w0 ++ z ++ w1, by simp [fK, fOp, fU, fM, fIsN, fNotN, tB', tNot', tAnd', tOr', vAnd, vOr, vNot, fIf, lNil, lCons, fLst, fTup, fCall, fMk, fB, fSlc, oNo, oSo, fSplit, fLc, iSq, iR1, tYes', zF, zS, fF1, fF3, sSeq, sRet, sIf, sSet, sSetO, sFor, sApp, sPar, sAsg, sRaise, sFld, sFrz, sBad, sTryAs, look, peek, bo, opt, mkL, mkT, small, fnG, mkG, int2, negC, seqD, hName, hCons, hNil, hTup, par2, appD, isOw, frz, setF, ptI, isiD, notScr, env0, env0I, selfF, runB, runI, cAbs, cLen, isNone, strD, payD, tryD, noErr, cLenS, itemS, dSub, dLt, dLe, dGt, dGe, Res.bind_ok, Res.bind_err, Res.bind_bad, seq_nx, seq_rt, seq_err, bnd_ok, bnd_err, loop_nx, loop_rt, for_nil, for_cons, int_i, hlt, h0, h1, eq_ii, c1, hz, s0, s1, q0, q1], g1⟩
  by_cases c2 : kind = 2
  · exact ⟨w0 ++ w2, by simp [fK, fOp, fU, fM, fIsN, fNotN, tB', tNot', tAnd', tOr', vAnd, vOr, vNot, fIf, lNil, lCons, fLst, fTup, fCall, fMk, fB, fSlc, oNo, oSo, fSplit, fLc, iSq, iR1, tYes', zF, zS, fF1, fF3, sSeq, sRet, sIf, sSet, sSetO, sFor, sApp, sPar, sAsg, sRaise, sFld, sFrz, sBad, sTryAs, look, peek, bo, opt, mkL, mkT, small, fnG, mkG, int2, negC, seqD, hName, hCons, hNil, hTup, par2, appD, isOw, frz, setF, ptI, isiD, notScr, env0, env0I, selfF, runB, runI, cAbs, cLen, isNone, strD, payD, tryD, noErr, cLenS, itemS, dSub, dLt, dLe, dGt, dGe, Res.bind_ok, Res.bind_err, Res.bind_bad, seq_nx, seq_rt, seq_err, bnd_ok, bnd_err, loop_nx, loop_rt, for_nil, for_cons, int_i, hlt, h0, h1, eq_ii, c2, a0, s0, s2, q2], g2⟩
  by_cases c3 : kind = 3
  · exact ⟨w0 ++ z ++ w2, by simp [fK, fOp, fU, fM, fIsN, fNotN, tB', tNot', tAnd', tOr', vAnd, vOr, vNot, fIf, lNil, lCons, fLst, fTup, fCall, fMk, fB, fSlc, oNo, oSo, fSplit, fLc, iSq, iR1, tYes', zF, zS, fF1, fF3, sSeq, sRet, sIf, sSet, sSetO, sFor, sApp, sPar, sAsg, sRaise, sFld, sFrz, sBad, sTryAs, look, peek, bo, opt, mkL, mkT, small, fnG, mkG, int2, negC, seqD, hName, hCons, hNil, hTup, par2, appD, isOw, frz, setF, ptI, isiD, notScr, env0, env0I, selfF, runB, runI, cAbs, cLen, isNone, strD, payD, tryD, noErr, cLenS, itemS, dSub, dLt, dLe, dGt, dGe, Res.bind_ok, Res.bind_err, Res.bind_bad, seq_nx, seq_rt, seq_err, bnd_ok, bnd_err, loop_nx, loop_rt, for_nil, for_cons, int_i, hlt, h0, h1, eq_ii, c3, hz, a0, s0, s2, q0, q3], g3⟩
  exact ⟨w0 ++ w3 ++ w1, by simp [fK, fOp, fU, fM, fIsN, fNotN, tB', tNot', tAnd', tOr', vAnd, vOr, vNot, fIf, lNil, lCons, fLst, fTup, fCall, fMk, fB, fSlc, oNo, oSo, fSplit, fLc, iSq, iR1, tYes', zF, zS, fF1, fF3, sSeq, sRet, sIf, sSet, sSetO, sFor, sApp, sPar, sAsg, sRaise, sFld, sFrz, sBad, sTryAs, look, peek, bo, opt, mkL, mkT, small, fnG, mkG, int2, negC, seqD, hName, hCons, hNil, hTup, par2, appD, isOw, frz, setF, ptI, isiD, notScr, env0, env0I, selfF, runB, runI, cAbs, cLen, isNone, strD, payD, tryD, noErr, cLenS, itemS, dSub, dLt, dLe, dGt, dGe, Res.bind_ok, Res.bind_err, Res.bind_bad, seq_nx, seq_rt, seq_err, bnd_ok, bnd_err, loop_nx, loop_rt, for_nil, for_cons, int_i, hlt, h0, h1, eq_ii, c0, c1, c2, c3, a0, s0, s1, s3, q4, q5], g4⟩
def odds : List Str := [Str.ofString "", Str.ofString "-", Str.ofString "-0", Str.ofString "0", Str.ofString "00", Str.ofString "01", Str.ofString "1/1", Str.ofString "2/4", Str.ofString "0/5", Str.ofString "1/0", Str.ofString "-1/0", Str.ofString "3/", Str.ofString "/3", Str.ofString "1/02", Str.ofString "+1", Str.ofString " 1", Str.ofString "1 ", Str.ofString "--1", Str.ofString "1/-2", Str.ofString "-1/2", Str.ofString "1//2", Str.ofString "1/2/3", Str.ofString "1.5", Str.ofString "1e3", Str.ofString "0x1", Str.ofString "1_0", Str.ofString "1\n", Str.ofString "-7/3", Str.ofString "a", Str.ofString "-00", Str.ofString "7/7", Str.ofString "10"]
theorem odds_ok : ∀ w ∈ odds, wok w := by
  unfold wok
  decide +kernel
theorem odd_at (j : Int) (h : 0 ≤ j ∧ j < 32) : ∃ w, itemD (.lst (odds.map .str)) (.int j) = some (.str w) ∧ wok w := by
  have hl : (odds.map D.str).length = 32 := rfl
  have hl2 : odds.length = 32 := rfl
  have e : j = ((j.toNat : Nat) : Int) := by omega
  refine ⟨odds[j.toNat]'(by omega), ?_, odds_ok _ (List.getElem_mem _)⟩
  show atI (odds.map D.str) j = _
  refine (congrArg (atI (odds.map D.str)) e).trans (atI_nat ?_)
  rw [List.getElem?_map, List.getElem?_eq_getElem (by omega)]
  rfl
theorem odd_e (a b c d e f : Option B) (g : Env → RS) : (sSeq q7 (sSeq q8 (sSeq q9 g))) [a, b, c, d, e, f, none, none] = g [a, b, c, d, e, f, some (.sh (.lst (odds.map .str))), none] := rfl
def lbody : Env → RS := (sIf (tOr' (tNot' (tB' (fCall 1 G__law_as_due (lCons (look 7) lNil)))) (tNot' (tB' (fCall 1 G__law_as_due (lCons (look 7) lNil))))) (sRet (fK (.bl false))) .nx)
theorem lbody_ok (a b c d e f g : Option B) (s : Str) (h : wok s) : lbody [a, b, c, d, e, f, g, some (.sh (.str s))] = .nx [a, b, c, d, e, f, g, some (.sh (.str s))] := by
  have e1 := due_all h
  unfold lbody
  simp [fK, fOp, fU, fM, fIsN, fNotN, tB', tNot', tAnd', tOr', vAnd, vOr, vNot, fIf, lNil, lCons, fLst, fTup, fCall, fMk, fB, fSlc, oNo, oSo, fSplit, fLc, iSq, iR1, tYes', zF, zS, fF1, fF3, sSeq, sRet, sIf, sSet, sSetO, sFor, sApp, sPar, sAsg, sRaise, sFld, sFrz, sBad, sTryAs, look, peek, bo, opt, mkL, mkT, small, fnG, mkG, int2, negC, seqD, hName, hCons, hNil, hTup, par2, appD, isOw, frz, setF, ptI, isiD, notScr, env0, env0I, selfF, runB, runI, cAbs, cLen, isNone, strD, payD, tryD, noErr, cLenS, itemS, dSub, dLt, dLe, dGt, dGe, Res.bind_ok, Res.bind_err, Res.bind_bad, seq_nx, seq_rt, seq_err, bnd_ok, bnd_err, loop_nx, loop_rt, for_nil, for_cons, int_i, e1]
theorem tail_ok (a c d e : Option B) (row : D) (hr : Row row) (t : Str) (ht : strOk t = true) (hl : t.length ≤ 90) : qT2 [a, some (.sh row), c, d, e, some (.sh (.str t)), none, none] = .rt (.bl true) := by
  obtain ⟨r0, r1, r2, r3, r4, r5, rfl, b0, b1, b2, b3, b4, b5⟩ := hr.ex
  obtain ⟨s, hs, hk⟩ := spoilt_ok t ht hl r2 r3 r4
  obtain ⟨w1, hw1, k1⟩ := odd_at (r5.fmod 32) (fm (by decide))
  obtain ⟨w2, hw2, k2⟩ := odd_at (r4.fmod 32) (fm (by decide))
  have i2 : itemD (.lst [.int r0, .int r1, .int r2, .int r3, .int r4, .int r5]) (.int 2) = some (.int r2) := rfl
  have i3 : itemD (.lst [.int r0, .int r1, .int r2, .int r3, .int r4, .int r5]) (.int 3) = some (.int r3) := rfl
  have i4 : itemD (.lst [.int r0, .int r1, .int r2, .int r3, .int r4, .int r5]) (.int 4) = some (.int r4) := rfl
  have i5 : itemD (.lst [.int r0, .int r1, .int r2, .int r3, .int r4, .int r5]) (.int 5) = some (.int r5) := rfl
  have hlen : cLen [.lst (odds.map .str)] = some (.int 32) := rfl
  have m4 := mod_ok (i := r4) (j := 32) (by decide)
  have m5 := mod_ok (i := r5) (j := 32) (by decide)
  generalize hod : odds.map D.str = od at *
  have hit : fr_law_0 [a, some (.sh (.lst [.int r0, .int r1, .int r2, .int r3, .int r4, .int r5])), c, d, e, some (.sh (.str t)), some (.sh (.lst od)), none] = forD (hName 7) lbody [.str s, .str w1, .str w2] [a, some (.sh (.lst [.int r0, .int r1, .int r2, .int r3, .int r4, .int r5])), c, d, e, some (.sh (.str t)), some (.sh (.lst od)), none] := by
    have hi : (iSq (fLst (lCons (fCall 4 G__law_spoilt (lCons (look 5) (lCons (fOp itemD (peek 1) (fK (.int 2))) (lCons (fOp itemD (peek 1) (fK (.int 3))) (lCons (fOp itemD (peek 1) (fK (.int 4))) lNil))))) (lCons (fOp itemD (peek 6) (fOp (int2 modC) (fOp itemD (peek 1) (fK (.int 5))) (fB cLen (lCons (peek 6) lNil)))) (lCons (fOp itemD (peek 6) (fOp (int2 modC) (fOp itemD (peek 1) (fK (.int 4))) (fB cLen (lCons (peek 6) lNil)))) lNil))))) [a, some (.sh (.lst [.int r0, .int r1, .int r2, .int r3, .int r4, .int r5])), c, d, e, some (.sh (.str t)), some (.sh (.lst od)), none] = .ok [.str s, .str w1, .str w2] := by
      have hlen' : od.length = 32 := by rw [← hod]; rfl
      simp [fK, fOp, fU, fM, fIsN, fNotN, tB', tNot', tAnd', tOr', vAnd, vOr, vNot, fIf, lNil, lCons, fLst, fTup, fCall, fMk, fB, fSlc, oNo, oSo, fSplit, fLc, iSq, iR1, tYes', zF, zS, fF1, fF3, sSeq, sRet, sIf, sSet, sSetO, sFor, sApp, sPar, sAsg, sRaise, sFld, sFrz, sBad, sTryAs, look, peek, bo, opt, mkL, mkT, small, fnG, mkG, int2, negC, seqD, hName, hCons, hNil, hTup, par2, appD, isOw, frz, setF, ptI, isiD, notScr, env0, env0I, selfF, runB, runI, cAbs, cLen, isNone, strD, payD, tryD, noErr, cLenS, itemS, dSub, dLt, dLe, dGt, dGe, Res.bind_ok, Res.bind_err, Res.bind_bad, seq_nx, seq_rt, seq_err, bnd_ok, bnd_err, loop_nx, loop_rt, for_nil, for_cons, int_i, i2, i3, i4, i5, hs, hlen', m4, m5, hw1, hw2]
    show bindS ((iSq (fLst (lCons (fCall 4 G__law_spoilt (lCons (look 5) (lCons (fOp itemD (peek 1) (fK (.int 2))) (lCons (fOp itemD (peek 1) (fK (.int 3))) (lCons (fOp itemD (peek 1) (fK (.int 4))) lNil))))) (lCons (fOp itemD (peek 6) (fOp (int2 modC) (fOp itemD (peek 1) (fK (.int 5))) (fB cLen (lCons (peek 6) lNil)))) (lCons (fOp itemD (peek 6) (fOp (int2 modC) (fOp itemD (peek 1) (fK (.int 4))) (fB cLen (lCons (peek 6) lNil)))) lNil))))) _) _ _ = _
    rw [hi]
    rfl
  show (sSeq q7 (sSeq q8 (sSeq q9 (sSeq fr_law_0 (sRet (fK (.bl true))))))) [a, some (.sh (.lst [.int r0, .int r1, .int r2, .int r3, .int r4, .int r5])), c, d, e, some (.sh (.str t)), none, none] = _
  rw [odd_e, hod]
  show seqS (fr_law_0 _) _ = _
  rw [hit]
  simp only [for_st, List.set, lbody_ok _ _ _ _ _ _ _ _ hk, lbody_ok _ _ _ _ _ _ _ _ k1, lbody_ok _ _ _ _ _ _ _ _ k2, loop_nx, for_nil, seq_nx]
  rfl
end DL.K3
namespace DL.K3
open PySem L2 PySem.PyData PySem.NumText
theorem zt_len2 {i : Int} (h : i.natAbs < 10 ^ 29) : (Zt i).length ≤ 30 := by
  have hn : ∀ n : Nat, n < 10 ^ 29 → (Zt n).length ≤ 29 := fun n hn => PyProof.Rows.toString_length_le (by omega) (by decide) (by exact_mod_cast hn)
  rcases Int.lt_or_le i 0 with q | q
  · have e := zt_neg i.natAbs (by omega)
    have e2 : -((i.natAbs : Nat) : Int) = i := by omega
    rw [e2] at e
    have h3 := hn _ h
    have l1 : (cl (Zt i)).length = (Zt i).length := Array.length_toList
    have l2 : (cl (Zt i.natAbs)).length = (Zt i.natAbs).length := Array.length_toList
    rw [e] at l1
    simp only [List.length_cons] at l1
    omega
  · have e2 : ((i.natAbs : Nat) : Int) = i := by omega
    have := hn _ h
    rw [e2] at this
    omega
theorem ntx_len {p q : Int} (h1 : p.natAbs < 10 ^ 29) (h2 : q.natAbs < 10 ^ 29) : (ntx p q).length ≤ 61 := by
  have a := zt_len2 h1
  have b := zt_len2 h2
  have hs : (Str.ofString "/").length = 1 := by decide +kernel
  unfold ntx
  split
  · omega
  · rw [app_len, app_len]
    omega
theorem lim29 : 10 ^ 29 ≤ lim := by decide +kernel
theorem ntext_eq (p q : Int) (h1 : p.natAbs < 10 ^ 29) (h2 : q.natAbs < 10 ^ 29) : G__law_number_text [.tup [.int p, .int q]] = .ok (.str (ntx p q)) := by
  have l := lim29
  have a1 := strn_i G_Ratio___str__ (i := p) (by omega)
  have a2 := strn_i G_Ratio___str__ (i := q) (by omega)
  have b1 := zt_len2 h1
  have b2 := zt_len2 h2
  have hs : (Str.ofString "/").length = 1 := by decide +kernel
  have c1 : addA (.str (Zt p)) (.str (Str.ofString "/")) = some (.str (Zt p ++ Str.ofString "/")) := add_s (by omega)
  have c2 : addA (.str (Zt p ++ Str.ofString "/")) (.str (Zt q)) = some (.str (Zt p ++ Str.ofString "/" ++ Zt q)) := add_s (by rw [app_len]; omega)
  unfold G__law_number_text g__law_number_text
  by_cases h : q = 1
  · simp [fK, fOp, fU, fM, fIsN, fNotN, tB', tNot', tAnd', tOr', vAnd, vOr, vNot, fIf, lNil, lCons, fLst, fTup, fCall, fMk, fB, fSlc, oNo, oSo, fSplit, fLc, iSq, iR1, tYes', zF, zS, fF1, fF3, sSeq, sRet, sIf, sSet, sSetO, sFor, sApp, sPar, sAsg, sRaise, sFld, sFrz, sBad, sTryAs, look, peek, bo, opt, mkL, mkT, small, fnG, mkG, int2, negC, seqD, hName, hCons, hNil, hTup, par2, appD, isOw, frz, setF, ptI, isiD, notScr, env0, env0I, selfF, runB, runI, cAbs, cLen, isNone, strD, payD, tryD, noErr, cLenS, itemS, dSub, dLt, dLe, dGt, dGe, Res.bind_ok, Res.bind_err, Res.bind_bad, seq_nx, seq_rt, seq_err, bnd_ok, bnd_err, loop_nx, loop_rt, for_nil, for_cons, int_i, it0, it1, eq_ii, h, a1, ntx]
  · simp [fK, fOp, fU, fM, fIsN, fNotN, tB', tNot', tAnd', tOr', vAnd, vOr, vNot, fIf, lNil, lCons, fLst, fTup, fCall, fMk, fB, fSlc, oNo, oSo, fSplit, fLc, iSq, iR1, tYes', zF, zS, fF1, fF3, sSeq, sRet, sIf, sSet, sSetO, sFor, sApp, sPar, sAsg, sRaise, sFld, sFrz, sBad, sTryAs, look, peek, bo, opt, mkL, mkT, small, fnG, mkG, int2, negC, seqD, hName, hCons, hNil, hTup, par2, appD, isOw, frz, setF, ptI, isiD, notScr, env0, env0I, selfF, runB, runI, cAbs, cLen, isNone, strD, payD, tryD, noErr, cLenS, itemS, dSub, dLt, dLe, dGt, dGe, Res.bind_ok, Res.bind_err, Res.bind_bad, seq_nx, seq_rt, seq_err, bnd_ok, bnd_err, loop_nx, loop_rt, for_nil, for_cons, int_i, it0, it1, eq_ii, h, a1, a2, c1, c2, ntx]
theorem low_facts (a b : Int) (hb : 0 < b) : Nat.gcd (ct a b).natAbs (cb a b).natAbs = 1 ∧ 0 < cb a b ∧ (ct a b).natAbs ≤ a.natAbs ∧ (cb a b).natAbs ≤ b.natAbs := by
  have hp := gcd_pos (a := a) hb
  unfold ct cb
  generalize hg : Nat.gcd a.natAbs b.natAbs = g at *
  obtain ⟨k, hk⟩ : (g : Int) ∣ a := Int.ofNat_dvd_left.mpr (hg ▸ Nat.gcd_dvd_left _ _)
  obtain ⟨m, hm⟩ : (g : Int) ∣ b := Int.ofNat_dvd_left.mpr (hg ▸ Nat.gcd_dvd_right _ _)
  have g0 : (g : Int) ≠ 0 := by omega
  rw [hk, hm, Int.mul_ediv_cancel_left _ g0, Int.mul_ediv_cancel_left _ g0]
  rw [hk, hm, Int.natAbs_mul, Int.natAbs_mul, Int.natAbs_natCast, Nat.gcd_mul_left] at hg
  have h1 : Nat.gcd k.natAbs m.natAbs = 1 := Nat.eq_of_mul_eq_mul_left hp (by rw [hg, Nat.mul_one])
  have h2 : 0 < m := by
    rw [hm] at hb
    exact Int.pos_of_mul_pos_right hb (by omega)
  refine ⟨h1, h2, ?_, ?_⟩
  · rw [Int.natAbs_mul, Int.natAbs_natCast]
    exact Nat.le_mul_of_pos_left _ hp
  · rw [Int.natAbs_mul, Int.natAbs_natCast]
    exact Nat.le_mul_of_pos_left _ hp
theorem mid_ok (a : Option B) (row : D) (hr : Row row) (U L : Int) : qT [a, some (.sh row), some (.sh (.int U)), some (.sh (.int L)), none, none, none, none] = .rt (.bl true) := by
  obtain ⟨r0, r1, r2, r3, r4, r5, hrow, b0, _⟩ := id hr.ex
  have hs : ∃ s : Int, (s = 1 ∨ s = -1) ∧ itemD (.lst [.int 1, .int (-1)]) (.int r0) = some (.int s) := by
    have : r0 = 0 ∨ r0 = 1 := by omega
    rcases this with h | h <;> subst h
    · exact ⟨1, .inl rfl, rfl⟩
    · exact ⟨-1, .inr rfl, rfl⟩
  obtain ⟨s, hs1, hs2⟩ := hs
  have i0 : itemD row (.int 0) = some (.int r0) := by rw [hrow]; rfl
  have m1 := mod_ok (i := U) (j := 10000000000000000000000000000) (by decide)
  have m2 := mod_ok (i := L - 1) (j := 10000000000000000000000000000) (by decide)
  have d1 := fm (i := U) (j := 10000000000000000000000000000) (by decide)
  have d2 := fm (i := L - 1) (j := 10000000000000000000000000000) (by decide)
  generalize U.fmod 10000000000000000000000000000 = x at *
  generalize (L - 1).fmod 10000000000000000000000000000 = y at *
  have hx : (x * s).natAbs < 10 ^ 28 := by
    rcases hs1 with h | h <;> subst h <;> omega
  have l29 := lim29
  have lb : lim ≤ big := by decide +kernel
  have m3 : mulC x s = some (.int (x * s)) := mul_ok (by
    have e1 : x.natAbs.log2 < 1100 := lg (by omega)
    have e2 : s.natAbs.log2 < 1100 := lg (by omega)
    omega)
  have a1 : addA (.int y) (.int 1) = some (.int (y + 1)) := rfl
  have lo := low_eq (x * s) (y + 1) (by omega) (by omega)
  obtain ⟨f1, f2, f3, f4⟩ := low_facts (x * s) (y + 1) (by omega)
  have f5 : (ct (x * s) (y + 1)).natAbs < 10 ^ 29 := by omega
  have f6 : (cb (x * s) (y + 1)).natAbs < 10 ^ 29 := by omega
  generalize ct (x * s) (y + 1) = p at *
  generalize cb (x * s) (y + 1) = q at *
  have nt := ntext_eq p q f5 f6
  have ini := init_eq p q f2 (by omega)
  have cp := cop_ct f1
  rw [cp.1, cp.2] at ini
  have st1 : strN G_Ratio___str__ (.obj 0 [.int p, .int q]) = .ok (.str (ntx p q)) := by
    show (fnG 1 G_Ratio___str__ [.obj 0 [.int p, .int q]] >>= fun y => strD y >>= fun z => Res.ok (D.str z)) = _
    have e : fnG 1 G_Ratio___str__ [.obj 0 [.int p, .int q]] = .ok (.str (ntx p q)) := rstr_eq p q (by omega) (by omega)
    rw [e]
    rfl
  have pl : G_plain [.obj 0 [.int p, .int q]] = .ok (num p q) := plain_obj p q
  have st2 := strn_num p q (by omega) (by omega)
  have wk : wok (ntx p q) := ⟨ntx_ok p q, by have := ntx_len f5 f6; omega⟩
  have due := due_all wk
  have ne := ne_ss wk.1 wk.1
  rw [decide_eq_true rfl] at ne
  have tl := tail_ok a (some (.sh (.int U))) (some (.sh (.int L))) (some (.sh (.tup [.int p, .int q]))) row hr (ntx p q) wk.1 (by have := ntx_len f5 f6; omega)
  have h4 : q4 [a, some (.sh row), some (.sh (.int U)), some (.sh (.int L)), none, none, none, none] = .nx [a, some (.sh row), some (.sh (.int U)), some (.sh (.int L)), some (.sh (.tup [.int p, .int q])), none, none, none] := by
    unfold q4
    simp [fK, fOp, fU, fM, fIsN, fNotN, tB', tNot', tAnd', tOr', vAnd, vOr, vNot, fIf, lNil, lCons, fLst, fTup, fCall, fMk, fB, fSlc, oNo, oSo, fSplit, fLc, iSq, iR1, tYes', zF, zS, fF1, fF3, sSeq, sRet, sIf, sSet, sSetO, sFor, sApp, sPar, sAsg, sRaise, sFld, sFrz, sBad, sTryAs, look, peek, bo, opt, mkL, mkT, small, fnG, mkG, int2, negC, seqD, hName, hCons, hNil, hTup, par2, appD, isOw, frz, setF, ptI, isiD, notScr, env0, env0I, selfF, runB, runI, cAbs, cLen, isNone, strD, payD, tryD, noErr, cLenS, itemS, dSub, dLt, dLe, dGt, dGe, Res.bind_ok, Res.bind_err, Res.bind_bad, seq_nx, seq_rt, seq_err, bnd_ok, bnd_err, loop_nx, loop_rt, for_nil, for_cons, int_i, m1, m2, m3, a1, i0, hs2, p28, lo]
  have h5 : q5 [a, some (.sh row), some (.sh (.int U)), some (.sh (.int L)), some (.sh (.tup [.int p, .int q])), none, none, none] = .nx [a, some (.sh row), some (.sh (.int U)), some (.sh (.int L)), some (.sh (.tup [.int p, .int q])), some (.sh (.str (ntx p q))), none, none] := by
    unfold q5
    simp [fK, fOp, fU, fM, fIsN, fNotN, tB', tNot', tAnd', tOr', vAnd, vOr, vNot, fIf, lNil, lCons, fLst, fTup, fCall, fMk, fB, fSlc, oNo, oSo, fSplit, fLc, iSq, iR1, tYes', zF, zS, fF1, fF3, sSeq, sRet, sIf, sSet, sSetO, sFor, sApp, sPar, sAsg, sRaise, sFld, sFrz, sBad, sTryAs, look, peek, bo, opt, mkL, mkT, small, fnG, mkG, int2, negC, seqD, hName, hCons, hNil, hTup, par2, appD, isOw, frz, setF, ptI, isiD, notScr, env0, env0I, selfF, runB, runI, cAbs, cLen, isNone, strD, payD, tryD, noErr, cLenS, itemS, dSub, dLt, dLe, dGt, dGe, Res.bind_ok, Res.bind_err, Res.bind_bad, seq_nx, seq_rt, seq_err, bnd_ok, bnd_err, loop_nx, loop_rt, for_nil, for_cons, int_i, nt]
  have h6 : q6 [a, some (.sh row), some (.sh (.int U)), some (.sh (.int L)), some (.sh (.tup [.int p, .int q])), some (.sh (.str (ntx p q))), none, none] = .nx [a, some (.sh row), some (.sh (.int U)), some (.sh (.int L)), some (.sh (.tup [.int p, .int q])), some (.sh (.str (ntx p q))), none, none] := by
    unfold q6
    simp [fK, fOp, fU, fM, fIsN, fNotN, tB', tNot', tAnd', tOr', vAnd, vOr, vNot, fIf, lNil, lCons, fLst, fTup, fCall, fMk, fB, fSlc, oNo, oSo, fSplit, fLc, iSq, iR1, tYes', zF, zS, fF1, fF3, sSeq, sRet, sIf, sSet, sSetO, sFor, sApp, sPar, sAsg, sRaise, sFld, sFrz, sBad, sTryAs, look, peek, bo, opt, mkL, mkT, small, fnG, mkG, int2, negC, seqD, hName, hCons, hNil, hTup, par2, appD, isOw, frz, setF, ptI, isiD, notScr, env0, env0I, selfF, runB, runI, cAbs, cLen, isNone, strD, payD, tryD, noErr, cLenS, itemS, dSub, dLt, dLe, dGt, dGe, Res.bind_ok, Res.bind_err, Res.bind_bad, seq_nx, seq_rt, seq_err, bnd_ok, bnd_err, loop_nx, loop_rt, for_nil, for_cons, int_i, it0, it1, ini, st1, pl, st2, due, ne]
  show seqS (q4 _) _ = _
  rw [h4, seq_nx]
  show seqS (q5 _) _ = _
  rw [h5, seq_nx]
  show seqS (q6 _) _ = _
  rw [h6, seq_nx]
  exact tl
theorem law_true (ns : List Int) : G_law [.scr ns] = .ok (.bl true) := by
  obtain ⟨c0, e0⟩ := cell_ok ns 0
  obtain ⟨c1, e1⟩ := cell_ok ns 1
  obtain ⟨c2, e2⟩ := cell_ok ns 2
  obtain ⟨row, hr, hR⟩ := row_ok c2
  obtain ⟨r0, r1, r2, r3, r4, r5, hrow, b0, _⟩ := id hR.ex
  have i0 : itemD row (.int 0) = some (.int r0) := by rw [hrow]; rfl
  have i1 : itemD row (.int 1) = some (.int r1) := by rw [hrow]; rfl
  have h0 : q0 [some (.sh (.scr ns)), none, none, none, none, none, none, none] = .nx [some (.sh (.scr ns)), some (.sh row), none, none, none, none, none, none] := by
    have e2' : G__law_cell [.scr ns, .int 2] = .ok (.int c2) := e2
    unfold q0
    simp [fK, fOp, fU, fM, fIsN, fNotN, tB', tNot', tAnd', tOr', vAnd, vOr, vNot, fIf, lNil, lCons, fLst, fTup, fCall, fMk, fB, fSlc, oNo, oSo, fSplit, fLc, iSq, iR1, tYes', zF, zS, fF1, fF3, sSeq, sRet, sIf, sSet, sSetO, sFor, sApp, sPar, sAsg, sRaise, sFld, sFrz, sBad, sTryAs, look, peek, bo, opt, mkL, mkT, small, fnG, mkG, int2, negC, seqD, hName, hCons, hNil, hTup, par2, appD, isOw, frz, setF, ptI, isiD, notScr, env0, env0I, selfF, runB, runI, cAbs, cLen, isNone, strD, payD, tryD, noErr, cLenS, itemS, dSub, dLt, dLe, dGt, dGe, Res.bind_ok, Res.bind_err, Res.bind_bad, seq_nx, seq_rt, seq_err, bnd_ok, bnd_err, loop_nx, loop_rt, for_nil, for_cons, int_i, e2', hr]
  have h1 : ∃ U L : Int, q1 [some (.sh (.scr ns)), some (.sh row), none, none, none, none, none, none] = .nx [some (.sh (.scr ns)), some (.sh row), some (.sh (.int U)), some (.sh (.int L)), none, none, none, none] := by
    have e0' : G__law_cell [.scr ns, .int 0] = .ok (.int c0) := e0
    have e1' : G__law_cell [.scr ns, .int 1] = .ok (.int c1) := e1
    have a1 : addA (.int (if c1 < 0 then -c1 else c1)) (.int 1) = some (.int ((if c1 < 0 then -c1 else c1) + 1)) := rfl
    refine ⟨c0, (if c1 < 0 then -c1 else c1) + 1, ?_⟩
    unfold q1
    simp [fK, fOp, fU, fM, fIsN, fNotN, tB', tNot', tAnd', tOr', vAnd, vOr, vNot, fIf, lNil, lCons, fLst, fTup, fCall, fMk, fB, fSlc, oNo, oSo, fSplit, fLc, iSq, iR1, tYes', zF, zS, fF1, fF3, sSeq, sRet, sIf, sSet, sSetO, sFor, sApp, sPar, sAsg, sRaise, sFld, sFrz, sBad, sTryAs, look, peek, bo, opt, mkL, mkT, small, fnG, mkG, int2, negC, seqD, hName, hCons, hNil, hTup, par2, appD, isOw, frz, setF, ptI, isiD, notScr, env0, env0I, selfF, runB, runI, cAbs, cLen, isNone, strD, payD, tryD, noErr, cLenS, itemS, dSub, dLt, dLe, dGt, dGe, Res.bind_ok, Res.bind_err, Res.bind_bad, seq_nx, seq_rt, seq_err, bnd_ok, bnd_err, loop_nx, loop_rt, for_nil, for_cons, int_i, e0', e1', a1]
  obtain ⟨U, L, h1⟩ := h1
  have h2 : ∃ U' L' : Int, q2 [some (.sh (.scr ns)), some (.sh row), some (.sh (.int U)), some (.sh (.int L)), none, none, none, none] = .nx [some (.sh (.scr ns)), some (.sh row), some (.sh (.int U')), some (.sh (.int L')), none, none, none, none] := by
    have m1 := mod_ok (i := U) (j := 40) (by decide)
    have m2 := mod_ok (i := L) (j := 12) (by decide)
    have a1 : addA (.int (L.fmod 12)) (.int 1) = some (.int (L.fmod 12 + 1)) := rfl
    unfold q2
    by_cases h : r0 = 0
    · exact ⟨U.fmod 40 - 20, L.fmod 12 + 1, by simp [fK, fOp, fU, fM, fIsN, fNotN, tB', tNot', tAnd', tOr', vAnd, vOr, vNot, fIf, lNil, lCons, fLst, fTup, fCall, fMk, fB, fSlc, oNo, oSo, fSplit, fLc, iSq, iR1, tYes', zF, zS, fF1, fF3, sSeq, sRet, sIf, sSet, sSetO, sFor, sApp, sPar, sAsg, sRaise, sFld, sFrz, sBad, sTryAs, look, peek, bo, opt, mkL, mkT, small, fnG, mkG, int2, negC, seqD, hName, hCons, hNil, hTup, par2, appD, isOw, frz, setF, ptI, isiD, notScr, env0, env0I, selfF, runB, runI, cAbs, cLen, isNone, strD, payD, tryD, noErr, cLenS, itemS, dSub, dLt, dLe, dGt, dGe, Res.bind_ok, Res.bind_err, Res.bind_bad, seq_nx, seq_rt, seq_err, bnd_ok, bnd_err, loop_nx, loop_rt, for_nil, for_cons, int_i, i0, eq_ii, h, m1, m2, a1]⟩
    · exact ⟨U, L, by simp [fK, fOp, fU, fM, fIsN, fNotN, tB', tNot', tAnd', tOr', vAnd, vOr, vNot, fIf, lNil, lCons, fLst, fTup, fCall, fMk, fB, fSlc, oNo, oSo, fSplit, fLc, iSq, iR1, tYes', zF, zS, fF1, fF3, sSeq, sRet, sIf, sSet, sSetO, sFor, sApp, sPar, sAsg, sRaise, sFld, sFrz, sBad, sTryAs, look, peek, bo, opt, mkL, mkT, small, fnG, mkG, int2, negC, seqD, hName, hCons, hNil, hTup, par2, appD, isOw, frz, setF, ptI, isiD, notScr, env0, env0I, selfF, runB, runI, cAbs, cLen, isNone, strD, payD, tryD, noErr, cLenS, itemS, dSub, dLt, dLe, dGt, dGe, Res.bind_ok, Res.bind_err, Res.bind_bad, seq_nx, seq_rt, seq_err, bnd_ok, bnd_err, loop_nx, loop_rt, for_nil, for_cons, int_i, i0, eq_ii, h]⟩
  obtain ⟨U2, L2, h2⟩ := h2
  have h3 : ∃ L' : Int, q3 [some (.sh (.scr ns)), some (.sh row), some (.sh (.int U2)), some (.sh (.int L2)), none, none, none, none] = .nx [some (.sh (.scr ns)), some (.sh row), some (.sh (.int U2)), some (.sh (.int L')), none, none, none, none] := by
    unfold q3
    by_cases h : r1 = 0
    · exact ⟨1, by simp [fK, fOp, fU, fM, fIsN, fNotN, tB', tNot', tAnd', tOr', vAnd, vOr, vNot, fIf, lNil, lCons, fLst, fTup, fCall, fMk, fB, fSlc, oNo, oSo, fSplit, fLc, iSq, iR1, tYes', zF, zS, fF1, fF3, sSeq, sRet, sIf, sSet, sSetO, sFor, sApp, sPar, sAsg, sRaise, sFld, sFrz, sBad, sTryAs, look, peek, bo, opt, mkL, mkT, small, fnG, mkG, int2, negC, seqD, hName, hCons, hNil, hTup, par2, appD, isOw, frz, setF, ptI, isiD, notScr, env0, env0I, selfF, runB, runI, cAbs, cLen, isNone, strD, payD, tryD, noErr, cLenS, itemS, dSub, dLt, dLe, dGt, dGe, Res.bind_ok, Res.bind_err, Res.bind_bad, seq_nx, seq_rt, seq_err, bnd_ok, bnd_err, loop_nx, loop_rt, for_nil, for_cons, int_i, i1, eq_ii, h]⟩
    · exact ⟨L2, by simp [fK, fOp, fU, fM, fIsN, fNotN, tB', tNot', tAnd', tOr', vAnd, vOr, vNot, fIf, lNil, lCons, fLst, fTup, fCall, fMk, fB, fSlc, oNo, oSo, fSplit, fLc, iSq, iR1, tYes', zF, zS, fF1, fF3, sSeq, sRet, sIf, sSet, sSetO, sFor, sApp, sPar, sAsg, sRaise, sFld, sFrz, sBad, sTryAs, look, peek, bo, opt, mkL, mkT, small, fnG, mkG, int2, negC, seqD, hName, hCons, hNil, hTup, par2, appD, isOw, frz, setF, ptI, isiD, notScr, env0, env0I, selfF, runB, runI, cAbs, cLen, isNone, strD, payD, tryD, noErr, cLenS, itemS, dSub, dLt, dLe, dGt, dGe, Res.bind_ok, Res.bind_err, Res.bind_bad, seq_nx, seq_rt, seq_err, bnd_ok, bnd_err, loop_nx, loop_rt, for_nil, for_cons, int_i, i1, eq_ii, h]⟩
  obtain ⟨L3, h3⟩ := h3
  have tl := mid_ok (some (.sh (.scr ns))) row hR U2 L3
  show (match g_law [some (.sh (.scr ns)), none, none, none, none, none, none, none] with
    | .rt d => Res.ok d
    | .nx _ => .ok .non
    | .err c p _ => .err c p
    | _ => .bad) = _
  have hw : g_law [some (.sh (.scr ns)), none, none, none, none, none, none, none] = .rt (.bl true) := by
    rw [law_parts]
    show seqS (q0 _) _ = _
    rw [h0, seq_nx]
    show seqS (q1 _) _ = _
    rw [h1, seq_nx]
    show seqS (q2 _) _ = _
    rw [h2, seq_nx]
    show seqS (q3 _) _ = _
    rw [h3, seq_nx]
    exact tl
  rw [hw]
end DL.K3
namespace DL.K3
open PySem L2
abbrev pm (K : PySem.W.Frag) (C E : Addr) : Pm := ⟨fun _ => C, nmv, fun _ => .ref E, fun _ => "text", K⟩
def top (i : Nat) : Stmt := PySem.Challenge.pw_everylist_k03_texts_of_numbers.main.body.getD i (.Pass ⟨0, 0, 0, 0⟩)
structure Txt (prog : Program) (K : PySem.W.Frag) (mg : Str → Option Value) (C E fE : Addr) : Prop where
  cl : Cls K C
  nT : NoAttr K C "top"
  nB : NoAttr K C "bottom"
  g_Ratio : mg "Ratio" = some (.ref C)
  ic : IsiC K C
  nob : NoB K C
  ki : PySem.W.kitOne K (.ref C) (.type "int") = some false
  kb : PySem.W.kitOne K (.ref C) (.type "bool") = some false
  e_NoText : PySem.ErrX.ErrTxt prog K mg "NoText" "text" E fE
  x_NoText : PySem.W.exmOne K (.ref E) (.ref E) = some true
  b_abs : mg "abs" = none
  b_len : mg "len" = none
  b_all : mg "all" = none
  b_int : mg "int" = none
  b_bool : mg "bool" = none
  b_str : mg "str" = none
  b_range : mg "range" = none
  b_isinstance : mg "isinstance" = none
  kDIGITS : ∃ t, mg "DIGITS" = some (.str "0123456789" t)
section
variable {prog : Program} {w : World} {K : PySem.W.Frag} {mg : Str → Option Value} {base : Heap} {C E fE : Addr}
theorem Txt.f_top (T : Txt prog K mg C E fE) : ∀ (c : Nat) (d : List D), (((pm K C E).nm c).zip d).lookup ("top" : Str) ≠ (none : Option D) → Cls K ((pm K C E).C c) ∧ NoAttr K ((pm K C E).C c) "top" := fun _ _ _ => ⟨T.cl, T.nT⟩
theorem Txt.f_bottom (T : Txt prog K mg C E fE) : ∀ (c : Nat) (d : List D), (((pm K C E).nm c).zip d).lookup ("bottom" : Str) ≠ (none : Option D) → Cls K ((pm K C E).C c) ∧ NoAttr K ((pm K C E).C c) "bottom" := fun _ _ _ => ⟨T.cl, T.nB⟩
theorem Txt.s_top (T : Txt prog K mg C E fE) : ∀ c : Nat, ("top" : Str) ∈ (pm K C E).nm c → Cls K ((pm K C E).C c) ∧ NoAttr K ((pm K C E).C c) "top" := fun _ _ => ⟨T.cl, T.nT⟩
theorem Txt.s_bottom (T : Txt prog K mg C E fE) : ∀ c : Nat, ("bottom" : Str) ∈ (pm K C E).nm c → Cls K ((pm K C E).C c) ∧ NoAttr K ((pm K C E).C c) "bottom" := fun _ _ => ⟨T.cl, T.nB⟩
theorem Txt.nd (_ : Txt prog K mg C E fE) : ∀ c : Nat, ((pm K C E).nm c).Nodup := fun _ => by
  show (["top", "bottom"] : List Str).Nodup
  decide +kernel
theorem Txt.isi (T : Txt prog K mg C E fE) : ∀ c : Nat, IsiC K ((pm K C E).C c) := fun _ => T.ic
theorem Txt.kit_int (T : Txt prog K mg C E fE) : ∀ d b, ib_int d = some b → PySem.W.kitOne K (tyD (pm K C E) d) (.type "int") = some b := DL.kit_int fun _ => T.ki
theorem Txt.kit_bool (T : Txt prog K mg C E fE) : ∀ d b, ib_bool d = some b → PySem.W.kitOne K (tyD (pm K C E) d) (.type "bool") = some b := DL.kit_bool fun _ => T.kb
theorem Txt.kit_Ratio (T : Txt prog K mg C E fE) : ∀ d b, ib_Ratio d = some b → PySem.W.kitOne K (tyD (pm K C E) d) (.ref C) = some b := DL.kit_Ratio (fun _ => rfl) T.nob
theorem Txt.fo_NoText (_ : Txt prog K mg C E fE) : PySem.ErrX.FldOk "text" := ⟨by decide, by decide, by decide, by decide⟩
abbrev s__law_cell : Stmt := top 16
theorem sc__law_cell : FnScope ["_law_script", "_law_k"] ["_law_script", "_law_k"] (defScope s__law_cell) := ⟨rfl, rfl, rfl, by decide +kernel, rfl, by decide +kernel, by decide +kernel⟩
theorem b__law_cell (T : Txt prog K mg C E fE) (f : Addr) (cdv : Value) (A : Around) (outer : List PySem.Env) (s : Shared) (H : Hp) (F0 : Hp) (e : XK) (hr : Room 0 (A.deeper (PyProof.Rows.envOfC "_law_cell" (defScope s__law_cell) s.heap.objs.size f cdv))) :
    PSs (cxOf (L2.CX prog w) prog w K mg base ["_law_script", "_law_k"] "_law_cell" (defScope s__law_cell) f cdv A outer s H e) (defBody s__law_cell) (tS (pm K C E) ⟨F0, none⟩ H (WE0 e) g__law_cell) := by
  have sc := sc__law_cell
  have tk : Takes (cxOf (L2.CX prog w) prog w K mg base ["_law_script", "_law_k"] "_law_cell" (defScope s__law_cell) f cdv A outer s H e) (WE0 e) := takes_of rfl rfl rfl rfl
  have h := ((by exact sd_cons (by exact sd_if (by exact td_pc (by exact pd_pc (od_of io_lt) (by exact pd_peek 1) (by exact toV (by exact pd_callB (ic_lenS rfl) rfl T.b_len (by decide +kernel) (by exact av_cons (by exact pd_peek 0) av_nil)))) (nomark _)) (by exact sd_one (by exact sd_ret (by exact pd_ixS rfl (by exact pd_peek 0) (by exact pd_peek 1) (fun _ _ => rfl)))) sd_nil) (by exact sd_one (by exact sd_ret pd_int))) : PSs (cxOf (L2.CX prog w) prog w K mg base ["_law_script", "_law_k"] "_law_cell" (defScope s__law_cell) f cdv A outer s H e) (defBody s__law_cell) (tS (pm K C E) ⟨F0, none⟩ H (WE0 e) _))
  exact h
abbrev s__law_row : Stmt := top 17
theorem sc__law_row : FnScope ["_law_cell_here", "_law_sizes", "_law_out", "_law_size", "_law_seed", "_law_k", "_law_mixed"] ["_law_cell_here", "_law_sizes"] (defScope s__law_row) := ⟨rfl, rfl, rfl, by decide +kernel, rfl, by decide +kernel, by decide +kernel⟩
theorem b__law_row (T : Txt prog K mg C E fE) (f : Addr) (cdv : Value) (A : Around) (outer : List PySem.Env) (s : Shared) (H : Hp) (F0 : Hp) (e : XK) (hr : Room 0 (A.deeper (PyProof.Rows.envOfC "_law_row" (defScope s__law_row) s.heap.objs.size f cdv))) :
    PSs (cxOf (L2.CX prog w) prog w K mg base ["_law_cell_here", "_law_sizes", "_law_out", "_law_size", "_law_seed", "_law_k", "_law_mixed"] "_law_row" (defScope s__law_row) f cdv A outer s H e) (defBody s__law_row) (tS (pm K C E) ⟨F0, none⟩ H (WE0 e) g__law_row) := by
  have sc := sc__law_row
  have tk : Takes (cxOf (L2.CX prog w) prog w K mg base ["_law_cell_here", "_law_sizes", "_law_out", "_law_size", "_law_seed", "_law_k", "_law_mixed"] "_law_row" (defScope s__law_row) f cdv A outer s H e) (WE0 e) := takes_of rfl rfl rfl rfl
  have h := ((by exact sd_cons (by exact sd_setN (i := 2) sc.nd rfl (Or.inl rfl) (by exact nd_lst ad_nil)) (by exact sd_cons (by exact sd_if (by exact td_pc (by exact pd_pc (od_of io_ge) (by exact pd_peek 0) (by exact toV (by exact pd_op (od_of io_pow) (by exact toV pd_int) (by exact toV pd_int)))) (nomark _)) (by exact sd_cons (by exact sd_for (passes_of rfl) rfl (by exact id_seq (by exact pd_name 1)) (by exact gd_name (i := 3) (us := [3]) sc.nd rfl (Or.inl rfl)) (by exact sd_cons (by exact sd_append 2 (by exact pd_op (od_of io_mod) (by exact toV (by exact pd_callTy ic_int2 rfl T.b_int (by decide +kernel) (by exact av_cons (by exact pd_peek 0) av_nil))) (by exact pd_peek 3))) (by exact sd_one (by exact sd_set (i := 0) sc.nd rfl (Or.inl rfl) (by exact pd_op (od_of io_fdiv) (by exact pd_peek 0) (by exact pd_peek 3)))))) (by exact sd_one (by exact sd_frz1 2 (by exact sd_ret (by exact pd_name 2))))) sd_nil) (by exact sd_cons (by exact sd_set (i := 4) sc.nd rfl (Or.inl rfl) (by exact pd_op (od_of io_mod) (by exact toV (by exact pd_callTy ic_int2 rfl T.b_int (by decide +kernel) (by exact av_cons (by exact pd_peek 0) av_nil))) (by exact toV pd_int))) (by exact sd_cons (by exact sd_for (passes_of rfl) rfl (by exact id_range1 rfl T.b_range (by exact ad_cons (by exact pd_callB ic_len rfl T.b_len (by decide +kernel) (by exact av_cons (by exact pd_peek 1) av_nil)) ad_nil)) (by exact gd_name (i := 5) (us := [5]) sc.nd rfl (Or.inl rfl)) (by exact sd_cons (by exact sd_set (i := 6) sc.nd rfl (Or.inl rfl) (by exact pd_op (od_of io_addA) (by exact toV (by exact pd_op (od_of io_mod) (by exact toV (by exact pd_callTy ic_int2 rfl T.b_int (by decide +kernel) (by exact av_cons (by exact toV (by exact pd_op (od_of io_pow) (by exact toV (by exact pd_op (od_of io_addA) (by exact toV (by exact pd_op (od_of io_addA) (by exact pd_peek 4) (by exact toV (by exact pd_op (od_of io_mul) (by exact toV pd_int) (by exact pd_peek 5))))) (by exact toV pd_int))) (by exact toV pd_int))) av_nil))) (by exact toV pd_int))) (by exact pd_peek 5))) (by exact sd_one (by exact sd_append 2 (by exact pd_op (od_of io_mod) (by exact toV (by exact pd_callTy ic_int2 rfl T.b_int (by decide +kernel) (by exact av_cons (by exact toV (by exact pd_op (od_of io_mod) (by exact toV (by exact pd_callTy ic_int2 rfl T.b_int (by decide +kernel) (by exact av_cons (by exact toV (by exact pd_op (od_of io_mul) (by exact pd_peek 6) (by exact toV pd_int))) av_nil))) (by exact toV pd_int))) av_nil))) (by exact toV (by exact pd_ix (by exact pd_peek 1) (by exact pd_peek 5) (fun _ _ => rfl)))))))) (by exact sd_one (by exact sd_frz1 2 (by exact sd_ret (by exact pd_name 2)))))))) : PSs (cxOf (L2.CX prog w) prog w K mg base ["_law_cell_here", "_law_sizes", "_law_out", "_law_size", "_law_seed", "_law_k", "_law_mixed"] "_law_row" (defScope s__law_row) f cdv A outer s H e) (defBody s__law_row) (tS (pm K C E) ⟨F0, none⟩ H (WE0 e) _))
  exact h
abbrev s__law_share : Stmt := top 18
theorem sc__law_share : FnScope ["_law_one", "_law_two"] ["_law_one", "_law_two"] (defScope s__law_share) := ⟨rfl, rfl, rfl, by decide +kernel, rfl, by decide +kernel, by decide +kernel⟩
theorem b__law_share (T : Txt prog K mg C E fE) (f : Addr) (cdv : Value) (A : Around) (outer : List PySem.Env) (s : Shared) (H : Hp) (F0 : Hp) (e : XK) (hr : Room 0 (A.deeper (PyProof.Rows.envOfC "_law_share" (defScope s__law_share) s.heap.objs.size f cdv))) :
    PSs (cxOf (L2.CX prog w) prog w K mg base ["_law_one", "_law_two"] "_law_share" (defScope s__law_share) f cdv A outer s H e) (defBody s__law_share) (tS (pm K C E) ⟨F0, none⟩ H (WE0 e) g__law_share) := by
  have sc := sc__law_share
  have tk : Takes (cxOf (L2.CX prog w) prog w K mg base ["_law_one", "_law_two"] "_law_share" (defScope s__law_share) f cdv A outer s H e) (WE0 e) := takes_of rfl rfl rfl rfl
  have h := ((by exact sd_cons (by exact sd_par (i := 0) (j := 1) rfl sc.nd rfl rfl (by decide) rfl rfl (by exact ad_cons (by exact pd_callB ic_abs rfl T.b_abs (by decide +kernel) (by exact av_cons (by exact pd_peek 0) av_nil)) (by exact ad_cons (by exact pd_callB ic_abs rfl T.b_abs (by decide +kernel) (by exact av_cons (by exact pd_peek 1) av_nil)) ad_nil)) rfl) (by exact sd_cons (by exact sd_while big (passes_of rfl) (by exact td_pc (by exact pd_pc (od_of io_gt) (by exact pd_peek 1) (by exact toV pd_int)) (nomark _)) (by exact sd_one (by exact sd_par (i := 0) (j := 1) rfl sc.nd rfl rfl (by decide) rfl rfl (by exact ad_cons (by exact pd_name 1) (by exact ad_cons (by exact pd_op (od_of io_mod) (by exact toV (by exact pd_callTy ic_int2 rfl T.b_int (by decide +kernel) (by exact av_cons (by exact pd_peek 0) av_nil))) (by exact pd_peek 1)) ad_nil)) rfl))) (by exact sd_one (by exact sd_ret (by exact pd_name 0))))) : PSs (cxOf (L2.CX prog w) prog w K mg base ["_law_one", "_law_two"] "_law_share" (defScope s__law_share) f cdv A outer s H e) (defBody s__law_share) (tS (pm K C E) ⟨F0, none⟩ H (WE0 e) _))
  exact h
abbrev s__law_low : Stmt := top 19
theorem sc__law_low : FnScope ["_law_upper", "_law_lower", "_law_part"] ["_law_upper", "_law_lower"] (defScope s__law_low) := ⟨rfl, rfl, rfl, by decide +kernel, rfl, by decide +kernel, by decide +kernel⟩
theorem b__law_low (T : Txt prog K mg C E fE) (c__law_share : CalD prog w K mg base (pm K C E) 1 "_law_share" 2 G__law_share) (f : Addr) (cdv : Value) (A : Around) (outer : List PySem.Env) (s : Shared) (H : Hp) (F0 : Hp) (e : XK) (hr : Room 1 (A.deeper (PyProof.Rows.envOfC "_law_low" (defScope s__law_low) s.heap.objs.size f cdv))) :
    PSs (cxOf (L2.CX prog w) prog w K mg base ["_law_upper", "_law_lower", "_law_part"] "_law_low" (defScope s__law_low) f cdv A outer s H e) (defBody s__law_low) (tS (pm K C E) ⟨F0, none⟩ H (WE0 e) g__law_low) := by
  have sc := sc__law_low
  have tk : Takes (cxOf (L2.CX prog w) prog w K mg base ["_law_upper", "_law_lower", "_law_part"] "_law_low" (defScope s__law_low) f cdv A outer s H e) (WE0 e) := takes_of rfl rfl rfl rfl
  have h := ((by exact sd_cons (by exact sd_set (i := 2) sc.nd rfl (Or.inl rfl) (by exact pd_cal c__law_share (hr.mono (by decide)) tk (by exact ad_cons (by exact pd_name 0) (by exact ad_cons (by exact pd_name 1) ad_nil)))) (by exact sd_cons (by exact sd_if (by exact td_pc (by exact pd_pc (od_of io_lt) (by exact pd_peek 1) (by exact toV pd_int)) (nomark _)) (by exact sd_one (by exact sd_set (i := 2) sc.nd rfl (Or.inl rfl) (by exact pd_un (ud_of io_neg) (by exact pd_peek 2)))) sd_nil) (by exact sd_one (by exact sd_ret (by exact pd_tup (by exact ad_cons (by exact pd_op (od_of io_fdiv) (by exact pd_peek 0) (by exact pd_peek 2)) (by exact ad_cons (by exact pd_op (od_of io_fdiv) (by exact pd_peek 1) (by exact pd_peek 2)) ad_nil))))))) : PSs (cxOf (L2.CX prog w) prog w K mg base ["_law_upper", "_law_lower", "_law_part"] "_law_low" (defScope s__law_low) f cdv A outer s H e) (defBody s__law_low) (tS (pm K C E) ⟨F0, none⟩ H (WE0 e) _))
  exact h
abbrev s_Ratio___str__ : Stmt := inClass (top 11) 10
theorem sc_Ratio___str__ : FnScope ["self"] ["self"] (defScope s_Ratio___str__) := ⟨rfl, rfl, rfl, by decide +kernel, rfl, by decide +kernel, by decide +kernel⟩
theorem b_Ratio___str__ (T : Txt prog K mg C E fE) (f : Addr) (cdv : Value) (A : Around) (outer : List PySem.Env) (s : Shared) (H : Hp) (F0 : Hp) (e : XK) (hr : Room 0 (A.deeper (PyProof.Rows.envOfC "Ratio.__str__" (defScope s_Ratio___str__) s.heap.objs.size f cdv))) :
    PSs (cxOf (L2.CX prog w) prog w K mg base ["self"] "Ratio.__str__" (defScope s_Ratio___str__) f cdv A outer s H e) (defBody s_Ratio___str__) (tS (pm K C E) ⟨F0, none⟩ H (WE0 e) g_Ratio___str__) := by
  have sc := sc_Ratio___str__
  have tk : Takes (cxOf (L2.CX prog w) prog w K mg base ["self"] "Ratio.__str__" (defScope s_Ratio___str__) f cdv A outer s H e) (WE0 e) := takes_of rfl rfl rfl rfl
  have h := ((by exact sd_cons (by exact sd_if (by exact td_pc (by exact pd_pc (od_of (io_eq hr.units)) (by exact toV (by exact pd_fld (by exact pd_peek 0) T.f_bottom)) (by exact toV pd_int)) (nomark _)) (by exact sd_one (by exact sd_ret (by exact pd_f1 (by exact pf_fmt (by exact pd_fld (by exact pd_peek 0) T.f_top))))) sd_nil) (by exact sd_one (by exact sd_ret (by exact pd_f3 (by exact pf_fmt (by exact pd_fld (by exact pd_peek 0) T.f_top)) pf_str (by exact pf_fmt (by exact pd_fld (by exact pd_peek 0) T.f_bottom)))))) : PSs (cxOf (L2.CX prog w) prog w K mg base ["self"] "Ratio.__str__" (defScope s_Ratio___str__) f cdv A outer s H e) (defBody s_Ratio___str__) (tS (pm K C E) ⟨F0, none⟩ H (WE0 e) _))
  exact h
abbrev s__law_number_text : Stmt := top 24
theorem sc__law_number_text : FnScope ["_law_x"] ["_law_x"] (defScope s__law_number_text) := ⟨rfl, rfl, rfl, by decide +kernel, rfl, by decide +kernel, by decide +kernel⟩
theorem b__law_number_text (T : Txt prog K mg C E fE) (c___str__ : OwnD prog w K mg base (pm K C E) 1 "__str__" 0 1 G_Ratio___str__) (f : Addr) (cdv : Value) (A : Around) (outer : List PySem.Env) (s : Shared) (H : Hp) (F0 : Hp) (e : XK) (hr : Room 3 (A.deeper (PyProof.Rows.envOfC "_law_number_text" (defScope s__law_number_text) s.heap.objs.size f cdv))) :
    PSs (cxOf (L2.CX prog w) prog w K mg base ["_law_x"] "_law_number_text" (defScope s__law_number_text) f cdv A outer s H e) (defBody s__law_number_text) (tS (pm K C E) ⟨F0, none⟩ H (WE0 e) g__law_number_text) := by
  have sc := sc__law_number_text
  have tk : Takes (cxOf (L2.CX prog w) prog w K mg base ["_law_x"] "_law_number_text" (defScope s__law_number_text) f cdv A outer s H e) (WE0 e) := takes_of rfl rfl rfl rfl
  have h := ((by exact sd_cons (by exact sd_if (by exact td_pc (by exact pd_pc (od_of (io_eq hr.units)) (by exact toV (by exact pd_ix (by exact pd_peek 0) (by exact toV pd_int) (fun _ _ => rfl))) (by exact toV pd_int)) (nomark _)) (by exact sd_one (by exact sd_ret (by exact pd_stD c___str__ (hr.mono (by decide)) tk T.b_str (by exact pd_ix (by exact pd_peek 0) (by exact toV pd_int) (fun _ _ => rfl))))) sd_nil) (by exact sd_one (by exact sd_ret (by exact pd_op (od_of io_addA) (by exact toV (by exact pd_op (od_of io_addA) (by exact toV (by exact pd_stD c___str__ (hr.mono (by decide)) tk T.b_str (by exact pd_ix (by exact pd_peek 0) (by exact toV pd_int) (fun _ _ => rfl)))) (by exact toV pd_str))) (by exact toV (by exact pd_stD c___str__ (hr.mono (by decide)) tk T.b_str (by exact pd_ix (by exact pd_peek 0) (by exact toV pd_int) (fun _ _ => rfl)))))))) : PSs (cxOf (L2.CX prog w) prog w K mg base ["_law_x"] "_law_number_text" (defScope s__law_number_text) f cdv A outer s H e) (defBody s__law_number_text) (tS (pm K C E) ⟨F0, none⟩ H (WE0 e) _))
  exact h
abbrev s_is_count : Stmt := top 12
theorem sc_is_count : FnScope ["text", "sign"] ["text"] (defScope s_is_count) := ⟨rfl, rfl, rfl, by decide +kernel, rfl, by decide +kernel, by decide +kernel⟩
theorem b_is_count (T : Txt prog K mg C E fE) (f : Addr) (cdv : Value) (A : Around) (outer : List PySem.Env) (s : Shared) (H : Hp) (F0 : Hp) (e : XK) (hr : Room 0 (A.deeper (PyProof.Rows.envOfC "is_count" (defScope s_is_count) s.heap.objs.size f cdv))) :
    PSs (cxOf (L2.CX prog w) prog w K mg base ["text", "sign"] "is_count" (defScope s_is_count) f cdv A outer s H e) (defBody s_is_count) (tS (pm K C E) ⟨F0, none⟩ H (WE0 e) g_is_count) := by
  have sc := sc_is_count
  have tk : Takes (cxOf (L2.CX prog w) prog w K mg base ["text", "sign"] "is_count" (defScope s_is_count) f cdv A outer s H e) (WE0 e) := takes_of rfl rfl rfl rfl
  have h := ((by exact sd_cons (by exact sd_if (by exact PW.pt (by exact td_or (by exact td_pc (by exact pd_pc (od_of (io_eq hr.units)) (by exact pd_peek 0) (by exact toV pd_str)) (nomark _)) (by exact td_or1 (by exact td_pc (by exact pd_pc (od_of (io_ne hr.units)) (by exact toV (by exact n2e (by exact nd_lc (own := [("sign", 1)]) (us := [1]) rfl sc.nd (by exact id_seq (by exact pd_name 0)) (by show BlkOk ["text", "sign"] (defScope s_is_count) _ [("sign", 1)]; exact ⟨rfl, by decide +kernel, by decide +kernel, by decide +kernel, by decide +kernel⟩) rfl (fun _ _ _ _ _ => (by exact gd_name (i := 1) (us := [1]) sc.nd rfl (Or.inl rfl))) (fun _ _ _ _ _ => (by exact pts_one (by exact td_pc (by exact pd_pc (od_of io_notInS) (by exact pd_peek 1) (by exact toV (by exact pd_gl rfl T.kDIGITS (by decide)))) rfl))) (fun _ _ _ _ _ => (by exact pd_name 1))))) (by exact toV (by exact pd_lst ad_nil))) (nomark _))))) (by exact sd_one (by exact sd_ret pd_bl)) sd_nil) (by exact sd_one (by exact sd_ret (by exact pd_or (by exact pd_pcv (by exact pd_pc (od_of (io_eq hr.units)) (by exact pd_peek 0) (by exact toV pd_str)) (nomark _)) (by exact pd_one (by exact pd_pcv (by exact pd_pc (od_of (io_ne hr.units)) (by exact toV (by exact pd_ix (by exact pd_peek 0) (by exact toV pd_int) (fun _ _ => rfl))) (by exact toV pd_str)) (nomark _))))))) : PSs (cxOf (L2.CX prog w) prog w K mg base ["text", "sign"] "is_count" (defScope s_is_count) f cdv A outer s H e) (defBody s_is_count) (tS (pm K C E) ⟨F0, none⟩ H (WE0 e) _))
  exact h
abbrev s_halves_of : Stmt := top 8
theorem sc_halves_of : FnScope ["number"] ["number"] (defScope s_halves_of) := ⟨rfl, rfl, rfl, by decide +kernel, rfl, by decide +kernel, by decide +kernel⟩
theorem b_halves_of (T : Txt prog K mg C E fE) (f : Addr) (cdv : Value) (A : Around) (outer : List PySem.Env) (s : Shared) (H : Hp) (F0 : Hp) (e : XK) (hr : Room 0 (A.deeper (PyProof.Rows.envOfC "halves_of" (defScope s_halves_of) s.heap.objs.size f cdv))) :
    PSs (cxOf (L2.CX prog w) prog w K mg base ["number"] "halves_of" (defScope s_halves_of) f cdv A outer s H e) (defBody s_halves_of) (tS (pm K C E) ⟨F0, none⟩ H (WE0 e) g_halves_of) := by
  have sc := sc_halves_of
  have tk : Takes (cxOf (L2.CX prog w) prog w K mg base ["number"] "halves_of" (defScope s_halves_of) f cdv A outer s H e) (WE0 e) := takes_of rfl rfl rfl rfl
  have h := ((by exact sd_one (by exact sd_ret (by exact pd_if (by exact td_val (by exact pd_isi T.isi T.kit_Ratio (.own _) (pe_glob rfl T.g_Ratio rfl) (by exact pd_peek 0) rfl T.b_isinstance)) (by exact pd_tup (by exact ad_cons (by exact pd_fld (by exact pd_peek 0) T.f_top) (by exact ad_cons (by exact pd_fld (by exact pd_peek 0) T.f_bottom) ad_nil))) (by exact pd_tup (by exact ad_cons (by exact pd_name 0) (by exact ad_cons pd_int ad_nil)))))) : PSs (cxOf (L2.CX prog w) prog w K mg base ["number"] "halves_of" (defScope s_halves_of) f cdv A outer s H e) (defBody s_halves_of) (tS (pm K C E) ⟨F0, none⟩ H (WE0 e) _))
  exact h
abbrev s_common : Stmt := top 5
theorem sc_common : FnScope ["one", "two"] ["one", "two"] (defScope s_common) := ⟨rfl, rfl, rfl, by decide +kernel, rfl, by decide +kernel, by decide +kernel⟩
theorem b_common (T : Txt prog K mg C E fE) (f : Addr) (cdv : Value) (A : Around) (outer : List PySem.Env) (s : Shared) (H : Hp) (F0 : Hp) (e : XK) (hr : Room 0 (A.deeper (PyProof.Rows.envOfC "common" (defScope s_common) s.heap.objs.size f cdv))) :
    PSs (cxOf (L2.CX prog w) prog w K mg base ["one", "two"] "common" (defScope s_common) f cdv A outer s H e) (defBody s_common) (tS (pm K C E) ⟨F0, none⟩ H (WE0 e) g_common) := by
  have sc := sc_common
  have tk : Takes (cxOf (L2.CX prog w) prog w K mg base ["one", "two"] "common" (defScope s_common) f cdv A outer s H e) (WE0 e) := takes_of rfl rfl rfl rfl
  have h := ((by exact sd_cons (by exact sd_par (i := 0) (j := 1) rfl sc.nd rfl rfl (by decide) rfl rfl (by exact ad_cons (by exact pd_callB ic_abs rfl T.b_abs (by decide +kernel) (by exact av_cons (by exact pd_peek 0) av_nil)) (by exact ad_cons (by exact pd_callB ic_abs rfl T.b_abs (by decide +kernel) (by exact av_cons (by exact pd_peek 1) av_nil)) ad_nil)) rfl) (by exact sd_cons (by exact sd_while big (passes_of rfl) (by exact td_pc (by exact pd_pc (od_of io_gt) (by exact pd_peek 1) (by exact toV pd_int)) (nomark _)) (by exact sd_one (by exact sd_par (i := 0) (j := 1) rfl sc.nd rfl rfl (by decide) rfl rfl (by exact ad_cons (by exact pd_name 1) (by exact ad_cons (by exact pd_op (od_of io_mod) (by exact pd_peek 0) (by exact pd_peek 1)) ad_nil)) rfl))) (by exact sd_one (by exact sd_ret (by exact pd_name 0))))) : PSs (cxOf (L2.CX prog w) prog w K mg base ["one", "two"] "common" (defScope s_common) f cdv A outer s H e) (defBody s_common) (tS (pm K C E) ⟨F0, none⟩ H (WE0 e) _))
  exact h
abbrev s_Ratio___init__ : Stmt := inClass (top 11) 0
theorem sc_Ratio___init__ : FnScope ["self", "top", "bottom", "share"] ["self", "top", "bottom"] (defScope s_Ratio___init__) := ⟨rfl, rfl, rfl, by decide +kernel, rfl, by decide +kernel, by decide +kernel⟩
theorem b_Ratio___init__ (T : Txt prog K mg C E fE) (c_common : CalD prog w K mg base (pm K C E) 1 "common" 2 G_common) (f : Addr) (cdv : Value) (A : Around) (outer : List PySem.Env) (s : Shared) (H : Hp) (F0 H0 : Hp) (x : Addr) (e : XK) (hr : Room 1 (A.deeper (PyProof.Rows.envOfC "Ratio.__init__" (defScope s_Ratio___init__) s.heap.objs.size f cdv))) :
    PSs (cxOf (L2.CX prog w) prog w K mg base ["self", "top", "bottom", "share"] "Ratio.__init__" (defScope s_Ratio___init__) f cdv A outer s H e) (defBody s_Ratio___init__) (tS (pm K C E) ⟨F0, some x⟩ H0 (WE0 e) g_Ratio___init__) := by
  have sc := sc_Ratio___init__
  have tk : Takes (cxOf (L2.CX prog w) prog w K mg base ["self", "top", "bottom", "share"] "Ratio.__init__" (defScope s_Ratio___init__) f cdv A outer s H e) (WE0 e) := takes_of rfl rfl rfl rfl
  have h := ((by exact sd_cons (by exact sd_if (by exact td_pc (by exact pd_pc (od_of (io_eq hr.units)) (by exact pd_peek 2) (by exact toV pd_int)) (nomark _)) (by exact sd_one sd_never) sd_nil) (by exact sd_cons (by exact sd_set (i := 3) sc.nd rfl (Or.inl rfl) (by exact pd_cal c_common (hr.mono (by decide)) tk (by exact ad_cons (by exact pd_name 1) (by exact ad_cons (by exact pd_name 2) ad_nil)))) (by exact sd_cons (by exact sd_if (by exact td_pc (by exact pd_pc (od_of io_lt) (by exact pd_peek 2) (by exact toV pd_int)) (nomark _)) (by exact sd_one (by exact sd_set (i := 3) sc.nd rfl (Or.inl rfl) (by exact pd_un (ud_of io_neg) (by exact pd_peek 3)))) sd_nil) (by exact sd_cons (by exact sd_fld (i := 0) T.s_top T.nd (by exact pd_op (od_of io_fdiv) (by exact pd_peek 1) (by exact pd_peek 3))) (by exact sd_one (by exact sd_fld (i := 0) T.s_bottom T.nd (by exact pd_op (od_of io_fdiv) (by exact pd_peek 2) (by exact pd_peek 3)))))))) : PSs (cxOf (L2.CX prog w) prog w K mg base ["self", "top", "bottom", "share"] "Ratio.__init__" (defScope s_Ratio___init__) f cdv A outer s H e) (defBody s_Ratio___init__) (tS (pm K C E) ⟨F0, some x⟩ H0 (WE0 e) _))
  exact h
abbrev s_plain : Stmt := top 9
theorem sc_plain : FnScope ["number", "top", "bottom"] ["number"] (defScope s_plain) := ⟨rfl, rfl, rfl, by decide +kernel, rfl, by decide +kernel, by decide +kernel⟩
theorem b_plain (T : Txt prog K mg C E fE) (c_halves_of : CalD prog w K mg base (pm K C E) 1 "halves_of" 1 G_halves_of) (f : Addr) (cdv : Value) (A : Around) (outer : List PySem.Env) (s : Shared) (H : Hp) (F0 : Hp) (e : XK) (hr : Room 1 (A.deeper (PyProof.Rows.envOfC "plain" (defScope s_plain) s.heap.objs.size f cdv))) :
    PSs (cxOf (L2.CX prog w) prog w K mg base ["number", "top", "bottom"] "plain" (defScope s_plain) f cdv A outer s H e) (defBody s_plain) (tS (pm K C E) ⟨F0, none⟩ H (WE0 e) g_plain) := by
  have sc := sc_plain
  have tk : Takes (cxOf (L2.CX prog w) prog w K mg base ["number", "top", "bottom"] "plain" (defScope s_plain) f cdv A outer s H e) (WE0 e) := takes_of rfl rfl rfl rfl
  have h := ((by exact sd_cons (by exact sd_asg (by exact pd_cal c_halves_of (hr.mono (by decide)) tk (by exact ad_cons (by exact pd_name 0) ad_nil)) (by exact gd_tup rfl (by exact gd_cons (by exact gd_name (i := 1) (us := [1, 2]) sc.nd rfl (Or.inl rfl)) (by exact gd_cons (by exact gd_name (i := 2) (us := [1, 2]) sc.nd rfl (Or.inl rfl)) gd_nil)))) (by exact sd_one (by exact sd_ret (by exact pd_if (by exact td_pc (by exact pd_pc (od_of (io_eq hr.units)) (by exact pd_peek 2) (by exact toV pd_int)) (nomark _)) (by exact pd_name 1) (by exact pd_name 0))))) : PSs (cxOf (L2.CX prog w) prog w K mg base ["number", "top", "bottom"] "plain" (defScope s_plain) f cdv A outer s H e) (defBody s_plain) (tS (pm K C E) ⟨F0, none⟩ H (WE0 e) _))
  exact h
abbrev s_quotient : Stmt := top 10
theorem sc_quotient : FnScope ["one", "two", "top", "bottom", "under", "over"] ["one", "two"] (defScope s_quotient) := ⟨rfl, rfl, rfl, by decide +kernel, rfl, by decide +kernel, by decide +kernel⟩
theorem b_quotient (T : Txt prog K mg C E fE) (c_halves_of : CalD prog w K mg base (pm K C E) 1 "halves_of" 1 G_halves_of) (c_Ratio : MkD prog w K mg base (pm K C E) 2 "Ratio" 0 2 G_Ratio___init__) (c_plain : CalD prog w K mg base (pm K C E) 2 "plain" 1 G_plain) (f : Addr) (cdv : Value) (A : Around) (outer : List PySem.Env) (s : Shared) (H : Hp) (F0 : Hp) (e : XK) (hr : Room 3 (A.deeper (PyProof.Rows.envOfC "quotient" (defScope s_quotient) s.heap.objs.size f cdv))) :
    PSs (cxOf (L2.CX prog w) prog w K mg base ["one", "two", "top", "bottom", "under", "over"] "quotient" (defScope s_quotient) f cdv A outer s H e) (defBody s_quotient) (tS (pm K C E) ⟨F0, none⟩ H (WE0 e) g_quotient) := by
  have sc := sc_quotient
  have tk : Takes (cxOf (L2.CX prog w) prog w K mg base ["one", "two", "top", "bottom", "under", "over"] "quotient" (defScope s_quotient) f cdv A outer s H e) (WE0 e) := takes_of rfl rfl rfl rfl
  have h := ((by exact sd_cons (by exact sd_asg (by exact pd_cal c_halves_of (hr.mono (by decide)) tk (by exact ad_cons (by exact pd_name 0) ad_nil)) (by exact gd_tup rfl (by exact gd_cons (by exact gd_name (i := 2) (us := [2, 3]) sc.nd rfl (Or.inl rfl)) (by exact gd_cons (by exact gd_name (i := 3) (us := [2, 3]) sc.nd rfl (Or.inl rfl)) gd_nil)))) (by exact sd_cons (by exact sd_asg (by exact pd_cal c_halves_of (hr.mono (by decide)) tk (by exact ad_cons (by exact pd_name 1) ad_nil)) (by exact gd_tup rfl (by exact gd_cons (by exact gd_name (i := 4) (us := [4, 5]) sc.nd rfl (Or.inl rfl)) (by exact gd_cons (by exact gd_name (i := 5) (us := [4, 5]) sc.nd rfl (Or.inl rfl)) gd_nil)))) (by exact sd_one (by exact sd_ret (by exact pd_cal c_plain (hr.mono (by decide)) tk (by exact ad_cons (by exact pd_mk c_Ratio (hr.mono (by decide)) tk (by exact ad_cons (by exact pd_op (od_of io_mul) (by exact pd_peek 2) (by exact pd_peek 5)) (by exact ad_cons (by exact pd_op (od_of io_mul) (by exact pd_peek 3) (by exact pd_peek 4)) ad_nil))) ad_nil)))))) : PSs (cxOf (L2.CX prog w) prog w K mg base ["one", "two", "top", "bottom", "under", "over"] "quotient" (defScope s_quotient) f cdv A outer s H e) (defBody s_quotient) (tS (pm K C E) ⟨F0, none⟩ H (WE0 e) _))
  exact h
abbrev s_read_count : Stmt := top 13
theorem sc_read_count : FnScope ["text", "words", "word"] ["text"] (defScope s_read_count) := ⟨rfl, rfl, rfl, by decide +kernel, rfl, by decide +kernel, by decide +kernel⟩
theorem b_read_count (T : Txt prog K mg C E fE) (c_is_count : CalD prog w K mg base (pm K C E) 1 "is_count" 1 G_is_count) (c_quotient : CalD prog w K mg base (pm K C E) 4 "quotient" 2 G_quotient) (f : Addr) (cdv : Value) (A : Around) (outer : List PySem.Env) (s : Shared) (H : Hp) (F0 : Hp) (e : XK) (hr : Room 4 (A.deeper (PyProof.Rows.envOfC "read_count" (defScope s_read_count) s.heap.objs.size f cdv))) :
    PSs (cxOf (L2.CX prog w) prog w K mg base ["text", "words", "word"] "read_count" (defScope s_read_count) f cdv A outer s H e) (defBody s_read_count) (tS (pm K C E) ⟨F0, none⟩ H (WE0 e) g_read_count) := by
  have sc := sc_read_count
  have tk : Takes (cxOf (L2.CX prog w) prog w K mg base ["text", "words", "word"] "read_count" (defScope s_read_count) f cdv A outer s H e) (WE0 e) := takes_of rfl rfl rfl rfl
  have h := ((by exact sd_cons (by exact sd_set (i := 1) sc.nd rfl (Or.inl rfl) (by exact n2e (by exact nd_split (by exact pd_name 0) pd_str))) (by exact sd_cons (by exact sd_if (by exact PW.pt (by exact td_or (by exact td_pc (by exact pd_pc (od_of io_gt) (by exact toV (by exact pd_callB ic_len rfl T.b_len (by decide +kernel) (by exact av_cons (by exact pd_peek 1) av_nil))) (by exact toV pd_int)) (nomark _)) (by exact td_or (by exact td_not (by exact td_val (by exact pd_callB (ic_all rfl) rfl T.b_all (by decide +kernel) (by exact av_cons (by exact toV (by exact n2e (by exact nd_lc (own := [("word", 2)]) (us := [2]) rfl sc.nd (by exact id_seq (by exact pd_name 1)) (by show BlkOk ["text", "words", "word"] (defScope s_read_count) _ [("word", 2)]; exact ⟨rfl, by decide +kernel, by decide +kernel, by decide +kernel, by decide +kernel⟩) rfl (fun _ _ _ _ _ => (by exact gd_name (i := 2) (us := [2]) sc.nd rfl (Or.inl rfl))) (fun _ _ _ _ _ => td_yes) (fun _ _ _ _ _ => (by exact pd_cal c_is_count (hr.mono (by decide)) takes0 (by exact ad_cons (by exact pd_name 2) ad_nil)))))) av_nil)))) (by exact td_or1 (by exact td_pc (by exact pd_pc (od_of (io_eq hr.units)) (by exact toV (by exact pd_slc (by exact pd_peek 1) (by exact po_so pd_int) po_no)) (by exact toV (by exact pd_lst (by exact ad_cons pd_str ad_nil)))) (nomark _)))))) (by exact sd_one (by exact sd_ret pd_non)) sd_nil) (by exact sd_one (by exact sd_ret (by exact pd_cal c_quotient (hr.mono (by decide)) tk (by exact ad_cons (by exact pd_callTy ic_int2 rfl T.b_int (by decide +kernel) (by exact av_cons (by exact toV (by exact pd_ix (by exact pd_peek 1) (by exact toV pd_int) (fun _ _ => rfl))) av_nil)) (by exact ad_cons (by exact pd_if (by exact td_pc (by exact pd_pc (od_of (io_eq hr.units)) (by exact toV (by exact pd_callB ic_len rfl T.b_len (by decide +kernel) (by exact av_cons (by exact pd_peek 1) av_nil))) (by exact toV pd_int)) (nomark _)) (by exact pd_callTy ic_int2 rfl T.b_int (by decide +kernel) (by exact av_cons (by exact toV (by exact pd_ix (by exact pd_peek 1) (by exact toV (by exact pd_un (ud_of io_neg) (by exact toV pd_int))) (fun _ _ => rfl))) av_nil)) pd_int) ad_nil))))))) : PSs (cxOf (L2.CX prog w) prog w K mg base ["text", "words", "word"] "read_count" (defScope s_read_count) f cdv A outer s H e) (defBody s_read_count) (tS (pm K C E) ⟨F0, none⟩ H (WE0 e) _))
  exact h
abbrev s_Ratio___neg__ : Stmt := inClass (top 11) 3
theorem sc_Ratio___neg__ : FnScope ["self"] ["self"] (defScope s_Ratio___neg__) := ⟨rfl, rfl, rfl, by decide +kernel, rfl, by decide +kernel, by decide +kernel⟩
theorem b_Ratio___neg__ (T : Txt prog K mg C E fE) (c_Ratio : MkD prog w K mg base (pm K C E) 2 "Ratio" 0 2 G_Ratio___init__) (f : Addr) (cdv : Value) (A : Around) (outer : List PySem.Env) (s : Shared) (H : Hp) (F0 : Hp) (e : XK) (hr : Room 3 (A.deeper (PyProof.Rows.envOfC "Ratio.__neg__" (defScope s_Ratio___neg__) s.heap.objs.size f cdv))) :
    PSs (cxOf (L2.CX prog w) prog w K mg base ["self"] "Ratio.__neg__" (defScope s_Ratio___neg__) f cdv A outer s H e) (defBody s_Ratio___neg__) (tS (pm K C E) ⟨F0, none⟩ H (WE0 e) g_Ratio___neg__) := by
  have sc := sc_Ratio___neg__
  have tk : Takes (cxOf (L2.CX prog w) prog w K mg base ["self"] "Ratio.__neg__" (defScope s_Ratio___neg__) f cdv A outer s H e) (WE0 e) := takes_of rfl rfl rfl rfl
  have h := ((by exact sd_one (by exact sd_ret (by exact pd_mk c_Ratio (hr.mono (by decide)) tk (by exact ad_cons (by exact pd_un (ud_of io_neg) (by exact toV (by exact pd_fld (by exact pd_peek 0) T.f_top))) (by exact ad_cons (by exact pd_fld (by exact pd_peek 0) T.f_bottom) ad_nil))))) : PSs (cxOf (L2.CX prog w) prog w K mg base ["self"] "Ratio.__neg__" (defScope s_Ratio___neg__) f cdv A outer s H e) (defBody s_Ratio___neg__) (tS (pm K C E) ⟨F0, none⟩ H (WE0 e) _))
  exact h
abbrev s_read_number : Stmt := top 14
theorem sc_read_number : FnScope ["text", "number"] ["text"] (defScope s_read_number) := ⟨rfl, rfl, rfl, by decide +kernel, rfl, by decide +kernel, by decide +kernel⟩
theorem b_read_number (T : Txt prog K mg C E fE) (c_read_count : CalD prog w K mg base (pm K C E) 5 "read_count" 1 G_read_count) (c___neg__ : OwnD prog w K mg base (pm K C E) 4 "__neg__" 0 1 G_Ratio___neg__) (c___str__ : OwnD prog w K mg base (pm K C E) 1 "__str__" 0 1 G_Ratio___str__) (f : Addr) (cdv : Value) (A : Around) (outer : List PySem.Env) (s : Shared) (H : Hp) (F0 : Hp) (e : XK) (hr : Room 5 (A.deeper (PyProof.Rows.envOfC "read_number" (defScope s_read_number) s.heap.objs.size f cdv))) :
    PSs (cxOf (L2.CX prog w) prog w K mg base ["text", "number"] "read_number" (defScope s_read_number) f cdv A outer s H e) (defBody s_read_number) (tS (pm K C E) ⟨F0, none⟩ H (WE0 e) g_read_number) := by
  have sc := sc_read_number
  have tk : Takes (cxOf (L2.CX prog w) prog w K mg base ["text", "number"] "read_number" (defScope s_read_number) f cdv A outer s H e) (WE0 e) := takes_of rfl rfl rfl rfl
  have h := ((by exact sd_cons (by exact sd_set (i := 1) sc.nd rfl (Or.inl rfl) (by exact pd_cal c_read_count (hr.mono (by decide)) tk (by exact ad_cons (by exact pd_if (by exact td_pc (by exact pd_pc (od_of (io_eq hr.units)) (by exact toV (by exact pd_slc (by exact pd_peek 0) po_no (by exact po_so pd_int))) (by exact toV pd_str)) (nomark _)) (by exact pd_slc (by exact pd_peek 0) (by exact po_so pd_int) po_no) (by exact pd_name 0)) ad_nil))) (by exact sd_cons (by exact sd_if (by exact td_pc (by exact pd_isN (by exact pd_peek 1)) (nomark _)) (by exact sd_one (by exact sd_raise (cn := 0) (k := 1) rfl tk T.e_NoText rfl rfl T.fo_NoText (hr.mono (by decide)) (by exact pd_name 0) rfl (by decide))) sd_nil) (by exact sd_cons (by exact sd_set (i := 1) sc.nd rfl (Or.inl rfl) (by exact pd_if (by exact td_pc (by exact pd_pc (od_of (io_eq hr.units)) (by exact toV (by exact pd_slc (by exact pd_peek 0) po_no (by exact po_so pd_int))) (by exact toV pd_str)) (nomark _)) (by exact pd_ngD c___neg__ (hr.mono (by decide)) tk (by exact pd_name 1)) (by exact pd_name 1))) (by exact sd_cons (by exact sd_if (by exact td_pc (by exact pd_pc (od_of (io_ne hr.units)) (by exact toV (by exact pd_stD c___str__ (hr.mono (by decide)) tk T.b_str (by exact pd_name 1))) (by exact pd_peek 0)) (nomark _)) (by exact sd_one (by exact sd_raise (cn := 0) (k := 1) rfl tk T.e_NoText rfl rfl T.fo_NoText (hr.mono (by decide)) (by exact pd_name 0) rfl (by decide))) sd_nil) (by exact sd_one (by exact sd_ret (by exact pd_name 1))))))) : PSs (cxOf (L2.CX prog w) prog w K mg base ["text", "number"] "read_number" (defScope s_read_number) f cdv A outer s H e) (defBody s_read_number) (tS (pm K C E) ⟨F0, none⟩ H (WE0 e) _))
  exact h
abbrev s__law_told : Stmt := top 29
theorem sc__law_told : FnScope ["_law_text", "e"] ["_law_text"] (defScope s__law_told) := ⟨rfl, rfl, rfl, by decide +kernel, rfl, by decide +kernel, by decide +kernel⟩
theorem b__law_told (T : Txt prog K mg C E fE) (c_read_number : CalD prog w K mg base (pm K C E) 6 "read_number" 1 G_read_number) (f : Addr) (cdv : Value) (A : Around) (outer : List PySem.Env) (s : Shared) (H : Hp) (F0 : Hp) (e : XK) (hr : Room 6 (A.deeper (PyProof.Rows.envOfC "_law_told" (defScope s__law_told) s.heap.objs.size f cdv))) :
    PSs (cxOf (L2.CX prog w) prog w K mg base ["_law_text", "e"] "_law_told" (defScope s__law_told) f cdv A outer s H e) (defBody s__law_told) (tS (pm K C E) ⟨F0, none⟩ H (WE0 e) g__law_told) := by
  have sc := sc__law_told
  have tk : Takes (cxOf (L2.CX prog w) prog w K mg base ["_law_text", "e"] "_law_told" (defScope s__law_told) f cdv A outer s H e) (WE0 e) := takes_of rfl rfl rfl rfl
  have h := ((by exact sd_one (by exact sd_tryAs (i := 1) (cn := 0) (gs := (fun p ρ => do let y ← (fun p _ => payD p) p ρ; .ok (.tup [.str "none", y]))) rfl rfl sc.nd rfl rfl ⟨rfl, by decide, Or.inl T.e_NoText.gC⟩ T.x_NoText rfl (fun W pn xe tk po => (by exact sd_one (by exact sd_ret (by exact pd_tup (by exact ad_cons pd_str (by exact ad_cons (by exact pd_cal c_read_number (hr.mono (by decide)) tk (by exact ad_cons (by exact pd_name 0) ad_nil)) ad_nil)))))) (fun a oe cls d pn hz hf => (by exact xd_pair (dv := .str "none") (gx := (fun p _ => payD p)) pe_str (fun F => by rw [Is]) (by exact xd_fe (i := 1) T.e_NoText rfl rfl hz hf rfl (Or.inl rfl)))))) : PSs (cxOf (L2.CX prog w) prog w K mg base ["_law_text", "e"] "_law_told" (defScope s__law_told) f cdv A outer s H e) (defBody s__law_told) (tS (pm K C E) ⟨F0, none⟩ H (WE0 e) _))
  exact h
abbrev s__law_digits : Stmt := top 28
theorem sc__law_digits : FnScope ["_law_part", "_law_sign_here"] ["_law_part"] (defScope s__law_digits) := ⟨rfl, rfl, rfl, by decide +kernel, rfl, by decide +kernel, by decide +kernel⟩
theorem b__law_digits (T : Txt prog K mg C E fE) (f : Addr) (cdv : Value) (A : Around) (outer : List PySem.Env) (s : Shared) (H : Hp) (F0 : Hp) (e : XK) (hr : Room 0 (A.deeper (PyProof.Rows.envOfC "_law_digits" (defScope s__law_digits) s.heap.objs.size f cdv))) :
    PSs (cxOf (L2.CX prog w) prog w K mg base ["_law_part", "_law_sign_here"] "_law_digits" (defScope s__law_digits) f cdv A outer s H e) (defBody s__law_digits) (tS (pm K C E) ⟨F0, none⟩ H (WE0 e) g__law_digits) := by
  have sc := sc__law_digits
  have tk : Takes (cxOf (L2.CX prog w) prog w K mg base ["_law_part", "_law_sign_here"] "_law_digits" (defScope s__law_digits) f cdv A outer s H e) (WE0 e) := takes_of rfl rfl rfl rfl
  have h := ((by exact sd_cons (by exact sd_if (by exact PW.pt (by exact td_or (by exact td_pc (by exact pd_pc (od_of (io_eq hr.units)) (by exact pd_peek 0) (by exact toV pd_str)) (nomark _)) (by exact td_or1 (by exact td_pc (by exact pd_pc (od_of (io_ne hr.units)) (by exact toV (by exact n2e (by exact nd_lc (own := [("_law_sign_here", 1)]) (us := [1]) rfl sc.nd (by exact id_seq (by exact pd_name 0)) (by show BlkOk ["_law_part", "_law_sign_here"] (defScope s__law_digits) _ [("_law_sign_here", 1)]; exact ⟨rfl, by decide +kernel, by decide +kernel, by decide +kernel, by decide +kernel⟩) rfl (fun _ _ _ _ _ => (by exact gd_name (i := 1) (us := [1]) sc.nd rfl (Or.inl rfl))) (fun _ _ _ _ _ => (by exact pts_one (by exact td_pc (by exact pd_pc (od_of io_notInS) (by exact pd_peek 1) (by exact toV pd_str)) rfl))) (fun _ _ _ _ _ => (by exact pd_name 1))))) (by exact toV (by exact pd_lst ad_nil))) (nomark _))))) (by exact sd_one (by exact sd_ret pd_bl)) sd_nil) (by exact sd_one (by exact sd_ret (by exact pd_or (by exact pd_pcv (by exact pd_pc (od_of (io_eq hr.units)) (by exact pd_peek 0) (by exact toV pd_str)) (nomark _)) (by exact pd_one (by exact pd_pcv (by exact pd_pc (od_of (io_ne hr.units)) (by exact toV (by exact pd_ix (by exact pd_peek 0) (by exact toV pd_int) (fun _ _ => rfl))) (by exact toV pd_str)) (nomark _))))))) : PSs (cxOf (L2.CX prog w) prog w K mg base ["_law_part", "_law_sign_here"] "_law_digits" (defScope s__law_digits) f cdv A outer s H e) (defBody s__law_digits) (tS (pm K C E) ⟨F0, none⟩ H (WE0 e) _))
  exact h
abbrev s__law_read : Stmt := top 27
theorem sc__law_read : FnScope ["_law_text", "_law_body", "_law_parts", "_law_part", "_law_upper", "_law_lower"] ["_law_text"] (defScope s__law_read) := ⟨rfl, rfl, rfl, by decide +kernel, rfl, by decide +kernel, by decide +kernel⟩
theorem b__law_read (T : Txt prog K mg C E fE) (c__law_digits : CalD prog w K mg base (pm K C E) 1 "_law_digits" 1 G__law_digits) (c__law_share : CalD prog w K mg base (pm K C E) 1 "_law_share" 2 G__law_share) (f : Addr) (cdv : Value) (A : Around) (outer : List PySem.Env) (s : Shared) (H : Hp) (F0 : Hp) (e : XK) (hr : Room 1 (A.deeper (PyProof.Rows.envOfC "_law_read" (defScope s__law_read) s.heap.objs.size f cdv))) :
    PSs (cxOf (L2.CX prog w) prog w K mg base ["_law_text", "_law_body", "_law_parts", "_law_part", "_law_upper", "_law_lower"] "_law_read" (defScope s__law_read) f cdv A outer s H e) (defBody s__law_read) (tS (pm K C E) ⟨F0, none⟩ H (WE0 e) g__law_read) := by
  have sc := sc__law_read
  have tk : Takes (cxOf (L2.CX prog w) prog w K mg base ["_law_text", "_law_body", "_law_parts", "_law_part", "_law_upper", "_law_lower"] "_law_read" (defScope s__law_read) f cdv A outer s H e) (WE0 e) := takes_of rfl rfl rfl rfl
  have h := ((by exact sd_cons (by exact sd_set (i := 1) sc.nd rfl (Or.inl rfl) (by exact pd_if (by exact td_pc (by exact pd_pc (od_of (io_eq hr.units)) (by exact toV (by exact pd_slc (by exact pd_peek 0) po_no (by exact po_so pd_int))) (by exact toV pd_str)) (nomark _)) (by exact pd_slc (by exact pd_peek 0) (by exact po_so pd_int) po_no) (by exact pd_name 0))) (by exact sd_cons (by exact sd_set (i := 2) sc.nd rfl (Or.inl rfl) (by exact n2e (by exact nd_split (by exact pd_name 1) pd_str))) (by exact sd_cons (by exact sd_if (by exact PW.pt (by exact td_or (by exact td_pc (by exact pd_pc (od_of io_gt) (by exact toV (by exact pd_callB ic_len rfl T.b_len (by decide +kernel) (by exact av_cons (by exact pd_peek 2) av_nil))) (by exact toV pd_int)) (nomark _)) (by exact td_or1 (by exact td_not (by exact td_val (by exact pd_callB (ic_all rfl) rfl T.b_all (by decide +kernel) (by exact av_cons (by exact toV (by exact n2e (by exact nd_lc (own := [("_law_part", 3)]) (us := [3]) rfl sc.nd (by exact id_seq (by exact pd_name 2)) (by show BlkOk ["_law_text", "_law_body", "_law_parts", "_law_part", "_law_upper", "_law_lower"] (defScope s__law_read) _ [("_law_part", 3)]; exact ⟨rfl, by decide +kernel, by decide +kernel, by decide +kernel, by decide +kernel⟩) rfl (fun _ _ _ _ _ => (by exact gd_name (i := 3) (us := [3]) sc.nd rfl (Or.inl rfl))) (fun _ _ _ _ _ => td_yes) (fun _ _ _ _ _ => (by exact pd_cal c__law_digits (hr.mono (by decide)) takes0 (by exact ad_cons (by exact pd_name 3) ad_nil)))))) av_nil))))))) (by exact sd_one (by exact sd_ret pd_non)) sd_nil) (by exact sd_cons (by exact sd_par (i := 4) (j := 5) rfl sc.nd rfl rfl (by decide) rfl rfl (by exact ad_cons (by exact pd_callTy ic_int2 rfl T.b_int (by decide +kernel) (by exact av_cons (by exact toV (by exact pd_ix (by exact pd_peek 2) (by exact toV pd_int) (fun _ _ => rfl))) av_nil)) (by exact ad_cons (by exact pd_if (by exact td_pc (by exact pd_pc (od_of (io_eq hr.units)) (by exact toV (by exact pd_callB ic_len rfl T.b_len (by decide +kernel) (by exact av_cons (by exact pd_peek 2) av_nil))) (by exact toV pd_int)) (nomark _)) (by exact pd_callTy ic_int2 rfl T.b_int (by decide +kernel) (by exact av_cons (by exact toV (by exact pd_ix (by exact pd_peek 2) (by exact toV (by exact pd_un (ud_of io_neg) (by exact toV pd_int))) (fun _ _ => rfl))) av_nil)) pd_int) ad_nil)) rfl) (by exact sd_cons (by exact sd_if (by exact PW.pt (by exact td_or (by exact td_pc (by exact pd_pc (od_of (io_eq hr.units)) (by exact pd_peek 5) (by exact toV pd_int)) (nomark _)) (by exact td_or (by exact PW.pt (by exact td_and (by exact td_pc (by exact pd_pc (od_of (io_eq hr.units)) (by exact toV (by exact pd_callB ic_len rfl T.b_len (by decide +kernel) (by exact av_cons (by exact pd_peek 2) av_nil))) (by exact toV pd_int)) (nomark _)) (by exact td_and1 (by exact td_pc (by exact pd_pc (od_of (io_eq hr.units)) (by exact pd_peek 5) (by exact toV pd_int)) (nomark _))))) (by exact td_or1 (by exact PW.pt (by exact td_and (by exact td_pc (by exact pd_pc (od_of io_gt) (by exact toV (by exact pd_cal c__law_share (hr.mono (by decide)) tk (by exact ad_cons (by exact pd_name 4) (by exact ad_cons (by exact pd_name 5) ad_nil)))) (by exact toV pd_int)) (nomark _)) (by exact td_and1 (by exact td_pc (by exact pd_pc (od_of (io_eq hr.units)) (by exact toV (by exact pd_callB ic_len rfl T.b_len (by decide +kernel) (by exact av_cons (by exact pd_peek 2) av_nil))) (by exact toV pd_int)) (nomark _))))))))) (by exact sd_one (by exact sd_ret pd_non)) sd_nil) (by exact sd_cons (by exact sd_if (by exact PW.pt (by exact td_or (by exact PW.pt (by exact td_and (by exact td_pc (by exact pd_pc (od_of (io_eq hr.units)) (by exact toV (by exact pd_slc (by exact pd_peek 0) po_no (by exact po_so pd_int))) (by exact toV pd_str)) (nomark _)) (by exact td_and1 (by exact td_pc (by exact pd_pc (od_of (io_eq hr.units)) (by exact pd_peek 4) (by exact toV pd_int)) (nomark _))))) (by exact td_or1 (by exact PW.pt (by exact td_and (by exact td_pc (by exact pd_pc (od_of (io_eq hr.units)) (by exact pd_peek 4) (by exact toV pd_int)) (nomark _)) (by exact td_and1 (by exact td_pc (by exact pd_pc (od_of (io_eq hr.units)) (by exact toV (by exact pd_callB ic_len rfl T.b_len (by decide +kernel) (by exact av_cons (by exact pd_peek 2) av_nil))) (by exact toV pd_int)) (nomark _)))))))) (by exact sd_one (by exact sd_ret pd_non)) sd_nil) (by exact sd_one (by exact sd_ret (by exact pd_tup (by exact ad_cons (by exact pd_if (by exact td_pc (by exact pd_pc (od_of (io_eq hr.units)) (by exact toV (by exact pd_slc (by exact pd_peek 0) po_no (by exact po_so pd_int))) (by exact toV pd_str)) (nomark _)) (by exact pd_un (ud_of io_neg) (by exact pd_peek 4)) (by exact pd_name 4)) (by exact ad_cons (by exact pd_name 5) ad_nil))))))))))) : PSs (cxOf (L2.CX prog w) prog w K mg base ["_law_text", "_law_body", "_law_parts", "_law_part", "_law_upper", "_law_lower"] "_law_read" (defScope s__law_read) f cdv A outer s H e) (defBody s__law_read) (tS (pm K C E) ⟨F0, none⟩ H (WE0 e) _))
  exact h
abbrev s__law_is : Stmt := top 23
theorem sc__law_is : FnScope ["_law_number", "_law_x"] ["_law_number", "_law_x"] (defScope s__law_is) := ⟨rfl, rfl, rfl, by decide +kernel, rfl, by decide +kernel, by decide +kernel⟩
theorem b__law_is (T : Txt prog K mg C E fE) (f : Addr) (cdv : Value) (A : Around) (outer : List PySem.Env) (s : Shared) (H : Hp) (F0 : Hp) (e : XK) (hr : Room 0 (A.deeper (PyProof.Rows.envOfC "_law_is" (defScope s__law_is) s.heap.objs.size f cdv))) :
    PSs (cxOf (L2.CX prog w) prog w K mg base ["_law_number", "_law_x"] "_law_is" (defScope s__law_is) f cdv A outer s H e) (defBody s__law_is) (tS (pm K C E) ⟨F0, none⟩ H (WE0 e) g__law_is) := by
  have sc := sc__law_is
  have tk : Takes (cxOf (L2.CX prog w) prog w K mg base ["_law_number", "_law_x"] "_law_is" (defScope s__law_is) f cdv A outer s H e) (WE0 e) := takes_of rfl rfl rfl rfl
  have h := ((by exact sd_cons (by exact sd_if (by exact td_pc (by exact pd_pc (od_of (io_eq hr.units)) (by exact toV (by exact pd_ix (by exact pd_peek 1) (by exact toV pd_int) (fun _ _ => rfl))) (by exact toV pd_int)) (nomark _)) (by exact sd_one (by exact sd_ret (by exact pd_and (by exact pd_isi T.isi T.kit_int (.ty "int") (pe_bltn rfl T.b_int (by decide +kernel) rfl) (by exact pd_peek 0) rfl T.b_isinstance) (by exact pd_and (by exact pd_not (by exact pd_isi T.isi T.kit_bool (.ty "bool") (pe_bltn rfl T.b_bool (by decide +kernel) rfl) (by exact pd_peek 0) rfl T.b_isinstance)) (by exact pd_one (by exact pd_pcv (by exact pd_pc (od_of (io_eq hr.units)) (by exact pd_peek 0) (by exact toV (by exact pd_ix (by exact pd_peek 1) (by exact toV pd_int) (fun _ _ => rfl)))) (nomark _))))))) sd_nil) (by exact sd_one (by exact sd_ret (by exact pd_and (by exact pd_isi T.isi T.kit_Ratio (.own _) (pe_glob rfl T.g_Ratio rfl) (by exact pd_peek 0) rfl T.b_isinstance) (by exact pd_one (by exact pd_pcv (by exact pd_pc (od_of (io_eq hr.units)) (by exact toV (by exact pd_tup (by exact ad_cons (by exact pd_fld (by exact pd_peek 0) T.f_top) (by exact ad_cons (by exact pd_fld (by exact pd_peek 0) T.f_bottom) ad_nil)))) (by exact pd_peek 1)) (nomark _))))))) : PSs (cxOf (L2.CX prog w) prog w K mg base ["_law_number", "_law_x"] "_law_is" (defScope s__law_is) f cdv A outer s H e) (defBody s__law_is) (tS (pm K C E) ⟨F0, none⟩ H (WE0 e) _))
  exact h
abbrev s__law_as_due : Stmt := top 30
theorem sc__law_as_due : FnScope ["_law_text", "_law_due", "_law_told_here"] ["_law_text"] (defScope s__law_as_due) := ⟨rfl, rfl, rfl, by decide +kernel, rfl, by decide +kernel, by decide +kernel⟩
theorem b__law_as_due (T : Txt prog K mg C E fE) (c__law_told : CalD prog w K mg base (pm K C E) 7 "_law_told" 1 G__law_told) (c__law_read : CalD prog w K mg base (pm K C E) 2 "_law_read" 1 G__law_read) (c__law_is : CalD prog w K mg base (pm K C E) 1 "_law_is" 2 G__law_is) (f : Addr) (cdv : Value) (A : Around) (outer : List PySem.Env) (s : Shared) (H : Hp) (F0 : Hp) (e : XK) (hr : Room 7 (A.deeper (PyProof.Rows.envOfC "_law_as_due" (defScope s__law_as_due) s.heap.objs.size f cdv))) :
    PSs (cxOf (L2.CX prog w) prog w K mg base ["_law_text", "_law_due", "_law_told_here"] "_law_as_due" (defScope s__law_as_due) f cdv A outer s H e) (defBody s__law_as_due) (tS (pm K C E) ⟨F0, none⟩ H (WE0 e) g__law_as_due) := by
  have sc := sc__law_as_due
  have tk : Takes (cxOf (L2.CX prog w) prog w K mg base ["_law_text", "_law_due", "_law_told_here"] "_law_as_due" (defScope s__law_as_due) f cdv A outer s H e) (WE0 e) := takes_of rfl rfl rfl rfl
  have h := ((by exact sd_cons (by exact sd_par (i := 1) (j := 2) rfl sc.nd rfl rfl (by decide) rfl rfl (by exact ad_cons (by exact pd_cal c__law_read (hr.mono (by decide)) tk (by exact ad_cons (by exact pd_name 0) ad_nil)) (by exact ad_cons (by exact pd_cal c__law_told (hr.mono (by decide)) tk (by exact ad_cons (by exact pd_name 0) ad_nil)) ad_nil)) rfl) (by exact sd_cons (by exact sd_if (by exact td_pc (by exact pd_isN (by exact pd_peek 1)) (nomark _)) (by exact sd_one (by exact sd_ret (by exact pd_pcv (by exact pd_pc (od_of (io_eq hr.units)) (by exact pd_peek 2) (by exact toV (by exact pd_tup (by exact ad_cons pd_str (by exact ad_cons (by exact pd_name 0) ad_nil))))) (nomark _)))) sd_nil) (by exact sd_one (by exact sd_ret (by exact pd_and (by exact pd_pcv (by exact pd_pc (od_of (io_eq hr.units)) (by exact toV (by exact pd_ix (by exact pd_peek 2) (by exact toV pd_int) (fun _ _ => rfl))) (by exact toV pd_str)) (nomark _)) (by exact pd_one (by exact pd_cal c__law_is (hr.mono (by decide)) tk (by exact ad_cons (by exact pd_ix (by exact pd_peek 2) (by exact toV pd_int) (fun _ _ => rfl)) (by exact ad_cons (by exact pd_name 1) ad_nil))))))))) : PSs (cxOf (L2.CX prog w) prog w K mg base ["_law_text", "_law_due", "_law_told_here"] "_law_as_due" (defScope s__law_as_due) f cdv A outer s H e) (defBody s__law_as_due) (tS (pm K C E) ⟨F0, none⟩ H (WE0 e) _))
  exact h
abbrev s__law_sign : Stmt := top 25
theorem sc__law_sign : FnScope ["_law_k", "_law_signs"] ["_law_k"] (defScope s__law_sign) := ⟨rfl, rfl, rfl, by decide +kernel, rfl, by decide +kernel, by decide +kernel⟩
theorem b__law_sign (T : Txt prog K mg C E fE) (f : Addr) (cdv : Value) (A : Around) (outer : List PySem.Env) (s : Shared) (H : Hp) (F0 : Hp) (e : XK) (hr : Room 0 (A.deeper (PyProof.Rows.envOfC "_law_sign" (defScope s__law_sign) s.heap.objs.size f cdv))) :
    PSs (cxOf (L2.CX prog w) prog w K mg base ["_law_k", "_law_signs"] "_law_sign" (defScope s__law_sign) f cdv A outer s H e) (defBody s__law_sign) (tS (pm K C E) ⟨F0, none⟩ H (WE0 e) g__law_sign) := by
  have sc := sc__law_sign
  have tk : Takes (cxOf (L2.CX prog w) prog w K mg base ["_law_k", "_law_signs"] "_law_sign" (defScope s__law_sign) f cdv A outer s H e) (WE0 e) := takes_of rfl rfl rfl rfl
  have h := ((by exact sd_cons (by exact sd_set (i := 1) sc.nd rfl (Or.inl rfl) pd_str) (by exact sd_cons (by exact sd_set (i := 1) sc.nd rfl (Or.inl rfl) (by exact pd_op (od_of io_addA) (by exact pd_peek 1) (by exact toV pd_str))) (by exact sd_one (by exact sd_ret (by exact pd_ix (by exact pd_peek 1) (by exact toV (by exact pd_op (od_of io_mod) (by exact pd_peek 0) (by exact toV pd_int))) (fun _ _ => rfl)))))) : PSs (cxOf (L2.CX prog w) prog w K mg base ["_law_k", "_law_signs"] "_law_sign" (defScope s__law_sign) f cdv A outer s H e) (defBody s__law_sign) (tS (pm K C E) ⟨F0, none⟩ H (WE0 e) _))
  exact h
abbrev s__law_spoilt : Stmt := top 26
theorem sc__law_spoilt : FnScope ["_law_text", "_law_kind", "_law_place", "_law_k", "_law_at"] ["_law_text", "_law_kind", "_law_place", "_law_k"] (defScope s__law_spoilt) := ⟨rfl, rfl, rfl, by decide +kernel, rfl, by decide +kernel, by decide +kernel⟩
theorem b__law_spoilt (T : Txt prog K mg C E fE) (c__law_sign : CalD prog w K mg base (pm K C E) 1 "_law_sign" 1 G__law_sign) (f : Addr) (cdv : Value) (A : Around) (outer : List PySem.Env) (s : Shared) (H : Hp) (F0 : Hp) (e : XK) (hr : Room 1 (A.deeper (PyProof.Rows.envOfC "_law_spoilt" (defScope s__law_spoilt) s.heap.objs.size f cdv))) :
    PSs (cxOf (L2.CX prog w) prog w K mg base ["_law_text", "_law_kind", "_law_place", "_law_k", "_law_at"] "_law_spoilt" (defScope s__law_spoilt) f cdv A outer s H e) (defBody s__law_spoilt) (tS (pm K C E) ⟨F0, none⟩ H (WE0 e) g__law_spoilt) := by
  have sc := sc__law_spoilt
  have tk : Takes (cxOf (L2.CX prog w) prog w K mg base ["_law_text", "_law_kind", "_law_place", "_law_k", "_law_at"] "_law_spoilt" (defScope s__law_spoilt) f cdv A outer s H e) (WE0 e) := takes_of rfl rfl rfl rfl
  have h := ((by exact sd_cons (by exact sd_set (i := 4) sc.nd rfl (Or.inl rfl) (by exact pd_op (od_of io_mod) (by exact pd_peek 2) (by exact toV (by exact pd_op (od_of io_addA) (by exact toV (by exact pd_callB ic_len rfl T.b_len (by decide +kernel) (by exact av_cons (by exact pd_peek 0) av_nil))) (by exact toV pd_int))))) (by exact sd_cons (by exact sd_if (by exact td_pc (by exact pd_pc (od_of (io_eq hr.units)) (by exact pd_peek 1) (by exact toV pd_int)) (nomark _)) (by exact sd_one (by exact sd_ret (by exact pd_name 0))) sd_nil) (by exact sd_cons (by exact sd_if (by exact td_pc (by exact pd_pc (od_of (io_eq hr.units)) (by exact pd_peek 1) (by exact toV pd_int)) (nomark _)) (by exact sd_one (by exact sd_ret (by exact pd_op (od_of io_addA) (by exact toV (by exact pd_op (od_of io_addA) (by exact toV (by exact pd_slc (by exact pd_peek 0) po_no (by exact po_so (by exact pd_name 4)))) (by exact toV (by exact pd_cal c__law_sign (hr.mono (by decide)) tk (by exact ad_cons (by exact pd_name 3) ad_nil))))) (by exact toV (by exact pd_slc (by exact pd_peek 0) (by exact po_so (by exact pd_name 4)) po_no))))) sd_nil) (by exact sd_cons (by exact sd_if (by exact td_pc (by exact pd_pc (od_of (io_eq hr.units)) (by exact pd_peek 1) (by exact toV pd_int)) (nomark _)) (by exact sd_one (by exact sd_ret (by exact pd_op (od_of io_addA) (by exact toV (by exact pd_slc (by exact pd_peek 0) po_no (by exact po_so (by exact pd_name 4)))) (by exact toV (by exact pd_slc (by exact pd_peek 0) (by exact po_so (by exact pd_op (od_of io_addA) (by exact pd_peek 4) (by exact toV pd_int))) po_no))))) sd_nil) (by exact sd_cons (by exact sd_if (by exact td_pc (by exact pd_pc (od_of (io_eq hr.units)) (by exact pd_peek 1) (by exact toV pd_int)) (nomark _)) (by exact sd_one (by exact sd_ret (by exact pd_op (od_of io_addA) (by exact toV (by exact pd_op (od_of io_addA) (by exact toV (by exact pd_slc (by exact pd_peek 0) po_no (by exact po_so (by exact pd_name 4)))) (by exact toV (by exact pd_cal c__law_sign (hr.mono (by decide)) tk (by exact ad_cons (by exact pd_name 3) ad_nil))))) (by exact toV (by exact pd_slc (by exact pd_peek 0) (by exact po_so (by exact pd_op (od_of io_addA) (by exact pd_peek 4) (by exact toV pd_int))) po_no))))) sd_nil) (by exact sd_one (by exact sd_ret (by exact pd_op (od_of io_addA) (by exact toV (by exact pd_op (od_of io_addA) (by exact toV (by exact pd_slc (by exact pd_peek 0) po_no (by exact po_so (by exact pd_name 4)))) (by exact toV (by exact pd_slc (by exact pd_peek 0) (by exact po_so (by exact pd_name 4)) (by exact po_so (by exact pd_op (od_of io_addA) (by exact pd_peek 4) (by exact toV pd_int))))))) (by exact toV (by exact pd_slc (by exact pd_peek 0) (by exact po_so (by exact pd_name 4)) po_no)))))))))) : PSs (cxOf (L2.CX prog w) prog w K mg base ["_law_text", "_law_kind", "_law_place", "_law_k", "_law_at"] "_law_spoilt" (defScope s__law_spoilt) f cdv A outer s H e) (defBody s__law_spoilt) (tS (pm K C E) ⟨F0, none⟩ H (WE0 e) _))
  exact h
abbrev s_law : Stmt := top 31
theorem sc_law : FnScope ["_law_script", "_law_row_here", "_law_upper", "_law_lower", "_law_x", "_law_text", "_law_odd", "_law_one"] ["_law_script"] (defScope s_law) := ⟨rfl, rfl, rfl, by decide +kernel, rfl, by decide +kernel, by decide +kernel⟩
theorem b_law (T : Txt prog K mg C E fE) (c__law_cell : CalD prog w K mg base (pm K C E) 1 "_law_cell" 2 G__law_cell) (c__law_row : CalD prog w K mg base (pm K C E) 1 "_law_row" 2 G__law_row) (c__law_low : CalD prog w K mg base (pm K C E) 2 "_law_low" 2 G__law_low) (c__law_number_text : CalD prog w K mg base (pm K C E) 4 "_law_number_text" 1 G__law_number_text) (c__law_as_due : CalD prog w K mg base (pm K C E) 8 "_law_as_due" 1 G__law_as_due) (c_Ratio : MkD prog w K mg base (pm K C E) 2 "Ratio" 0 2 G_Ratio___init__) (c_plain : CalD prog w K mg base (pm K C E) 2 "plain" 1 G_plain) (c___str__ : OwnD prog w K mg base (pm K C E) 1 "__str__" 0 1 G_Ratio___str__) (c__law_spoilt : CalD prog w K mg base (pm K C E) 2 "_law_spoilt" 4 G__law_spoilt) (f : Addr) (cdv : Value) (A : Around) (outer : List PySem.Env) (s : Shared) (H : Hp) (F0 : Hp) (e : XK) (hr : Room 8 (A.deeper (PyProof.Rows.envOfC "law" (defScope s_law) s.heap.objs.size f cdv))) :
    PSs (cxOf (L2.CX prog w) prog w K mg base ["_law_script", "_law_row_here", "_law_upper", "_law_lower", "_law_x", "_law_text", "_law_odd", "_law_one"] "law" (defScope s_law) f cdv A outer s H e) (defBody s_law) (tS (pm K C E) ⟨F0, none⟩ H (WE0 e) g_law) := by
  have sc := sc_law
  have tk : Takes (cxOf (L2.CX prog w) prog w K mg base ["_law_script", "_law_row_here", "_law_upper", "_law_lower", "_law_x", "_law_text", "_law_odd", "_law_one"] "law" (defScope s_law) f cdv A outer s H e) (WE0 e) := takes_of rfl rfl rfl rfl
  have h := ((by exact sd_cons (by exact sd_set (i := 1) sc.nd rfl (Or.inl rfl) (by exact pd_cal c__law_row (hr.mono (by decide)) tk (by exact ad_cons (by exact pd_cal c__law_cell (hr.mono (by decide)) tk (by exact ad_cons (by exact pd_name 0) (by exact ad_cons pd_int ad_nil))) (by exact ad_cons (by exact pd_lst (by exact ad_cons pd_int (by exact ad_cons pd_int (by exact ad_cons pd_int (by exact ad_cons pd_int (by exact ad_cons pd_int (by exact ad_cons pd_int ad_nil))))))) ad_nil)))) (by exact sd_cons (by exact sd_par (i := 2) (j := 3) rfl sc.nd rfl rfl (by decide) rfl rfl (by exact ad_cons (by exact pd_cal c__law_cell (hr.mono (by decide)) tk (by exact ad_cons (by exact pd_name 0) (by exact ad_cons pd_int ad_nil))) (by exact ad_cons (by exact pd_op (od_of io_addA) (by exact toV (by exact pd_callB ic_abs rfl T.b_abs (by decide +kernel) (by exact av_cons (by exact toV (by exact pd_cal c__law_cell (hr.mono (by decide)) tk (by exact ad_cons (by exact pd_name 0) (by exact ad_cons pd_int ad_nil)))) av_nil))) (by exact toV pd_int)) ad_nil)) rfl) (by exact sd_cons (by exact sd_if (by exact td_pc (by exact pd_pc (od_of (io_eq hr.units)) (by exact toV (by exact pd_ix (by exact pd_peek 1) (by exact toV pd_int) (fun _ _ => rfl))) (by exact toV pd_int)) (nomark _)) (by exact sd_one (by exact sd_par (i := 2) (j := 3) rfl sc.nd rfl rfl (by decide) rfl rfl (by exact ad_cons (by exact pd_op (od_of io_sub) (by exact toV (by exact pd_op (od_of io_mod) (by exact toV (by exact pd_callTy ic_int2 rfl T.b_int (by decide +kernel) (by exact av_cons (by exact pd_peek 2) av_nil))) (by exact toV pd_int))) (by exact toV pd_int)) (by exact ad_cons (by exact pd_op (od_of io_addA) (by exact toV (by exact pd_op (od_of io_mod) (by exact toV (by exact pd_callTy ic_int2 rfl T.b_int (by decide +kernel) (by exact av_cons (by exact pd_peek 3) av_nil))) (by exact toV pd_int))) (by exact toV pd_int)) ad_nil)) rfl)) sd_nil) (by exact sd_cons (by exact sd_if (by exact td_pc (by exact pd_pc (od_of (io_eq hr.units)) (by exact toV (by exact pd_ix (by exact pd_peek 1) (by exact toV pd_int) (fun _ _ => rfl))) (by exact toV pd_int)) (nomark _)) (by exact sd_one (by exact sd_set (i := 3) sc.nd rfl (Or.inl rfl) pd_int)) sd_nil) (by exact sd_cons (by exact sd_set (i := 4) sc.nd rfl (Or.inl rfl) (by exact pd_cal c__law_low (hr.mono (by decide)) tk (by exact ad_cons (by exact pd_op (od_of io_mul) (by exact toV (by exact pd_op (od_of io_mod) (by exact toV (by exact pd_callTy ic_int2 rfl T.b_int (by decide +kernel) (by exact av_cons (by exact pd_peek 2) av_nil))) (by exact toV (by exact pd_op (od_of io_pow) (by exact toV pd_int) (by exact toV pd_int))))) (by exact toV (by exact pd_ix (by exact toV (by exact pd_lst (by exact ad_cons pd_int (by exact ad_cons (by exact pd_un (ud_of io_neg) (by exact toV pd_int)) ad_nil)))) (by exact toV (by exact pd_ix (by exact pd_peek 1) (by exact toV pd_int) (fun _ _ => rfl))) (fun _ _ => rfl)))) (by exact ad_cons (by exact pd_op (od_of io_addA) (by exact toV (by exact pd_op (od_of io_mod) (by exact toV (by exact pd_op (od_of io_sub) (by exact toV (by exact pd_callTy ic_int2 rfl T.b_int (by decide +kernel) (by exact av_cons (by exact pd_peek 3) av_nil))) (by exact toV pd_int))) (by exact toV (by exact pd_op (od_of io_pow) (by exact toV pd_int) (by exact toV pd_int))))) (by exact toV pd_int)) ad_nil)))) (by exact sd_cons (by exact sd_set (i := 5) sc.nd rfl (Or.inl rfl) (by exact pd_cal c__law_number_text (hr.mono (by decide)) tk (by exact ad_cons (by exact pd_name 4) ad_nil))) (by exact sd_cons (by exact sd_if (by exact PW.pt (by exact td_or (by exact td_pc (by exact pd_pc (od_of (io_ne hr.units)) (by exact toV (by exact pd_stD c___str__ (hr.mono (by decide)) tk T.b_str (by exact pd_mk c_Ratio (hr.mono (by decide)) tk (by exact ad_cons (by exact pd_ix (by exact pd_peek 4) (by exact toV pd_int) (fun _ _ => rfl)) (by exact ad_cons (by exact pd_ix (by exact pd_peek 4) (by exact toV pd_int) (fun _ _ => rfl)) ad_nil))))) (by exact pd_peek 5)) (nomark _)) (by exact td_or (by exact td_pc (by exact pd_pc (od_of (io_ne hr.units)) (by exact toV (by exact pd_stD c___str__ (hr.mono (by decide)) tk T.b_str (by exact pd_cal c_plain (hr.mono (by decide)) tk (by exact ad_cons (by exact pd_mk c_Ratio (hr.mono (by decide)) tk (by exact ad_cons (by exact pd_ix (by exact pd_peek 4) (by exact toV pd_int) (fun _ _ => rfl)) (by exact ad_cons (by exact pd_ix (by exact pd_peek 4) (by exact toV pd_int) (fun _ _ => rfl)) ad_nil))) ad_nil)))) (by exact pd_peek 5)) (nomark _)) (by exact td_or1 (by exact td_not (by exact td_val (by exact pd_cal c__law_as_due (hr.mono (by decide)) tk (by exact ad_cons (by exact pd_name 5) ad_nil)))))))) (by exact sd_one (by exact sd_ret pd_bl)) sd_nil) (by exact sd_cons (by exact sd_set (i := 6) sc.nd rfl (Or.inl rfl) (by exact pd_lst (by exact ad_cons pd_str (by exact ad_cons pd_str (by exact ad_cons pd_str (by exact ad_cons pd_str (by exact ad_cons pd_str (by exact ad_cons pd_str (by exact ad_cons pd_str (by exact ad_cons pd_str (by exact ad_cons pd_str (by exact ad_cons pd_str (by exact ad_cons pd_str (by exact ad_cons pd_str (by exact ad_cons pd_str (by exact ad_cons pd_str (by exact ad_cons pd_str ad_nil))))))))))))))))) (by exact sd_cons (by exact sd_set (i := 6) sc.nd rfl (Or.inl rfl) (by exact pd_op (od_of io_addA) (by exact pd_peek 6) (by exact toV (by exact pd_lst (by exact ad_cons pd_str (by exact ad_cons pd_str (by exact ad_cons pd_str (by exact ad_cons pd_str (by exact ad_cons pd_str (by exact ad_cons pd_str (by exact ad_cons pd_str (by exact ad_cons pd_str (by exact ad_cons pd_str (by exact ad_cons pd_str (by exact ad_cons pd_str (by exact ad_cons pd_str ad_nil)))))))))))))))) (by exact sd_cons (by exact sd_set (i := 6) sc.nd rfl (Or.inl rfl) (by exact pd_op (od_of io_addA) (by exact pd_peek 6) (by exact toV (by exact pd_lst (by exact ad_cons pd_str (by exact ad_cons pd_str (by exact ad_cons pd_str (by exact ad_cons pd_str (by exact ad_cons pd_str ad_nil))))))))) (by exact sd_cons (by exact sd_for (passes_of rfl) rfl (by exact id_seq (by exact pd_lst (by exact ad_cons (by exact pd_cal c__law_spoilt (hr.mono (by decide)) tk (by exact ad_cons (by exact pd_name 5) (by exact ad_cons (by exact pd_ix (by exact pd_peek 1) (by exact toV pd_int) (fun _ _ => rfl)) (by exact ad_cons (by exact pd_ix (by exact pd_peek 1) (by exact toV pd_int) (fun _ _ => rfl)) (by exact ad_cons (by exact pd_ix (by exact pd_peek 1) (by exact toV pd_int) (fun _ _ => rfl)) ad_nil))))) (by exact ad_cons (by exact pd_ix (by exact pd_peek 6) (by exact toV (by exact pd_op (od_of io_mod) (by exact toV (by exact pd_ix (by exact pd_peek 1) (by exact toV pd_int) (fun _ _ => rfl))) (by exact toV (by exact pd_callB ic_len rfl T.b_len (by decide +kernel) (by exact av_cons (by exact pd_peek 6) av_nil))))) (fun _ _ => rfl)) (by exact ad_cons (by exact pd_ix (by exact pd_peek 6) (by exact toV (by exact pd_op (od_of io_mod) (by exact toV (by exact pd_ix (by exact pd_peek 1) (by exact toV pd_int) (fun _ _ => rfl))) (by exact toV (by exact pd_callB ic_len rfl T.b_len (by decide +kernel) (by exact av_cons (by exact pd_peek 6) av_nil))))) (fun _ _ => rfl)) ad_nil))))) (by exact gd_name (i := 7) (us := [7]) sc.nd rfl (Or.inl rfl)) (by exact sd_one (by exact sd_if (by exact PW.pt (by exact td_or (by exact td_not (by exact td_val (by exact pd_cal c__law_as_due (hr.mono (by decide)) tk (by exact ad_cons (by exact pd_name 7) ad_nil)))) (by exact td_or1 (by exact td_not (by exact td_val (by exact pd_cal c__law_as_due (hr.mono (by decide)) tk (by exact ad_cons (by exact pd_name 7) ad_nil))))))) (by exact sd_one (by exact sd_ret pd_bl)) sd_nil))) (by exact sd_one (by exact sd_ret pd_bl))))))))))))) : PSs (cxOf (L2.CX prog w) prog w K mg base ["_law_script", "_law_row_here", "_law_upper", "_law_lower", "_law_x", "_law_text", "_law_odd", "_law_one"] "law" (defScope s_law) f cdv A outer s H e) (defBody s_law) (tS (pm K C E) ⟨F0, none⟩ H (WE0 e) _))
  exact h
end
end DL.K3
namespace DL
open PySem L2
theorem cx_false {P : Program} {w : World} {H : Hp} {s : Shared} {u : Value} {s' : Shared} (h : L2.CX P w [] H s (fun _ _ _ => False) u s') : False := by
  obtain ⟨_, _, _, _, _, _, _, _, _, _, _, _, z⟩ := h
  exact z
end DL
namespace DL.K3
open PySem L2
abbrev lw : PySem.W.OpenLaw := PySem.Challenge.rw_everylist_k03_texts_of_numbers
theorem exm_own {K : PySem.W.Frag} {S : Addr} (h1 : PySem.W.subIn K (.ref S) (.type "BaseException") = some true) (h2 : PySem.W.isClsIn K S = true) (h3 : PySem.W.typeIn K (.ref S) = some (.type "type")) (h4 : PySem.W.subIn K (.ref S) (.ref S) = some true) : PySem.W.exmOne K (.ref S) (.ref S) = some true := by
  have g1 : (PySem.W.subIn K (.ref S) (.type "BaseException") == some true) = true := by rw [h1]; rfl
  have g2 : ((PySem.W.clsIn K S).isSome && PySem.W.typeIn K (.ref S) == some (.type "type")) = true := by
    have z : (PySem.W.clsIn K S).isSome = true := h2
    rw [z, h3]; rfl
  unfold PySem.W.exmOne
  rw [if_pos g1]
  exact (if_pos g2).trans h4
theorem all_mk {w : World} {K : PySem.W.Frag} {h : Heap} {mg : Str → Option Value} {fa C E : Addr} (X : K.In h) (G : h.Ns mainGlobals mg) (hfa : mg "law" = some (.ref fa))
    {f0 : Addr} {od0 an0 : Option Addr} {sl0 : Array (Option Value)} {oc0 kV0 dc0 pm0 cd0 ct0 : Value}
    {f1 : Addr} {od1 an1 : Option Addr} {sl1 : Array (Option Value)} {oc1 kV1 dc1 pm1 cd1 ct1 : Value}
    {f2 : Addr} {od2 an2 : Option Addr} {sl2 : Array (Option Value)} {oc2 kV2 dc2 pm2 cd2 ct2 : Value}
    {f3 : Addr} {od3 an3 : Option Addr} {sl3 : Array (Option Value)} {oc3 kV3 dc3 pm3 cd3 ct3 : Value}
    {f4 : Addr} {od4 an4 : Option Addr} {sl4 : Array (Option Value)} {oc4 kV4 dc4 pm4 cd4 ct4 : Value}
    {f5 : Addr} {od5 an5 : Option Addr} {sl5 : Array (Option Value)} {oc5 kV5 dc5 pm5 cd5 ct5 : Value}
    {f6 : Addr} {od6 an6 : Option Addr} {sl6 : Array (Option Value)} {oc6 kV6 dc6 pm6 cd6 ct6 : Value}
    {f7 : Addr} {od7 an7 : Option Addr} {sl7 : Array (Option Value)} {oc7 kV7 dc7 pm7 cd7 ct7 : Value}
    {f8 : Addr} {od8 an8 : Option Addr} {sl8 : Array (Option Value)} {oc8 kV8 dc8 pm8 cd8 ct8 : Value}
    {f9 : Addr} {od9 an9 : Option Addr} {sl9 : Array (Option Value)} {oc9 kV9 dc9 pm9 cd9 ct9 : Value}
    {f10 : Addr} {od10 an10 : Option Addr} {sl10 : Array (Option Value)} {oc10 kV10 dc10 pm10 cd10 ct10 : Value}
    {f11 : Addr} {od11 an11 : Option Addr} {sl11 : Array (Option Value)} {oc11 kV11 dc11 pm11 cd11 ct11 : Value}
    {f12 : Addr} {od12 an12 : Option Addr} {sl12 : Array (Option Value)} {oc12 kV12 dc12 pm12 cd12 ct12 : Value}
    {f13 : Addr} {od13 an13 : Option Addr} {sl13 : Array (Option Value)} {oc13 kV13 dc13 pm13 cd13 ct13 : Value}
    {f14 : Addr} {od14 an14 : Option Addr} {sl14 : Array (Option Value)} {oc14 kV14 dc14 pm14 cd14 ct14 : Value}
    {f15 : Addr} {od15 an15 : Option Addr} {sl15 : Array (Option Value)} {oc15 kV15 dc15 pm15 cd15 ct15 : Value}
    {f16 : Addr} {od16 an16 : Option Addr} {sl16 : Array (Option Value)} {oc16 kV16 dc16 pm16 cd16 ct16 : Value}
    {f17 : Addr} {od17 an17 : Option Addr} {sl17 : Array (Option Value)} {oc17 kV17 dc17 pm17 cd17 ct17 : Value}
    {f18 : Addr} {od18 an18 : Option Addr} {sl18 : Array (Option Value)} {oc18 kV18 dc18 pm18 cd18 ct18 : Value}
    {f19 : Addr} {od19 an19 : Option Addr} {sl19 : Array (Option Value)} {oc19 kV19 dc19 pm19 cd19 ct19 : Value}
    {f20 : Addr} {od20 an20 : Option Addr} {sl20 : Array (Option Value)} {oc20 kV20 dc20 pm20 cd20 ct20 : Value}
    {f21 : Addr} {od21 an21 : Option Addr} {sl21 : Array (Option Value)} {oc21 kV21 dc21 pm21 cd21 ct21 : Value}
    {f22 : Addr} {od22 an22 : Option Addr} {sl22 : Array (Option Value)} {oc22 kV22 dc22 pm22 cd22 ct22 : Value}
    {tT : Addr} {oT : Value} {dT : Option Addr} {uT : Tok} {nT : Nat} {sT : Array (Option Value)}
    {nm q : Str} {N : Addr} {bs bm : List Value} {sn : List Str} {sub : List Value} {ab : Bool} {col : Option Bool} {dd : Option Addr} {m0 m1 m2 m3 m5 : Option Value} {fI cc cda : Addr} {ocE docE pmE ctE cclE clE : Value} {odE anE cddE cldE : Option Addr} {oslE ccsE cslE : Array (Option Value)} {qE msg file : Str} {jE : Nat} {p1 p2 q0 q1 q2 q3 q4 q5 r1 r2 r3 r4 : Pos} {vsE : Array Value} {tf : Tok}
    {tD : Tok}
    (aC : PySem.W.nsIn K mainGlobals "Ratio" = some (some (.ref C)))
    (aE : PySem.W.nsIn K mainGlobals "NoText" = some (some (.ref E)))
    (a0 : PySem.W.nsIn K mainGlobals "_law_cell" = some (some (.ref f0)))
    (l0 : K.lookup f0 = some ⟨oc0, od0, .func (PySem.W.fnOf "_law_cell" "_law_cell" (defArgs s__law_cell) (defBody s__law_cell) (defScope s__law_cell) .none kV0 dc0 pm0 an0 cd0 ct0), sl0⟩)
    (c0 : PySem.W.codeIn K cd0 "_law_cell" = true)
    (k0 : PySem.W.keepIn K (.ref f0) = true)
    (a1 : PySem.W.nsIn K mainGlobals "_law_row" = some (some (.ref f1)))
    (l1 : K.lookup f1 = some ⟨oc1, od1, .func (PySem.W.fnOf "_law_row" "_law_row" (defArgs s__law_row) (defBody s__law_row) (defScope s__law_row) .none kV1 dc1 pm1 an1 cd1 ct1), sl1⟩)
    (c1 : PySem.W.codeIn K cd1 "_law_row" = true)
    (k1 : PySem.W.keepIn K (.ref f1) = true)
    (a2 : PySem.W.nsIn K mainGlobals "_law_share" = some (some (.ref f2)))
    (l2 : K.lookup f2 = some ⟨oc2, od2, .func (PySem.W.fnOf "_law_share" "_law_share" (defArgs s__law_share) (defBody s__law_share) (defScope s__law_share) .none kV2 dc2 pm2 an2 cd2 ct2), sl2⟩)
    (c2 : PySem.W.codeIn K cd2 "_law_share" = true)
    (k2 : PySem.W.keepIn K (.ref f2) = true)
    (a3 : PySem.W.nsIn K mainGlobals "_law_low" = some (some (.ref f3)))
    (l3 : K.lookup f3 = some ⟨oc3, od3, .func (PySem.W.fnOf "_law_low" "_law_low" (defArgs s__law_low) (defBody s__law_low) (defScope s__law_low) .none kV3 dc3 pm3 an3 cd3 ct3), sl3⟩)
    (c3 : PySem.W.codeIn K cd3 "_law_low" = true)
    (k3 : PySem.W.keepIn K (.ref f3) = true)
    (a4 : PySem.W.findIn K (.ref C) "__str__" = some (some (.ref f4)))
    (i4 : PySem.W.isFn K (.ref f4) = true)
    (l4 : K.lookup f4 = some ⟨oc4, od4, .func (PySem.W.fnOf "__str__" "Ratio.__str__" (defArgs s_Ratio___str__) (defBody s_Ratio___str__) (defScope s_Ratio___str__) .none kV4 dc4 pm4 an4 cd4 ct4), sl4⟩)
    (c4 : PySem.W.codeIn K cd4 "Ratio.__str__" = true)
    (k4 : PySem.W.keepIn K (.ref f4) = true)
    (a5 : PySem.W.nsIn K mainGlobals "_law_number_text" = some (some (.ref f5)))
    (l5 : K.lookup f5 = some ⟨oc5, od5, .func (PySem.W.fnOf "_law_number_text" "_law_number_text" (defArgs s__law_number_text) (defBody s__law_number_text) (defScope s__law_number_text) .none kV5 dc5 pm5 an5 cd5 ct5), sl5⟩)
    (c5 : PySem.W.codeIn K cd5 "_law_number_text" = true)
    (k5 : PySem.W.keepIn K (.ref f5) = true)
    (a6 : PySem.W.nsIn K mainGlobals "is_count" = some (some (.ref f6)))
    (l6 : K.lookup f6 = some ⟨oc6, od6, .func (PySem.W.fnOf "is_count" "is_count" (defArgs s_is_count) (defBody s_is_count) (defScope s_is_count) .none kV6 dc6 pm6 an6 cd6 ct6), sl6⟩)
    (c6 : PySem.W.codeIn K cd6 "is_count" = true)
    (k6 : PySem.W.keepIn K (.ref f6) = true)
    (a7 : PySem.W.nsIn K mainGlobals "halves_of" = some (some (.ref f7)))
    (l7 : K.lookup f7 = some ⟨oc7, od7, .func (PySem.W.fnOf "halves_of" "halves_of" (defArgs s_halves_of) (defBody s_halves_of) (defScope s_halves_of) .none kV7 dc7 pm7 an7 cd7 ct7), sl7⟩)
    (c7 : PySem.W.codeIn K cd7 "halves_of" = true)
    (k7 : PySem.W.keepIn K (.ref f7) = true)
    (a8 : PySem.W.nsIn K mainGlobals "common" = some (some (.ref f8)))
    (l8 : K.lookup f8 = some ⟨oc8, od8, .func (PySem.W.fnOf "common" "common" (defArgs s_common) (defBody s_common) (defScope s_common) .none kV8 dc8 pm8 an8 cd8 ct8), sl8⟩)
    (c8 : PySem.W.codeIn K cd8 "common" = true)
    (k8 : PySem.W.keepIn K (.ref f8) = true)
    (a9 : PySem.W.findIn K (.ref C) "__init__" = some (some (.ref f9)))
    (i9 : PySem.W.isFn K (.ref f9) = true)
    (l9 : K.lookup f9 = some ⟨oc9, od9, .func (PySem.W.fnOf "__init__" "Ratio.__init__" (defArgs s_Ratio___init__) (defBody s_Ratio___init__) (defScope s_Ratio___init__) (.ref tT) kV9 dc9 pm9 an9 cd9 ct9), sl9⟩)
    (c9 : PySem.W.codeIn K cd9 "Ratio.__init__" = true)
    (k9 : PySem.W.keepIn K (.ref f9) = true)
    (a10 : PySem.W.nsIn K mainGlobals "plain" = some (some (.ref f10)))
    (l10 : K.lookup f10 = some ⟨oc10, od10, .func (PySem.W.fnOf "plain" "plain" (defArgs s_plain) (defBody s_plain) (defScope s_plain) .none kV10 dc10 pm10 an10 cd10 ct10), sl10⟩)
    (c10 : PySem.W.codeIn K cd10 "plain" = true)
    (k10 : PySem.W.keepIn K (.ref f10) = true)
    (a11 : PySem.W.nsIn K mainGlobals "quotient" = some (some (.ref f11)))
    (l11 : K.lookup f11 = some ⟨oc11, od11, .func (PySem.W.fnOf "quotient" "quotient" (defArgs s_quotient) (defBody s_quotient) (defScope s_quotient) .none kV11 dc11 pm11 an11 cd11 ct11), sl11⟩)
    (c11 : PySem.W.codeIn K cd11 "quotient" = true)
    (k11 : PySem.W.keepIn K (.ref f11) = true)
    (a12 : PySem.W.nsIn K mainGlobals "read_count" = some (some (.ref f12)))
    (l12 : K.lookup f12 = some ⟨oc12, od12, .func (PySem.W.fnOf "read_count" "read_count" (defArgs s_read_count) (defBody s_read_count) (defScope s_read_count) .none kV12 dc12 pm12 an12 cd12 ct12), sl12⟩)
    (c12 : PySem.W.codeIn K cd12 "read_count" = true)
    (k12 : PySem.W.keepIn K (.ref f12) = true)
    (a13 : PySem.W.findIn K (.ref C) "__neg__" = some (some (.ref f13)))
    (i13 : PySem.W.isFn K (.ref f13) = true)
    (l13 : K.lookup f13 = some ⟨oc13, od13, .func (PySem.W.fnOf "__neg__" "Ratio.__neg__" (defArgs s_Ratio___neg__) (defBody s_Ratio___neg__) (defScope s_Ratio___neg__) .none kV13 dc13 pm13 an13 cd13 ct13), sl13⟩)
    (c13 : PySem.W.codeIn K cd13 "Ratio.__neg__" = true)
    (k13 : PySem.W.keepIn K (.ref f13) = true)
    (a14 : PySem.W.nsIn K mainGlobals "read_number" = some (some (.ref f14)))
    (l14 : K.lookup f14 = some ⟨oc14, od14, .func (PySem.W.fnOf "read_number" "read_number" (defArgs s_read_number) (defBody s_read_number) (defScope s_read_number) .none kV14 dc14 pm14 an14 cd14 ct14), sl14⟩)
    (c14 : PySem.W.codeIn K cd14 "read_number" = true)
    (k14 : PySem.W.keepIn K (.ref f14) = true)
    (a15 : PySem.W.nsIn K mainGlobals "_law_told" = some (some (.ref f15)))
    (l15 : K.lookup f15 = some ⟨oc15, od15, .func (PySem.W.fnOf "_law_told" "_law_told" (defArgs s__law_told) (defBody s__law_told) (defScope s__law_told) .none kV15 dc15 pm15 an15 cd15 ct15), sl15⟩)
    (c15 : PySem.W.codeIn K cd15 "_law_told" = true)
    (k15 : PySem.W.keepIn K (.ref f15) = true)
    (a16 : PySem.W.nsIn K mainGlobals "_law_digits" = some (some (.ref f16)))
    (l16 : K.lookup f16 = some ⟨oc16, od16, .func (PySem.W.fnOf "_law_digits" "_law_digits" (defArgs s__law_digits) (defBody s__law_digits) (defScope s__law_digits) .none kV16 dc16 pm16 an16 cd16 ct16), sl16⟩)
    (c16 : PySem.W.codeIn K cd16 "_law_digits" = true)
    (k16 : PySem.W.keepIn K (.ref f16) = true)
    (a17 : PySem.W.nsIn K mainGlobals "_law_read" = some (some (.ref f17)))
    (l17 : K.lookup f17 = some ⟨oc17, od17, .func (PySem.W.fnOf "_law_read" "_law_read" (defArgs s__law_read) (defBody s__law_read) (defScope s__law_read) .none kV17 dc17 pm17 an17 cd17 ct17), sl17⟩)
    (c17 : PySem.W.codeIn K cd17 "_law_read" = true)
    (k17 : PySem.W.keepIn K (.ref f17) = true)
    (a18 : PySem.W.nsIn K mainGlobals "_law_is" = some (some (.ref f18)))
    (l18 : K.lookup f18 = some ⟨oc18, od18, .func (PySem.W.fnOf "_law_is" "_law_is" (defArgs s__law_is) (defBody s__law_is) (defScope s__law_is) .none kV18 dc18 pm18 an18 cd18 ct18), sl18⟩)
    (c18 : PySem.W.codeIn K cd18 "_law_is" = true)
    (k18 : PySem.W.keepIn K (.ref f18) = true)
    (a19 : PySem.W.nsIn K mainGlobals "_law_as_due" = some (some (.ref f19)))
    (l19 : K.lookup f19 = some ⟨oc19, od19, .func (PySem.W.fnOf "_law_as_due" "_law_as_due" (defArgs s__law_as_due) (defBody s__law_as_due) (defScope s__law_as_due) .none kV19 dc19 pm19 an19 cd19 ct19), sl19⟩)
    (c19 : PySem.W.codeIn K cd19 "_law_as_due" = true)
    (k19 : PySem.W.keepIn K (.ref f19) = true)
    (a20 : PySem.W.nsIn K mainGlobals "_law_sign" = some (some (.ref f20)))
    (l20 : K.lookup f20 = some ⟨oc20, od20, .func (PySem.W.fnOf "_law_sign" "_law_sign" (defArgs s__law_sign) (defBody s__law_sign) (defScope s__law_sign) .none kV20 dc20 pm20 an20 cd20 ct20), sl20⟩)
    (c20 : PySem.W.codeIn K cd20 "_law_sign" = true)
    (k20 : PySem.W.keepIn K (.ref f20) = true)
    (a21 : PySem.W.nsIn K mainGlobals "_law_spoilt" = some (some (.ref f21)))
    (l21 : K.lookup f21 = some ⟨oc21, od21, .func (PySem.W.fnOf "_law_spoilt" "_law_spoilt" (defArgs s__law_spoilt) (defBody s__law_spoilt) (defScope s__law_spoilt) .none kV21 dc21 pm21 an21 cd21 ct21), sl21⟩)
    (c21 : PySem.W.codeIn K cd21 "_law_spoilt" = true)
    (k21 : PySem.W.keepIn K (.ref f21) = true)
    (a22 : PySem.W.nsIn K mainGlobals "law" = some (some (.ref f22)))
    (l22 : K.lookup f22 = some ⟨oc22, od22, .func (PySem.W.fnOf "law" "law" (defArgs s_law) (defBody s_law) (defScope s_law) .none kV22 dc22 pm22 an22 cd22 ct22), sl22⟩)
    (c22 : PySem.W.codeIn K cd22 "law" = true)
    (k22 : PySem.W.keepIn K (.ref f22) = true)
    (lT : K.lookup tT = some ⟨oT, dT, .seq #[.int 1 uT] nT, sT⟩)
    (pgC : PySem.W.plainGet K C Str.empty = true)
    (hdC : PySem.W.hasDictIn K C = true)
    (poC : PySem.W.plainOver K C = true)
    (saC : PySem.W.findIn K (.ref C) "__setattr__" = some (some (.builtin "object.__setattr__")))
    (mkC : PySem.W.makesIn K C = true)
    (kcC : PySem.W.keepIn K (.ref C) = true)
    (nCt : PySem.W.findIn K (.ref C) "top" = some none)
    (nCb : PySem.W.findIn K (.ref C) "bottom" = some none)
    (haC : PySem.W.findIn K (.ref C) "__class__" = some (some (.builtin "object.__class__")))
    (hnC : PySem.W.specialIn K (.builtin "object.__class__") "__get__" = some (some (.builtin "getset_descriptor.__get__")))
    (htC : PySem.W.takesIn K (.builtin "object.__class__") = some true)
    (hmC : PySem.W.mroIn K C (.type "object") = some true)
    (nb1 : PySem.W.kitOne K (.type "NoneType") (.ref C) = some false)
    (nb2 : PySem.W.kitOne K (.type "bool") (.ref C) = some false)
    (nb3 : PySem.W.kitOne K (.type "int") (.ref C) = some false)
    (nb4 : PySem.W.kitOne K (.type "str") (.ref C) = some false)
    (nb5 : PySem.W.kitOne K (.type "list") (.ref C) = some false)
    (nb6 : PySem.W.kitOne K (.type "tuple") (.ref C) = some false)
    (nb7 : PySem.W.kitOne K (.type "dict") (.ref C) = some false)
    (kiC : PySem.W.kitOne K (.ref C) (.type "int") = some false)
    (kbC : PySem.W.kitOne K (.ref C) (.type "bool") = some false)
    (xL : K.lookup E = some (excClassObj nm q E N bs bm true sn sub ab col dd m0 m1 m2 m3 m5 "ValueError.__new__"))
    (xR : PySem.HandSPX.refsVE bm = true)
    (saE : PySem.W.findIn K (.ref E) "__setattr__" = some (some (.builtin "object.__setattr__")))
    (gaE : PySem.W.findIn K (.ref E) "__getattribute__" = some (some (.builtin "BaseException.__getattribute__")))
    (ggE : PySem.W.findIn K (.ref E) "__getattr__" = some none)
    (nE : PySem.W.findIn K (.ref E) "text" = some none)
    (iE : PySem.W.findIn K (.ref E) "__init__" = some (some (.ref fI)))
    (tE : PySem.W.typeIn K (.ref fI) = some (.type "function"))
    (kE : PySem.W.keepIn K (.ref E) = true)
    (xE : PySem.W.subIn K (.ref E) (.type "BaseException") = some true)
    (vE : PySem.W.subIn K (.ref E) (.type "ValueError") = some true)
    (yE : PySem.W.typeIn K (.ref E) = some (.type "type"))
    (hE : PySem.W.hasDictIn K E = true)
    (mE : PySem.W.mroIn K E (.ref E) = some true)
    (uE : PySem.W.ks_superIn K E E "__init__" = some (some (.builtin "ValueError.__init__")))
    (oE : PySem.W.nsIn K cStatics "thirdparty.any" = some none)
    (icE : PySem.W.isClsIn K E = true)
    (sE : PySem.W.subIn K (.ref E) (.ref E) = some true)
    (lI : K.lookup fI = some ⟨ocE, odE, .func (PySem.W.ksFn "__init__" qE (PySem.ErrX.iArgs "text" p1 p2) [PySem.ErrX.iSuper msg jE q0 q1 q2 q3 q4 q5, PySem.ErrX.iSet "text" r1 r2 r3 r4] (PySem.ErrX.iSc "text") .none .none docE pmE anE (.ref cda) ctE cc), oslE⟩)
    (cI : PySem.W.codeIn K (.ref cda) qE = true)
    (ld : K.lookup cda = some ⟨cclE, cddE, .fields vsE, ccsE⟩)
    (hv : vsE[2]? = some (.str file tf))
    (hfl : ((PySem.Challenge.rw_everylist_k03_texts_of_numbers.prog.main.file : Str) == file) = true)
    (lc : K.lookup cc = some ⟨clE, cldE, .cell (some (.ref E)), cslE⟩)
    (ev : PySem.ErrX.ErrEv (PySem.W.ksFn "__init__" qE (PySem.ErrX.iArgs "text" p1 p2) [PySem.ErrX.iSuper msg jE q0 q1 q2 q3 q4 q5, PySem.ErrX.iSet "text" r1 r2 r3 r4] (PySem.ErrX.iSc "text") .none .none docE pmE anE (.ref cda) ctE cc) fI "text" msg jE q0 q1 q2 q3 q4 q5 r1 r2 r3 r4)
    (b_abs : PySem.W.nsIn K mainGlobals "abs" = some none)
    (b_len : PySem.W.nsIn K mainGlobals "len" = some none)
    (b_all : PySem.W.nsIn K mainGlobals "all" = some none)
    (b_int : PySem.W.nsIn K mainGlobals "int" = some none)
    (b_bool : PySem.W.nsIn K mainGlobals "bool" = some none)
    (b_str : PySem.W.nsIn K mainGlobals "str" = some none)
    (b_range : PySem.W.nsIn K mainGlobals "range" = some none)
    (b_isinstance : PySem.W.nsIn K mainGlobals "isinstance" = some none)
    (b_super : PySem.W.nsIn K mainGlobals "super" = some none)
    (gD : PySem.W.nsIn K mainGlobals "DIGITS" = some (some (.str "0123456789" tD)))
    : LamX.LawAtS lw w K (L2.CX lw.prog w) 9 63 "_law_script" mg fa h := by
  have e0 := hfa.symm.trans (PySem.W.mg_of X G a22)
  cases e0
  have err : PySem.ErrX.ErrTxt lw.prog K mg "NoText" "text" E fI := ⟨PySem.W.mg_of X G aE, ⟨nm, q, N, bs, bm, sn, sub, ab, col, dd, m0, m1, m2, m3, m5, xL, xR⟩, saE, gaE, ggE, nE, iE, tE, kE, xE, vE, yE, hE, mE, uE, oE, PySem.W.mg_none_of X G b_super, by decide +kernel,
    ⟨ocE, odE, qE, msg, jE, docE, pmE, anE, ctE, oslE, cc, cda, p1, p2, q0, q1, q2, q3, q4, q5, r1, r2, r3, r4, cclE, clE, cddE, cldE, vsE, ccsE, cslE, file, tf, lI, cI, ld, hv, hfl, lc, ev⟩⟩
  have T : Txt lw.prog K mg C E fI := ⟨⟨pgC, hdC, poC, saC⟩, nCt, nCb, PySem.W.mg_of X G aC, ⟨⟨pgC, hdC, poC, saC⟩, haC, hnC, htC, hmC⟩, ⟨nb1, nb2, nb3, nb4, nb5, nb6, nb7⟩, kiC, kbC, err, exm_own xE icE yE sE, PySem.W.mg_none_of X G b_abs, PySem.W.mg_none_of X G b_len, PySem.W.mg_none_of X G b_all, PySem.W.mg_none_of X G b_int, PySem.W.mg_none_of X G b_bool, PySem.W.mg_none_of X G b_str, PySem.W.mg_none_of X G b_range, PySem.W.mg_none_of X G b_isinstance, ⟨tD, PySem.W.mg_of X G gD⟩⟩
  have F0 := fun_mk (st := s__law_cell) l0 c0 k0
  have B0 := F0.binds (ps := ["_law_script", "_law_k"]) fun _ _ _ _ _ _ us hl => match us, hl with | [_, _], _ => rfl
  have F1 := fun_mk (st := s__law_row) l1 c1 k1
  have B1 := F1.binds (ps := ["_law_cell_here", "_law_sizes"]) fun _ _ _ _ _ _ us hl => match us, hl with | [_, _], _ => rfl
  have F2 := fun_mk (st := s__law_share) l2 c2 k2
  have B2 := F2.binds (ps := ["_law_one", "_law_two"]) fun _ _ _ _ _ _ us hl => match us, hl with | [_, _], _ => rfl
  have F3 := fun_mk (st := s__law_low) l3 c3 k3
  have B3 := F3.binds (ps := ["_law_upper", "_law_lower"]) fun _ _ _ _ _ _ us hl => match us, hl with | [_, _], _ => rfl
  have F4 := fun_mk (st := s_Ratio___str__) l4 c4 k4
  have B4 := F4.binds (ps := ["self"]) fun _ _ _ _ _ _ us hl => match us, hl with | [_], _ => rfl
  have F5 := fun_mk (st := s__law_number_text) l5 c5 k5
  have B5 := F5.binds (ps := ["_law_x"]) fun _ _ _ _ _ _ us hl => match us, hl with | [_], _ => rfl
  have F6 := fun_mk (st := s_is_count) l6 c6 k6
  have B6 := F6.binds (ps := ["text"]) fun _ _ _ _ _ _ us hl => match us, hl with | [_], _ => rfl
  have F7 := fun_mk (st := s_halves_of) l7 c7 k7
  have B7 := F7.binds (ps := ["number"]) fun _ _ _ _ _ _ us hl => match us, hl with | [_], _ => rfl
  have F8 := fun_mk (st := s_common) l8 c8 k8
  have B8 := F8.binds (ps := ["one", "two"]) fun _ _ _ _ _ _ us hl => match us, hl with | [_, _], _ => rfl
  have F9 : FunD K "__init__" "Ratio.__init__" (defArgs s_Ratio___init__) (defBody s_Ratio___init__) (defScope s_Ratio___init__) [.int 1] [] f9 (PySem.W.fnOf "__init__" "Ratio.__init__" (defArgs s_Ratio___init__) (defBody s_Ratio___init__) (defScope s_Ratio___init__) (.ref tT) kV9 dc9 pm9 an9 cd9 ct9) := ⟨⟨_, _, _, _, _, _, _, _, _, _, rfl, l9, c9, .inr ⟨by simp, tT, _, [.int 1 uT], nT, rfl, lT, rfl, .cons ⟨uT, rfl⟩ .nil⟩, .inl rfl⟩, k9⟩
  have B9 : Binds K (PySem.W.fnOf "__init__" "Ratio.__init__" (defArgs s_Ratio___init__) (defBody s_Ratio___init__) (defScope s_Ratio___init__) (.ref tT) kV9 dc9 pm9 an9 cd9 ct9) ["self", "top", "bottom"] [] := by
    obtain ⟨ds, h1, h2⟩ := F9.binds1 (ps := ["self", "top", "bottom"]) 3 1 (by simp) rfl fun _ _ _ _ _ _ _ us its hl hi => match us, its, hl, hi with | [_, _, _], [_], _, _ => ⟨_, rfl, rfl⟩
    cases h1
    exact h2
  have F10 := fun_mk (st := s_plain) l10 c10 k10
  have B10 := F10.binds (ps := ["number"]) fun _ _ _ _ _ _ us hl => match us, hl with | [_], _ => rfl
  have F11 := fun_mk (st := s_quotient) l11 c11 k11
  have B11 := F11.binds (ps := ["one", "two"]) fun _ _ _ _ _ _ us hl => match us, hl with | [_, _], _ => rfl
  have F12 := fun_mk (st := s_read_count) l12 c12 k12
  have B12 := F12.binds (ps := ["text"]) fun _ _ _ _ _ _ us hl => match us, hl with | [_], _ => rfl
  have F13 := fun_mk (st := s_Ratio___neg__) l13 c13 k13
  have B13 := F13.binds (ps := ["self"]) fun _ _ _ _ _ _ us hl => match us, hl with | [_], _ => rfl
  have F14 := fun_mk (st := s_read_number) l14 c14 k14
  have B14 := F14.binds (ps := ["text"]) fun _ _ _ _ _ _ us hl => match us, hl with | [_], _ => rfl
  have F15 := fun_mk (st := s__law_told) l15 c15 k15
  have B15 := F15.binds (ps := ["_law_text"]) fun _ _ _ _ _ _ us hl => match us, hl with | [_], _ => rfl
  have F16 := fun_mk (st := s__law_digits) l16 c16 k16
  have B16 := F16.binds (ps := ["_law_part"]) fun _ _ _ _ _ _ us hl => match us, hl with | [_], _ => rfl
  have F17 := fun_mk (st := s__law_read) l17 c17 k17
  have B17 := F17.binds (ps := ["_law_text"]) fun _ _ _ _ _ _ us hl => match us, hl with | [_], _ => rfl
  have F18 := fun_mk (st := s__law_is) l18 c18 k18
  have B18 := F18.binds (ps := ["_law_number", "_law_x"]) fun _ _ _ _ _ _ us hl => match us, hl with | [_, _], _ => rfl
  have F19 := fun_mk (st := s__law_as_due) l19 c19 k19
  have B19 := F19.binds (ps := ["_law_text"]) fun _ _ _ _ _ _ us hl => match us, hl with | [_], _ => rfl
  have F20 := fun_mk (st := s__law_sign) l20 c20 k20
  have B20 := F20.binds (ps := ["_law_k"]) fun _ _ _ _ _ _ us hl => match us, hl with | [_], _ => rfl
  have F21 := fun_mk (st := s__law_spoilt) l21 c21 k21
  have B21 := F21.binds (ps := ["_law_text", "_law_kind", "_law_place", "_law_k"]) fun _ _ _ _ _ _ us hl => match us, hl with | [_, _, _, _], _ => rfl
  have F22 := fun_mk (st := s_law) l22 c22 k22
  have B22 := F22.binds (ps := ["_law_script"]) fun _ _ _ _ _ _ us hl => match us, hl with | [_], _ => rfl
  refine ⟨_, [], spD (pm K C E) 1 G_law, by simp, by simp, by simp, fun s v => .of_eq (?_ : bindArgs (PySem.W.fnOf "law" "law" (defArgs s_law) (defBody s_law) (defScope s_law) .none kV22 dc22 pm22 an22 cd22 ct22) ⟨[v], []⟩ = _), fun H a ns hl _ _ hS => law_post rfl (fun ns hl => law_true ns) H a ns hl hS, fun base _ _ _ => ?_⟩
  · rfl
  have C0 : CalD lw.prog w K mg base (pm K C E) 1 "_law_cell" 2 G__law_cell := calD F0 sc__law_cell (PySem.W.mg_of X G a0) B0 (b__law_cell T _)
  have C1 : CalD lw.prog w K mg base (pm K C E) 1 "_law_row" 2 G__law_row := calD F1 sc__law_row (PySem.W.mg_of X G a1) B1 (b__law_row T _)
  have C2 : CalD lw.prog w K mg base (pm K C E) 1 "_law_share" 2 G__law_share := calD F2 sc__law_share (PySem.W.mg_of X G a2) B2 (b__law_share T _)
  have C3 : CalD lw.prog w K mg base (pm K C E) 2 "_law_low" 2 G__law_low := calD F3 sc__law_low (PySem.W.mg_of X G a3) B3 (b__law_low T C2 _)
  have C4 : OwnD lw.prog w K mg base (pm K C E) 1 "__str__" 0 1 G_Ratio___str__ := ownD (c := 0) F4 sc_Ratio___str__ ⟨a4, i4⟩ B4 (b_Ratio___str__ T _)
  have C5 : CalD lw.prog w K mg base (pm K C E) 4 "_law_number_text" 1 G__law_number_text := calD F5 sc__law_number_text (PySem.W.mg_of X G a5) B5 (b__law_number_text T C4 _)
  have C6 : CalD lw.prog w K mg base (pm K C E) 1 "is_count" 1 G_is_count := calD F6 sc_is_count (PySem.W.mg_of X G a6) B6 (b_is_count T _)
  have C7 : CalD lw.prog w K mg base (pm K C E) 1 "halves_of" 1 G_halves_of := calD F7 sc_halves_of (PySem.W.mg_of X G a7) B7 (b_halves_of T _)
  have C8 : CalD lw.prog w K mg base (pm K C E) 1 "common" 2 G_common := calD F8 sc_common (PySem.W.mg_of X G a8) B8 (b_common T _)
  have C9 : MkD lw.prog w K mg base (pm K C E) 2 "Ratio" 0 2 G_Ratio___init__ := mkD (c := 0) rfl (by simp) F9 sc_Ratio___init__ ⟨mkC, a9, i9, kcC⟩ T.g_Ratio B9 (b_Ratio___init__ T C8 _)
  have C10 : CalD lw.prog w K mg base (pm K C E) 2 "plain" 1 G_plain := calD F10 sc_plain (PySem.W.mg_of X G a10) B10 (b_plain T C7 _)
  have C11 : CalD lw.prog w K mg base (pm K C E) 4 "quotient" 2 G_quotient := calD F11 sc_quotient (PySem.W.mg_of X G a11) B11 (b_quotient T C7 C9 C10 _)
  have C12 : CalD lw.prog w K mg base (pm K C E) 5 "read_count" 1 G_read_count := calD F12 sc_read_count (PySem.W.mg_of X G a12) B12 (b_read_count T C6 C11 _)
  have C13 : OwnD lw.prog w K mg base (pm K C E) 4 "__neg__" 0 1 G_Ratio___neg__ := ownD (c := 0) F13 sc_Ratio___neg__ ⟨a13, i13⟩ B13 (b_Ratio___neg__ T C9 _)
  have C14 : CalD lw.prog w K mg base (pm K C E) 6 "read_number" 1 G_read_number := calD F14 sc_read_number (PySem.W.mg_of X G a14) B14 (b_read_number T C12 C13 C4 _)
  have C15 : CalD lw.prog w K mg base (pm K C E) 7 "_law_told" 1 G__law_told := calD F15 sc__law_told (PySem.W.mg_of X G a15) B15 (b__law_told T C14 _)
  have C16 : CalD lw.prog w K mg base (pm K C E) 1 "_law_digits" 1 G__law_digits := calD F16 sc__law_digits (PySem.W.mg_of X G a16) B16 (b__law_digits T _)
  have C17 : CalD lw.prog w K mg base (pm K C E) 2 "_law_read" 1 G__law_read := calD F17 sc__law_read (PySem.W.mg_of X G a17) B17 (b__law_read T C16 C2 _)
  have C18 : CalD lw.prog w K mg base (pm K C E) 1 "_law_is" 2 G__law_is := calD F18 sc__law_is (PySem.W.mg_of X G a18) B18 (b__law_is T _)
  have C19 : CalD lw.prog w K mg base (pm K C E) 8 "_law_as_due" 1 G__law_as_due := calD F19 sc__law_as_due (PySem.W.mg_of X G a19) B19 (b__law_as_due T C15 C17 C18 _)
  have C20 : CalD lw.prog w K mg base (pm K C E) 1 "_law_sign" 1 G__law_sign := calD F20 sc__law_sign (PySem.W.mg_of X G a20) B20 (b__law_sign T _)
  have C21 : CalD lw.prog w K mg base (pm K C E) 2 "_law_spoilt" 4 G__law_spoilt := calD F21 sc__law_spoilt (PySem.W.mg_of X G a21) B21 (b__law_spoilt T C20 _)
  exact fnd F22 sc_law (b_law T C0 C1 C3 C5 C19 C9 C10 C4 C21 _)
end DL.K3
open PySem PySem.W PyProof.Rows
set_option maxRecDepth 100000 in
set_option maxHeartbeats 0 in
theorem PySem.Challenge.cw_everylist_k03_texts_of_numbers_holds : PySem.Challenge.rw_everylist_k03_texts_of_numbers.Holds := by
  w_on; o_law; k_head; (case hw => w_witness2)
  k_fill
  refine LamX.walk_ofTs (l := PySem.Challenge.rw_everylist_k03_texts_of_numbers) (n := 63) (k := 9) (x := "_law_script") (CX := fun w => L2.CX PySem.Challenge.pw_everylist_k03_texts_of_numbers w) rfl (by decide) rfl ⟨rfl, by decide, by decide⟩ (fun w h Y => PySem.W.kIn_of Y) ?F (fun _ _ _ _ _ z => DL.cx_false z)
  case F =>
    intro w mg fa h Y KX G hmg
    refine' DL.K3.all_mk KX G hmg ?aC ?aE ?a0 ?l0 ?c0 ?k0 ?a1 ?l1 ?c1 ?k1 ?a2 ?l2 ?c2 ?k2 ?a3 ?l3 ?c3 ?k3 ?a4 ?i4 ?l4 ?c4 ?k4 ?a5 ?l5 ?c5 ?k5 ?a6 ?l6 ?c6 ?k6 ?a7 ?l7 ?c7 ?k7 ?a8 ?l8 ?c8 ?k8 ?a9 ?i9 ?l9 ?c9 ?k9 ?a10 ?l10 ?c10 ?k10 ?a11 ?l11 ?c11 ?k11 ?a12 ?l12 ?c12 ?k12 ?a13 ?i13 ?l13 ?c13 ?k13 ?a14 ?l14 ?c14 ?k14 ?a15 ?l15 ?c15 ?k15 ?a16 ?l16 ?c16 ?k16 ?a17 ?l17 ?c17 ?k17 ?a18 ?l18 ?c18 ?k18 ?a19 ?l19 ?c19 ?k19 ?a20 ?l20 ?c20 ?k20 ?a21 ?l21 ?c21 ?k21 ?a22 ?l22 ?c22 ?k22 ?lT ?pgC ?hdC ?poC ?saC ?mkC ?kcC ?nCt ?nCb ?haC ?hnC ?htC ?hmC ?nb1 ?nb2 ?nb3 ?nb4 ?nb5 ?nb6 ?nb7 ?kiC ?kbC ?xL ?xR ?saE ?gaE ?ggE ?nE ?iE ?tE ?kE ?xE ?vE ?yE ?hE ?mE ?uE ?oE ?icE ?sE ?lI ?cI ?ld ?hv ?hfl ?lc ?ev ?b_abs ?b_len ?b_all ?b_int ?b_bool ?b_str ?b_range ?b_isinstance ?b_super ?gD
    (case aC => first | k_is | rfl)
    (case aE => first | k_is | rfl)
    (case a0 => first | k_is | rfl)
    (case l0 => first | k_is | rfl)
    (case c0 => first | k_is | rfl)
    (case k0 => first | k_is | rfl)
    (case a1 => first | k_is | rfl)
    (case l1 => first | k_is | rfl)
    (case c1 => first | k_is | rfl)
    (case k1 => first | k_is | rfl)
    (case a2 => first | k_is | rfl)
    (case l2 => first | k_is | rfl)
    (case c2 => first | k_is | rfl)
    (case k2 => first | k_is | rfl)
    (case a3 => first | k_is | rfl)
    (case l3 => first | k_is | rfl)
    (case c3 => first | k_is | rfl)
    (case k3 => first | k_is | rfl)
    (case a4 => first | k_is | rfl)
    (case i4 => first | k_is | rfl)
    (case l4 => first | k_is | rfl)
    (case c4 => first | k_is | rfl)
    (case k4 => first | k_is | rfl)
    (case a5 => first | k_is | rfl)
    (case l5 => first | k_is | rfl)
    (case c5 => first | k_is | rfl)
    (case k5 => first | k_is | rfl)
    (case a6 => first | k_is | rfl)
    (case l6 => first | k_is | rfl)
    (case c6 => first | k_is | rfl)
    (case k6 => first | k_is | rfl)
    (case a7 => first | k_is | rfl)
    (case l7 => first | k_is | rfl)
    (case c7 => first | k_is | rfl)
    (case k7 => first | k_is | rfl)
    (case a8 => first | k_is | rfl)
    (case l8 => first | k_is | rfl)
    (case c8 => first | k_is | rfl)
    (case k8 => first | k_is | rfl)
    (case a9 => first | k_is | rfl)
    (case i9 => first | k_is | rfl)
    (case l9 => first | k_is | rfl)
    (case c9 => first | k_is | rfl)
    (case k9 => first | k_is | rfl)
    (case a10 => first | k_is | rfl)
    (case l10 => first | k_is | rfl)
    (case c10 => first | k_is | rfl)
    (case k10 => first | k_is | rfl)
    (case a11 => first | k_is | rfl)
    (case l11 => first | k_is | rfl)
    (case c11 => first | k_is | rfl)
    (case k11 => first | k_is | rfl)
    (case a12 => first | k_is | rfl)
    (case l12 => first | k_is | rfl)
    (case c12 => first | k_is | rfl)
    (case k12 => first | k_is | rfl)
    (case a13 => first | k_is | rfl)
    (case i13 => first | k_is | rfl)
    (case l13 => first | k_is | rfl)
    (case c13 => first | k_is | rfl)
    (case k13 => first | k_is | rfl)
    (case a14 => first | k_is | rfl)
    (case l14 => first | k_is | rfl)
    (case c14 => first | k_is | rfl)
    (case k14 => first | k_is | rfl)
    (case a15 => first | k_is | rfl)
    (case l15 => first | k_is | rfl)
    (case c15 => first | k_is | rfl)
    (case k15 => first | k_is | rfl)
    (case a16 => first | k_is | rfl)
    (case l16 => first | k_is | rfl)
    (case c16 => first | k_is | rfl)
    (case k16 => first | k_is | rfl)
    (case a17 => first | k_is | rfl)
    (case l17 => first | k_is | rfl)
    (case c17 => first | k_is | rfl)
    (case k17 => first | k_is | rfl)
    (case a18 => first | k_is | rfl)
    (case l18 => first | k_is | rfl)
    (case c18 => first | k_is | rfl)
    (case k18 => first | k_is | rfl)
    (case a19 => first | k_is | rfl)
    (case l19 => first | k_is | rfl)
    (case c19 => first | k_is | rfl)
    (case k19 => first | k_is | rfl)
    (case a20 => first | k_is | rfl)
    (case l20 => first | k_is | rfl)
    (case c20 => first | k_is | rfl)
    (case k20 => first | k_is | rfl)
    (case a21 => first | k_is | rfl)
    (case l21 => first | k_is | rfl)
    (case c21 => first | k_is | rfl)
    (case k21 => first | k_is | rfl)
    (case a22 => first | k_is | rfl)
    (case l22 => first | k_is | rfl)
    (case c22 => first | k_is | rfl)
    (case k22 => first | k_is | rfl)
    (case lT => first | k_is | rfl)
    (case pgC => first | k_is | rfl)
    (case hdC => first | k_is | rfl)
    (case poC => first | k_is | rfl)
    (case saC => first | k_is | rfl)
    (case mkC => first | k_is | rfl)
    (case kcC => first | k_is | rfl)
    (case nCt => first | k_is | rfl)
    (case nCb => first | k_is | rfl)
    (case haC => first | k_is | rfl)
    (case hnC => first | k_is | rfl)
    (case htC => first | k_is | rfl)
    (case hmC => first | k_is | rfl)
    (case nb1 => first | k_is | rfl)
    (case nb2 => first | k_is | rfl)
    (case nb3 => first | k_is | rfl)
    (case nb4 => first | k_is | rfl)
    (case nb5 => first | k_is | rfl)
    (case nb6 => first | k_is | rfl)
    (case nb7 => first | k_is | rfl)
    (case kiC => first | k_is | rfl)
    (case kbC => first | k_is | rfl)
    (case xL => first | k_is | rfl)
    (case xR => first | rfl | decide +kernel)
    (case saE => first | k_is | rfl)
    (case gaE => first | k_is | rfl)
    (case ggE => first | k_is | rfl)
    (case nE => first | k_is | rfl)
    (case iE => first | k_is | rfl)
    (case tE => first | k_is | rfl)
    (case kE => first | k_is | rfl)
    (case xE => first | k_is | rfl)
    (case vE => first | k_is | rfl)
    (case yE => first | k_is | rfl)
    (case hE => first | k_is | rfl)
    (case mE => first | k_is | rfl)
    (case uE => first | k_is | rfl)
    (case oE => first | k_is | rfl)
    (case icE => first | k_is | rfl)
    (case sE => first | k_is | rfl)
    (case lI => first | k_is | rfl)
    (case cI => first | k_is | rfl)
    (case ld => first | k_is | rfl)
    (case hv => first | rfl | decide +kernel)
    (case hfl => first | rfl | decide +kernel)
    (case lc => first | k_is | rfl)
    (case ev => exact ⟨⟨_, fun _ => rfl⟩, fun _ => rfl, fun _ => rfl, fun _ => rfl, fun _ => rfl, fun _ _ => rfl⟩)
    (case b_abs => first | k_is | rfl)
    (case b_len => first | k_is | rfl)
    (case b_all => first | k_is | rfl)
    (case b_int => first | k_is | rfl)
    (case b_bool => first | k_is | rfl)
    (case b_str => first | k_is | rfl)
    (case b_range => first | k_is | rfl)
    (case b_isinstance => first | k_is | rfl)
    (case b_super => first | k_is | rfl)
    (case gD => first | k_is | rfl)
