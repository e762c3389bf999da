import PyProof.Rows.All
import Wide.All
import OpenK.AllK
import Wide.FinOn
import KE.KStateDown
import KE.KNestM
import HandS.ForMost
import HandS.Defaults
import HandS.Head0
import HandS.Head1
import HandS.Head2
import HandS.HeadEnd
import HandS.HeadHook1
import HandS.HeadHook2
import HandS.EndTab
import HandS.HeadWalk
import PySem.Challenge.RW_linkheralds_k89_whole_ties_that_no_least
import KE.KMinKey
import KE.SortKeyHeap
import HandS.Lambda
import HandS.Nested
import HandS.DictEq
import HandS.DeepEq
import HandS.DictComp
import HandS.SetKeys
import HandS.IsInst
import HandS.Flow
import HandS.Wide
import KE.KDictLaw
/-! Least sums over seen ties: plain mathematics, no program in sight. -/
namespace Wy
abbrev PF := Int → Option Int
abbrev Gr := Int → Int → Option Int
abbrev FF := Int → Option (List Int)
def up {α : Type} (S : Int → Option α) (k : Int) (v : Option α) : Int → Option α := fun b => if b = k then v else S b
theorem up_same {α : Type} {S : Int → Option α} {k : Int} {v : Option α} : up S k v k = v := by unfold up; rw [if_pos rfl]
theorem up_ne {α : Type} {S : Int → Option α} {k b : Int} {v : Option α} (h : b ≠ k) : up S k v b = S b := by unfold up; rw [if_neg h]
theorem up_cases {α : Type} {S : Int → Option α} {k b : Int} {v : Option α} {y : α} (h : up S k v b = some y) : (b = k ∧ v = some y) ∨ (b ≠ k ∧ S b = some y) := by
  by_cases e : b = k
  · subst e; rw [up_same] at h; exact .inl ⟨rfl, h⟩
  · rw [up_ne e] at h; exact .inr ⟨e, h⟩

/-- ties between unlike houses below n, prices from 1 to 99 -/
def GIn (n : Int) (G : Gr) : Prop := ∀ a b p, G a b = some p → 0 ≤ a ∧ a < n ∧ 0 ≤ b ∧ b < n ∧ a ≠ b ∧ 1 ≤ p ∧ p ≤ 99
theorem GIn.mono {n m : Int} {G : Gr} (h : GIn n G) (e : n ≤ m) : GIn m G := fun a b p q => by
  obtain ⟨a1, a2, a3, a4, a5⟩ := h a b p q
  exact ⟨a1, Int.lt_of_lt_of_le a2 e, a3, Int.lt_of_lt_of_le a4 e, a5⟩

/-- the least sums from h -/
structure Fix (G : Gr) (h : Int) (S : PF) : Prop where
  src : S h = some 0
  cls : ∀ a b p x, S a = some x → G a b = some p → ∃ y, S b = some y ∧ y ≤ x + p
  prd : ∀ b y, S b = some y → b ≠ h → ∃ a x p, S a = some x ∧ G a b = some p ∧ x + p = y
  nn : ∀ b y, S b = some y → 0 ≤ y
theorem Fix.le {n : Int} {G : Gr} {h : Int} {S S' : PF} (hG : GIn n G) (f : Fix G h S) (f' : Fix G h S') : ∀ (k : Nat) (b y : Int), y.toNat ≤ k → S b = some y → ∃ y', S' b = some y' ∧ y' ≤ y := by
  intro k
  induction k with
  | zero =>
    intro b y hy e
    by_cases hb : b = h
    · subst hb
      have := f.nn _ _ e
      exact ⟨0, f'.src, this⟩
    · obtain ⟨a, x, p, e1, e2, e3⟩ := f.prd b y e hb
      have h1 := f.nn _ _ e1
      have h2 := (hG _ _ _ e2).2.2.2.2.2.1
      omega
  | succ k ih =>
    intro b y hy e
    by_cases hb : b = h
    · subst hb
      have := f.nn _ _ e
      exact ⟨0, f'.src, this⟩
    · obtain ⟨a, x, p, e1, e2, e3⟩ := f.prd b y e hb
      have h1 := f.nn _ _ e1
      have h2 := (hG _ _ _ e2).2.2.2.2.2.1
      obtain ⟨x', q1, q2⟩ := ih a x (by omega) e1
      obtain ⟨y', r1, r2⟩ := f'.cls a b p x' q1 e2
      exact ⟨y', r1, by omega⟩
theorem Fix.uniq {n : Int} {G : Gr} {h : Int} {S S' : PF} (hG : GIn n G) (f : Fix G h S) (f' : Fix G h S') : S = S' := by
  funext b
  cases e : S b with
  | none =>
    cases e' : S' b with
    | none => rfl
    | some y =>
      obtain ⟨z, q, _⟩ := Fix.le hG f' f _ b y (Nat.le_refl _) e'
      rw [e] at q; cases q
  | some y =>
    obtain ⟨y', q1, q2⟩ := Fix.le hG f f' _ b y (Nat.le_refl _) e
    obtain ⟨y'', r1, r2⟩ := Fix.le hG f' f _ b y' (Nat.le_refl _) q1
    rw [e] at r1; cases r1
    rw [q1]
    have : y = y' := by omega
    rw [this]
/-- keys below n -/
def InR {α : Type} (n : Int) (S : Int → Option α) : Prop := ∀ b y, S b = some y → 0 ≤ b ∧ b < n
theorem Fix.inR {n : Int} {G : Gr} {h : Int} {S : PF} (hG : GIn n G) (f : Fix G h S) (h0 : 0 ≤ h) (h1 : h < n) : InR n S := fun b y e => by
  by_cases hb : b = h
  · subst hb; exact ⟨h0, h1⟩
  · obtain ⟨a, x, p, e1, e2, e3⟩ := f.prd b y e hb
    obtain ⟨_, _, z1, z2, _⟩ := hG _ _ _ e2
    exact ⟨z1, z2⟩

/-! ### all first steps -/
def StepF (F : FF) (a b x : Int) : Prop := ∃ l, F a = some l ∧ ((l ≠ [] ∧ x ∈ l) ∨ (l = [] ∧ x = b))
structure Firsts (G : Gr) (h : Int) (S : PF) (F : FF) : Prop where
  src : F h = some []
  dom : ∀ b, F b = none ↔ S b = none
  srt : ∀ b l, F b = some l → l.Pairwise (· < ·)
  mem : ∀ b y l, S b = some y → b ≠ h → F b = some l → ∀ x, x ∈ l ↔ ∃ a z p, S a = some z ∧ G a b = some p ∧ z + p = y ∧ StepF F a b x
theorem sorted_ext : ∀ {l l' : List Int}, l.Pairwise (· < ·) → l'.Pairwise (· < ·) → (∀ x, x ∈ l ↔ x ∈ l') → l = l'
  | [], [], _, _, _ => rfl
  | [], y :: t, _, _, h => by have := (h y).mpr List.mem_cons_self; cases this
  | x :: t, [], _, _, h => by have := (h x).mp List.mem_cons_self; cases this
  | x :: t, y :: t', hs, hs', h => by
    obtain ⟨a1, a2⟩ := List.pairwise_cons.mp hs
    obtain ⟨b1, b2⟩ := List.pairwise_cons.mp hs'
    have e : x = y := by
      have h1 := (h x).mp List.mem_cons_self
      have h2 := (h y).mpr List.mem_cons_self
      rcases List.mem_cons.mp h1 with e | m1
      · exact e
      · rcases List.mem_cons.mp h2 with e | m2
        · exact e.symm
        · have := a1 _ m2
          have := b1 _ m1
          omega
    subst e
    have : t = t' := sorted_ext a2 b2 fun z => by
      constructor
      · intro m
        rcases List.mem_cons.mp ((h z).mp (List.mem_cons_of_mem _ m)) with e | m'
        · subst e; exact absurd (a1 _ m) (Int.lt_irrefl _)
        · exact m'
      · intro m
        rcases List.mem_cons.mp ((h z).mpr (List.mem_cons_of_mem _ m)) with e | m'
        · subst e; exact absurd (b1 _ m) (Int.lt_irrefl _)
        · exact m'
    rw [this]
theorem some_of_dom {S : PF} {F : FF} (d : ∀ b, F b = none ↔ S b = none) {b y : Int} (e : S b = some y) : ∃ l, F b = some l := by
  cases q : F b with
  | none => rw [(d b).mp q] at e; cases e
  | some l => exact ⟨l, rfl⟩
theorem dom_of_some {S : PF} {F : FF} (d : ∀ b, F b = none ↔ S b = none) {b : Int} {l : List Int} (e : F b = some l) : ∃ y, S b = some y := by
  cases q : S b with
  | none => rw [(d b).mpr q] at e; cases e
  | some l => exact ⟨l, rfl⟩
theorem StepF.congr {F F' : FF} {a b x : Int} (e : F a = F' a) : StepF F a b x ↔ StepF F' a b x := by
  unfold StepF; rw [e]
theorem Firsts.uniq {n : Int} {G : Gr} {h : Int} {S : PF} {F F' : FF} (hG : GIn n G) (fx : Fix G h S) (f : Firsts G h S F) (f' : Firsts G h S F') : F = F' := by
  have key : ∀ (k : Nat) (b y : Int), y.toNat ≤ k → S b = some y → F b = F' b := by
    intro k
    induction k with
    | zero =>
      intro b y hy e
      by_cases hb : b = h
      · subst hb; rw [f.src, f'.src]
      · obtain ⟨a, x, p, e1, e2, e3⟩ := fx.prd b y e hb
        have h1 := fx.nn _ _ e1
        have h2 := (hG _ _ _ e2).2.2.2.2.2.1
        omega
    | succ k ih =>
      intro b y hy e
      by_cases hb : b = h
      · subst hb; rw [f.src, f'.src]
      · obtain ⟨l, el⟩ := some_of_dom f.dom e
        obtain ⟨l', el'⟩ := some_of_dom f'.dom e
        rw [el, el']
        congr 1
        refine sorted_ext (f.srt _ _ el) (f'.srt _ _ el') fun x => ?_
        rw [f.mem b y l e hb el x, f'.mem b y l' e hb el' x]
        constructor
        · rintro ⟨a, z, p, e1, e2, e3, st⟩
          have h2 := (hG _ _ _ e2).2.2.2.2.2.1
          have h1 := fx.nn _ _ e1
          exact ⟨a, z, p, e1, e2, e3, (StepF.congr (ih a z (by omega) e1)).mp st⟩
        · rintro ⟨a, z, p, e1, e2, e3, st⟩
          have h2 := (hG _ _ _ e2).2.2.2.2.2.1
          have h1 := fx.nn _ _ e1
          exact ⟨a, z, p, e1, e2, e3, (StepF.congr (ih a z (by omega) e1)).mpr st⟩
  funext b
  cases e : S b with
  | none => rw [(f.dom b).mpr e, (f'.dom b).mpr e]
  | some y => exact key _ b y (Nat.le_refl _) e

/-! ### a tie goes: rows that no least way over it leads to stay -/
def rem (G : Gr) (u v : Int) : Gr := fun a b => if a = u ∧ b = v then none else G a b
theorem rem_sub {G : Gr} {u v a b p : Int} (h : rem G u v a b = some p) : G a b = some p ∧ ¬ (a = u ∧ b = v) := by
  unfold rem at h
  by_cases e : a = u ∧ b = v
  · rw [if_pos e] at h; cases h
  · rw [if_neg e] at h; exact ⟨h, e⟩
theorem rem_of {G : Gr} {u v a b p : Int} (h : G a b = some p) (e : ¬ (a = u ∧ b = v)) : rem G u v a b = some p := by
  unfold rem; rw [if_neg e]; exact h
theorem GIn.rem {n : Int} {G : Gr} {u v : Int} (h : GIn n G) : GIn n (rem G u v) := fun a b p e => h a b p (rem_sub e).1
def Over (S B : PF) (u c t : Int) : Prop := ∃ x y z, S u = some x ∧ B t = some y ∧ S t = some z ∧ x + c + y = z
/-- S t ≤ S u + c + B t -/
theorem tri {n : Int} {G : Gr} {h u v c : Int} {S B : PF} (hG : GIn n G) (f : Fix G h S) (fb : Fix G v B) (hc : G u v = some c) {x : Int} (hx : S u = some x) :
    ∀ (k : Nat) (t y : Int), y.toNat ≤ k → B t = some y → ∃ z, S t = some z ∧ z ≤ x + c + y := by
  intro k
  induction k with
  | zero =>
    intro t y hy e
    by_cases ht : t = v
    · subst ht
      obtain ⟨z, q1, q2⟩ := f.cls u t c x hx hc
      have := fb.nn _ _ e
      exact ⟨z, q1, by omega⟩
    · obtain ⟨a, w, p, e1, e2, e3⟩ := fb.prd t y e ht
      have h1 := fb.nn _ _ e1
      have h2 := (hG _ _ _ e2).2.2.2.2.2.1
      omega
  | succ k ih =>
    intro t y hy e
    by_cases ht : t = v
    · subst ht
      obtain ⟨z, q1, q2⟩ := f.cls u t c x hx hc
      have := fb.nn _ _ e
      exact ⟨z, q1, by omega⟩
    · obtain ⟨a, w, p, e1, e2, e3⟩ := fb.prd t y e ht
      have h1 := fb.nn _ _ e1
      have h2 := (hG _ _ _ e2).2.2.2.2.2.1
      obtain ⟨z, q1, q2⟩ := ih a w (by omega) e1
      obtain ⟨z', r1, r2⟩ := f.cls a t p z q1 e2
      exact ⟨z', r1, by omega⟩
/-- where the begin is reached and the target from the end, the target is reached -/
theorem reach {n : Int} {G : Gr} {h u v c : Int} {S B : PF} (hG : GIn n G) (f : Fix G h S) (fb : Fix G v B) (hc : G u v = some c) {x t y : Int} (hx : S u = some x) (hy : B t = some y) : ∃ z, S t = some z :=
  let ⟨z, e, _⟩ := tri hG f fb hc hx _ t y (Nat.le_refl _) hy
  ⟨z, e⟩
section
variable {n : Int} {G : Gr} {h u v c : Int} {S S' B : PF} {F F' : FF}
/-- fewer ties: no lesser sums -/
theorem sums_ge (hG : GIn n G) (f : Fix G h S) (f' : Fix (rem G u v) h S') : ∀ (k : Nat) (b y : Int), y.toNat ≤ k → S' b = some y → ∃ z, S b = some z ∧ z ≤ y := by
  intro k
  induction k with
  | zero =>
    intro b y hy e
    by_cases hb : b = h
    · subst hb
      have := f'.nn _ _ e
      exact ⟨0, f.src, this⟩
    · obtain ⟨a, x, p, e1, e2, e3⟩ := f'.prd b y e hb
      have h1 := f'.nn _ _ e1
      have h2 := (hG _ _ _ (rem_sub e2).1).2.2.2.2.2.1
      omega
  | succ k ih =>
    intro b y hy e
    by_cases hb : b = h
    · subst hb
      have := f'.nn _ _ e
      exact ⟨0, f.src, this⟩
    · obtain ⟨a, x, p, e1, e2, e3⟩ := f'.prd b y e hb
      have h1 := f'.nn _ _ e1
      have h2 := (hG _ _ _ (rem_sub e2).1).2.2.2.2.2.1
      obtain ⟨x', q1, q2⟩ := ih a x (by omega) e1
      obtain ⟨y', r1, r2⟩ := f.cls a b p x' q1 (rem_sub e2).1
      exact ⟨y', r1, by omega⟩
/-- a least step to a house that isn't gone over comes from such a house, by another tie -/
theorem back_step (hG : GIn n G) (f : Fix G h S) (fb : Fix G v B) (hc : G u v = some c) {a t x p y : Int} (ha : S a = some x) (hp : G a t = some p) (ht : S t = some y) (e : x + p = y) (no : ¬ Over S B u c t) : ¬ (a = u ∧ t = v) ∧ ¬ Over S B u c a := by
  refine ⟨fun ⟨e1, e2⟩ => no ?_, fun ⟨x1, y1, z1, q1, q2, q3, q4⟩ => no ?_⟩
  · subst e1 e2
    rw [hc] at hp; cases hp
    exact ⟨x, 0, y, ha, fb.src, ht, by omega⟩
  · rw [ha] at q3; cases q3
    obtain ⟨w, r1, r2⟩ := fb.cls a t p y1 q2 hp
    obtain ⟨z, s1, s2⟩ := tri hG f fb hc q1 _ t w (Nat.le_refl _) r1
    rw [ht] at s1; cases s1
    exact ⟨x1, w, y, q1, r1, ht, by omega⟩
theorem stay_sum (hG : GIn n G) (f : Fix G h S) (f' : Fix (rem G u v) h S') (fb : Fix G v B) (hc : G u v = some c) : ∀ (k : Nat) (t y : Int), y.toNat ≤ k → S t = some y → ¬ Over S B u c t → S' t = some y := by
  have fin : ∀ {t y y' : Int}, S t = some y → S' t = some y' → y' ≤ y → S' t = some y := fun {t y y'} e e' l => by
    obtain ⟨z, q1, q2⟩ := sums_ge hG f f' _ t y' (Nat.le_refl _) e'
    rw [e] at q1; cases q1
    have : y' = y := by omega
    rw [e', this]
  intro k
  induction k with
  | zero =>
    intro t y hy e no
    by_cases ht : t = h
    · subst ht
      rw [f.src] at e; cases e
      exact f'.src
    · obtain ⟨a, x, p, e1, e2, e3⟩ := f.prd t y e ht
      have h1 := f.nn _ _ e1
      have h2 := (hG _ _ _ e2).2.2.2.2.2.1
      omega
  | succ k ih =>
    intro t y hy e no
    by_cases ht : t = h
    · subst ht
      rw [f.src] at e; cases e
      exact f'.src
    · obtain ⟨a, x, p, e1, e2, e3⟩ := f.prd t y e ht
      have h1 := f.nn _ _ e1
      have h2 := (hG _ _ _ e2).2.2.2.2.2.1
      obtain ⟨b1, b2⟩ := back_step hG f fb hc e1 e2 e e3 no
      have e1' := ih a x (by omega) e1 b2
      obtain ⟨y', r1, r2⟩ := f'.cls a t p x e1' (rem_of e2 b1)
      exact fin e r1 (by omega)
theorem stay_firsts (hG : GIn n G) (f : Fix G h S) (f' : Fix (rem G u v) h S') (fb : Fix G v B) (hc : G u v = some c) (g : Firsts G h S F) (g' : Firsts (rem G u v) h S' F') :
    ∀ (k : Nat) (t y : Int), y.toNat ≤ k → S t = some y → ¬ Over S B u c t → F' t = F t := by
  intro k
  induction k with
  | zero =>
    intro t y hy e no
    by_cases ht : t = h
    · subst ht; rw [g.src, g'.src]
    · obtain ⟨a, x, p, e1, e2, e3⟩ := f.prd t y e ht
      have h1 := f.nn _ _ e1
      have h2 := (hG _ _ _ e2).2.2.2.2.2.1
      omega
  | succ k ih =>
    intro t y hy e no
    by_cases ht : t = h
    · subst ht; rw [g.src, g'.src]
    · have e' := stay_sum hG f f' fb hc _ t y (Nat.le_refl _) e no
      obtain ⟨l, el⟩ := some_of_dom g.dom e
      obtain ⟨l', el'⟩ := some_of_dom g'.dom e'
      rw [el, el']
      congr 1
      refine sorted_ext (g'.srt _ _ el') (g.srt _ _ el) fun x => ?_
      rw [g.mem t y l e ht el x, g'.mem t y l' e' ht el' x]
      constructor
      · rintro ⟨a, z, p, e1, e2, e3, st⟩
        obtain ⟨e2, ne⟩ := rem_sub e2
        have h2 := (hG _ _ _ e2).2.2.2.2.2.1
        have h1 := f'.nn _ _ e1
        obtain ⟨z', q1, q2⟩ := sums_ge hG f f' _ a z (Nat.le_refl _) e1
        obtain ⟨y', r1, r2⟩ := f.cls a t p z' q1 e2
        rw [e] at r1; cases r1
        have ez : z' = z := by omega
        subst ez
        obtain ⟨b1, b2⟩ := back_step hG f fb hc q1 e2 e e3 no
        exact ⟨a, z', p, q1, e2, e3, (StepF.congr (ih a z' (by omega) q1 b2)).mp st⟩
      · rintro ⟨a, z, p, e1, e2, e3, st⟩
        have h2 := (hG _ _ _ e2).2.2.2.2.2.1
        have h1 := f.nn _ _ e1
        obtain ⟨b1, b2⟩ := back_step hG f fb hc e1 e2 e e3 no
        have e1' := stay_sum hG f f' fb hc _ a z (Nat.le_refl _) e1 b2
        exact ⟨a, z, p, e1', rem_of e2 b1, e3, (StepF.congr (ih a z (by omega) e1 b2)).mpr st⟩
/-- the row of a house that isn't gone over stays -/
theorem stay (hG : GIn n G) (f : Fix G h S) (f' : Fix (rem G u v) h S') (fb : Fix G v B) (hc : G u v = some c) (g : Firsts G h S F) (g' : Firsts (rem G u v) h S' F') {t : Int} (no : ¬ Over S B u c t) : S' t = S t ∧ F' t = F t := by
  cases e : S t with
  | some y => exact ⟨stay_sum hG f f' fb hc _ t y (Nat.le_refl _) e no, stay_firsts hG f f' fb hc g g' _ t y (Nat.le_refl _) e no⟩
  | none =>
    have e' : S' t = none := by
      cases q : S' t with
      | none => rfl
      | some y =>
        obtain ⟨z, q1, _⟩ := sums_ge hG f f' _ t y (Nat.le_refl _) q
        rw [e] at q1; cases q1
    exact ⟨e', by rw [(g.dom t).mpr e, (g'.dom t).mpr e']⟩
end
end Wy

/-! The walks' invariants: Dijkstra, the nearer ones, the lost ones. -/
namespace Wy
theorem up_none {S : PF} {k b y : Int} (h : up S k none b = some y) : b ≠ k ∧ S b = some y := by
  rcases up_cases h with ⟨_, e⟩ | e
  · cases e
  · exact e
/-! ### sums_from: done S, waiting W; A: the ties that are seen to -/
structure DJ (G : Gr) (h : Int) (A : Int → Int → Prop) (S W : PF) : Prop where
  dis : ∀ b y, W b = some y → S b = none
  src : S h = some 0 ∨ ((∀ b, S b = none) ∧ W h = some 0)
  cls : ∀ a b p x, S a = some x → G a b = some p → A a b → (∃ y, S b = some y ∧ y ≤ x + p) ∨ ∃ y, W b = some y ∧ y ≤ x + p
  prd : ∀ b y, S b = some y → b ≠ h → ∃ a x p, S a = some x ∧ G a b = some p ∧ x + p = y
  wpr : ∀ b y, W b = some y → (b = h ∧ y = 0) ∨ ∃ a x p, S a = some x ∧ G a b = some p ∧ x + p = y
  ord : ∀ a x b y, S a = some x → W b = some y → x ≤ y
  nn : ∀ b y, S b = some y → 0 ≤ y
  nw : ∀ b y, W b = some y → 0 ≤ y
section
variable {n : Int} {G : Gr} {h : Int} {A : Int → Int → Prop} {S W : PF}
theorem DJ.start (G : Gr) (h : Int) (A : Int → Int → Prop) : DJ G h A (fun _ => none) (fun b => if b = h then some 0 else none) where
  dis := fun _ _ _ => rfl
  src := .inr ⟨fun _ => rfl, if_pos rfl⟩
  cls := fun _ _ _ _ e => by cases e
  prd := fun _ _ e => by cases e
  wpr := fun b y e => by
    by_cases q : b = h
    · rw [if_pos q] at e; cases e; exact .inl ⟨q, rfl⟩
    · rw [if_neg q] at e; cases e
  ord := fun _ _ _ _ e => by cases e
  nn := fun _ _ e => by cases e
  nw := fun b y e => by
    by_cases q : b = h
    · rw [if_pos q] at e; cases e; exact Int.le_refl _
    · rw [if_neg q] at e; cases e
theorem DJ.fix (d : DJ G h A S W) (hw : ∀ b, W b = none) (hA : ∀ a b p, G a b = some p → A a b) : Fix G h S where
  src := by
    rcases d.src with e | ⟨_, e⟩
    · exact e
    · rw [hw] at e; cases e
  cls := fun a b p x e1 e2 => by
    rcases d.cls a b p x e1 e2 (hA a b p e2) with e | ⟨y, e, _⟩
    · exact e
    · rw [hw] at e; cases e
  prd := d.prd
  nn := d.nn
theorem DJ.mono {A' : Int → Int → Prop} (d : DJ G h A S W) (hA : ∀ a b p, G a b = some p → A' a b → A a b) : DJ G h A' S W where
  dis := d.dis
  src := d.src
  cls := fun a b p x e1 e2 e3 => d.cls a b p x e1 e2 (hA a b p e2 e3)
  prd := d.prd
  wpr := d.wpr
  ord := d.ord
  nn := d.nn
  nw := d.nw
/-- the nearest one is taken -/
theorem DJ.pop (d : DJ G h A S W) (hA : ∀ a b p, G a b = some p → A a b) {k m : Int} (hk : W k = some m) (hm : ∀ b y, W b = some y → m ≤ y) :
    DJ G h (fun a _ => a ≠ k) (up S k (some m)) (up W k none) ∧ ∀ a x, up S k (some m) a = some x → x ≤ m := by
  have hS : S k = none := d.dis k m hk
  have keep : ∀ {a x}, S a = some x → up S k (some m) a = some x := fun {a x} e => by
    rw [up_ne (fun z => by rw [z, hS] at e; cases e)]; exact e
  refine ⟨⟨fun b y e => ?_, ?_, fun a b p x e1 e2 e3 => ?_, fun b y e hb => ?_, fun b y e => ?_, fun a x b y e1 e2 => ?_, fun b y e => ?_, fun b y e => ?_⟩, fun a x e => ?_⟩
  · obtain ⟨ne, e⟩ := up_none e
    rw [up_ne ne]; exact d.dis b y e
  · rcases d.src with e | ⟨e1, e2⟩
    · exact .inl (keep e)
    · left
      have : k = h := by
        rcases d.wpr k m hk with ⟨q, _⟩ | ⟨a, x, p, q, _⟩
        · exact q
        · rw [e1] at q; cases q
      subst this
      rw [hk] at e2; cases e2
      exact up_same
  · rcases up_cases e1 with ⟨q, _⟩ | ⟨q, e1⟩
    · exact absurd q e3
    · rcases d.cls a b p x e1 e2 (hA a b p e2) with ⟨y, r1, r2⟩ | ⟨y, r1, r2⟩
      · exact .inl ⟨y, keep r1, r2⟩
      · by_cases hb : b = k
        · subst hb
          rw [hk] at r1; cases r1
          exact .inl ⟨_, up_same, r2⟩
        · exact .inr ⟨y, by rw [up_ne hb]; exact r1, r2⟩
  · rcases up_cases e with ⟨q, e⟩ | ⟨q, e⟩
    · cases e
      subst q
      rcases d.wpr _ _ hk with ⟨r, _⟩ | ⟨a, x, p, r1, r2, r3⟩
      · exact absurd r hb
      · exact ⟨a, x, p, keep r1, r2, r3⟩
    · obtain ⟨a, x, p, r1, r2, r3⟩ := d.prd b y e hb
      exact ⟨a, x, p, keep r1, r2, r3⟩
  · obtain ⟨ne, e⟩ := up_none e
    rcases d.wpr b y e with r | ⟨a, x, p, r1, r2, r3⟩
    · exact .inl r
    · exact .inr ⟨a, x, p, keep r1, r2, r3⟩
  · obtain ⟨ne, e2⟩ := up_none e2
    rcases up_cases e1 with ⟨q, e1⟩ | ⟨q, e1⟩
    · cases e1
      exact hm b y e2
    · exact d.ord a x b y e1 e2
  · rcases up_cases e with ⟨q, e⟩ | ⟨q, e⟩
    · cases e
      exact d.nw _ _ hk
    · exact d.nn b y e
  · obtain ⟨ne, e⟩ := up_none e
    exact d.nw b y e
  · rcases up_cases e with ⟨q, e⟩ | ⟨q, e⟩
    · cases e; exact Int.le_refl _
    · exact d.ord a x k m e hk
def lower (W : PF) (b x : Int) : PF := up W b (some (match W b with
  | some y => if x < y then x else y
  | none => x))
theorem lower_at {W : PF} {b x : Int} : ∃ y, lower W b x b = some y ∧ y ≤ x ∧ (y = x ∨ W b = some y) := by
  unfold lower
  rw [up_same]
  cases e : W b with
  | none => exact ⟨x, rfl, Int.le_refl _, .inl rfl⟩
  | some y =>
    by_cases q : x < y
    · exact ⟨x, by simp only [if_pos q], Int.le_refl _, .inl rfl⟩
    · exact ⟨y, by simp only [if_neg q], by omega, .inr rfl⟩
theorem lower_ne {W : PF} {b x c : Int} (h : c ≠ b) : lower W b x c = W c := up_ne h
theorem lower_le {W : PF} {b x c y : Int} (h : W c = some y) : ∃ z, lower W b x c = some z ∧ z ≤ y := by
  by_cases e : c = b
  · subst e
    unfold lower
    rw [up_same, h]
    by_cases q : x < y
    · exact ⟨x, by simp only [if_pos q], by omega⟩
    · exact ⟨y, by simp only [if_neg q], by omega⟩
  · exact ⟨y, by rw [lower_ne e]; exact h, Int.le_refl _⟩
theorem lower_cases {W : PF} {b x c y : Int} (h : lower W b x c = some y) : (c = b ∧ y = x) ∨ W c = some y := by
  by_cases e : c = b
  · subst e
    obtain ⟨z, q1, _, q3⟩ := lower_at (W := W) (b := c) (x := x)
    rw [h] at q1; cases q1
    rcases q3 with r | r
    · exact .inl ⟨rfl, r⟩
    · exact .inr r
  · rw [lower_ne e] at h; exact .inr h
/-- a tie from the nearest one is seen to -/
theorem DJ.relax (d : DJ G h A S W) (hG : GIn n G) {k m b p : Int} (hk : S k = some m) (top : ∀ a x, S a = some x → x ≤ m) (hp : G k b = some p) (hb : S b = none) :
    DJ G h (fun a c => A a c ∨ (a = k ∧ c = b)) S (lower W b (m + p)) := by
  have h1 := (hG _ _ _ hp).2.2.2.2.2.1
  have h0 := d.nn _ _ hk
  refine ⟨fun c y e => ?_, ?_, fun a c q x e1 e2 e3 => ?_, d.prd, fun c y e => ?_, fun a x c y e1 e2 => ?_, d.nn, fun c y e => ?_⟩
  · rcases lower_cases e with ⟨q, _⟩ | e
    · rw [q]; exact hb
    · exact d.dis c y e
  · rcases d.src with e | ⟨e, _⟩
    · exact .inl e
    · rw [e] at hk; cases hk
  · rcases e3 with e3 | ⟨e3, e4⟩
    · rcases d.cls a c q x e1 e2 e3 with r | ⟨y, r1, r2⟩
      · exact .inl r
      · obtain ⟨z, s1, s2⟩ := lower_le (b := b) (x := m + p) r1
        exact .inr ⟨z, s1, by omega⟩
    · subst e3 e4
      rw [hk] at e1; cases e1
      rw [hp] at e2; cases e2
      obtain ⟨y, s1, s2, _⟩ := lower_at (W := W) (b := c) (x := m + p)
      exact .inr ⟨y, s1, s2⟩
  · rcases lower_cases e with ⟨q, r⟩ | e
    · subst q
      exact .inr ⟨k, m, p, hk, hp, r.symm⟩
    · exact d.wpr c y e
  · rcases lower_cases e2 with ⟨q, r⟩ | e2
    · have := top a x e1
      omega
    · exact d.ord a x c y e1 e2
  · rcases lower_cases e with ⟨q, r⟩ | e
    · omega
    · exact d.nw c y e
theorem DJ.skip (d : DJ G h A S W) (hG : GIn n G) {k m b p y : Int} (hk : S k = some m) (top : ∀ a x, S a = some x → x ≤ m) (hp : G k b = some p) (hb : S b = some y) : DJ G h (fun a c => A a c ∨ (a = k ∧ c = b)) S W := by
  have h1 := (hG _ _ _ hp).2.2.2.2.2.1
  refine ⟨d.dis, d.src, fun a c q x e1 e2 e3 => ?_, d.prd, d.wpr, d.ord, d.nn, d.nw⟩
  rcases e3 with e3 | ⟨e3, e4⟩
  · exact d.cls a c q x e1 e2 e3
  · subst e3 e4
    rw [hk] at e1; cases e1
    rw [hp] at e2; cases e2
    have := top _ _ hb
    exact .inl ⟨y, hb, by omega⟩
/-- keys -/
theorem DJ.wIn (d : DJ G h A S W) (hG : GIn n G) (h0 : 0 ≤ h) (h1 : h < n) : InR n W := fun b y e => by
  rcases d.wpr b y e with ⟨q, _⟩ | ⟨a, x, p, _, q, _⟩
  · subst q; exact ⟨h0, h1⟩
  · obtain ⟨_, _, z1, z2, _⟩ := hG _ _ _ q
    exact ⟨z1, z2⟩
theorem DJ.sIn (d : DJ G h A S W) (hG : GIn n G) (h0 : 0 ≤ h) (h1 : h < n) : InR n S := fun b y e => by
  by_cases hb : b = h
  · subst hb; exact ⟨h0, h1⟩
  · obtain ⟨a, x, p, _, q, _⟩ := d.prd b y e hb
    obtain ⟨_, _, z1, z2, _⟩ := hG _ _ _ q
    exact ⟨z1, z2⟩
end

/-! ### nearer -/
structure NR (G : Gr) (h : Int) (A : Int → Int → Prop) (S W : PF) : Prop where
  src : S h = some 0
  cls : ∀ a b p x, S a = some x → G a b = some p → A a b → (∃ y, S b = some y ∧ y ≤ x + p) ∨ ∃ y, W b = some y ∧ y ≤ x + p
  prd : ∀ b y, S b = some y → b ≠ h → ∃ a x p, S a = some x ∧ G a b = some p ∧ x + p ≤ y
  wpr : ∀ b y, W b = some y → ∃ a x p, S a = some x ∧ G a b = some p ∧ x + p ≤ y
  nn : ∀ b y, S b = some y → 0 ≤ y
section
variable {n : Int} {G : Gr} {h : Int} {A : Int → Int → Prop} {S W : PF}
theorem NR.fix (d : NR G h A S W) (hw : ∀ b, W b = none) (hA : ∀ a b p, G a b = some p → A a b) : Fix G h S := by
  have cls : ∀ a b p x, S a = some x → G a b = some p → ∃ y, S b = some y ∧ y ≤ x + p := fun a b p x e1 e2 => by
    rcases d.cls a b p x e1 e2 (hA a b p e2) with e | ⟨y, e, _⟩
    · exact e
    · rw [hw] at e; cases e
  refine ⟨d.src, cls, fun b y e hb => ?_, d.nn⟩
  obtain ⟨a, x, p, e1, e2, e3⟩ := d.prd b y e hb
  obtain ⟨y', r1, r2⟩ := cls a b p x e1 e2
  rw [e] at r1; cases r1
  exact ⟨a, x, p, e1, e2, by omega⟩
theorem NR.mono {A' : Int → Int → Prop} (d : NR G h A S W) (hA : ∀ a b p, G a b = some p → A' a b → A a b) : NR G h A' S W where
  src := d.src
  cls := fun a b p x e1 e2 e3 => d.cls a b p x e1 e2 (hA a b p e2 e3)
  prd := d.prd
  wpr := d.wpr
  nn := d.nn
/-- one is taken that is no nearer -/
theorem NR.drop (d : NR G h A S W) {k m y : Int} (hk : W k = some m) (hs : S k = some y) (hy : y ≤ m) : NR G h A S (up W k none) := by
  refine ⟨d.src, fun a b p x e1 e2 e3 => ?_, d.prd, fun b z e => ?_, d.nn⟩
  · rcases d.cls a b p x e1 e2 e3 with r | ⟨z, r1, r2⟩
    · exact .inl r
    · by_cases hb : b = k
      · subst hb
        rw [hk] at r1; cases r1
        exact .inl ⟨y, hs, by omega⟩
      · exact .inr ⟨z, by rw [up_ne hb]; exact r1, r2⟩
  · obtain ⟨_, e⟩ := up_none e
    exact d.wpr b z e
/-- one is taken that is nearer -/
theorem NR.take (d : NR G h A S W) (hG : GIn n G) (hA : ∀ a b p, G a b = some p → A a b) {k m : Int} (hk : W k = some m) (hs : ∀ y, S k = some y → m < y) : NR G h (fun a _ => a ≠ k) (up S k (some m)) (up W k none) ∧ k ≠ h ∧ 0 ≤ m := by
  obtain ⟨a0, x0, p0, z1, z2, z3⟩ := d.wpr k m hk
  have hp0 := (hG _ _ _ z2).2.2.2.2.2.1
  have hx0 := d.nn _ _ z1
  have kh : k ≠ h := fun e => by
    subst e
    have := hs 0 d.src
    omega
  have a0k : a0 ≠ k := fun e => by
    subst e
    have := hs x0 z1
    omega
  -- what was a step before is one now
  have low : ∀ {a x}, S a = some x → ∃ x', up S k (some m) a = some x' ∧ x' ≤ x := fun {a x} e => by
    by_cases q : a = k
    · subst q
      have := hs x e
      exact ⟨m, up_same, by omega⟩
    · exact ⟨x, by rw [up_ne q]; exact e, Int.le_refl _⟩
  refine ⟨⟨by rw [up_ne kh.symm]; exact d.src, fun a b p x e1 e2 e3 => ?_, fun b y e hb => ?_, fun b y e => ?_, fun b y e => ?_⟩, kh, by omega⟩
  · rcases up_cases e1 with ⟨q, _⟩ | ⟨q, e1⟩
    · exact absurd q e3
    · rcases d.cls a b p x e1 e2 (hA a b p e2) with ⟨y, r1, r2⟩ | ⟨y, r1, r2⟩
      · obtain ⟨y', s1, s2⟩ := low r1
        exact .inl ⟨y', s1, by omega⟩
      · by_cases hb : b = k
        · subst hb
          rw [hk] at r1; cases r1
          exact .inl ⟨m, up_same, r2⟩
        · exact .inr ⟨y, by rw [up_ne hb]; exact r1, r2⟩
  · rcases up_cases e with ⟨q, e⟩ | ⟨q, e⟩
    · cases e
      subst q
      exact ⟨a0, x0, p0, by rw [up_ne a0k]; exact z1, z2, z3⟩
    · obtain ⟨a, x, p, r1, r2, r3⟩ := d.prd b y e hb
      obtain ⟨x', s1, s2⟩ := low r1
      exact ⟨a, x', p, s1, r2, by omega⟩
  · obtain ⟨_, e⟩ := up_none e
    obtain ⟨a, x, p, r1, r2, r3⟩ := d.wpr b y e
    obtain ⟨x', s1, s2⟩ := low r1
    exact ⟨a, x', p, s1, r2, by omega⟩
  · rcases up_cases e with ⟨q, e⟩ | ⟨q, e⟩
    · cases e; omega
    · exact d.nn b y e
theorem NR.relax (d : NR G h A S W) {k m b p : Int} (hk : S k = some m) (hp : G k b = some p) : NR G h (fun a c => A a c ∨ (a = k ∧ c = b)) S (lower W b (m + p)) := by
  refine ⟨d.src, fun a c q x e1 e2 e3 => ?_, d.prd, fun c y e => ?_, d.nn⟩
  · rcases e3 with e3 | ⟨e3, e4⟩
    · rcases d.cls a c q x e1 e2 e3 with r | ⟨y, r1, r2⟩
      · exact .inl r
      · obtain ⟨z, s1, s2⟩ := lower_le (b := b) (x := m + p) r1
        exact .inr ⟨z, s1, by omega⟩
    · subst e3 e4
      rw [hk] at e1; cases e1
      rw [hp] at e2; cases e2
      obtain ⟨y, s1, s2, _⟩ := lower_at (W := W) (b := c) (x := m + p)
      exact .inr ⟨y, s1, s2⟩
  · rcases lower_cases e with ⟨q, r⟩ | e
    · subst q
      exact ⟨k, m, p, hk, hp, by omega⟩
    · exact d.wpr c y e
theorem NR.sIn (d : NR G h A S W) (hG : GIn n G) (h0 : 0 ≤ h) (h1 : h < n) : InR n S := fun b y e => by
  by_cases hb : b = h
  · subst hb; exact ⟨h0, h1⟩
  · obtain ⟨a, x, p, _, q, _⟩ := d.prd b y e hb
    obtain ⟨_, _, z1, z2, _⟩ := hG _ _ _ q
    exact ⟨z1, z2⟩
theorem NR.wIn (d : NR G h A S W) (hG : GIn n G) : InR n W := fun b y e => by
  obtain ⟨a, x, p, _, q, _⟩ := d.wpr b y e
  obtain ⟨_, _, z1, z2, _⟩ := hG _ _ _ q
  exact ⟨z1, z2⟩
end

/-! ### the lost ones -/
/-- a tie is the last one of some least way -/
def Step (G : Gr) (S : PF) (a b : Int) : Prop := ∃ x p y, G a b = some p ∧ S a = some x ∧ S b = some y ∧ x + p = y
structure LB (G : Gr) (h : Int) (S : PF) (X Wl : List Int) : Prop where
  hX : ∀ b, b ∈ X → b ≠ h ∧ (∃ y, S b = some y) ∧ ∀ a, Step G S a b → a ∈ X
  hW : ∀ b, b ∈ Wl → b ≠ h ∧ ∃ y, S b = some y
  all : ∀ b y, S b = some y → b ≠ h → b ∉ X → (∀ a, Step G S a b → a ∈ X) → b ∈ Wl
  nd : X.Nodup
section
variable {n : Int} {G : Gr} {h : Int} {S : PF} {X Wl : List Int}
/-- the tie (u, v) went, a least step it was -/
theorem LB.start {G₀ : Gr} {u v c : Int} (f : Fix G₀ h S) (hG : GIn n G₀) (st : Step G₀ S u v) : LB (rem G₀ u v) h S [] [v] := by
  obtain ⟨x, p, y, e1, e2, e3, e4⟩ := st
  refine ⟨fun b hb => absurd hb (by simp), fun b hb => ?_, fun b z e hb _ no => ?_, List.nodup_nil⟩
  · have : b = v := by simpa using hb
    subst this
    refine ⟨fun q => ?_, y, e3⟩
    subst q
    rw [f.src] at e3; cases e3
    have := f.nn _ _ e2
    have := (hG _ _ _ e1).2.2.2.2.2.1
    omega
  · obtain ⟨a, w, q, r1, r2, r3⟩ := f.prd b z e hb
    by_cases hh : a = u ∧ b = v
    · rw [hh.2]; exact List.mem_singleton.mpr rfl
    · have := no a ⟨w, q, z, rem_of r2 hh, r1, e, r3⟩
      cases this
theorem LB.skip {k : Int} (d : LB G h S X (Wl ++ [k])) (no : k ∈ X ∨ ∃ a, a ∉ X ∧ Step G S a k) : LB G h S X Wl := by
  refine ⟨d.hX, fun b hb => d.hW b (List.mem_append_left _ hb), fun b y e hb hX al => ?_, d.nd⟩
  rcases List.mem_append.mp (d.all b y e hb hX al) with r | r
  · exact r
  · have : b = k := by simpa using r
    subst this
    rcases no with q | ⟨a, q1, q2⟩
    · exact absurd q hX
    · exact absurd (al a q2) q1
theorem LB.lose {k : Int} {L : List Int} (d : LB G h S X (Wl ++ [k])) (hk : k ∉ X) (al : ∀ a, Step G S a k → a ∈ X) (hL : ∀ b, b ∈ L ↔ Step G S k b) (nn : ∀ b y, S b = some y → 0 ≤ y) (h0 : S h = some 0) (hG : GIn n G) : LB G h S (X ++ [k]) (Wl ++ L) := by
  obtain ⟨kh, ky⟩ := d.hW k (List.mem_append_right _ (List.mem_singleton.mpr rfl))
  refine ⟨fun b hb => ?_, fun b hb => ?_, fun b y e hb hX al' => ?_, ?_⟩
  · rcases List.mem_append.mp hb with hb | hb
    · obtain ⟨r1, r2, r3⟩ := d.hX b hb
      exact ⟨r1, r2, fun a st => List.mem_append_left _ (r3 a st)⟩
    · have : b = k := by simpa using hb
      subst this
      exact ⟨kh, ky, fun a st => List.mem_append_left _ (al a st)⟩
  · rcases List.mem_append.mp hb with hb | hb
    · exact d.hW b (List.mem_append_left _ hb)
    · obtain ⟨x, p, y, e1, e2, e3, e4⟩ := (hL b).mp hb
      refine ⟨fun q => ?_, y, e3⟩
      subst q
      rw [h0] at e3; cases e3
      have := nn _ _ e2
      have := (hG _ _ _ e1).2.2.2.2.2.1
      omega
  · have hbX : b ∉ X := fun q => hX (List.mem_append_left _ q)
    have hbk : b ≠ k := fun q => hX (List.mem_append_right _ (by simp [q]))
    by_cases st : Step G S k b
    · exact List.mem_append_right _ ((hL b).mpr st)
    · have al2 : ∀ a, Step G S a b → a ∈ X := fun a sa => by
        rcases List.mem_append.mp (al' a sa) with q | q
        · exact q
        · have : a = k := by simpa using q
          subst this
          exact absurd sa st
      rcases List.mem_append.mp (d.all b y e hb hbX al2) with r | r
      · exact List.mem_append_left _ r
      · exact absurd (by simpa using r) hbk
  · refine List.nodup_append.mpr ⟨d.nd, List.nodup_cons.mpr ⟨by simp, List.nodup_nil⟩, fun a ha b hb => ?_⟩
    have : b = k := by simpa using hb
    subst this
    exact fun q => hk (q ▸ ha)
/-- S without the lost ones -/
def less (S : PF) (X : List Int) : PF := fun b => if b ∈ X then none else S b
theorem less_some {b y : Int} (e : less S X b = some y) : b ∉ X ∧ S b = some y := by
  unfold less at e
  by_cases q : b ∈ X
  · rw [if_pos q] at e; cases e
  · rw [if_neg q] at e; exact ⟨q, e⟩
theorem less_of {b y : Int} (e : S b = some y) (q : b ∉ X) : less S X b = some y := by
  unfold less; rw [if_neg q]; exact e
/-- behind the loss: what waits is by the ties from those that are left -/
theorem LB.near {G₀ : Gr} {u v : Int} {W : PF} (f : Fix G₀ h S) (d : LB (rem G₀ u v) h S X []) (w1 : ∀ a x b p, less S X a = some x → b ∈ X → rem G₀ u v a b = some p → ∃ y, W b = some y ∧ y ≤ x + p)
    (w2 : ∀ b y, W b = some y → ∃ a x p, less S X a = some x ∧ rem G₀ u v a b = some p ∧ x + p = y) (A : Int → Int → Prop) : NR (rem G₀ u v) h A (less S X) W := by
  refine ⟨less_of f.src (fun q => (d.hX h q).1 rfl), fun a b p x e1 e2 _ => ?_, fun b y e hb => ?_, fun b y e => ?_, fun b y e => f.nn b y (less_some e).2⟩
  · by_cases hb : b ∈ X
    · exact .inr (w1 a x b p e1 hb e2)
    · obtain ⟨y, r1, r2⟩ := f.cls a b p x (less_some e1).2 (rem_sub e2).1
      exact .inl ⟨y, less_of r1 hb, r2⟩
  · obtain ⟨hX, e⟩ := less_some e
    have : ¬ ∀ a, Step (rem G₀ u v) S a b → a ∈ X := fun al => by
      have := d.all b y e hb hX al
      cases this
    obtain ⟨a, ha⟩ := Classical.not_forall.mp this
    obtain ⟨st, na⟩ := Classical.not_imp.mp ha
    obtain ⟨x, p, z, e1, e2, e3, e4⟩ := st
    rw [e] at e3; cases e3
    exact ⟨a, x, p, less_of e2 na, e1, by omega⟩
  · obtain ⟨a, x, p, r1, r2, r3⟩ := w2 b y e
    exact ⟨a, x, p, r1, r2, by omega⟩
/-- nothing is lost -/
theorem no_loss {G₀ : Gr} {u v : Int} (f : Fix G₀ h S) (no : ¬ Step G₀ S u v) (A : Int → Int → Prop) : NR (rem G₀ u v) h A S (fun _ => none) := by
  refine ⟨f.src, fun a b p x e1 e2 _ => .inl (f.cls a b p x e1 (rem_sub e2).1), fun b y e hb => ?_, fun b y e => (by cases e), f.nn⟩
  obtain ⟨a, x, p, e1, e2, e3⟩ := f.prd b y e hb
  exact ⟨a, x, p, e1, rem_of e2 (fun ⟨q1, q2⟩ => no ⟨x, p, y, by rw [← q1, ← q2]; exact e2, by rw [← q1]; exact e1, by rw [← q2]; exact e, e3⟩), by omega⟩
/-- the tie comes again -/
theorem again {G₀ : Gr} {u v c : Int} (hc : G₀ u v = some c) {W : PF} (f : Fix (rem G₀ u v) h S) (w1 : ∀ x, S u = some x → W v = some (x + c)) (w2 : ∀ b y, W b = some y → b = v ∧ ∃ x, S u = some x ∧ x + c = y) (A : Int → Int → Prop) : NR G₀ h A S W := by
  refine ⟨f.src, fun a b p x e1 e2 _ => ?_, fun b y e hb => ?_, fun b y e => ?_, f.nn⟩
  · by_cases q : a = u ∧ b = v
    · obtain ⟨q1, q2⟩ := q
      subst q1 q2
      rw [hc] at e2; cases e2
      exact .inr ⟨x + c, w1 x e1, Int.le_refl _⟩
    · exact .inl (f.cls a b p x e1 (rem_of e2 q))
  · obtain ⟨a, x, p, e1, e2, e3⟩ := f.prd b y e hb
    exact ⟨a, x, p, e1, (rem_sub e2).1, by omega⟩
  · obtain ⟨q, x, r1, r2⟩ := w2 b y e
    subst q
    exact ⟨u, x, c, r1, hc, by omega⟩
end
end Wy

/-! Measures; lists without doubles. -/
namespace Wy
def sumTo : Nat → (Nat → Nat) → Nat
  | 0, _ => 0
  | n + 1, f => sumTo n f + f n
theorem sumTo_congr {f g : Nat → Nat} : ∀ {n : Nat}, (∀ k, k < n → f k = g k) → sumTo n f = sumTo n g
  | 0, _ => rfl
  | n + 1, h => by
    show sumTo n f + f n = sumTo n g + g n
    rw [sumTo_congr fun k hk => h k (Nat.lt_succ_of_lt hk), h n (Nat.lt_succ_self n)]
theorem sumTo_one {f g : Nat → Nat} {k : Nat} : ∀ {n : Nat}, k < n → (∀ j, j ≠ k → f j = g j) → sumTo n f + g k = sumTo n g + f k
  | 0, hk, _ => absurd hk (Nat.not_lt_zero _)
  | n + 1, hk, h => by
    show sumTo n f + f n + g k = sumTo n g + g n + f k
    by_cases e : k = n
    · subst e
      have := sumTo_congr (f := f) (g := g) (n := k) fun j hj => h j (Nat.ne_of_lt hj)
      omega
    · have := sumTo_one (f := f) (g := g) (n := n) (by omega) h
      have := h n (fun q => e q.symm)
      omega
theorem sumTo_le {f : Nat → Nat} {c : Nat} : ∀ {n : Nat}, (∀ k, k < n → f k ≤ c) → sumTo n f ≤ n * c
  | 0, _ => by simp [sumTo]
  | n + 1, h => by
    have h1 := sumTo_le (n := n) fun k hk => h k (Nat.lt_succ_of_lt hk)
    have h2 := h n (Nat.lt_succ_self n)
    show sumTo n f + f n ≤ (n + 1) * c
    rw [Nat.succ_mul]
    omega
def there (S : PF) (k : Nat) : Nat := if (S k).isSome = true then 1 else 0
def cnt (S : PF) : Nat := sumTo 8 (there S)
theorem there_le (S : PF) (k : Nat) : there S k ≤ 1 := by unfold there; split <;> omega
theorem cnt_le (S : PF) : cnt S ≤ 8 := by
  have := sumTo_le (f := there S) (c := 1) (n := 8) fun k _ => there_le S k
  unfold cnt; omega
theorem up_at {α : Type} {S : Int → Option α} {k : Int} {v : Option α} (j : Nat) (h0 : 0 ≤ k) (h : j ≠ k.toNat) : up S k v (j : Int) = S (j : Int) := up_ne (fun e => h (by omega))
theorem cnt_new {S : PF} {k m : Int} (h0 : 0 ≤ k) (h1 : k < 8) (hn : S k = none) : cnt (up S k (some m)) = cnt S + 1 := by
  have e : ((k.toNat : Nat) : Int) = k := by omega
  have := sumTo_one (f := there (up S k (some m))) (g := there S) (k := k.toNat) (n := 8) (by omega) fun j hj => by unfold there; rw [up_at j h0 hj]
  have h2 : there (up S k (some m)) k.toNat = 1 := by unfold there; rw [e, up_same]; rfl
  have h3 : there S k.toNat = 0 := by unfold there; rw [e, hn]; rfl
  unfold cnt; omega
theorem cnt_old {S : PF} {k m y : Int} (h0 : 0 ≤ k) (h1 : k < 8) (hn : S k = some y) : cnt (up S k (some m)) = cnt S := by
  have e : ((k.toNat : Nat) : Int) = k := by omega
  have := sumTo_one (f := there (up S k (some m))) (g := there S) (k := k.toNat) (n := 8) (by omega) fun j hj => by unfold there; rw [up_at j h0 hj]
  have h2 : there (up S k (some m)) k.toNat = 1 := by unfold there; rw [e, up_same]; rfl
  have h3 : there S k.toNat = 1 := by unfold there; rw [e, hn]; rfl
  unfold cnt; omega
theorem cnt_out {S : PF} {k y : Int} (h0 : 0 ≤ k) (h1 : k < 8) (hn : S k = some y) : cnt (up S k none) + 1 = cnt S := by
  have e : ((k.toNat : Nat) : Int) = k := by omega
  have := sumTo_one (f := there (up S k none)) (g := there S) (k := k.toNat) (n := 8) (by omega) fun j hj => by unfold there; rw [up_at j h0 hj]
  have h2 : there (up S k none) k.toNat = 0 := by unfold there; rw [e, up_same]; rfl
  have h3 : there S k.toNat = 1 := by unfold there; rw [e, hn]; rfl
  unfold cnt; omega
/-! ### nearer's measure -/
def wgt (B : Nat) (S : PF) (k : Nat) : Nat := match S k with
  | some y => y.toNat
  | none => B + 1
def size (B : Nat) (S : PF) : Nat := sumTo 8 (wgt B S)
theorem size_low {B : Nat} {S : PF} {k m : Int} (h0 : 0 ≤ k) (h1 : k < 8) (hm : 0 ≤ m) (hB : m.toNat ≤ B) (hs : ∀ y, S k = some y → m < y) : size B (up S k (some m)) + 1 ≤ size B S := by
  have e : ((k.toNat : Nat) : Int) = k := by omega
  have := sumTo_one (f := wgt B (up S k (some m))) (g := wgt B S) (k := k.toNat) (n := 8) (by omega) fun j hj => by unfold wgt; rw [up_at j h0 hj]
  have h2 : wgt B (up S k (some m)) k.toNat = m.toNat := by unfold wgt; rw [e, up_same]
  have h3 : m.toNat + 1 ≤ wgt B S k.toNat := by
    unfold wgt; rw [e]
    cases q : S k with
    | none => exact Nat.succ_le_succ hB
    | some y => have := hs y q; show m.toNat + 1 ≤ y.toNat; omega
  unfold size; omega
/-- how great the sums may get -/
structure Bd (B : Nat) (S W : PF) : Prop where
  s : ∀ b y, S b = some y → y ≤ B + 99 * (cnt S : Int)
  w : ∀ b y, W b = some y → y ≤ B + 99 * ((cnt S : Int) + 1)
theorem Bd.drop {B : Nat} {S W : PF} {k : Int} (d : Bd B S W) : Bd B S (up W k none) := ⟨d.s, fun b y e => d.w b y (up_none e).2⟩
theorem Bd.take {B : Nat} {S W : PF} {k m : Int} (d : Bd B S W) (h0 : 0 ≤ k) (h1 : k < 8) (hk : W k = some m) (hs : ∀ y, S k = some y → m < y) : Bd B (up S k (some m)) (up W k none) := by
  have hc : cnt S ≤ cnt (up S k (some m)) ∧ m ≤ B + 99 * (cnt (up S k (some m)) : Int) := by
    have hw := d.w k m hk
    cases q : S k with
    | none => rw [cnt_new h0 h1 q]; omega
    | some y => have h3 := d.s k y q; have h4 := hs y q; rw [cnt_old h0 h1 q]; omega
  refine ⟨fun b y e => ?_, fun b y e => ?_⟩
  · rcases up_cases e with ⟨_, e⟩ | ⟨_, e⟩
    · cases e; exact hc.2
    · have := d.s b y e; omega
  · have := d.w b y (up_none e).2
    omega
theorem Bd.relax {B : Nat} {S W : PF} {k m b p : Int} (d : Bd B S W) (hk : S k = some m) (hp : p ≤ 99) : Bd B S (lower W b (m + p)) := ⟨d.s, fun c y e => by
  have := d.s k m hk
  rcases lower_cases e with ⟨_, r⟩ | r
  · omega
  · exact d.w c y r⟩
def mu (B : Nat) (S W : PF) : Nat := 9 * size (B + 891) S + cnt W
theorem mu_drop {B : Nat} {S W : PF} {k m : Int} (h0 : 0 ≤ k) (h1 : k < 8) (hk : W k = some m) : mu B S (up W k none) < mu B S W := by
  have := cnt_out h0 h1 hk
  unfold mu; omega
theorem mu_take {B : Nat} {S W W' : PF} {k m : Int} (d : Bd B S W) (h0 : 0 ≤ k) (h1 : k < 8) (hm : 0 ≤ m) (hk : W k = some m) (hs : ∀ y, S k = some y → m < y) : mu B (up S k (some m)) W' < mu B S W := by
  have h2 := d.w k m hk
  have h3 := cnt_le S
  have h4 := size_low (B := B + 891) h0 h1 hm (by omega) hs
  have h5 := cnt_le W'
  have h6 := cnt_out h0 h1 hk
  unfold mu; omega
theorem bound {S : PF} : ∀ n : Nat, ∃ B : Nat, ∀ k : Nat, k < n → ∀ y, S k = some y → y ≤ B
  | 0 => ⟨0, fun k hk => absurd hk (Nat.not_lt_zero _)⟩
  | n + 1 => by
    obtain ⟨B, h⟩ := bound (S := S) n
    cases q : S n with
    | none => exact ⟨B, fun k hk y e => by
        by_cases z : k = n
        · subst z; rw [q] at e; cases e
        · exact h k (by omega) y e⟩
    | some x => exact ⟨B + x.toNat, fun k hk y e => by
        by_cases z : k = n
        · subst z; rw [q] at e; cases e; omega
        · have := h k (by omega) y e; omega⟩
theorem Bd.some {S W : PF} (hS : InR 8 S) (hW : InR 8 W) : ∃ B, Bd B S W := by
  obtain ⟨B1, h1⟩ := bound (S := S) 8
  obtain ⟨B2, h2⟩ := bound (S := W) 8
  refine ⟨B1 + B2, fun b y e => ?_, fun b y e => ?_⟩
  · obtain ⟨r1, r2⟩ := hS b y e
    have := h1 b.toNat (by omega) y (by rw [show ((b.toNat : Nat) : Int) = b by omega]; exact e)
    omega
  · obtain ⟨r1, r2⟩ := hW b y e
    have := h2 b.toNat (by omega) y (by rw [show ((b.toNat : Nat) : Int) = b by omega]; exact e)
    omega
/-! ### lists without doubles -/
theorem short_nat : ∀ (n : Nat) (l : List Int), l.Nodup → (∀ x, x ∈ l → 0 ≤ x ∧ x < (n : Int)) → l.length ≤ n
  | 0, l, _, h => by
    cases l with
    | nil => exact Nat.le_refl _
    | cons x t => have := h x List.mem_cons_self; omega
  | n + 1, l, nd, h => by
    by_cases hm : (n : Int) ∈ l
    · have h1 := short_nat n (l.erase (n : Int)) (nd.erase _) fun x hx => by
        obtain ⟨r1, r2⟩ := (nd.mem_erase_iff).mp hx
        have := h x r2
        omega
      have h2 := List.length_erase_of_mem hm
      have h3 : 0 < l.length := List.length_pos_of_mem hm
      omega
    · have := short_nat n l nd fun x hx => by
        have h4 := h x hx
        have : x ≠ n := fun e => hm (e ▸ hx)
        omega
      omega
theorem short8 {l : List Int} (nd : l.Nodup) (h : ∀ x, x ∈ l → 0 ≤ x ∧ x < 8) : l.length ≤ 8 := short_nat 8 l nd fun x hx => h x hx
theorem LB.len {n : Int} {G : Gr} {h : Int} {S : PF} {X Wl : List Int} (d : LB G h S X Wl) (hS : InR 8 S) : X.length ≤ 8 := short8 d.nd fun x hx => by
  obtain ⟨_, ⟨y, e⟩, _⟩ := d.hX x hx
  exact hS x y e
end Wy

/-! First steps, taken house by house in the order of the sums. -/
namespace Wy
structure FPart (G : Gr) (h : Int) (S : PF) (A : Int → Prop) (F : FF) : Prop where
  src : F h = some []
  dom : ∀ b, (∃ l, F b = some l) ↔ (b = h ∨ A b)
  inS : ∀ b, A b → ∃ y, S b = some y
  srt : ∀ b l, F b = some l → l.Pairwise (· < ·)
  rng : ∀ b l x, F b = some l → x ∈ l → 0 ≤ x ∧ x < 8
  mem : ∀ b y l, S b = some y → b ≠ h → F b = some l → ∀ x, x ∈ l ↔ ∃ a z p, S a = some z ∧ G a b = some p ∧ z + p = y ∧ StepF F a b x
section
variable {G : Gr} {h : Int} {S : PF} {A A' : Int → Prop} {F : FF}
theorem FPart.start (G : Gr) (h : Int) (S : PF) : FPart G h S (fun _ => False) (fun b => if b = h then some [] else none) where
  src := if_pos rfl
  dom := fun b => by
    by_cases e : b = h
    · simp [e]
    · simp [e]
  inS := fun _ z => z.elim
  srt := fun b l e => by
    by_cases q : b = h
    · rw [if_pos q] at e; cases e; exact .nil
    · rw [if_neg q] at e; cases e
  rng := fun b l x e m => by
    by_cases q : b = h
    · rw [if_pos q] at e; cases e; cases m
    · rw [if_neg q] at e; cases e
  mem := fun b y l _ q e => by
    rw [if_neg q] at e; cases e
theorem FPart.congr (d : FPart G h S A F) (e : ∀ b, b ≠ h → (A b ↔ A' b)) (s : ∃ y, S h = some y) : FPart G h S A' F where
  src := d.src
  dom := fun b => by
    by_cases q : b = h
    · simp [q, d.src]
    · rw [d.dom b]
      have := e b q
      simp [q, this]
  inS := fun b z => by
    by_cases q : b = h
    · rw [q]; exact s
    · exact d.inS b ((e b q).mpr z)
  srt := d.srt
  rng := d.rng
  mem := d.mem
/-- the firsts of a house that a least step leads from stand there -/
theorem FPart.avail {n : Int} (d : FPart G h S A F) (hG : GIn n G) {one a z p y : Int} (hz : S a = some z) (hp : G a one = some p) (e : z + p = y) (all : ∀ c x, S c = some x → x < y → A c) : ∃ l, F a = some l :=
  (d.dom a).mpr (.inr (all a z hz (by have := (hG _ _ _ hp).2.2.2.2.2.1; omega)))
theorem FPart.step {n : Int} (d : FPart G h S A F) (hG : GIn n G) (fx : Fix G h S) {one y : Int} {fs : List Int} (hone : S one = some y) (ne : one ≠ h) (na : ¬ A one) (ord : ∀ b z, A b → S b = some z → z ≤ y) (srt : fs.Pairwise (· < ·)) (rng : ∀ x, x ∈ fs → 0 ≤ x ∧ x < 8)
    (hfs : ∀ x, x ∈ fs ↔ ∃ a z p, S a = some z ∧ G a one = some p ∧ z + p = y ∧ StepF F a one x) : FPart G h S (fun b => A b ∨ b = one) (up F one (some fs)) where
  src := by rw [up_ne (fun q => ne q.symm)]; exact d.src
  dom := fun b => by
    by_cases q : b = one
    · subst q; rw [up_same]; simp
    · rw [up_ne q, d.dom b]; simp [q]
  inS := fun b z => by
    rcases z with z | z
    · exact d.inS b z
    · rw [z]; exact ⟨y, hone⟩
  srt := fun b l e => by
    rcases up_cases e with ⟨_, q⟩ | ⟨_, q⟩
    · cases q; exact srt
    · exact d.srt b l q
  rng := fun b l x e => by
    rcases up_cases e with ⟨_, q⟩ | ⟨_, q⟩
    · cases q; exact rng x
    · exact d.rng b l x q
  mem := fun b y' l e1 hb e2 x => by
    rcases up_cases e2 with ⟨q, q2⟩ | ⟨q, q2⟩
    · cases q2
      subst q
      rw [hone] at e1; cases e1
      rw [hfs x]
      constructor
      · rintro ⟨a, z, p, h1, h2, h3, h4⟩
        have : a ≠ b := (hG _ _ _ h2).2.2.2.2.1
        exact ⟨a, z, p, h1, h2, h3, (StepF.congr (up_ne this)).mpr h4⟩
      · rintro ⟨a, z, p, h1, h2, h3, h4⟩
        have : a ≠ b := (hG _ _ _ h2).2.2.2.2.1
        exact ⟨a, z, p, h1, h2, h3, (StepF.congr (up_ne this)).mp h4⟩
    · have hA : A b := by
        rcases (d.dom b).mp ⟨l, q2⟩ with r | r
        · exact absurd r hb
        · exact r
      have hy := ord b y' hA e1
      rw [d.mem b y' l e1 hb q2 x]
      have key : ∀ {a z p : Int}, S a = some z → G a b = some p → z + p = y' → a ≠ one := fun {a z p} h1 h2 h3 q => by
        subst q
        rw [hone] at h1; cases h1
        have := (hG _ _ _ h2).2.2.2.2.2.1
        omega
      constructor
      · rintro ⟨a, z, p, h1, h2, h3, h4⟩
        exact ⟨a, z, p, h1, h2, h3, (StepF.congr (up_ne (key h1 h2 h3))).mpr h4⟩
      · rintro ⟨a, z, p, h1, h2, h3, h4⟩
        exact ⟨a, z, p, h1, h2, h3, (StepF.congr (up_ne (key h1 h2 h3))).mp h4⟩
theorem FPart.firsts (d : FPart G h S A F) (hA : ∀ b, A b ↔ ∃ y, S b = some y) (s : ∃ y, S h = some y) : Firsts G h S F where
  src := d.src
  dom := fun b => by
    have e : (∃ l, F b = some l) ↔ ∃ y, S b = some y := by
      rw [d.dom b]
      constructor
      · rintro (r | r)
        · rw [r]; exact s
        · exact (hA b).mp r
      · exact fun r => .inr ((hA b).mpr r)
    cases q : F b with
    | none =>
      cases q2 : S b with
      | none => simp
      | some y => rw [q, q2] at e; obtain ⟨l, r⟩ := e.mpr ⟨y, rfl⟩; cases r
    | some l =>
      cases q2 : S b with
      | none => rw [q, q2] at e; obtain ⟨y, r⟩ := e.mp ⟨l, rfl⟩; cases r
      | some y => simp
  srt := d.srt
  mem := d.mem
theorem FPart.rngF (d : FPart G h S A F) {n : Int} (hG : GIn 8 G) {a b x : Int} {p : Int} (hp : G a b = some p) (s : StepF F a b x) : 0 ≤ x ∧ x < 8 := by
  obtain ⟨l, h1, h2⟩ := s
  rcases h2 with ⟨_, h2⟩ | ⟨_, h2⟩
  · exact d.rng a l x h1 h2
  · obtain ⟨_, _, z1, z2, _⟩ := hG _ _ _ hp
    rw [h2]
    exact ⟨z1, z2⟩
end
end Wy

/-! What waits behind a loss. -/
namespace Wy
structure WN (G : Gr) (S : PF) (A : Int → Int → Prop) (W : PF) : Prop where
  w1 : ∀ a x b p, S a = some x → G a b = some p → A a b → ∃ y, W b = some y ∧ y ≤ x + p
  w2 : ∀ b y, W b = some y → ∃ a x p, S a = some x ∧ G a b = some p ∧ x + p = y
section
variable {G : Gr} {S W : PF} {A A' : Int → Int → Prop}
theorem WN.start (G : Gr) (S : PF) : WN G S (fun _ _ => False) (fun _ => none) := ⟨fun _ _ _ _ _ _ z => z.elim, fun _ _ e => by cases e⟩
theorem WN.mono (d : WN G S A W) (h : ∀ a x b p, S a = some x → G a b = some p → A' a b → A a b) : WN G S A' W := ⟨fun a x b p h1 h2 h3 => d.w1 a x b p h1 h2 (h a x b p h1 h2 h3), d.w2⟩
theorem WN.relax (d : WN G S A W) {a x b p : Int} (hx : S a = some x) (hp : G a b = some p) : WN G S (fun a' b' => A a' b' ∨ (a' = a ∧ b' = b)) (lower W b (x + p)) := by
  refine ⟨fun a' x' b' p' h1 h2 h3 => ?_, fun b' y e => ?_⟩
  · rcases h3 with h3 | ⟨rfl, rfl⟩
    · obtain ⟨y, r1, r2⟩ := d.w1 a' x' b' p' h1 h2 h3
      obtain ⟨z, s1, s2⟩ := lower_le (b := b) (x := x + p) r1
      exact ⟨z, s1, by omega⟩
    · rw [hx] at h1; cases h1
      rw [hp] at h2; cases h2
      obtain ⟨z, s1, s2, _⟩ := lower_at (W := W) (b := b') (x := x + p)
      exact ⟨z, s1, s2⟩
  · rcases lower_cases e with ⟨q1, q2⟩ | q
    · rw [q1, q2]; exact ⟨a, x, p, hx, hp, rfl⟩
    · exact d.w2 b' y q
theorem less_nil (S : PF) : less S [] = S := by
  funext b; unfold less; simp
theorem less_snoc (S : PF) (X : List Int) (k : Int) : less S (X ++ [k]) = up (less S X) k none := by
  funext b
  unfold less up
  by_cases e : b = k
  · simp [e]
  · simp [e]
end
end Wy

set_option Elab.async false
set_option linter.all false
set_option maxRecDepth 100000
set_option maxHeartbeats 0
/-! the head: what the top leaves, by a Hook that tells the tables of code objects too -/
namespace WyH
open PySem PySem.Spec PyProof.Rows L2 He
abbrev R : PySem.W.OpenRow := PySem.W.OpenLaw.row PySem.Challenge.rw_linkheralds_k89_whole_ties_that_no_least
def top (i : Nat) : Stmt := PySem.Challenge.pw_linkheralds_k89_whole_ties_that_no_least.main.body.getD i (.Pass ⟨0, 0, 0, 0⟩)
abbrev cW (j : Nat) : Stmt := inClass (top 20) j
/-! ### code objects and their tables -/
def cAd (K : PySem.W.Frag) (p : Str × Option Str) : Addr := match K.lookup (fAd K p) with
  | some ⟨_, _, .func fd, _⟩ => (match fd.code with
    | .ref c => c
    | _ => 0)
  | _ => 0
def pAd (K : PySem.W.Frag) (p : Str × Option Str) : Addr := match K.lookup (cAd K p) with
  | some ⟨_, _, .fields vs, _⟩ => (match (vs[11]? : Option Value) with
    | some (.ref P) => P
    | _ => 0)
  | _ => 0
def cdB (K : PySem.W.Frag) (p : Str × Option Str) : Bool := match K.lookup (fAd K p) with
  | some ⟨_, _, .func fd, _⟩ => (match fd.code with
    | .ref c => decide (c = cAd K p)
    | _ => false)
  | _ => false
def noneB (o : Option Obj) : Bool := match o with
  | none => true
  | some _ => false
def emptyB (o : Option Obj) : Bool := match o with
  | some ⟨.none, none, .fields vs, sl⟩ => vs.isEmpty && sl.isEmpty
  | _ => false
theorem emptyB_ok {o : Option Obj} (h : emptyB o = true) : o = some { cls := .none, data := .fields #[] } := by
  unfold emptyB at h
  split at h
  · rename_i vs sl
    obtain ⟨h1, h2⟩ := ba h
    rw [Array.isEmpty_iff.mp h1, Array.isEmpty_iff.mp h2]
  · cases h
def tabB (K : PySem.W.Frag) (g : Addr → Option Obj) (p : Str × Option Str) : Bool := cdB K p && (PySem.W.codeHdIn K (cAd K p) (pAd K p) && (noneB (K.lookup (pAd K p)) && emptyB (g (pAd K p))))
structure TabH (K : PySem.W.Frag) (h : Heap) (p : Str × Option Str) : Prop where
  cd : cdB K p = true
  hd : PySem.W.codeHdIn K (cAd K p) (pAd K p) = true
  out : K.lookup (pAd K p) = none
  emp : h.get? (pAd K p) = some { cls := .none, data := .fields #[] }
theorem tabB_ok {K : PySem.W.Frag} {h : Heap} {p : Str × Option Str} (e : tabB K h.get? p = true) : TabH K h p := by
  obtain ⟨e1, e⟩ := ba e
  obtain ⟨e2, e⟩ := ba e
  obtain ⟨e3, e4⟩ := ba e
  refine ⟨e1, e2, ?_, emptyB_ok e4⟩
  unfold noneB at e3
  split at e3
  · assumption
  · cases e3
/-! ### the Hook -/
abbrev Ds := List (Str × Option Str)
def kOf (n : Nat) (ts : Ds) (g : Addr → Option Obj) : PySem.W.Frag :=
  let as := asD g n
  let K0 := frG g as
  let out := ts.map fun p => pAd K0 p
  frG g (as.filter fun a => !out.contains a)
abbrev AlW : Type := AlD × (Bool × Bool)
def obsW (fa : List Fa) (fn : List DefD) (ts : Ds) (K : PySem.W.Frag) (g : Addr → Option Obj) : AlW := (obsD fa fn K, (ts.all fun p => tabB K g p, decide (ts.map fun p => pAd K p).Nodup))
def obsWG (n : Nat) (fa : List Fa) (fn : List DefD) (ts : Ds) (g : Addr → Option Obj) : AlW := obsW fa fn ts (kOf n ts g) g
structure SaysW (fa : List Fa) (fn : List DefD) (ts : Ds) (K : PySem.W.Frag) (h : Heap) : Prop where
  kin : K.In h
  d : SaysD fa fn K
  tb : ∀ p ∈ ts, TabH K h p
  nd : (ts.map fun p => pAd K p).Nodup
def hookW (n : Nat) (fa : List Fa) (fn : List DefD) (ts : Ds) : PySem.W.Hook where
  α := AlW
  obs := fun s => obsWG n fa fn ts s.heap.get?
  val := fun _ => (valD fn, (true, true))
  says := fun _ h => ∃ K : PySem.W.Frag, SaysW fa fn ts K h
  of := fun _ s e => ⟨kOf n ts s.heap.get?, frG_in, congrArg (fun z : AlW => z.1) e, fun p hp => tabB_ok (List.all_eq_true.mp (congrArg (fun z : AlW => z.2.1) e) p hp), of_decide_eq_true (congrArg (fun z : AlW => z.2.2) e)⟩
  keeps := fun _ _ _ ⟨K, S⟩ k => ⟨K, PySem.W.Frag.In.keeps S.kin k, S.d, fun p hp => ⟨(S.tb p hp).cd, (S.tb p hp).hd, (S.tb p hp).out, k _ _ (S.tb p hp).emp⟩, S.nd⟩
theorem obsWG_eq {n : Nat} {fa : List Fa} {fn : List DefD} {ts : Ds} {g : Addr → Option Obj} {s : Shared} (h : ∀ a, g a = s.heap.get? a) : obsWG n fa fn ts g = (hookW n fa fn ts).obs s := by
  have e : g = s.heap.get? := funext h
  rw [e] <;> rfl
/-! ### the text's defs -/
def dG (x : Str) (i : Nat) : DefD := ⟨(x, none), x, x, defArgs (top i), defBody (top i), defScope (top i), [], []⟩
def dK (x : Str) (i : Nat) (kw : List (Str × Dv)) : DefD := ⟨(x, none), x, x, defArgs (top i), defBody (top i), defScope (top i), [], kw⟩
def dM (x : Str) (q : Str) (j : Nat) : DefD := ⟨("Ways", some x), x, q, defArgs (cW j), defBody (cW j), defScope (cW j), [], []⟩
def fn : List DefD := [
  dG "ties_from" 2, dG "sums_from" 3, dG "firsts_by" 4, dG "table_by" 5, dG "table_of" 6, dG "goes_over" 7,
  dG "is_whole" 14, dG "is_house" 15, dG "is_price" 16, dG "is_road" 18, dG "look_at_seen" 19,
  dM "__init__" "Ways.__init__" 0, dM "price_now" "Ways.price_now" 1, dM "is_least_step" "Ways.is_least_step" 2, dM "lost_behind" "Ways.lost_behind" 3, dM "nearer" "Ways.nearer" 4, dM "put" "Ways.put" 5, dM "settle" "Ways.settle" 6,
  ⟨("Ways", some "set_tie"), "set_tie", "Ways.set_tie", defArgs (cW 7), defBody (cW 7), defScope (cW 7), [], [("price", .non)]⟩, dM "table" "Ways.table" 8,
  dG "_law_cell_at" 22, dG "_law_pool" 23, dG "_law_take" 24, dG "_law_price" 25, dG "_law_shuffled" 26, dG "_law_seen_drawn" 27, dG "_law_over_due" 28, dG "_law_right" 29, dG "law" 30]
def fa : List Fa := [
  .glo "ties_from", .glo "sums_from", .glo "firsts_by", .glo "table_by", .glo "table_of", .glo "goes_over",
  .glo "is_whole", .glo "is_house", .glo "is_price", .glo "is_road", .glo "look_at_seen",
  .glo "Ways", .cls "Ways", .mkr "Ways", .int "MOST_HOUSES" 8, .int "MOST_PRICE" 99,
  .noat "Ways" "own_house", .noat "Ways" "own_lines", .noat "Ways" "own_sums", .noat "Ways" "own_firsts", .noat "Ways" "own_settings",
  .meth "Ways" "price_now", .meth "Ways" "is_least_step", .meth "Ways" "lost_behind", .meth "Ways" "nearer", .meth "Ways" "put", .meth "Ways" "settle", .meth "Ways" "set_tie", .meth "Ways" "table",
  .glo "_law_cell_at", .glo "_law_pool", .glo "_law_take", .glo "_law_price", .glo "_law_shuffled", .glo "_law_seen_drawn", .glo "_law_over_due", .glo "_law_right", .glo "law",
  .free "min", .free "max", .free "sorted", .free "tuple", .free "range", .free "len", .free "dict", .free "isinstance", .free "int", .free "bool", .free "list"]
def ts : Ds := [("sums_from", none), ("firsts_by", none), ("Ways", some "nearer")]
def names : List Str := ["_wall", "ties_from", "sums_from", "firsts_by", "table_by", "table_of", "goes_over", "HeraldError", "NoSeen", "MOST_HOUSES", "MOST_PRICE", "is_whole", "is_house", "is_price", "is_road", "look_at_seen", "Ways", "_law_cell_at", "_law_pool", "_law_take", "_law_price", "_law_shuffled", "_law_seen_drawn", "_law_over_due", "_law_right"]
abbrev hk : PySem.W.Hook := hookW 5 fa fn ts
def ob (s : PySem.W.SharedT) : AlW := obsWG 5 fa fn ts (HandSHeadRun.getT s)
theorem ob_eq (s : PySem.W.SharedT) : ob s = hk.obs s.abs := obsWG_eq (HandSHeadRun.getT_eq s)
theorem run (w : World) : HandSHeadRun.RunEq R (PySem.W.view R.prog [30]) hk ob 4000 names w := by
  intro os
  kernel_rfl
end WyH

set_option Elab.async false
set_option linter.all false
set_option maxRecDepth 100000
set_option maxHeartbeats 4000000
/-! a lambda over one name that reads a captured dict of ints: lambda y: (x[y], y) -/
namespace WyL
open PySem PySem.Spec PyProof.Rows L2 LamX
/-- (x[y], y) -/
def lamB (x y : Str) (p1 p2 p3 p4 p5 : Pos) (j : Nat) : Expr := .Tuple [.Subscript (.Name x p1) (.Name y p2) p3, .Name y p4] j p5
structure LSc (x y : Str) (sc : Scope) : Prop where
  kind : sc.kind = .function
  co : sc.isCoroutine = false
  gen : sc.isGenerator = false
  names : sc.names = [(y, .local), (x, .free)]
  ne : x ≠ y
  dx : (x == ("__classdict__" : Str)) = false
  d1 : (x == ("__debug__" : Str)) = false
  d2 : (y == ("__debug__" : Str)) = false
section
variable {prog : Program} {w : World} {A : Around} {s : Shared} {f c c' d : Addr} {q x y : Str} {params : Arguments} {sc : Scope} {cl : List (Str × Addr)} {pm ctv : Value} {vs : List (Key × Value)} {k : Int} {t : Tok} {u : Value} {p1 p2 p3 p4 p5 : Pos} {j : Nat}
/-- what the call leaves: the new tuple at T; all that stood stands -/
def LamEnd (s : Shared) (u : Value) (k : Int) (t : Tok) (r : Value) (s2 : Shared) : Prop :=
  ∃ (h' : Heap) (tk : Nat) (T : Addr), s2 = { s with heap := h', toks := tk } ∧ (∀ b o, s.heap.get? b = some o → h'.get? b = some o) ∧ r = .ref T ∧ h'.get? T = some { cls := .type "tuple", data := .seq [u, .int k t].toArray } ∧ s.heap.objs.size ≤ T
theorem lam_pure (S : LSc x y sc) (hdep : A.depth < recursionLimit) (hf : s.heap.get? f = some (PySem.W.kla_obj "<lambda>" q params (lamB x y p1 p2 p3 p4 p5 j) sc cl pm c' ctv)) (hco : s.heap.CodeRec (.ref c') q)
    (hbind : bindArgs (PySem.W.kla_fn "<lambda>" q params (lamB x y p1 p2 p3 p4 p5 j) sc cl pm (.ref c') ctv) ⟨[.int k t], []⟩ = pure [(y, .int k t)]) (hcl : cl.lookup x = some c) (hc : s.heap.IsCell c (some (.ref d)))
    (hd : s.heap.DictOf (mixKind prog w) d vs) (hv : valueAt vs (Sum.inl k : Key) = some u) (lim : s.heap.NoLimit) :
    wpAny (model prog w) A (call (.ref f) [.int k t]) (LamEnd s u k t) (fun _ _ => False) s := by
  have hl1 : sc.names.lookup y = some .local := by rw [S.names]; simp [List.lookup]
  have hl2 : sc.names.lookup x = some .free := by
    rw [S.names]
    have : (x == y) = false := by simpa using S.ne
    simp [List.lookup, this]
  refine wpAny_call (PySem.W.kla_callFunE hdep hf rfl S.co S.gen rfl hco ?_)
  rw [hbind]
  refine wpAny_pure (wpAny_newFunctionEnv (fun z hz => ?_) (fun z hz => ?_) (fun h₁ hns hsb => ⟨lim.fresh _ hsb, ?_⟩) S.kind)
  · have hz' : z ∈ [(y, NameKind.local), (x, NameKind.free)] := by rw [← S.names]; exact hz
    rcases List.mem_cons.mp hz' with e | hz'
    · rw [e]; intro q; cases q
    · rw [List.mem_singleton.mp hz']; intro q; cases q
  · have hz' : z = (y, Value.int k t) := by simpa using hz
    rw [hz']; exact hl1
  show codeAny _ _ (.expr (lamB x y p1 p2 p3 p4 p5 j) (PySem.W.envX q sc s.heap.objs.size f (.ref c') cl)) _ _
  have kp : ∀ b o, s.heap.get? b = some o → h₁.get? b = some o := fun b o e => hsb.extBut b o (Nat.ne_of_lt (Heap.lt_size e)) (Heap.get?_push_of_some _ e)
  refine PySem.W.kla_codeExpr ?_
  unfold lamB
  have hy : (fun z : Str => ([(y, Value.int k t)] : List (Str × Value)).reverse.lookup z) y = some (.int k t) := by simp [List.lookup]
  obtain ⟨oc, hoc, hocd⟩ := id hc
  have hc1 : h₁.IsCell c (some (.ref d)) := ⟨oc, kp _ _ hoc, hocd⟩
  have hd1 : h₁.DictOf (mixKind prog w) d vs := by
    obtain ⟨o, es, ep, e1, e2⟩ := hd
    exact ⟨o, es, ep, kp _ _ e1, e2⟩
  refine Tuple_ (Calls.spliced_cons (subD_of PySem.F.slot_dict_getitem.lookup (fun _ _ => rfl) (wpAny_Name (wpAny_loadName_free S.kind hl2 hcl hc1 (wpAny_Name (wpAny_loadName_local S.kind hl1 hns hy ⟨hd1.typeIs, ?_⟩) S.d2) S.dx) S.d1)))
  refine wpAny_getItem_of (knd := mixKind prog w) (k := (Sum.inl k : Key)) (keyIs_int k t) hd1.mapOf hv ?_
  refine Calls.spliced_cons (wpAny_Name (wpAny_loadName_local S.kind hl1 hns hy ?_) S.d2)
  refine Calls.spliced_nil (wpAny_newTuple ?_ (by show 2 ≤ sizeLine; decide))
  refine ⟨_, _, h₁.objs.size, rfl, fun b o e => Heap.get?_push_of_some _ (kp b o e), rfl, Heap.get?_push_size _ rfl, ?_⟩
  have e1 := hsb.1
  rw [Heap.size_push] at e1
  show s.heap.objs.size ≤ h₁.objs.size
  omega
end
end WyL

set_option Elab.async false
set_option linter.all false
set_option maxRecDepth 100000
set_option maxHeartbeats 4000000
/-! min(d, key=lambda y: (d[y], y)), d a dict of ints -/
namespace WyL
open PySem PySem.Spec PyProof.Rows L2 LamX
section
variable {prog : Program} {w : World} {A : Around} {s : Shared} {h₀ : Heap} {d f I S : Addr} {ep : Nat} {vs : List (Key × Value)} {l : List (Int × Int)} {R : Result → Shared → Prop}
abbrev tupO (u v : Value) : Obj := { cls := .type "tuple", data := .seq [u, v].toArray }
theorem reads_pair {h : Heap} {T : Addr} {y k : Int} {t t' : Tok} (e : h.get? T = some (tupO (Value.int y t) (Value.int k t'))) : Reads h (.ref T) (.tuple [.int y, .int k]) [] := by
  refine .tuple e rfl rfl ?_
  exact .cons (as := []) (bs := []) (.int _ _) (.cons (as := []) (bs := []) (.int _ _) .nil)
/-- the entries are ints under ints -/
structure EntI (vs : List (Key × Value)) (l : List (Int × Int)) : Prop where
  len : vs.length = l.length
  at_ : ∀ (i : Nat) (k y : Int), l[i]? = some (k, y) → ∃ t, vs[i]? = some ((Sum.inl k : Key), Value.int y t) ∧ valueAt vs (Sum.inl k : Key) = some (Value.int y t)
abbrev Kp (h h' : Heap) : Prop := ∀ b o, h.get? b = some o → h'.get? b = some o
theorem dictAt_keep {h h' : Heap} (kp : Kp h h') (hm : h.DictAt (mixKind prog w) d vs ep) : h'.DictAt (mixKind prog w) d vs ep := by
  obtain ⟨o, es, e, r⟩ := hm
  exact ⟨o, es, kp _ _ e, r⟩
/-- the lambda's call, at any heap that keeps h₀ -/
def LamOk (prog : Program) (w : World) (A : Around) (s : Shared) (h₀ : Heap) (f : Addr) (l : List (Int × Int)) : Prop :=
  ∀ (h : Heap) (tk : Nat) (k y : Int) (t : Tok), Kp h₀ h → (k, y) ∈ l → ∃ t', wpAny (model prog w) A (call (.ref f) [.int k t]) (LamEnd { s with heap := h, toks := tk } (.int y t') k t) (fun _ _ => False) { s with heap := h, toks := tk }
theorem kp_upd {h h' : Heap} {a : Addr} (kp : Kp h₀ h) (hn : h₀.get? a = none) (sb : Heap.SameBut a h h') : Kp h₀ h' := fun b o e => (sb.2 b (fun z => by rw [z, hn] at e; cases e)).trans (kp b o e)
theorem min_loop (hh : A.handled = none) (hu : A.units + 10 < cLine) (hm : h₀.DictAt (mixKind prog w) d vs ep) (E : EntI vs l) (L : LamOk prog w A.in1 s h₀ f l) (nI : h₀.get? I = none) (nS : h₀.get? S = none) (hSI : S ≠ I)
    (hR : ∀ k y t h' tk', (k, y) ∈ l → (∀ b z, (b, z) ∈ l → y ≤ z) → Kp h₀ h' → R (.ok (.ret (.int k t))) { s with heap := h', toks := tk' }) :
    ∀ (r j : Nat) (h : Heap) (tk : Nat) (kb yb : Int) (tb tv tw : Tok) (T : Addr) (c : Nat), l.length - (j + 1) = r → j + 1 ≤ l.length → Kp h₀ h → h.get? S = some (seqObj "list" #[.int kb tb, .ref T] c) → h.get? T = some (tupO (.int yb tv) (.int kb tw)) → T ≠ S → T ≠ I →
      h.IsKeyIter I d (j + 1) vs.length ep → (kb, yb) ∈ l → (∀ i b z, i ≤ j → l[i]? = some (b, z) → yb < z ∨ (yb = z ∧ kb ≤ b)) →
      codeAny (model prog w) A (.builtin "min.loop" ⟨[.ref I, .ref f, .ref S], []⟩) R { s with heap := h, toks := tk } := by
  have hname : (toString "min" ++ toString ".loop" : String) = "min.loop" := by decide
  intro r
  induction r with
  | zero =>
    intro j h tk kb yb tb tv tw T c hr hj kp hS hT hTS hTI hit hmem hbest
    have hin : j + 1 = l.length := by omega
    refine codeAny_builtin PySem.F.entry_min_loop ?_
    rw [Around.under_plainId PySem.F.plain_min_loop _]
    show wpAny _ A.in1 (seqItems? (.ref S) >>= _) _ _ _
    refine wpAny_bind (wpAny_seqItems hS rfl ?_)
    show wpAny _ A.in1 (tryCatch (pyNext (.ref I)) _ >>= _) _ _ _
    obtain ⟨od, es, e1, e2, e3, e4⟩ := dictAt_keep kp hm
    have hsz : es.size = vs.length := by
      have := e4.2.1.length
      rw [Array.length_toList] at this
      exact this
    refine wpAny_bind (wpAny_tryCatch (next_key_end (s := { s with heap := h, toks := tk }) hh hit e1 e3 hsz (by rw [E.len]; omega) fun h' eb => ?_))
    have kp1 : Kp h₀ h' := fun b o e => eb b o (fun z => by rw [z, nI] at e; cases e) (kp b o e)
    have hS' := eb S _ hSI hS
    show wpAny _ A.in1 (updateSeq S (fun _ => #[]) >>= _) _ _ _
    refine wpAny_bind ?_
    refine wpAny_updateSeq hS' rfl (wpAny_bind (wpAny_letGo (wpAny_pure ?_)))
    refine hR kb yb _ _ _ hmem (fun b z hbz => ?_) (kp_upd kp1 nS (Heap.SameBut.update h' S (Obj.mapSeq fun _ => (#[] : Array Value))))
    obtain ⟨i, hi⟩ := List.mem_iff_getElem?.mp hbz
    have := (List.getElem?_eq_some_iff.mp hi).1
    have := hbest i b z (by omega) hi
    omega
  | succ r ih =>
    intro j h tk kb yb tb tv tw T c hr hj kp hS hT hTS hTI hit hmem hbest
    have hlt : j + 1 < l.length := by omega
    obtain ⟨⟨k, y⟩, hky⟩ : ∃ p, l[j + 1]? = some p := ⟨_, List.getElem?_eq_getElem hlt⟩
    obtain ⟨t0, hv, _⟩ := E.at_ _ _ _ hky
    refine codeAny_builtin PySem.F.entry_min_loop ?_
    rw [Around.under_plainId PySem.F.plain_min_loop _]
    show wpAny _ A.in1 (seqItems? (.ref S) >>= _) _ _ _
    refine wpAny_bind (wpAny_seqItems hS rfl ?_)
    show wpAny _ A.in1 (tryCatch (pyNext (.ref I)) _ >>= _) _ _ _
    refine wpAny_bind (wpAny_tryCatch (wpAny_pyNext_dict_item (s := { s with heap := h, toks := tk }) (knd := mixKind prog w) hit (dictAt_keep kp hm) hv fun key h' hkey hit' sb => ?_))
    obtain ⟨tk', rfl⟩ : ∃ tk', key = .int k tk' := by
      rcases keyIs_shape (show keyIs (Sum.inl k) key = true from hkey) with ⟨i, t, e, rfl⟩ | ⟨_, _, e, _⟩
      · cases e; exact ⟨t, rfl⟩
      · cases e
    have kp1 : Kp h₀ h' := kp_upd kp nI sb
    have hS1 := (sb.2 S hSI).trans hS
    have hT1 := (sb.2 T hTI).trans hT
    obtain ⟨ty, hcall⟩ := L h' tk k y tk' kp1 (List.mem_of_getElem? hky)
    show wpAny _ A.in1 (tryCatch (holding [Value.int k tk'] (call (.ref f) [Value.int k tk'])) _ >>= _) _ _ _
    refine wpAny_bind (wpAny_tryCatch (wpAny_holding (wpAny_mono hcall (fun x s'' he => ?_) fun _ _ hF => hF.elim)))
    obtain ⟨h2, tk2, T2, rfl, kp2, rfl, hT2, new2⟩ := he
    have kp2 : Kp h' h2 := kp2
    have hS2 := kp2 _ _ hS1
    have hTo2 := kp2 _ _ hT1
    have hit2 : h2.IsKeyIter I d (j + 1 + 1) vs.length ep := by
      obtain ⟨o, e, r⟩ := hit'
      exact ⟨o, kp2 _ _ e, r⟩
    have hI2 : I < h'.objs.size := by obtain ⟨o, e, r⟩ := hit'; exact Heap.lt_size e
    have nTS : T2 ≠ S := fun z => by
      have new2 : h'.objs.size ≤ T2 := new2
      rw [z] at new2
      exact absurd (Nat.lt_of_lt_of_le (Heap.lt_size hS1) new2) (Nat.lt_irrefl _)
    have nTI : T2 ≠ I := fun z => by
      have new2 : h'.objs.size ≤ T2 := new2
      rw [z] at new2
      exact absurd (Nat.lt_of_lt_of_le hI2 new2) (Nat.lt_irrefl _)
    show wpAny _ A.in1 (tryCatch (holding [Value.int k tk', .ref T2] (richCompare .Lt (.ref T2) (.ref T) >>= _)) _ >>= _) _ _ _
    refine wpAny_bind (wpAny_tryCatch (wpAny_holding (wpAny_bind ?_)))
    refine PySem.W.rcLt_alike (.tuple [.int y, .int k]) (.tuple [.int yb, .int kb]) A.in1 { s with heap := h2, toks := tk2 } (.ref T2) (.ref T) [] [] (reads_pair hT2) (reads_pair hTo2) (by simp [PySem.W.alike, PySem.W.alikeAll]) (fun z => by cases z) (by show A.units + 1 + _ < cLine; simp [PyData.depth, PyData.depthAll]; omega) _ _ _ _ ?_
    rw [PySem.W.dataLt_ii]
    refine wpAny_bind (wpAny_holding (wpAny_truthy_bool ?_))
    refine wpAny_bind (wpAny_letGo (wpAny_pure ?_))
    by_cases hb : y < yb ∨ (y = yb ∧ k < kb)
    · simp only [hb, decide_true, if_true]
      refine wpAny_bind ?_
      refine wpAny_updateSeq hS2 rfl (wpAny_bind (wpAny_letGo ?_))
      rw [hname]
      obtain ⟨c2, hc2⟩ : ∃ c2, (h2.update S (Obj.mapSeq fun _ => #[Value.int k tk', .ref T2])).get? S = some (seqObj "list" #[Value.int k tk', .ref T2] c2) := ⟨_, get?_update_seq hS2 fun _ => #[Value.int k tk', .ref T2]⟩
      have s1 := Heap.SameBut.update h2 S (Obj.mapSeq fun _ => #[Value.int k tk', .ref T2])
      refine wpAny_pure ⟨plainId_quiet PySem.F.plain_min_loop _, ih (j + 1) _ _ k y tk' ty tk' T2 c2 (by omega) hlt (kp_upd (fun b o e => kp2 b o (kp1 b o e)) nS s1) hc2 ((s1.2 T2 nTS).trans hT2) nTS nTI ?_ (List.mem_of_getElem? hky) fun i b z hi hz => ?_⟩
      · obtain ⟨o, e, r⟩ := hit2
        exact ⟨o, (s1.2 I hSI.symm).trans e, r⟩
      · by_cases e : i = j + 1
        · subst e
          rw [hky] at hz; cases hz
          exact .inr ⟨rfl, Int.le_refl _⟩
        · have := hbest i b z (by omega) hz
          omega
    · simp only [hb, decide_false, Bool.false_eq_true, if_false]
      refine wpAny_bind (wpAny_letGo ?_)
      rw [hname]
      refine wpAny_pure ⟨plainId_quiet PySem.F.plain_min_loop _, ih (j + 1) _ _ kb yb tb tv tw T c (by omega) hlt (fun b o e => kp2 b o (kp1 b o e)) hS2 hTo2 hTS hTI hit2 hmem fun i b z hi hz => ?_⟩
      by_cases e : i = j + 1
      · subst e
        rw [hky] at hz; cases hz
        omega
      · exact hbest i b z (by omega) hz
/-- min(d, key=f) -/
theorem min_dict {Q : Value → Shared → Prop} {E : Value → Shared → Prop} (hh : A.handled = none) (hu : A.units + 10 < cLine) (lo : (d == sysModules) = false) (hm : s.heap.DictAt (mixKind prog w) d vs ep) (En : EntI vs l) (hne : l ≠ []) (L : LamOk prog w A.in1 s s.heap f l)
    (hQ : ∀ k y t h' tk', (k, y) ∈ l → (∀ b z, (b, z) ∈ l → y ≤ z) → Kp s.heap h' → Q (.int k t) { s with heap := h', toks := tk' }) :
    wpAny (model prog w) A (call (.builtin "min") [.ref d] [(Str.ofString "key", .ref f)]) Q E s := by
  have hname : (toString "min" ++ toString ".loop" : String) = "min.loop" := by decide
  obtain ⟨od, es, e1, e2, e3, e4⟩ := id hm
  have hsz : es.size = vs.length := by
    have := e4.2.1.length
    rw [Array.length_toList] at this
    exact this
  have hpos : 0 < l.length := by
    cases l with
    | nil => exact absurd rfl hne
    | cons _ _ => exact Nat.succ_pos _
  refine kmk_tree PySem.F.kind_min PySem.F.plain_min PySem.F.entry_min (kmk_min_key _ _) ?_
  show wpAny _ A.in1 (Builtin.Builtins.bindParams "min" ["key", "default"] 0 ⟨[], [(Str.ofString "key", .ref f)]⟩ >>= _) _ _ s
  refine wpAny_bind (wpAny_of_eq (show Builtin.Builtins.bindParams "min" ["key", "default"] 0 ⟨[], [(Str.ofString "key", .ref f)]⟩ = pure [some (.ref f), none] from rfl) ?_)
  refine wpAny_bind (wpAny_pure ?_)
  refine wpAny_bind (iter_keys lo e1 e2 e3 ?_)
  refine wpAny_bind (wpAny_newList ?_ (Nat.zero_le _))
  rw [hname]
  generalize hoI : ({ cls := .type "dict_keyiterator", data := .fields #[.ref d, .int 0 0, .int es.size 0, .int ep 0] } : Obj) = oI
  have hS : (s.heap.push oI).objs.size = s.heap.objs.size + 1 := size_push' ..
  have hSI : (s.heap.push oI).objs.size ≠ s.heap.objs.size := by rw [hS]; exact Nat.ne_of_gt (Nat.lt_succ_self _)
  have nI : s.heap.get? s.heap.objs.size = none := Heap.get?_none_of_le (Nat.le_refl _)
  have nS : s.heap.get? (s.heap.push oI).objs.size = none := Heap.get?_none_of_le (by rw [hS]; exact Nat.le_succ _)
  have gI : ((s.heap.push oI).push (seqObj "list" #[] 0)).get? s.heap.objs.size = some oI := Heap.get?_push_of_some _ (Heap.get?_push_size _ (by rw [← hoI]; rfl))
  have gS : ((s.heap.push oI).push (seqObj "list" #[] 0)).get? (s.heap.push oI).objs.size = some (seqObj "list" #[] 0) := Heap.get?_push_size _ rfl
  have kp : Kp s.heap ((s.heap.push oI).push (seqObj "list" #[] 0)) := fun b o e => Heap.get?_push_of_some _ (Heap.get?_push_of_some _ e)
  have hit : ((s.heap.push oI).push (seqObj "list" #[] 0)).IsKeyIter s.heap.objs.size d 0 vs.length ep := ⟨oI, gI, by rw [← hoI], by rw [← hoI, ← hsz]; rfl⟩
  refine wpAny_pure ⟨plainId_quiet PySem.F.plain_min_loop _, ?_⟩
  obtain ⟨⟨k, y⟩, hky⟩ : ∃ p, l[0]? = some p := ⟨_, List.getElem?_eq_getElem hpos⟩
  obtain ⟨t0, hv, _⟩ := En.at_ _ _ _ hky
  refine codeAny_builtin PySem.F.entry_min_loop ?_
  rw [Around.under_plainId PySem.F.plain_min_loop _]
  show wpAny _ A.in1 (seqItems? (.ref _) >>= _) _ _ _
  refine wpAny_bind (wpAny_seqItems gS rfl ?_)
  show wpAny _ A.in1 (tryCatch (pyNext (.ref s.heap.objs.size)) _ >>= _) _ _ _
  refine wpAny_bind (wpAny_tryCatch (wpAny_pyNext_dict_item (s := { s with heap := (s.heap.push oI).push (seqObj "list" #[] 0) }) (knd := mixKind prog w) hit (dictAt_keep kp hm) hv fun key h' hkey hit' sb => ?_))
  obtain ⟨tk', rfl⟩ : ∃ tk', key = .int k tk' := by
    rcases keyIs_shape (show keyIs (Sum.inl k) key = true from hkey) with ⟨i, t, e, rfl⟩ | ⟨_, _, e, _⟩
    · cases e; exact ⟨t, rfl⟩
    · cases e
  have kp1 : Kp s.heap h' := kp_upd kp nI sb
  have hS1 := (sb.2 _ hSI).trans gS
  obtain ⟨ty, hcall⟩ := L h' s.toks k y tk' kp1 (List.mem_of_getElem? hky)
  show wpAny _ A.in1 (tryCatch (holding [Value.int k tk'] (call (.ref f) [Value.int k tk'])) _ >>= _) _ _ _
  refine wpAny_bind (wpAny_tryCatch (wpAny_holding (wpAny_mono hcall (fun x s'' he => ?_) fun _ _ hF => hF.elim)))
  obtain ⟨h2, tk2, T2, rfl, kp2, rfl, hT2, new2⟩ := he
  have kp2 : Kp h' h2 := kp2
  have hS2 := kp2 _ _ hS1
  have hit2 : h2.IsKeyIter s.heap.objs.size d (0 + 1) vs.length ep := by
    obtain ⟨o, e, r⟩ := hit'
    exact ⟨o, kp2 _ _ e, r⟩
  have hI2 : s.heap.objs.size < h'.objs.size := by obtain ⟨o, e, r⟩ := hit'; exact Heap.lt_size e
  have new2 : h'.objs.size ≤ T2 := new2
  have nTS : T2 ≠ (s.heap.push oI).objs.size := fun z => by
    rw [z] at new2
    exact absurd (Nat.lt_of_lt_of_le (Heap.lt_size hS1) new2) (Nat.lt_irrefl _)
  have nTI : T2 ≠ s.heap.objs.size := fun z => by
    rw [z] at new2
    exact absurd (Nat.lt_of_lt_of_le hI2 new2) (Nat.lt_irrefl _)
  have s1 := Heap.SameBut.update h2 (s.heap.push oI).objs.size (Obj.mapSeq fun _ => #[Value.int k tk', .ref T2])
  obtain ⟨c2, hc2⟩ : ∃ c2, (h2.update (s.heap.push oI).objs.size (Obj.mapSeq fun _ => #[Value.int k tk', .ref T2])).get? (s.heap.push oI).objs.size = some (seqObj "list" #[Value.int k tk', .ref T2] c2) := ⟨_, get?_update_seq hS2 fun _ => #[Value.int k tk', .ref T2]⟩
  show wpAny _ A.in1 (updateSeq (s.heap.push oI).objs.size (fun _ => #[Value.int k tk', .ref T2]) >>= _) _ _ _
  refine wpAny_bind ?_
  refine wpAny_updateSeq hS2 rfl ?_
  rw [hname]
  refine wpAny_pure ⟨plainId_quiet PySem.F.plain_min_loop _, min_loop (h₀ := s.heap) hh hu hm En L nI nS hSI (fun k y t h' tk' a b c => hQ k y t h' tk' a b c) _ 0 _ _ k y tk' ty tk' T2 c2 rfl hpos (kp_upd (fun b o e => kp2 b o (kp1 b o e)) nS s1) hc2 ((s1.2 T2 nTS).trans hT2) nTS nTI ?_ (List.mem_of_getElem? hky) fun i b z hi hz => ?_⟩
  · obtain ⟨o, e, r⟩ := hit2
    exact ⟨o, (s1.2 _ hSI.symm).trans e, r⟩
  · have e : i = 0 := by omega
    subst e
    rw [hky] at hz; cases hz
    exact .inr ⟨rfl, Int.le_refl _⟩
end
end WyL

set_option Elab.async false
set_option linter.all false
set_option maxRecDepth 100000
set_option maxHeartbeats 4000000
/-! sorted(d, key=lambda y: (d[y], y)), d a dict of ints -/
namespace WyL
open PySem PySem.Spec PyProof.Rows L2 LamX PySem.W
section
variable {prog : Program} {w : World} {A : Around} {s : Shared} {d f : Addr} {ep : Nat} {vs : List (Key × Value)} {l : List (Int × Int)}
def kDat (e : Int × Int) : PyData := .tuple [.int e.2, .int e.1]
def IsKeyV (v : Value) (e : Int × Int) : Prop := ∃ t, v = Value.int e.1 t
theorem each_of : ∀ {us : List Value} {bs : List (Int × Int)}, us.length = bs.length → (∀ (j : Nat) v e, us[j]? = some v → bs[j]? = some e → IsKeyV v e) → EachIs IsKeyV us bs
  | [], [], _, _ => .nil
  | v :: us, e :: bs, h, a => .cons (a 0 v e rfl rfl) (each_of (by simpa using h) fun j v e h1 h2 => a (j + 1) v e (by simpa using h1) (by simpa using h2))
  | [], _ :: _, h, _ => by simp at h
  | _ :: _, [], h, _ => by simp at h
theorem sorted_dict {Q : Value → Shared → Prop} {E : Value → Shared → Prop} (hh : A.handled = none) (hu : A.units + 64 < cLine) (lo : (d == sysModules) = false) (hm : s.heap.DictAt (mixKind prog w) d vs ep) (En : EntI vs l) (hL : l.length ≤ 1000) (L : LamOk prog w A.in1.in1 s s.heap f l)
    (hQ : ∀ out c p h1 h' tk', Kp s.heap h1 → Kp h1 h' → h1.objs.size ≤ p → h'.get? p = some (seqObj "list" (List.toArray out) c) → EachIs IsKeyV out (l.mergeSort (dataLe false kDat)) → Q (.ref p) { s with heap := h', toks := tk' }) :
    wpAny (model prog w) A (call (.builtin "sorted") [.ref d] [(Str.ofString "key", .ref f)]) Q E s := by
  have hz : vs.length ≤ sizeLine := by rw [En.len]; exact Nat.le_trans hL (by rw [sizeLine_eq]; omega)
  refine call_function_entry_kw kind_sorted plain_sorted entry_sorted (ksk_s1 _ _) ?_
  unfold Builtin.«sorted»
  refine wpAny_bind (m := checkCount "sorted" 1 1 _) (wpAny_pure ?_)
  refine wpAny_bind (PySem.W.kdu_collect (A := A.in1) (PySem.W.kdl_dict (knd := mixKind prog w) (kvs := vs) (ep := ep) lo) hh hm hz fun h1 tk1 acc hk hacc => ?_)
  have hal : acc.toList.length = l.length := by rw [Array.length_toList, hacc.1, En.len]
  have hE : EachIs IsKeyV acc.toList l := each_of hal fun j v e h1 h2 => by
    obtain ⟨k, x, e1, e2⟩ := hacc.2 j v (by rw [← Array.getElem?_toList]; exact h1)
    obtain ⟨t, e3, _⟩ := En.at_ j e.1 e.2 h2
    rw [e1] at e3; cases e3
    rcases keyIs_shape (show keyIs (Sum.inl e.1) v = true from e2) with ⟨i, t, ek, ev⟩ | ⟨z, t, ek, ev⟩
    · cases ek; exact ⟨t, ev⟩
    · cases ek
  refine wpAny_bind (wpAny_newList ?_ (by rw [hal, sizeLine_eq]; omega))
  have hoL : (h1.push (seqObj "list" acc.toList.toArray 0)).get? h1.objs.size = some (seqObj "list" acc.toList.toArray 0) := Heap.get?_push_size _ rfl
  show wpAny _ _ _ _ _ { s with heap := h1.push (seqObj "list" acc.toList.toArray 0), toks := tk1 }
  refine wpAny_bind (wpAny_holding (wpAny_call_entry_kw slot_list_sort ⟨_, hoL, rfl⟩ entry_list_sort ?body (ksk_l1 _ _)))
  case body =>
    rw [ksk_t1]
    have nP : ∀ b o, s.heap.get? b = some o → b ≠ h1.objs.size := fun b o e => Nat.ne_of_lt (Heap.lt_size (hk b o e))
    have up : ∀ {g : Heap}, KeepsBut h1.objs.size (h1.push (seqObj "list" acc.toList.toArray 0)) g → Kp s.heap g := fun {g} kp b o e => kp b o (nP b o e) (Heap.get?_push_of_some _ (hk b o e))
    refine keyH_tree (kz := l.map kDat) (s := { s with heap := h1.push (seqObj "list" acc.toList.toArray 0), toks := tk1 }) hoL (by rw [List.length_map]; exact hal.symm) (by rw [hal, sizeLine_eq]; omega) (AllAlike.of fun b b' => by simp [kDat, alike, alikeAll]) (Sortable.tuples fun b => ⟨_, _, rfl⟩)
      (bound_map (A := A.in1.in1) fun b _ => by show A.units + 1 + 1 + _ < cLine; simp [kDat, PyData.depth, PyData.depthAll]; omega)
      (keyH_turns (s := { s with heap := h1.push (seqObj "list" acc.toList.toArray 0), toks := tk1 }) hE fun v x hR hx h tk kp => ?_) fun h' tk out c kp hD ko => ⟨_, rfl, wpAny_pure ⟨_, rfl, ?_⟩⟩
    · obtain ⟨t, rfl⟩ := hR
      obtain ⟨t', hc⟩ := L h tk x.1 x.2 t (up kp) hx
      refine wpAny_mono hc (fun r s'' he => ?_) fun _ _ z => z
      obtain ⟨h2, tk2, T, e1, kp2, e2, hT, _⟩ := he
      subst e2
      exact ⟨h2, tk2, e1, kp2, reads_pair hT⟩
    · exact hQ out c _ h1 h' tk hk (fun b o e => kp b o (Nat.ne_of_lt (Heap.lt_size e)) (Heap.get?_push_of_some _ e)) (Nat.le_refl _) hD (keyedOut_each kDat ko hE)
/-- what the order says -/
theorem kDat_sorted (l : List (Int × Int)) : (l.mergeSort (dataLe false kDat)).Perm l ∧ (l.mergeSort (dataLe false kDat)).Pairwise fun p q => p.2 < q.2 ∨ (p.2 = q.2 ∧ p.1 ≤ q.1) := by
  have e : dataLe false kDat = fun (p q : Int × Int) => decide (p.2 < q.2 ∨ (p.2 = q.2 ∧ p.1 ≤ q.1)) := dataLe_ii (fun e : Int × Int => e.2) (fun e : Int × Int => e.1)
  refine ⟨List.mergeSort_perm _ _, ?_⟩
  have h := sort_pairwise (le := dataLe false kDat) ⟨fun a b c h1 h2 => ?_, fun a b => ?_⟩ l
  · refine h.imp fun {a b} q => ?_
    rw [e] at q
    exact of_decide_eq_true q
  · rw [e] at h1 h2 ⊢
    have h1 := of_decide_eq_true h1
    have h2 := of_decide_eq_true h2
    exact decide_eq_true (by omega)
  · rw [e]
    by_cases q : a.2 < b.2 ∨ (a.2 = b.2 ∧ a.1 ≤ b.1)
    · exact .inl (decide_eq_true q)
    · exact .inr (decide_eq_true (by omega))
end
end WyL

set_option Elab.async false
set_option linter.all false
set_option maxRecDepth 100000
set_option maxHeartbeats 4000000
/-! min(x, key=lambda y: (x[y], y)) and sorted(x, key=lambda y: (x[y], y)) as rules of the layer -/
namespace WyL
open PySem PySem.Spec PyProof.Rows L2 LamX PySem.W
/-- a dict of ints by ints, in its order -/
abbrev eI : Int × Int → Key × V := fun e => (Sum.inl e.1, V.int e.2)
abbrev dI (l : List (Int × Int)) : HO := .dK (l.map eI)
theorem dI_ne (l : List (Int × Int)) (ps : Array Value) : dI l ≠ .tbl ps := fun z => by cases z
section
variable {X : Cx} {pins : List (Addr × Obj)} {σ : L2.St} {H : Hp} {s : Shared}
theorem kv_ent {l : List (Int × Int)} {vs : List (Key × Value)} (r : KV (l.map eI) vs) (nd : (vs.map (·.1)).Nodup) : EntI vs l := by
  have hl : l.length = vs.length := by
    have := Paired.length r
    rw [List.length_map] at this
    exact this
  refine ⟨hl.symm, fun i k y e => ?_⟩
  have e1 : (l.map eI)[i]? = some (Sum.inl k, V.int y) := by rw [List.getElem?_map, e]; rfl
  obtain ⟨u, hu, ru⟩ := kv_get r e1
  obtain ⟨t, rfl⟩ := ru
  refine ⟨t, hu, ?_⟩
  exact valueAt_of_mem nd (List.mem_of_getElem? hu)
theorem Inv.dAt {d : Addr} {l : List (Int × Int)} (I : Inv X pins σ H s) (e : Rd H d (dI l)) : (d == sysModules) = false ∧ ∃ vs ep, EntI vs l ∧ s.heap.DictAt (mixKind X.prog X.w) d vs ep := by
  obtain ⟨z, lo, vs, rel, dd⟩ := dk_rd I.hok e
  obtain ⟨ep, hat⟩ := dd.dictAt
  obtain ⟨_, _, _, _, _, _, _, _, nd⟩ := dd
  exact ⟨lo, vs, ep, kv_ent rel nd, hat⟩
/-- what making the lambda asks -/
structure LCx (X : Cx) (T : List (Addr × Str)) (x y : Str) (i : Nat) (params : Arguments) (body : Expr) (sc : Scope) : Prop where
  tb : ∃ c P, TabB X.base X.mg c P ∧ X.env.code = .ref c ∧ (P, X.env.qual ++ "<lambda>") ∈ T ∧ ∀ p ∈ T, p.1 = P → p.2 = X.env.qual ++ "<lambda>"
  hdef : defaultsOf params X.env = ([], [])
  S : LSc x y sc
  cell : X.env.scope.names.lookup x = some .cell
  N : X.N[i]? = some x
  bind : ∀ (q : Str) (cl : List (Str × Addr)) (pm cv ctv : Value) (k : Int) (t : Tok), bindArgs (PySem.W.kla_fn "<lambda>" q params body sc cl pm cv ctv) ⟨[.int k t], []⟩ = pure [(y, .int k t)]
  hr : Room 3 X.A
/-- the lambda, called at any heap that keeps what stands -/
theorem LCx.ok {T : List (Addr × Str)} {x y : Str} {i j : Nat} {params : Arguments} {sc : Scope} {p1 p2 p3 p4 p5 : Pos} {f c' d : Addr} {pm ctv : Value} {l : List (Int × Int)} {A : Around} (C : LCx X T x y i params (lamB x y p1 p2 p3 p4 p5 j) sc) (I : Inv X pins σ H s) (hd : Rd H d (dI l)) (hx : σ[i]? = some (some (.ref d)))
    (hf : s.heap.get? f = some (PySem.W.kla_obj "<lambda>" (X.env.qual ++ "<lambda>") params (lamB x y p1 p2 p3 p4 p5 j) sc (cloFrom X.env.cells sc.names []) pm c' ctv)) (hco : H c' = some (CodeO c' (X.env.qual ++ "<lambda>"))) (hA : A.depth < recursionLimit) :
    LamOk X.prog X.w A s s.heap f l := by
  intro h tk k y' t kp hm
  obtain ⟨z, lo, vs, rel, dd⟩ := dk_rd I.hok hd
  have En : EntI vs l := by
    obtain ⟨_, _, _, _, _, _, _, _, nd⟩ := dd
    exact kv_ent rel nd
  obtain ⟨i0, hi0⟩ := List.mem_iff_getElem?.mp hm
  obtain ⟨t', _, hv⟩ := En.at_ _ _ _ hi0
  obtain ⟨m, hn, hl⟩ := I.loc
  obtain ⟨u, ru, lk⟩ := hl i x (.ref d) C.N hx (.inr (.inl C.cell))
  obtain rfl : u = Value.ref d := ru
  have hc : ∃ c, X.env.cells.lookup x = some c ∧ s.heap.IsCell c (some (.ref d)) := by
    rcases lk with ⟨hk, _⟩ | ⟨_, c, e, z⟩
    · have hk : X.env.scope.names.lookup x = some .local := hk
      rw [C.cell] at hk; cases hk
    · exact ⟨c, e, z⟩
  obtain ⟨c, hc1, oc, hoc, hocd⟩ := hc
  have hclo : (cloFrom X.env.cells sc.names []).lookup x = some c := by
    rw [C.S.names]
    simp [cloFrom, hc1, List.lookup]
  obtain ⟨c2, oc2, vs2, t2, e1, e2, e3, e4⟩ := NdefX.codeO_at I.hok hco
  obtain ⟨o, es, ep, d1, d2⟩ := dd
  exact ⟨t', lam_pure (s := { s with heap := h, toks := tk }) C.S hA (kp _ _ hf) ⟨c2, oc2, vs2, t2, e1, kp _ _ e2, e3, e4⟩ (C.bind _ _ _ _ _ _ _) hclo ⟨oc, kp _ _ hoc, hocd⟩ ⟨o, es, ep, kp _ _ d1, d2⟩ hv (I.nolimit.keeps kp)⟩
/-- the call's two arguments -/
theorem keyed_call {T : List (Addr × Str)} {nm : Str} {id : String} {e : Expr} {te : TE} {x y : Str} {i j : Nat} {params : Arguments} {sc : Scope} {p1 p2 p3 p4 p5 p pos lpos kpos : Pos} {R : V → Hp → Prop} {Q : Value → Shared → Prop} (hg : Gl X nm) (hm : X.mg nm = none) (hv : bootBuiltins nm = some (.builtin id)) (he : PE X e te)
    (C : LCx X T x y i params (lamB x y p1 p2 p3 p4 p5 j) sc) (hn : nm ≠ "__name__") (hdb : (nm == ("__debug__" : Str)) = false) (hst : starEach [e] X.env = (false, eval e X.env) :: starEach [] X.env) (I : Inv X pins σ H s) (h : te σ H fun v H1 => Tabs T H1 ∧ R v H1)
    (cont : ∀ (v : V) (u : Value) (H1 H2 : Hp) (s2 : Shared) (f c' : Addr) (pm ctv : Value), R v H1 → RelV v u → Inv X pins σ H2 s2 → ExtN H1 H2 → Tabs T H2 →
      s2.heap.get? f = some (PySem.W.kla_obj "<lambda>" (X.env.qual ++ "<lambda>") params (lamB x y p1 p2 p3 p4 p5 j) sc (cloFrom X.env.cells sc.names []) pm c' ctv) → H2 c' = some (CodeO c' (X.env.qual ++ "<lambda>")) →
      wpAny (model X.prog X.w) X.A (call (.builtin id) [u] [(Str.ofString "key", .ref f)]) Q X.xe s2) :
    wpAny (model X.prog X.w) X.A (eval (.Call (.Name nm p) [e] [⟨some "key", .Lambda params (lamB x y p1 p2 p3 p4 p5 j) sc lpos, kpos⟩] pos) X.env) Q X.xe s := by
  obtain ⟨c, P, TB, hcode, hmT, hu⟩ := C.tb
  refine wpAny_Call_Name_kw (ld_blt I hg hm hv ?_ hn hdb)
  refine PyProof.Rows.callWith_kw ?_ (by rw [hst]; rfl) (by rw [hst]; rfl)
  rw [hst]
  show wpAny _ _ (spliced ((false, eval e X.env) :: backTo pos (starEach [] X.env))) _ _ s
  refine Calls.spliced_cons (thn (he.run pins s σ H _ I h) fun u s1 ⟨v, H1, I1, ru, hT, hR⟩ => Calls.spliced_nil ?_)
  show wpAny _ _ (evalAll ((do let v ← eval (.Lambda params (lamB x y p1 p2 p3 p4 p5 j) sc lpos) X.env; standAt pos; pure v) :: (backToKw pos (keywordEach [] X.env)).map (·.2))) _ _ s1
  have hfr : ∀ y' ∈ sc.names, y'.2 = .free → ∃ c, X.env.cells.lookup y'.1 = some c := fun y' hy' e' => by
    rw [C.S.names] at hy'
    rcases List.mem_cons.mp hy' with q | q
    · rw [q] at e'; cases e'
    · rw [List.mem_singleton.mp q]
      exact I.ok.has _ (.inl C.cell)
  refine wpAny_evalAll_cons (wpAny_bind (lam_make2 I1 TB hcode hmT hu hT C.hdef hfr fun f c' pm ctv H2 s2 I2 eN T2 hf hfn hff hco => wpAny_bind (wpAny_standAt (wpAny_pure ?_))))
  refine wpAny_evalAll_nil ?_
  exact cont v u H1 H2 s2 f c' pm ctv hR ru I2 eN T2 hf hco
/-- min(x, key=..): one of the least -/
def tMinK (T : List (Addr × Str)) (i : Nat) : TE := fun σ H Q => ∃ (d : Addr) (l : List (Int × Int)), σ[i]? = some (some (.ref d)) ∧ H d = some (dI l) ∧ l ≠ [] ∧ Tabs T H ∧
  ∀ (k y : Int) (H' : Hp), (k, y) ∈ l → (∀ b z, (b, z) ∈ l → y ≤ z) → ExtN H H' → Tabs T H' → Q (.int k) H'
theorem pe_minK {T : List (Addr × Str)} {x y : Str} {i j : Nat} {params : Arguments} {sc : Scope} {p0 p1 p2 p3 p4 p5 p pos lpos kpos : Pos} (hc : X.calm = true) (hg : Gl X "min") (hm : X.mg "min" = none) (C : LCx X T x y i params (lamB x y p1 p2 p3 p4 p5 j) sc)
    (hst : starEach [.Name x p0] X.env = (false, eval (.Name x p0) X.env) :: starEach [] X.env := by rfl) :
    PE X (.Call (.Name "min" p) [.Name x p0] [⟨some "key", .Lambda params (lamB x y p1 p2 p3 p4 p5 j) sc lpos, kpos⟩] pos) (tMinK T i) := by
  refine ⟨fun pins s σ H Q I h => ?_⟩
  obtain ⟨d, l, hx, hd, hne, hT, k⟩ := h
  have he : PE X (.Name x p0) (tVar i) := pe_var C.N (.inr (.inl C.cell)) C.S.d1 C.S.dx
  refine keyed_call (id := "min") (R := fun v H1 => v = .ref d ∧ H1 = H) hg hm boot_min he C (by decide) (by decide) hst I ⟨.ref d, hx, hT, rfl, rfl⟩ fun v u H1 H2 s2 f c' pm ctv hR ru I2 eN T2 hf hco => ?_
  obtain ⟨rfl, rfl⟩ := hR
  obtain rfl : u = Value.ref d := ru
  have hd2 : H2 d = some (dI l) := eN _ _ hd (dI_ne l)
  obtain ⟨lo, vs, ep, En, hat⟩ := WyL.Inv.dAt I2 (Rd.of hd2)
  refine min_dict (I2.ok.hd hc) (by have := C.hr.units; omega) lo hat En hne (C.ok I2 (Rd.of hd2) hx hf hco (Room.in1 (k := 2) C.hr).depth) fun k' y' t h' tk' m1 m2 kp => ?_
  exact ⟨.int k', H2, I2.kept (t' := tk') kp, ⟨t, rfl⟩, k k' y' H2 m1 m2 eN T2⟩
/-- sorted(x, key=..): the keys by their values -/
def tSortK (T : List (Addr × Str)) (i : Nat) : TE := fun σ H Q => ∃ (d : Addr) (l : List (Int × Int)), σ[i]? = some (some (.ref d)) ∧ H d = some (dI l) ∧ l.length ≤ 1000 ∧ Tabs T H ∧
  ∀ (out : List (Int × Int)) (p : Addr) (H' : Hp), out.Perm l → (out.Pairwise fun p q => p.2 < q.2 ∨ (p.2 = q.2 ∧ p.1 ≤ q.1)) → ExtN H H' → Tabs T H' → H' p = none → Q (.ref p) (upd H' p (.lst (out.map fun e => V.int e.1)))
theorem vals_keys : ∀ {us : List Value} {bs : List (Int × Int)}, EachIs IsKeyV us bs → Vals (bs.map fun e => V.int e.1) us
  | _, _, .nil => .nil
  | _, _, .cons h t => .cons h (vals_keys t)
theorem pe_sortK {T : List (Addr × Str)} {x y : Str} {i j : Nat} {params : Arguments} {sc : Scope} {p0 p1 p2 p3 p4 p5 p pos lpos kpos : Pos} (hc : X.calm = true) (hg : Gl X "sorted") (hm : X.mg "sorted" = none) (C : LCx X T x y i params (lamB x y p1 p2 p3 p4 p5 j) sc)
    (hv0 : X.env.scope.names.lookup x = some .cell) (hst : starEach [.Name x p0] X.env = (false, eval (.Name x p0) X.env) :: starEach [] X.env := by rfl) :
    PE X (.Call (.Name "sorted" p) [.Name x p0] [⟨some "key", .Lambda params (lamB x y p1 p2 p3 p4 p5 j) sc lpos, kpos⟩] pos) (tSortK T i) := by
  refine ⟨fun pins s σ H Q I h => ?_⟩
  obtain ⟨d, l, hx, hd, hlen, hT, k⟩ := h
  have he : PE X (.Name x p0) (tVar i) := pe_var C.N (.inr (.inl C.cell)) C.S.d1 C.S.dx
  refine keyed_call (id := "sorted") (R := fun v H1 => v = .ref d ∧ H1 = H) hg hm (by decide +kernel) he C (by decide) (by decide) hst I ⟨.ref d, hx, hT, rfl, rfl⟩ fun v u H1 H2 s2 f c' pm ctv hR ru I2 eN T2 hf hco => ?_
  obtain ⟨rfl, rfl⟩ := hR
  obtain rfl : u = Value.ref d := ru
  have hd2 : H2 d = some (dI l) := eN _ _ hd (dI_ne l)
  obtain ⟨lo, vs, ep, En, hat⟩ := WyL.Inv.dAt I2 (Rd.of hd2)
  refine sorted_dict (I2.ok.hd hc) (by have := C.hr.units; omega) lo hat En hlen (C.ok I2 (Rd.of hd2) hx hf hco (Room.in1 (k := 1) (Room.in1 (k := 2) C.hr)).depth) fun out c p h1 h' tk' k1 k2 hp hlp hE => ?_
  obtain ⟨s1, s2'⟩ := kDat_sorted l
  have I3 : Inv X pins σ H2 { s2 with heap := h1, toks := tk' } := I2.kept k1
  have hl1 : out.length = (l.mergeSort (dataLe false kDat)).length := hE.length
  have rv := vals_keys hE
  have I4 : Inv X pins σ (upd H2 p (.lst ((l.mergeSort (dataLe false kDat)).map fun e => V.int e.1))) { s2 with heap := h', toks := tk' } := by
    refine I3.laid (t' := tk') k2 hp ⟨?_, out, c, rv, hlp⟩
    rw [List.length_map, s1.length_eq, sizeLine_eq]
    omega
  exact ⟨.ref p, _, I4, rfl, k _ p H2 s1 s2' eN T2 (I3.hok.fresh hp)⟩
end
end WyL

set_option Elab.async false
set_option linter.all false
set_option maxRecDepth 100000
set_option maxHeartbeats 4000000
/-! further rules: a lock behind the evaluation, d.update(e), == of tables, a method called with keywords -/
namespace WyL
open PySem PySem.Spec PyProof.Rows L2 LamX PySem.W
section
variable {X : Cx}
/-- one of two readings -/
theorem ps_or {st : Stmt} {t u : TS} (h1 : PS X st t) (h2 : PS X st u) : PS X st (fun D σ H => t D σ H ∨ u D σ H) :=
  ⟨fun pins s σ H D I h => h.elim (h1.run pins s σ H D I) (h2.run pins s σ H D I)⟩
/-- d.items(), d locked from then on -/
def iItemsL (td : TE) : TI := fun σ H R => td σ H fun x H1 => ∃ d kvs, x = .ref d ∧ H1 d = some (.dK kvs) ∧ ∀ o, R (Iti d o kvs) (upd H1 d (.frz o (.dK kvs)))
theorem pi_itemsL {e : Expr} {td : TE} {apos cpos : Pos} {elts : List Expr} {kk : Nat} {tpos : Pos} (he : PE X e td) (hbase : attributeBase e "items" X.env (eval e X.env) = eval e X.env := by rfl) (hline : (apos.endLine == cpos.line) = true := by rfl) :
    PI X (.Tuple elts kk tpos) (.Call (.Attribute e "items" apos) [] [] cpos) (iItemsL td) := by
  refine ⟨fun pins s σ H R I h => ?_⟩
  refine wpAny_Call_method (T := "dict") (id := "dict.items") hbase rfl hline F.plainAttrs_dict F.slot_dict_items F.type_dict_items (thn (he.run pins s σ H _ I h) fun u s1 ⟨x, H0, I0, rx, d, kvs, ex, hd0, q0⟩ => ?_)
  subst ex
  obtain rfl : u = Value.ref d := rx
  obtain ⟨o, I1⟩ := I0.lock hd0 True.intro
  have hd : (upd H0 d (.frz o (.dK kvs))) d = some (.frz o (.dK kvs)) := upd_same
  have q := q0 o
  generalize upd H0 d (.frz o (.dK kvs)) = H1 at I1 hd q
  obtain ⟨hs, hgd, hx, es, ep, vs, hdt, hsz, kv, hm⟩ := I1.frzK hd
  have hl : kvs.length = vs.length := Paired.length kv
  refine ⟨hm.dictOf.typeIs, hm.dictOf.mapOf.noDict, ?_⟩
  have I2 : Inv X pins σ H1 { s1 with heap := s1.heap.push { cls := .type "dict_items", data := .fields #[.ref d] } } := I1.kept (t' := s1.toks) fun b ob q => Heap.get?_push_of_some _ q
  have fin : wpAny (model X.prog X.w) X.A (pyIter (.ref s1.heap.objs.size)) (PIE X pins σ (.Tuple elts kk tpos) R) X.xe { s1 with heap := s1.heap.push { cls := .type "dict_items", data := .fields #[.ref d] } } := by
    refine wpAny_pyIter_items (d := d) (knd := mixKind X.prog X.w) ⟨_, Heap.get?_push_size _ rfl, rfl, rfl⟩ (hm.push _) (pi_one (tk := s1.toks) I2 _ (turn_items _ hdt) ⟨.none, .none, ?_⟩ q)
    rw [hl]
    exact Heap.get?_push_size _ rfl
  show wpAny _ _ (callWith cpos (.builtin "dict.items") [.ref d] [] []) _ X.xe s1
  exact method_meetsIn F.slot_dict_items F.entry_dict_items rfl (PySem.evalArgs_none ⟨rfl, hm.dictOf.typeIs, F.args_dict_items_1 _, _, meets_dict_items (mixKind X.prog X.w) d hs, ⟨vs, hm.dictOf⟩, fin⟩)
/-- d.update(e), two dicts -/
theorem mt_update : MtR X "dict.update" (fun x vs H Q => ∃ (a b : Addr) (ks ls : List (Key × V)), x = .ref a ∧ vs = [.ref b] ∧ H a = some (.dK ks) ∧ H b = some (.dK ls) ∧ a ≠ b ∧ ks.length + ls.length ≤ 1000 ∧ Q .non (upd H a (.dK (mergeK ks ls)))) := by
  intro pins s σ H x vs v us Q I rx r h
  obtain ⟨a, b, ks, ls, rfl, rfl, ea, eb, ne, hlen, q⟩ := h
  obtain rfl : v = Value.ref a := rx
  obtain ⟨u, rfl, ru⟩ := vals1 r
  obtain rfl : u = Value.ref b := ru
  obtain ⟨za, la, va, rela, da⟩ := dk_of I.hok ea
  obtain ⟨zb, lb, vb, relb, db⟩ := dk_of I.hok eb
  have hsz : va.length + vb.length ≤ sizeLine := by rw [← rela.length, ← relb.length, sizeLine_eq]; omega
  refine call_meetsIn F.slot_dict_update da.typeIs F.entry_dict_update (F.args_dict_update_2 _ _) (meets_dict_update (mixKind X.prog X.w) a b ne lb) ⟨va, vb, da, db, hsz, fun h' d' _ hs => ?_⟩
  have hl : (mergeK ks ls).length ≤ sizeLine := by have := length_mergeK ls ks; rw [sizeLine_eq]; omega
  exact ⟨.non, _, d_write (t' := s.toks) I (by rw [ea]; exact True.intro) hs (let ⟨q, _, _, hq, _⟩ := d'; ⟨q, hq⟩) (dk_new hl la (KV.merge relb rela) d'), rfl, q⟩
/-- x != {} -/
theorem op_ne_empty (hu : X.A.units < cLine) : OpR X (compareOp .NotEq) (fun x y H Q => ∃ (a b : Addr) (ks : List (Key × V)), x = .ref a ∧ y = .ref b ∧ H a = some (.dK ks) ∧ H b = some (.dK []) ∧ Q (.bl (!ks.isEmpty)) H) := by
  intro pins s σ H x y v u Q I rx ry h
  obtain ⟨a, b, ks, rfl, rfl, ea, eb, q⟩ := h
  obtain rfl : v = Value.ref a := rx
  obtain rfl : u = Value.ref b := ry
  obtain ⟨_, ya, va, ra, da⟩ := dk_of I.hok ea
  obtain ⟨_, yb, vb, rb, db⟩ := dk_of I.hok eb
  cases rb
  refine keq_ne (knd := mixKind X.prog X.w) (r := true) ya yb da db hu (fun e => ?_) (fin_bl I q ?_)
  · have : va = [] := List.length_eq_zero_iff.mp e
    subst this
    exact .nil
  · have hl := ra.length
    cases ks with
    | nil => cases ra; rfl
    | cons _ _ =>
      cases va with
      | nil => simp at hl
      | cons _ _ => simp
/-- two dicts whose entries are alike data -/
def rEqT (K : PySem.W.Frag) : R2 := fun x y H Q => ∃ (a b : Addr) (ks ls : List (Key × V)), x = .ref a ∧ y = .ref b ∧ H a = some (.dK ks) ∧ H b = some (.dK ls) ∧ ks.length = ls.length ∧
  (∀ p ∈ ks, ∃ u d, valV ls p.1 = some u ∧ Dp K H p.2 d ∧ Dp K H u d ∧ alike d d = true ∧ d.depth ≤ 10 ∧ PyData.eqv d d = true) ∧ Q (.bl true) H
theorem op_eqT (hu : X.A.units + 64 < cLine) : OpR X (compareOp .Eq) (rEqT X.K) := by
  intro pins s σ H x y v u Q I rx ry h
  obtain ⟨a, b, ks, ls, rfl, rfl, ea, eb, hl, hp, q⟩ := h
  obtain rfl : v = Value.ref a := rx
  obtain rfl : u = Value.ref b := ry
  obtain ⟨_, ya, va, ra, da⟩ := dk_of I.hok ea
  obtain ⟨_, yb, vb, rb, db⟩ := dk_of I.hok eb
  refine PySem.W.rcP_dicts (knd := mixKind X.prog X.w) (r := true) ya yb da db (by omega) (fun _ => ?_) _ _ (fin_bl I q (by rw [← ra.length, ← rb.length, hl]; simp))
  refine hits_run (F := fun p w => ∃ d, Dp X.K H p d ∧ Dp X.K H w d ∧ alike d d = true ∧ d.depth ≤ 10 ∧ PyData.eqv d d = true) (fun x y v u ⟨d, d1, d2, d3, d4, d5⟩ r1 r2 => ?_) rb ra fun p hm => ?_
  · obtain ⟨as, q1⟩ := Dp.reads I d x v d1 r1
    obtain ⟨bs, q2⟩ := Dp.reads I d y u d2 r2
    have e := eqAt_alike d d X.A.in1 s v u as bs q1 q2 d3 (by show X.A.units + 1 + _ < cLine; rw [Nat.min_self]; omega)
    rw [d5] at e
    exact e.eqP
  · obtain ⟨u, d, e1, e2⟩ := hp p hm
    exact ⟨u, e1, d, e2⟩
/-- o.m(e, .., k = v, ..) -/
def tMethN (C : Addr) (m : Str) (n j : Nat) (sp : Sp) (gV : List V → List V → List V) (E : XK) (ta : TE) (t tk : TA) : TE := fun σ H Q => ta σ H fun x H1 => ∃ a dx fs, x = .ref a ∧ H1 a = some (.ins C dx fs) ∧ fs.lookup m = none ∧
  t σ H1 fun vs H2 => tk σ H2 fun zs H3 => vs.length + 1 = n ∧ zs.length = j ∧ sp (gV (x :: vs) zs) H3 Q E
theorem pe_methN {CX : CXT} {k n : Nat} {f C : Addr} {fd : FuncData} {ps ks : List Str} {sp : Sp} {E : XK} {m : Str} {pos apos : Pos} {o e : Expr} {es : List Expr} {kws : List Keyword} {ta : TE} {t tk : TA} {g : List Value → List Value → List Value} {gV : List V → List V → List V} {pl : Sem Bool}
    (he : PE X o ta) (c : Cls X.K C) (hm : Meth X.K C m f) (F : FnOk X.prog X.w X.K X.mg X.base CX k f fd ps sp) (hr : Room k X.A) (hb : KBn X.K fd ps n ks g gV) (hx : Passes CX X E) (ha : PA X (e :: es) t) (hkw : PK X kws tk)
    (hall : (backToKw pos (keywordEach kws X.env)).all (·.1.isSome) = true := by rfl) (hks : (backToKw pos (keywordEach kws X.env)).filterMap (·.1) = ks := by rfl)
    (hst : starEach (e :: es) X.env = (false, eval e X.env) :: starEach es X.env := by rfl)
    (hpl : ((backTo pos (starEach (e :: es) X.env)).any (·.1) || (backToKw pos (keywordEach kws X.env)).any (·.1.isNone)) = false := by rfl)
    (ht : eval (.Call (.Attribute o m apos) (e :: es) kws pos) X.env = (do
      let ov ← eval o X.env
      standAt apos.atName
      let (f, first) ← holding [ov] (getMethod ov m pl)
      callWith pos f first (backTo pos (starEach (e :: es) X.env)) (backToKw pos (keywordEach kws X.env))) := by rfl) :
    PE X (.Call (.Attribute o m apos) (e :: es) kws pos) (tMethN C m n ks.length sp gV E ta t tk) := by
  refine ⟨fun pins s σ H Q I h => ?_⟩
  refine PySem.W.methodCall_KW (pl := pl) (thn (he.run pins s σ H _ I h) fun u s1 ⟨x, H1, I1, rx, a, dx, fs, ex, ea, l, q⟩ => ?_) ht
  subst ex
  obtain rfl : u = Value.ref a := rx
  refine getmeth_ok I1 ea c hm l ?_
  refine PySem.W.callWith_KW (first := [.ref a]) (h₀ := X.base) I.ok.mod.kin hm.kp hall (thn (ha.run pos pins s1 σ H1 _ I1 q) fun us s2 ⟨vs, H2, I2, r, q2⟩ => ?_) hpl hst
  refine thn (hkw.run pos pins s2 σ H2 _ I2 q2) fun ws s3 ⟨zs, H3, I3, rz, l1, l2, q3⟩ => ⟨I3.kIn, ?_⟩
  rw [hks]
  exact run_fnN (us := .ref a :: us) (vs := .ref a :: vs) F hr hb hx I3 (.cons rfl r) rz l1 l2 q3
/-- a dict comprehension over a list that stays -/
theorem dc_list {K : PySem.W.Frag} {a : Addr} {xs : List V} {g : TG} {tt : TT} {tk tv : TE} {vs : List Nat} {σ : L2.St} {H1 : Hp} {D : Addr} {Qd : Hp → Prop} (Pv : Nat → Hp → Prop) (h0 : Pv 0 (upd H1 D (.dK []))) (hl : ∀ i H, i ≤ xs.length → Pv i H → SqL K H a xs)
    (hs : ∀ i x H, xs[i]? = some x → Pv i H → g x (wipe σ vs) H fun σ2 H2 => wipe σ2 vs = wipe σ vs ∧ tt σ2 H2 fun b H3 =>
      if b = true then tk σ2 H3 fun y H4 => tv σ2 H4 fun z H5 => ∃ kvs k, y = kV k ∧ H5 D = some (.dK kvs) ∧ kvs.length < sizeLine ∧ Pv (i + 1) (upd H5 D (.dK (putK kvs k z))) else Pv (i + 1) H3) (hd : ∀ H, Pv xs.length H → Qd H) :
    ∃ W : Nat → Nat → Hp → Prop, (∃ m, W 0 m (upd H1 D (.dK []))) ∧ ∀ i m H, W i m H →
      ((Itl K a).stop i H ∧ Qd H) ∨ ((Itl K a).go i H ∧ ∃ Nx : Hp → Prop, (∀ H', Nx H' → ∃ m', m' < m ∧ W (i + 1) m' H') ∧ ∀ x H', (Itl K a).yld i H x H' → g x (wipe σ vs) H' fun σ2 H2 => wipe σ2 vs = wipe σ vs ∧ tt σ2 H2 fun b H3 =>
        if b = true then tk σ2 H3 fun y H4 => tv σ2 H4 fun z H5 => ∃ kvs k, y = kV k ∧ H5 D = some (.dK kvs) ∧ kvs.length < sizeLine ∧ Nx (upd H5 D (.dK (putK kvs k z))) else Nx H3) := by
  refine ⟨fun i m H => m = xs.length - i ∧ i ≤ xs.length ∧ Pv i H, ⟨xs.length, by simp, Nat.zero_le _, h0⟩, ?_⟩
  rintro i m H ⟨rfl, hi, p⟩
  have q := hl i H hi p
  by_cases hlt : i < xs.length
  · refine .inr ⟨⟨xs, xs[i], q, by simp [hlt]⟩, Pv (i + 1), fun H' p' => ⟨xs.length - (i + 1), by omega, rfl, hlt, p'⟩, fun x H' y => ?_⟩
    obtain ⟨e, y⟩ := y
    subst e
    exact hs i x _ (y xs q) p
  · have e : i = xs.length := by omega
    subst e
    exact .inl ⟨⟨xs, q, Nat.le_refl _⟩, hd H p⟩
end
end WyL

set_option Elab.async false
set_option linter.all false
set_option maxRecDepth 100000
set_option maxHeartbeats 4000000
/-! lists of pairs with int keys; frames; lines -/
namespace WyP
open PySem PySem.Spec PyProof.Rows L2 LamX Wy WyL
/-! ### lists of pairs -/
section
variable {α : Type}
def lk : List (Int × α) → Int → Option α
  | [], _ => none
  | e :: r, k => if e.1 = k then some e.2 else lk r k
def pt : List (Int × α) → Int → α → List (Int × α)
  | [], k, v => [(k, v)]
  | e :: r, k, v => if e.1 = k then (k, v) :: r else e :: pt r k v
def dr (l : List (Int × α)) (k : Int) : List (Int × α) := l.filter fun e => !decide (e.1 = k)
abbrev ks (l : List (Int × α)) : List Int := l.map (·.1)
theorem lk_cons (e : Int × α) (r : List (Int × α)) (k : Int) : lk (e :: r) k = if e.1 = k then some e.2 else lk r k := rfl
theorem pt_cons (e : Int × α) (r : List (Int × α)) (k : Int) (v : α) : pt (e :: r) k v = if e.1 = k then (k, v) :: r else e :: pt r k v := rfl
theorem lk_mem {k : Int} {v : α} : ∀ {l : List (Int × α)}, lk l k = some v → (k, v) ∈ l
  | e :: r, h => by
    unfold lk at h
    split at h
    · rename_i q
      cases h
      rw [← q]
      exact List.mem_cons_self
    · exact List.mem_cons_of_mem _ (lk_mem h)
theorem lk_key {k : Int} {v : α} {l : List (Int × α)} (h : lk l k = some v) : k ∈ ks l := List.mem_map.mpr ⟨_, lk_mem h, rfl⟩
theorem lk_none {k : Int} : ∀ {l : List (Int × α)}, k ∉ ks l → lk l k = none
  | [], _ => rfl
  | e :: r, h => by
    have h1 : ¬ e.1 = k := fun q => h (by rw [← q]; exact List.mem_cons_self)
    unfold lk
    rw [if_neg h1]
    exact lk_none fun q => h (List.mem_cons_of_mem _ q)
theorem none_lk {k : Int} {l : List (Int × α)} (h : lk l k = none) : k ∉ ks l := by
  induction l with
  | nil => simp
  | cons e r ih =>
    unfold lk at h
    split at h
    · cases h
    · rename_i q
      intro m
      rcases List.mem_cons.mp m with m | m
      · exact q m.symm
      · exact ih h m
theorem lk_of {k : Int} {v : α} : ∀ {l : List (Int × α)}, (ks l).Nodup → (k, v) ∈ l → lk l k = some v
  | e :: r, nd, h => by
    obtain ⟨h1, h2⟩ := List.nodup_cons.mp nd
    unfold lk
    rcases List.mem_cons.mp h with q | q
    · rw [← q, if_pos rfl]
    · have h3 : ¬ e.1 = k := fun z => h1 (by
        show e.1 ∈ _
        rw [z]
        exact List.mem_map.mpr ⟨_, q, rfl⟩)
      rw [if_neg h3]
      exact lk_of h2 q
theorem lk_pt (k : Int) (v : α) : ∀ l : List (Int × α), lk (pt l k v) = up (lk l) k (some v)
  | [] => by
    funext j
    show lk [(k, v)] j = _
    rw [lk_cons]
    unfold up
    by_cases q : k = j
    · rw [if_pos q, if_pos q.symm]
    · rw [if_neg q, if_neg (fun z => q z.symm)]
  | e :: r => by
    funext j
    have ih := congrFun (lk_pt k v r) j
    rw [pt_cons]
    by_cases q : e.1 = k
    · rw [if_pos q, lk_cons]
      unfold up
      by_cases z : k = j
      · rw [if_pos z, if_pos z.symm]
      · have z2 : ¬ e.1 = j := by rw [q]; exact z
        rw [if_neg z, if_neg (fun y => z y.symm), lk_cons, if_neg z2]
    · rw [if_neg q, lk_cons]
      unfold up at ih ⊢
      rw [lk_cons]
      by_cases z : e.1 = j
      · have z2 : ¬ j = k := by rw [← z]; exact q
        rw [if_pos z, if_neg z2, if_pos z]
      · rw [if_neg z, if_neg z]; exact ih
theorem lk_dr (k : Int) : ∀ l : List (Int × α), lk (dr l k) = up (lk l) k none
  | [] => by funext j; unfold up; split <;> rfl
  | e :: r => by
    funext j
    have ih := congrFun (lk_dr k r) j
    unfold dr at ih ⊢
    rw [List.filter_cons]
    by_cases q : e.1 = k
    · rw [decide_eq_true q]
      simp only [Bool.not_true, Bool.false_eq_true, if_false]
      rw [ih]
      unfold up
      by_cases z : j = k
      · rw [if_pos z, if_pos z]
      · rw [if_neg z, if_neg z]
        unfold lk
        rw [if_neg (by rw [q]; exact fun y => z y.symm)]
        exact match r with | [] => rfl | _ :: _ => rfl
    · rw [decide_eq_false q]
      simp only [Bool.not_false, if_true]
      unfold up at ih ⊢
      unfold lk
      by_cases z : e.1 = j
      · rw [if_pos z, if_neg (by rw [← z]; exact q), if_pos z]
      · rw [if_neg z, if_neg z]
        exact ih
theorem ks_pt (k : Int) (v : α) : ∀ l : List (Int × α), ks (pt l k v) = if k ∈ ks l then ks l else ks l ++ [k]
  | [] => by simp [pt]
  | e :: r => by
    have ih := ks_pt k v r
    unfold pt
    by_cases q : e.1 = k
    · have m : k ∈ ks (e :: r) := by rw [← q]; exact List.mem_cons_self
      rw [if_pos q, if_pos m]
      show k :: ks r = e.1 :: ks r
      rw [q]
    · rw [if_neg q]
      show e.1 :: ks (pt r k v) = _
      rw [ih]
      by_cases z : k ∈ ks r
      · have m : k ∈ ks (e :: r) := List.mem_cons_of_mem _ z
        rw [if_pos z, if_pos m]; rfl
      · have m : ¬ k ∈ ks (e :: r) := by
          intro m
          rcases List.mem_cons.mp m with m | m
          · exact q m.symm
          · exact z m
        rw [if_neg z, if_neg m]
        rfl
theorem nd_pt {k : Int} {v : α} {l : List (Int × α)} (h : (ks l).Nodup) : (ks (pt l k v)).Nodup := by
  rw [ks_pt]
  split
  · exact h
  · rename_i q
    exact nd_snoc h q
theorem nd_dr {k : Int} {l : List (Int × α)} (h : (ks l).Nodup) : (ks (dr l k)).Nodup := by
  unfold dr ks
  exact h.sublist (List.filter_sublist.map _)
theorem len8 {l : List (Int × α)} (nd : (ks l).Nodup) (h : InR 8 (lk l)) : l.length ≤ 8 := by
  have := short8 nd fun x hx => by
    obtain ⟨e, he, rfl⟩ := List.mem_map.mp hx
    exact h e.1 e.2 (lk_of nd he)
  rwa [List.length_map] at this
/-- as a dict's entries -/
def mkE (f : α → V) (l : List (Int × α)) : List (Key × V) := l.map fun e => (Sum.inl e.1, f e.2)
theorem valV_mk (f : α → V) (k : Int) : ∀ l : List (Int × α), valV (mkE f l) (Sum.inl k : Key) = (lk l k).map f
  | [] => rfl
  | e :: r => by
    unfold lk
    show valV ((Sum.inl e.1, f e.2) :: mkE f r) (Sum.inl k : Key) = _
    by_cases q : e.1 = k
    · rw [if_pos q, valV_pos (show (Sum.inl e.1 : Key) = Sum.inl k by rw [q])]; rfl
    · rw [if_neg q, valV_neg (show ¬ (Sum.inl e.1 : Key) = Sum.inl k from fun z => q (Sum.inl.inj z))]
      exact valV_mk f k r
theorem any_mk (f : α → V) (k : Int) : ∀ l : List (Int × α), ((mkE f l).any fun kv => decide (kv.1 = (Sum.inl k : Key))) = decide (k ∈ ks l)
  | [] => by simp [mkE]
  | e :: r => by
    show (decide ((Sum.inl e.1 : Key) = Sum.inl k) || ((mkE f r).any fun kv => decide (kv.1 = (Sum.inl k : Key)))) = _
    rw [any_mk f k r]
    by_cases q : e.1 = k
    · subst q; simp
    · have h1 : ¬ (Sum.inl e.1 : Key) = Sum.inl k := fun z => q (Sum.inl.inj z)
      have h2 : ¬ k = e.1 := fun z => q z.symm
      simp [h1, h2]
theorem map_mk_no {f : α → V} {k : Int} {v : α} : ∀ {l : List (Int × α)}, k ∉ ks l → (mkE f l).map (fun kv => if kv.1 = (Sum.inl k : Key) then (kv.1, f v) else kv) = mkE f l
  | [], _ => rfl
  | e :: r, h => by
    have h1 : ¬ (Sum.inl e.1 : Key) = Sum.inl k := fun z => h (by rw [← Sum.inl.inj z]; exact List.mem_cons_self)
    show (if (Sum.inl e.1 : Key) = Sum.inl k then ((Sum.inl e.1 : Key), f v) else (Sum.inl e.1, f e.2)) :: (mkE f r).map (fun kv => if kv.1 = (Sum.inl k : Key) then (kv.1, f v) else kv) = _
    rw [if_neg h1, map_mk_no fun q => h (List.mem_cons_of_mem _ q)]
    rfl
theorem pt_no {k : Int} {v : α} : ∀ {l : List (Int × α)}, k ∉ ks l → pt l k v = l ++ [(k, v)]
  | [], _ => rfl
  | e :: r, h => by
    unfold pt
    rw [if_neg (fun z => h (by rw [← z]; exact List.mem_cons_self)), pt_no fun q => h (List.mem_cons_of_mem _ q)]
    rfl
theorem map_mk_yes {f : α → V} {k : Int} {v : α} : ∀ {l : List (Int × α)}, (ks l).Nodup → k ∈ ks l → (mkE f l).map (fun kv => if kv.1 = (Sum.inl k : Key) then (kv.1, f v) else kv) = mkE f (pt l k v)
  | e :: r, nd, h => by
    obtain ⟨n1, n2⟩ := List.nodup_cons.mp nd
    show (if (Sum.inl e.1 : Key) = Sum.inl k then ((Sum.inl e.1 : Key), f v) else (Sum.inl e.1, f e.2)) :: (mkE f r).map (fun kv => if kv.1 = (Sum.inl k : Key) then (kv.1, f v) else kv) = _
    unfold pt
    by_cases q : e.1 = k
    · have h1 : (Sum.inl e.1 : Key) = Sum.inl k := by rw [q]
      rw [if_pos h1, if_pos q, map_mk_no (by rw [← q]; exact n1), q]
      rfl
    · have h1 : ¬ (Sum.inl e.1 : Key) = Sum.inl k := fun z => q (Sum.inl.inj z)
      have h2 : k ∈ ks r := by
        rcases List.mem_cons.mp h with m | m
        · exact absurd m.symm q
        · exact m
      rw [if_neg h1, if_neg q, map_mk_yes n2 h2]
      rfl
theorem putK_mk {f : α → V} {k : Int} {v : α} {l : List (Int × α)} (nd : (ks l).Nodup) : putK (mkE f l) (Sum.inl k : Key) (f v) = mkE f (pt l k v) := by
  unfold putK
  rw [any_mk]
  by_cases q : k ∈ ks l
  · rw [decide_eq_true q, if_pos rfl]
    exact map_mk_yes nd q
  · rw [decide_eq_false q, if_neg Bool.false_ne_true, pt_no q]
    simp [mkE]
theorem dropK_mk (f : α → V) (k : Int) : ∀ l : List (Int × α), dropK (mkE f l) (Sum.inl k : Key) = mkE f (dr l k)
  | [] => rfl
  | e :: r => by
    have ih := dropK_mk f k r
    show dropK ((Sum.inl e.1, f e.2) :: mkE f r) (Sum.inl k : Key) = _
    unfold dr
    rw [List.filter_cons]
    by_cases q : e.1 = k
    · rw [dropK_pos (show (Sum.inl e.1 : Key) = Sum.inl k by rw [q]), ih, decide_eq_true q]
      rfl
    · rw [dropK_neg (show ¬ (Sum.inl e.1 : Key) = Sum.inl k from fun z => q (Sum.inl.inj z)), ih, decide_eq_false q]
      rfl
theorem mk_len (f : α → V) (l : List (Int × α)) : (mkE f l).length = l.length := List.length_map _
theorem mk_keys (f : α → V) (l : List (Int × α)) : (mkE f l).map (·.1) = (ks l).map Sum.inl := by simp [mkE, ks]
end
/-! ### frames -/
abbrev TT0 := List (Addr × Str)
structure Ex (T : TT0) (D : Addr → Prop) (H H' : Hp) : Prop where
  ext : ∀ b o, H b = some o → ¬ D b → (∀ ps, o ≠ .tbl ps) → H' b = some o
  tb : Tabs T H'
abbrev no : Addr → Prop := fun _ => False
def Fresh (H : Hp) (d : Addr) : Prop := ∀ o, H d = some o → ∃ ps, o = .tbl ps
/-- objects that are no tables, no code -/
def Pl : HO → Prop
  | .lst _ => True
  | .tup _ => True
  | .dK _ => True
  | .dT _ => True
  | .ins _ _ _ => True
  | .own _ => True
  | .frz _ _ => True
  | _ => False
theorem Pl.tbl {o : HO} (p : Pl o) : ∀ ps, o ≠ .tbl ps := fun ps e => by subst e; exact p
theorem Pl.code {o : HO} (p : Pl o) (c : Addr) (q : Str) : o ≠ CodeO c q := fun e => by subst e; exact p
theorem Fresh.of {H : Hp} {d : Addr} (h : H d = none) : Fresh H d := fun o e => by rw [h] at e; cases e
theorem Fresh.ne {H : Hp} {d b : Addr} {o : HO} (f : Fresh H d) (e : H b = some o) (p : Pl o) : b ≠ d := fun z => by
  rw [z] at e
  obtain ⟨ps, q⟩ := f o e
  exact p.tbl ps q
theorem tabs_upd {T : TT0} {H : Hp} {d : Addr} {o : HO} (t : Tabs T H) (h : ∀ u, H d = some u → Pl u) : Tabs T (upd H d o) := fun p hp => by
  obtain ⟨ps, h1, h2, h3⟩ := t p hp
  have n : ∀ {b u}, H b = some u → ¬ Pl u → b ≠ d := fun {b u} e np z => by rw [z] at e; exact np (h _ e)
  refine ⟨ps, by rw [upd_ne (n h1 (fun z => z))]; exact h1, h2, fun pos cv hc => ?_⟩
  obtain ⟨c, e1, e2⟩ := h3 pos cv hc
  exact ⟨c, e1, by rw [upd_ne (n e2 (fun z => z.code c p.2 rfl))]; exact e2⟩
section
variable {T : TT0} {D D1 : Addr → Prop} {H H1 H2 : Hp} {d : Addr} {o u : HO}
theorem Ex.refl (t : Tabs T H) : Ex T D H H := ⟨fun _ _ e _ _ => e, t⟩
theorem Ex.of (e : ExtN H H1) (t : Tabs T H1) : Ex T D H H1 := ⟨fun b o h _ n => e b o h n, t⟩
theorem Ex.trans (a : Ex T D H H1) (b : Ex T D1 H1 H2) (h : ∀ x, D1 x → D x ∨ Fresh H x) : Ex T D H H2 := ⟨fun x o e nd nt => b.ext x o (a.ext x o e nd nt) (fun q => by
  rcases h x q with r | r
  · exact nd r
  · obtain ⟨ps, z⟩ := r o e
    exact nt ps z) nt, b.tb⟩
theorem Ex.tr (a : Ex T D H H1) (b : Ex T no H1 H2) : Ex T D H H2 := a.trans b fun _ z => z.elim
theorem Ex.mono (a : Ex T D H H1) (h : ∀ x, D x → D1 x) : Ex T D1 H H1 := ⟨fun b o e n t => a.ext b o e (fun z => n (h b z)) t, a.tb⟩
theorem Ex.wr (a : Ex T D H H1) (h : D d ∨ Fresh H d) (hd : ∀ u, H1 d = some u → Pl u) : Ex T D H (upd H1 d o) := ⟨fun b u e n t => by
  have hb : b ≠ d := fun z => by
    subst z
    rcases h with r | r
    · exact n r
    · obtain ⟨ps, q⟩ := r u e
      exact t ps q
  rw [upd_ne hb]
  exact a.ext b u e n t, tabs_upd a.tb hd⟩
theorem Ex.fresh (a : Ex T D H H1) (f : Fresh H1 d) (nd : ¬ D d) : Fresh H d := fun o e => by
  refine Classical.byContradiction fun z => ?_
  obtain ⟨ps, q⟩ := f o (a.ext d o e nd fun ps q => z ⟨ps, q⟩)
  exact z ⟨ps, q⟩
theorem Ex.new (a : Ex T D H H1) (h : H1 d = none) : Ex T D H (upd H1 d o) := ⟨fun b u e n t => by
  have e1 := a.ext b u e n t
  rw [upd_ne (ne_of_none e1 h)]
  exact e1, tabs_upd a.tb fun u e => by rw [h] at e; cases e⟩
theorem Ex.at_ (a : Ex T no H H1) {b : Addr} (e : H b = some o) (p : Pl o) : H1 b = some o := a.ext b o e (fun z => z) p.tbl
theorem Ex.atD (a : Ex T D H H1) {b : Addr} (e : H b = some o) (n : ¬ D b) (p : Pl o) : H1 b = some o := a.ext b o e n p.tbl
/-- a lock -/
theorem Ex.lock (a : Ex T D H H1) {f : HO} (e : H d = some u) (nd : ¬ D d) (p : Pl u) : Ex T D (upd H d f) (upd H1 d f) := ⟨fun b o h n t => by
  by_cases hb : b = d
  · subst hb
    rw [upd_same] at h ⊢
    exact h
  · rw [upd_ne hb] at h ⊢
    exact a.ext b o h n t, tabs_upd a.tb fun u' e' => by
      rw [a.ext d u e nd p.tbl] at e'
      cases e'
      exact p⟩
theorem Ex.unlock (a : Ex T D (upd H d o) H1) (e : H d = some u) (h : H1 d = some o) (po : Pl o) : Ex T D H (upd H1 d u) := ⟨fun b o' h' n t => by
  by_cases hb : b = d
  · subst hb
    rw [e] at h'
    cases h'
    exact upd_same
  · rw [upd_ne hb]
    exact a.ext b o' (by rw [upd_ne hb]; exact h') n t, tabs_upd a.tb fun u' e' => by rw [h] at e'; cases e'; exact po⟩
end
/-! ### lines -/
/-- ties from: a dict of dicts -/
structure LN (H : Hp) (L : Addr) (ol : List (Int × Addr)) (G : Gr) : Prop where
  out : H L = some (.dK (mkE V.ref ol))
  nd : (ks ol).Nodup
  non : ∀ a, lk ol a = none → ∀ b, G a b = none
  inn : ∀ a q, lk ol a = some q → ∃ il, H q = some (dI il) ∧ (ks il).Nodup ∧ ∀ b, lk il b = G a b
  inj : ∀ a a' q, lk ol a = some q → lk ol a' = some q → a = a'
theorem LN.ex {T : TT0} {D : Addr → Prop} {H H' : Hp} {L : Addr} {ol : List (Int × Addr)} {G : Gr} (l : LN H L ol G) (e : Ex T D H H') (h1 : ¬ D L) (h2 : ∀ a q, lk ol a = some q → ¬ D q) : LN H' L ol G :=
  ⟨e.atD l.out h1 trivial, l.nd, l.non, fun a q h => by
    obtain ⟨il, r1, r2⟩ := l.inn a q h
    exact ⟨il, e.atD r1 (h2 a q h) trivial, r2⟩, l.inj⟩
theorem LN.neL {H : Hp} {L : Addr} {ol : List (Int × Addr)} {G : Gr} (l : LN H L ol G) {a : Int} {q : Addr} (h : lk ol a = some q) : q ≠ L := fun z => by
  obtain ⟨il, r1, _⟩ := l.inn a q h
  rw [z, l.out] at r1
  injection r1 with r1
  injection r1 with r1
  cases ol with
  | nil => cases h
  | cons e r =>
    cases il with
    | nil => cases r1
    | cons e' r' =>
      injection r1 with r1 _
      injection r1 with _ r1
      cases r1
def up2 (G : Gr) (a b : Int) (v : Option Int) : Gr := fun x y => if x = a ∧ y = b then v else G x y
def gOf (ts : List (Int × Int × Int)) : Gr := ts.foldl (fun G t => up2 G t.1 t.2.1 (some t.2.2)) fun _ _ => none
theorem gOf_snoc (ts : List (Int × Int × Int)) (t : Int × Int × Int) : gOf (ts ++ [t]) = up2 (gOf ts) t.1 t.2.1 (some t.2.2) := by
  unfold gOf; rw [List.foldl_append]; rfl
theorem gOf_take {ts : List (Int × Int × Int)} {i : Nat} {t : Int × Int × Int} (h : ts[i]? = some t) : gOf (ts.take (i + 1)) = up2 (gOf (ts.take i)) t.1 t.2.1 (some t.2.2) := by
  rw [List.take_add_one, h]
  exact gOf_snoc _ _
/-- a list of tuples of three ints -/
def SeenAt (K : PySem.W.Frag) (H : Hp) (a : Addr) (ts : List (Int × Int × Int)) : Prop :=
  ∃ ps : List Addr, SqL K H a (ps.map V.ref) ∧ Paired (fun p t => H p = some (.tup [.int t.1, .int t.2.1, .int t.2.2])) ps ts
end WyP

set_option Elab.async false
set_option linter.all false
set_option maxRecDepth 100000
set_option maxHeartbeats 4000000
/-! ties_from -/
namespace WyP
open PySem PySem.Spec PyProof.Rows L2 LamX Wy WyL WyH
abbrev FnP (K : PySem.W.Frag) (x q : Str) (st : Stmt) (f : Addr) (fd : FuncData) : Prop := FunD K x q (defArgs st) (defBody st) (defScope st) [] [] f fd
theorem Paired.at_ {α β : Type} {R : α → β → Prop} : ∀ {as : List α} {bs : List β} {i : Nat} {a : α}, Paired R as bs → as[i]? = some a → ∃ b, bs[i]? = some b ∧ R a b
  | _, _, _, _, .nil, e => by simp at e
  | _, _, 0, _, .cons r _, e => by simp at e; subst e; exact ⟨_, rfl, r⟩
  | _, _, i + 1, _, .cons _ t, e => by
    obtain ⟨b, h1, h2⟩ := Paired.at_ (i := i) t (by simpa using e)
    exact ⟨b, by simpa using h1, h2⟩
theorem Paired.imp {α β : Type} {R S : α → β → Prop} (h : ∀ a b, R a b → S a b) : ∀ {as : List α} {bs : List β}, Paired R as bs → Paired S as bs
  | _, _, .nil => .nil
  | _, _, .cons r t => .cons (h _ _ r) (Paired.imp h t)
theorem map_at {α : Type} {f : α → V} {l : List α} {i : Nat} {y : V} (h : (l.map f)[i]? = some y) : ∃ a, l[i]? = some a ∧ y = f a := by
  rw [List.getElem?_map] at h
  cases e : l[i]? with
  | none => rw [e] at h; cases h
  | some a => rw [e] at h; exact ⟨a, rfl, (Option.some.inj h).symm⟩
theorem SeqL.ex {T : TT0} {D : Addr → Prop} {K : PySem.W.Frag} {H H' : Hp} {a : Addr} {xs : List V} (h : SqL K H a xs) (e : Ex T D H H') (nd : ¬ D a) : SqL K H' a xs := by
  rcases h with (h | ⟨o, h⟩) | h
  · exact .inl (.inl (e.atD h nd trivial))
  · exact .inl (.inr ⟨o, e.atD h nd trivial⟩)
  · exact .inr h
theorem SeenAt.ex {T : TT0} {D : Addr → Prop} {K : PySem.W.Frag} {H H' : Hp} {a : Addr} {ts : List (Int × Int × Int)} (h : SeenAt K H a ts) (e : Ex T D H H') (nd : ¬ D a) (nt : ∀ b xs, D b → H b ≠ some (.tup xs)) : SeenAt K H' a ts := by
  obtain ⟨ps, h1, h2⟩ := h
  exact ⟨ps, SeqL.ex h1 e nd, Paired.imp (fun p t q => e.atD q (fun z => nt p _ z q) trivial) h2⟩
def spTies (K : PySem.W.Frag) (T : TT0) : Sp := fun vs H Q _ => ∃ (a : Addr) (ts : List (Int × Int × Int)), vs = [.ref a] ∧ SeenAt K H a ts ∧ ts.length ≤ 1000 ∧ Tabs T H ∧
  ∀ (L : Addr) (ol : List (Int × Addr)) (H' : Hp), Ex T no H H' → LN H' L ol (gOf ts) → Fresh H L → (∀ x q, lk ol x = some q → Fresh H q) → ol.length ≤ ts.length → Q (.ref L) H'
section
variable {P : Program} {w : World} {K : PySem.W.Frag} {mg : Str → Option Value} {base : Heap} {T : TT0}
/-- the price of a tie is put into the dict that stands for its begin -/
theorem LN.put {H H' : Hp} {L q : Addr} {ol : List (Int × Addr)} {G : Gr} {x y v : Int} {il : List (Int × Int)} (l : LN H L ol G) (hq : lk ol x = some q) (hi : H q = some (dI il)) (he : ∀ b o, H b = some o → b ≠ q → Pl o → H' b = some o) (hn : H' q = some (dI (pt il y v))) : LN H' L ol (up2 G x y (some v)) := by
  obtain ⟨il', r1, r2, r3⟩ := l.inn x q hq
  have e : il' = il := by
    rw [hi] at r1
    injection r1 with r1
    injection r1 with r1
    exact (List.map_inj_right (f := eI) (fun a b z => by
      injection z with z1 z2
      injection z1 with z1
      injection z2 with z2
      exact Prod.ext z1 z2)).mp r1.symm
  subst e
  refine ⟨he L _ l.out (fun z => l.neL hq z.symm) trivial, l.nd, fun a ha b => ?_, fun a q' ha => ?_, l.inj⟩
  · unfold up2
    by_cases z : a = x ∧ b = y
    · rw [z.1, hq] at ha; cases ha
    · rw [if_neg z]; exact l.non a ha b
  · by_cases z : a = x
    · subst z
      rw [hq] at ha; cases ha
      refine ⟨_, hn, nd_pt r2, fun b => ?_⟩
      rw [lk_pt]
      unfold up up2
      by_cases z : b = y
      · rw [if_pos z, if_pos ⟨rfl, z⟩]
      · rw [if_neg z, if_neg (fun w => z w.2)]; exact r3 b
    · obtain ⟨il2, s1, s2, s3⟩ := l.inn a q' ha
      refine ⟨il2, he q' _ s1 (fun w => z (l.inj _ _ _ (w ▸ ha) hq)) trivial, s2, fun b => ?_⟩
      unfold up2
      rw [if_neg (fun w => z w.1)]
      exact s3 b
/-- a new dict stands for a house that had none -/
theorem LN.open_ {H : Hp} {L q : Addr} {ol : List (Int × Addr)} {G : Gr} {x : Int} (l : LN H L ol G) (hx : lk ol x = none) (hq : H q = some (dI [])) (nq : ∀ a q', lk ol a = some q' → q' ≠ q) (nL : L ≠ q) : LN (upd H L (.dK (mkE V.ref (pt ol x q)))) L (pt ol x q) G := by
  have ne : ∀ {a q'}, lk ol a = some q' → q' ≠ L := fun h => l.neL h
  refine ⟨upd_same, nd_pt l.nd, fun a ha b => ?_, fun a q' ha => ?_, fun a a' q' ha ha' => ?_⟩
  · rw [lk_pt] at ha
    unfold up at ha
    split at ha
    · cases ha
    · exact l.non a ha b
  · rw [lk_pt] at ha
    rcases up_cases ha with ⟨e1, e2⟩ | ⟨e1, e2⟩
    · cases e2
      subst e1
      exact ⟨[], by rw [upd_ne nL.symm]; exact hq, by simp, fun b => (l.non a hx b).symm⟩
    · obtain ⟨il, s1, s2⟩ := l.inn a q' e2
      exact ⟨il, by rw [upd_ne (ne e2)]; exact s1, s2⟩
  · rw [lk_pt] at ha ha'
    rcases up_cases ha with ⟨e1, e2⟩ | ⟨e1, e2⟩ <;> rcases up_cases ha' with ⟨f1, f2⟩ | ⟨f1, f2⟩
    · rw [e1, f1]
    · cases e2; exact absurd rfl (nq _ _ f2)
    · cases f2; exact absurd rfl (nq _ _ e2)
    · exact l.inj _ _ _ e2 f2
theorem pt_len {α : Type} (l : List (Int × α)) (k : Int) (v : α) : (pt l k v).length ≤ l.length + 1 := by
  have h := congrArg List.length (ks_pt k v l)
  rw [List.length_map] at h
  rw [h]
  split
  · rw [List.length_map]; omega
  · rw [List.length_append, List.length_map]; simp
theorem LN.inlen {H : Hp} {L q : Addr} {ol : List (Int × Addr)} {G : Gr} {x : Int} {il : List (Int × Int)} (l : LN H L ol G) (hq : lk ol x = some q) (hi : H q = some (dI il)) : (ks il).Nodup ∧ ∀ b, lk il b = G x b := by
  obtain ⟨il', r1, r2, r3⟩ := l.inn x q hq
  have e : il' = il := by
    rw [hi] at r1
    injection r1 with r1
    injection r1 with r1
    exact (List.map_inj_right (f := eI) (fun a b z => by
      injection z with z1 z2
      injection z1 with z1
      injection z2 with z2
      exact Prod.ext z1 z2)).mp r1.symm
  subst e
  exact ⟨r2, r3⟩
theorem scT : FnScope ["seen", "found", "house", "other", "price"] ["seen"] (defScope (top 2)) := ⟨rfl, rfl, rfl, by decide +kernel, rfl, by decide +kernel, by decide +kernel⟩
theorem ok_ties {f : Addr} {fd : FuncData} (F : FnP K "ties_from" "ties_from" (top 2) f fd) : FnOk P w K mg base CX0 1 f fd ["seen"] (spTies K T) := by
  refine F.ok scT (fun vs H Q E h => ?_) (fun cdv A outer s H vs Q E hr h => ?_)
  · obtain ⟨a, ts, rfl, _⟩ := h
    rfl
  · obtain ⟨a, ts, rfl, hS, hlen, hT, k⟩ := h
    have hu := hu_of hr
    refine ⟨_, PSs.nox (pss_cons (ps_set (i := 1) scT.nd rfl (Or.inl rfl) pe_dnewK)
      (pss_cons (ps_for PassesOwn.never rfl (pi_list (pv 0)) (pg_tup rfl (pgs_cons (pg_name (i := 2) scT.nd rfl (Or.inl rfl)) (pgs_cons (pg_name (i := 3) scT.nd rfl (Or.inl rfl)) (pgs_cons (pg_name (i := 4) scT.nd rfl (Or.inl rfl)) pgs_nil))))
        (pss_one (ps_dput hu (pe_dsetd (pv 1) (pv 2) pe_dnewK ⟨rfl, rfl, rfl, rfl⟩) (pv 3) (pv 4) rfl)))
      (pss_one (ps_ret (pv 1))))), ?_⟩
    -- found = {}
    intro L hL
    have e0 : Ex T no H (upd H L (.dK [])) := (Ex.refl hT).new hL
    have fL : Fresh H L := .of hL
    obtain ⟨ps, hps, hpr⟩ := id hS
    have hpl : ps.length = ts.length := Paired.length hpr
    refine ⟨_, rfl, a, rfl, ⟨_, SeqL.ex hps e0 (fun z => z)⟩, for_list (K := K) (a := a) (xs := ps.map V.ref) (fun i σ H1 => ∃ (ol : List (Int × Addr)) (v2 v3 v4 : Option V), σ = [some (.ref a), some (.ref L), v2, v3, v4] ∧ Ex T no H H1 ∧ LN H1 L ol (gOf (ts.take i)) ∧ (∀ x q, lk ol x = some q → Fresh H q) ∧ ol.length ≤ i ∧ (∀ x q il, lk ol x = some q → H1 q = some (dI il) → il.length ≤ i))
      ⟨[], none, none, none, rfl, e0, ⟨upd_same, by simp, fun _ _ _ => rfl, fun a q h => (by cases h), fun a a' q h => (by cases h)⟩, fun x q h => (by cases h), Nat.le_refl _, fun x q il h => (by cases h)⟩ (fun i σ H1 _ ⟨_, _, _, _, _, e1, _⟩ => SeqL.ex hps e1 (fun z => z)) ?_ ?_⟩
    · rintro i y σ H1 hi ⟨ol, v2, v3, v4, rfl, e1, l1, fq, hol, hil⟩
      obtain ⟨p, hp, rfl⟩ := map_at hi
      obtain ⟨t, ht, htp⟩ := Paired.at_ hpr hp
      have hi2 : i < ts.length := (List.getElem?_eq_some_iff.mp ht).1
      -- house, other, price = tie
      refine ⟨p, _, rfl, SqT.of (e1.at_ htp trivial), rfl, _, _, rfl, _, _, rfl, _, _, rfl, rfl, ?_⟩
      -- found.setdefault(house, {})[other] = price
      refine ⟨_, rfl, _, rfl, L, rfl, .inl ⟨_, Rd.of l1.out⟩, _, rfl, fun q hq => ?_⟩
      have nLq : L ≠ q := ne_of_none l1.out hq
      have fq1 : Fresh H q := e1.fresh (.of hq) (fun z => z)
      refine ⟨mkE V.ref ol, Sum.inl t.1, by rw [upd_ne nLq]; exact l1.out, rfl, by rw [mk_len]; exact small1000 (by omega), fun v hv => ?_, fun hn => ?_⟩
      · -- a dict stands there
        rw [valV_mk] at hv
        cases hx : lk ol t.1 with
        | none => rw [hx] at hv; cases hv
        | some q0 =>
          rw [hx] at hv
          cases hv
          obtain ⟨il, r1, r2, r3⟩ := l1.inn _ _ hx
          have nq : q0 ≠ q := ne_of_none r1 hq
          have r1' : (upd H1 q (.dK [])) q0 = some (dI il) := by rw [upd_ne nq]; exact r1
          have hil' := hil _ _ _ hx r1
          refine ⟨_, rfl, q0, _, rfl, DPut.k (k := Sum.inl t.2.1) r1' (small1000 (by rw [List.length_map]; omega)), ?_⟩
          have ep : putK (il.map eI) (Sum.inl t.2.1 : Key) (V.int t.2.2) = (pt il t.2.1 t.2.2).map eI := putK_mk (f := V.int) r2
          rw [ep]
          refine ⟨ol, _, _, _, rfl, (e1.new hq).wr (.inr (fq _ _ hx)) (fun u e => by rw [r1'] at e; cases e; trivial), ?_, fq, by omega, fun x q' il' h1 h2 => ?_⟩
          · rw [gOf_take ht]
            refine LN.put (H := H1) l1 hx r1 (fun b o e nb _ => ?_) upd_same
            rw [upd_ne nb, upd_ne (ne_of_none e hq)]
            exact e
          · by_cases z : q' = q0
            · subst z
              rw [upd_same] at h2
              injection h2 with h2
              injection h2 with h2
              have h3 := congrArg List.length h2
              rw [List.length_map, List.length_map] at h3
              have := pt_len il t.2.1 t.2.2
              omega
            · obtain ⟨il2, s1, _⟩ := l1.inn _ _ h1
              rw [upd_ne z, upd_ne (ne_of_none s1 hq)] at h2
              have := hil _ _ _ h1 h2
              omega
      · -- none stands there
        have hx : lk ol t.1 = none := by
          rw [valV_mk] at hn
          cases hx : lk ol t.1 with
          | none => rfl
          | some q0 => rw [hx] at hn; cases hn
        have ep : putK (mkE V.ref ol) (Sum.inl t.1 : Key) (V.ref q) = mkE V.ref (pt ol t.1 q) := putK_mk (f := V.ref) l1.nd
        rw [ep]
        have l2 : LN (upd H1 q (.dK [])) L ol (gOf (ts.take i)) := l1.ex (T := T) (D := no) ⟨fun b o e _ _ => by rw [upd_ne (ne_of_none e hq)]; exact e, tabs_upd e1.tb fun u e => by rw [hq] at e; cases e⟩ (fun z => z) fun _ _ _ z => z
        have l3 := l2.open_ (q := q) hx upd_same (fun a q' h z => by
          obtain ⟨il, s1, _⟩ := l1.inn _ _ h
          exact ne_of_none s1 hq z) nLq
        have hx3 : lk (pt ol t.1 q) t.1 = some q := by rw [lk_pt]; exact up_same
        have r1' : (upd (upd H1 q (.dK [])) L (.dK (mkE V.ref (pt ol t.1 q)))) q = some (dI []) := by rw [upd_ne nLq.symm]; exact upd_same
        refine ⟨_, rfl, q, _, rfl, DPut.k (k := Sum.inl t.2.1) r1' (by decide), ?_⟩
        have ep2 : putK (([] : List (Int × Int)).map eI) (Sum.inl t.2.1 : Key) (V.int t.2.2) = (pt [] t.2.1 t.2.2).map eI := putK_mk (f := V.int) (by simp)
        rw [ep2]
        have e2 : Ex T no H (upd (upd H1 q (.dK [])) L (.dK (mkE V.ref (pt ol t.1 q)))) := (e1.new hq).wr (.inr fL) (fun u e => by rw [upd_ne nLq, l1.out] at e; cases e; trivial)
        refine ⟨pt ol t.1 q, _, _, _, rfl, e2.wr (.inr fq1) (fun u e => by rw [r1'] at e; cases e; trivial), ?_, fun x q' h => ?_, ?_, fun x q' il' h1 h2 => ?_⟩
        · rw [gOf_take ht]
          refine LN.put l3 hx3 r1' (fun b o e nb _ => ?_) upd_same
          rw [upd_ne nb]
          exact e
        · rw [lk_pt] at h
          rcases up_cases h with ⟨z1, z2⟩ | ⟨z1, z2⟩
          · cases z2; exact fq1
          · exact fq _ _ z2
        · have := pt_len ol t.1 q; omega
        · by_cases z : q' = q
          · subst z
            rw [upd_same] at h2
            injection h2 with h2
            injection h2 with h2
            have h3 := congrArg List.length h2
            rw [List.length_map, List.length_map] at h3
            have : (pt ([] : List (Int × Int)) t.2.1 t.2.2).length = 1 := rfl
            omega
          · rw [lk_pt] at h1
            rcases up_cases h1 with ⟨z1, z2⟩ | ⟨z1, z2⟩
            · cases z2; exact absurd rfl z
            · obtain ⟨il2, s1, _⟩ := l1.inn _ _ z2
              rw [upd_ne z, upd_ne (l1.neL z2), upd_ne z] at h2
              have := hil _ _ _ z2 h2
              omega
    · rintro σ H1 ⟨ol, v2, v3, v4, rfl, e1, l1, fq, hol, _⟩
      refine ⟨_, rfl, k L ol H1 e1 ?_ fL fq (by rw [List.length_map, hpl] at hol; exact hol)⟩
      rw [List.length_map, hpl, List.take_length] at l1
      exact l1
end
end WyP

set_option Elab.async false
set_option linter.all false
set_option maxRecDepth 100000
set_option maxHeartbeats 4000000
/-! sums_from -/
namespace WyP
open PySem PySem.Spec PyProof.Rows L2 LamX Wy WyL WyH
/-! ### walks over a locked dict -/
theorem for_items {d : Addr} {o : Obj} {kvs : List (Key × V)} {g : TG} {tb : TS} {D : Ends} {σ : L2.St} {H : Hp} (Pv : Nat → L2.St → Hp → Prop) (h0 : Pv 0 σ H) (hl : ∀ i σ H, Pv i σ H → H d = some (.frz o (.dK kvs)))
    (hs : ∀ i k v t σ H, kvs[i]? = some (k, v) → Pv i σ H → H t = none → g (.ref t) σ (upd H t (.tup [kV k, v])) fun σ2 H2 => tb { D with nx := Pv (i + 1), ct := Pv (i + 1), bk := D.nx } σ2 H2) (hd : ∀ σ H, Pv kvs.length σ H → D.nx σ H) :
    ∃ W : Nat → Nat → L2.St → Hp → Prop, (∃ m, W 0 m σ H) ∧ ∀ i m σ H, W i m σ H →
      ((Iti d o kvs).stop i H ∧ D.nx σ H) ∨ ((Iti d o kvs).go i H ∧ ∃ N : L2.St → Hp → Prop, (∀ σ' H', N σ' H' → ∃ m', m' < m ∧ W (i + 1) m' σ' H') ∧ ∀ x H', (Iti d o kvs).yld i H x H' → g x σ H' fun σ2 H2 => tb { D with nx := N, ct := N, bk := D.nx } σ2 H2) := by
  refine ⟨fun i m σ H => m = kvs.length - i ∧ i ≤ kvs.length ∧ Pv i σ H, ⟨kvs.length, by simp, Nat.zero_le _, h0⟩, ?_⟩
  rintro i m σ H ⟨rfl, hi, p⟩
  have q := hl i σ H p
  by_cases hlt : i < kvs.length
  · refine .inr ⟨⟨q, hlt⟩, Pv (i + 1), fun σ' H' p' => ⟨kvs.length - (i + 1), by omega, rfl, hlt, p'⟩, fun x H' y => ?_⟩
    obtain ⟨t, k, v, e1, e2, e3, e4⟩ := y
    subst e2 e4
    exact hs i k v t σ H e1 p e3
  · have e : i = kvs.length := by omega
    subst e
    exact .inl ⟨⟨q, Nat.le_refl _⟩, hd σ H p⟩
theorem for_keys {d : Addr} {o : Obj} {kvs : List (Key × V)} {g : TG} {tb : TS} {D : Ends} {σ : L2.St} {H : Hp} (Pv : Nat → L2.St → Hp → Prop) (h0 : Pv 0 σ H) (hl : ∀ i σ H, Pv i σ H → H d = some (.frz o (.dK kvs)))
    (hs : ∀ i k v σ H, kvs[i]? = some (k, v) → Pv i σ H → g (kV k) σ H fun σ2 H2 => tb { D with nx := Pv (i + 1), ct := Pv (i + 1), bk := D.nx } σ2 H2) (hd : ∀ σ H, Pv kvs.length σ H → D.nx σ H) :
    ∃ W : Nat → Nat → L2.St → Hp → Prop, (∃ m, W 0 m σ H) ∧ ∀ i m σ H, W i m σ H →
      ((Itk d o kvs).stop i H ∧ D.nx σ H) ∨ ((Itk d o kvs).go i H ∧ ∃ N : L2.St → Hp → Prop, (∀ σ' H', N σ' H' → ∃ m', m' < m ∧ W (i + 1) m' σ' H') ∧ ∀ x H', (Itk d o kvs).yld i H x H' → g x σ H' fun σ2 H2 => tb { D with nx := N, ct := N, bk := D.nx } σ2 H2) := by
  refine ⟨fun i m σ H => m = kvs.length - i ∧ i ≤ kvs.length ∧ Pv i σ H, ⟨kvs.length, by simp, Nat.zero_le _, h0⟩, ?_⟩
  rintro i m σ H ⟨rfl, hi, p⟩
  have q := hl i σ H p
  by_cases hlt : i < kvs.length
  · refine .inr ⟨⟨q, hlt⟩, Pv (i + 1), fun σ' H' p' => ⟨kvs.length - (i + 1), by omega, rfl, hlt, p'⟩, fun x H' y => ?_⟩
    obtain ⟨e1, k, v, e2, e3⟩ := y
    subst e1 e3
    exact hs i k v σ _ e2 p
  · have e : i = kvs.length := by omega
    subst e
    exact .inl ⟨⟨q, Nat.le_refl _⟩, hd σ H p⟩
theorem lc_keys {d : Addr} {o : Obj} {kvs : List (Key × V)} {g : TG} {tt : TT} {te : TE} {vs : List Nat} {σ : L2.St} {H1 : Hp} {D : Addr} {Qd : Hp → Prop} (Pv : Nat → Hp → Prop) (h0 : Pv 0 (upd H1 D (.lst []))) (hl : ∀ i H, Pv i H → H d = some (.frz o (.dK kvs)))
    (hs : ∀ i k v H, kvs[i]? = some (k, v) → Pv i H → g (kV k) (wipe σ vs) H fun σ2 H2 => wipe σ2 vs = wipe σ vs ∧ tt σ2 H2 fun b H3 =>
      if b = true then te σ2 H3 fun y H4 => ∃ acc, H4 D = some (.lst acc) ∧ acc.length < sizeLine ∧ Pv (i + 1) (upd H4 D (.lst (acc ++ [y]))) else Pv (i + 1) H3) (hd : ∀ H, Pv kvs.length H → Qd H) :
    ∃ W : Nat → Nat → Hp → Prop, (∃ m, W 0 m (upd H1 D (.lst []))) ∧ ∀ i m H, W i m H →
      ((Itk d o kvs).stop i H ∧ Qd H) ∨ ((Itk d o kvs).go i H ∧ ∃ Nx : Hp → Prop, (∀ H', Nx H' → ∃ m', m' < m ∧ W (i + 1) m' H') ∧ ∀ x H', (Itk d o kvs).yld i H x H' → g x (wipe σ vs) H' fun σ2 H2 => wipe σ2 vs = wipe σ vs ∧ tt σ2 H2 fun b H3 =>
        if b = true then te σ2 H3 fun y H4 => ∃ acc, H4 D = some (.lst acc) ∧ acc.length < sizeLine ∧ Nx (upd H4 D (.lst (acc ++ [y]))) else Nx H3) := by
  refine ⟨fun i m H => m = kvs.length - i ∧ i ≤ kvs.length ∧ Pv i H, ⟨kvs.length, by simp, Nat.zero_le _, h0⟩, ?_⟩
  rintro i m H ⟨rfl, hi, p⟩
  have q := hl i H p
  by_cases hlt : i < kvs.length
  · refine .inr ⟨⟨q, hlt⟩, Pv (i + 1), fun H' p' => ⟨kvs.length - (i + 1), by omega, rfl, hlt, p'⟩, fun x H' y => ?_⟩
    obtain ⟨e1, k, v, e2, e3⟩ := y
    subst e1 e3
    exact hs i k v _ e2 p
  · have e : i = kvs.length := by omega
    subst e
    exact .inl ⟨⟨q, Nat.le_refl _⟩, hd H p⟩
/-! ### a def that makes a lambda -/
section
variable {P : Program} {w : World} {K : PySem.W.Frag} {mg : Str → Option Value} {base : Heap} {T : TT0}
theorem okC {CX : CXT} {x qual : Str} {params : Arguments} {body : List Stmt} {scope : Scope} {dvs : List V} {kws : List (Str × V)} {f c : Addr} {fd : FuncData} {N ps : List Str} {k : Nat} {sp : Sp} (F : FunD K x qual params body scope dvs kws f fd) (hc : fd.code = .ref c) (S : FnScope N ps scope)
    (len : ∀ vs H Q E, sp vs H Q E → vs.length = ps.length)
    (hbody : ∀ (A : Around) (outer : List Env) (s : Shared) (H : Hp) (vs : List V) (Q : VK) (E : XK), Room k (A.deeper (envOfC qual scope s.heap.objs.size f (.ref c))) → sp vs H Q E →
      ∃ t, PSs (cxOf CX P w K mg base N qual scope f (.ref c) A outer s H E) body t ∧ t { nx := fun _ H' => Q .non H', rt := Q } (start N vs) H) : FnOk P w K mg base CX (k + 1) f fd ps sp := by
  obtain ⟨oc, od, dV, kV, doc, pm, an, cdv, ct, osl, rfl, lk, hcd, _, _⟩ := F.ex
  have hc : cdv = .ref c := hc
  subst hc
  exact fn_of lk hcd S len fun A outer s H vs Q E hr hsp => hbody A outer s H vs Q E hr hsp
/-- the table of a maker of lambdas -/
structure Tb (mg : Str → Option Value) (base : Heap) (T : TT0) (c : Addr) (q : Str) : Prop where
  ex : ∃ Pa, TabB base mg c Pa ∧ (Pa, q ++ ".<locals>." ++ "<lambda>") ∈ T ∧ ∀ p ∈ T, p.1 = Pa → p.2 = q ++ ".<locals>." ++ "<lambda>"
def spSums (T : TT0) : Sp := fun vs H Q _ => ∃ (h : Int) (L : Addr) (ol : List (Int × Addr)) (G : Gr), vs = [.int h, .ref L] ∧ LN H L ol G ∧ GIn 8 G ∧ 0 ≤ h ∧ h < 8 ∧ Tabs T H ∧
  ∀ (F : Addr) (l : List (Int × Int)) (H' : Hp), Ex T no H H' → H' F = some (dI l) → (ks l).Nodup → Fix G h (lk l) → Fresh H F → Q (.ref F) H'
theorem dI_eq {l : List (Int × Int)} : dI l = .dK (mkE V.int l) := rfl
theorem dI_inj {l l' : List (Int × Int)} (h : dI l = dI l') : l = l' := by
  injection h with h
  exact (List.map_inj_right (f := eI) (fun a b z => by
    injection z with z1 z2
    injection z1 with z1
    injection z2 with z2
    exact Prod.ext z1 z2)).mp h
theorem lk_nil_all {l : List (Int × Int)} (h : (l.map eI).isEmpty = true) : ∀ b, lk l b = none := by
  cases l with
  | nil => exact fun _ => rfl
  | cons _ _ => cases h
theorem scS : FnScope ["house", "lines", "found", "waiting", "nearest", "other", "price"] ["house", "lines"] (defScope (top 3)) := ⟨rfl, rfl, rfl, by decide +kernel, rfl, by decide +kernel, by decide +kernel⟩
theorem lower_eq {lw : List (Int × Int)} {b x : Int} {v : V} (e : v = ((lk lw b).map V.int).getD (V.int x)) : ∃ y : Int, v = .int y ∧ lk (pt lw b (if x < y then x else y)) = lower (lk lw) b x := by
  cases q : lk lw b with
  | none =>
    rw [q] at e
    refine ⟨x, e, ?_⟩
    rw [lk_pt]
    unfold lower
    rw [q, if_neg (Int.lt_irrefl x)]
  | some y =>
    rw [q] at e
    refine ⟨y, e, ?_⟩
    rw [lk_pt]
    unfold lower
    rw [q]
theorem ok_sums {f c : Addr} {fd : FuncData} (F : FnP K "sums_from" "sums_from" (top 3) f fd) (hc : fd.code = .ref c) (B : Tb mg base T c "sums_from") (gm : mg "min" = none) : FnOk P w K mg base CX0 4 f fd ["house", "lines"] (spSums T) := by
  refine okC F hc scS (fun vs H Q E h => ?_) (fun A outer s H vs Q E hr h => ?_)
  · obtain ⟨h, L, ol, G, rfl, _⟩ := h
    rfl
  · obtain ⟨h, L, ol, G, rfl, l0, hG, h0, h8, hT, k⟩ := h
    have hu := hu_of hr
    obtain ⟨Pa, tb1, tb2, tb3⟩ := B.ex
    refine ⟨_, PSs.nox (pss_cons (ps_set (i := 2) scS.nd rfl (Or.inl rfl) pe_dnewK)
      (pss_cons (ps_set (i := 3) scS.nd rfl (Or.inr rfl) (pe_disp (pps_cons (pv 0) pe_int pps_nil) (by rfl) (by rfl) (fun z => by cases z) (by decide)))
      (pss_cons (ps_while PassesOwn.never (pt_cmpR (op_ne_empty hr.units0) (pv 3) pe_dnewK (nomark _))
        (pss_cons (ps_set (i := 4) scS.nd rfl (Or.inl rfl) (pe_minK (T := T) (y := "one") (i := 3) rfl rfl gm ⟨⟨c, Pa, tb1, rfl, tb2, tb3⟩, rfl, ⟨rfl, rfl, rfl, rfl, by decide +kernel, by decide +kernel, by decide +kernel, by decide +kernel⟩, rfl, rfl, fun _ _ _ _ _ _ _ => rfl, hr⟩))
        (pss_cons (ps_dput hu (pv 2) (pv 4) (pe_dpop1 (pv 3) (pv 4) ⟨rfl, rfl, rfl, rfl⟩) rfl)
        (pss_one (ps_or (ps_lock (ps_for PassesOwn.never rfl (pi_items (pe_dget2 hu (pv 1) (pv 4) pe_dnewK ⟨rfl, rfl, rfl, rfl⟩)) (pg_tup rfl (pgs_cons (pg_name (i := 5) scS.nd rfl (Or.inl rfl)) (pgs_cons (pg_name (i := 6) scS.nd rfl (Or.inl rfl)) pgs_nil)))
            (pss_one (ps_if (pt_cmp (pc_dnotin hu (pv 5) (pv 2))) (pss_one (ps_dput hu (pv 3) (pv 5) (pe_callB (call_min2 rfl) (by rfl) gm boot_min (pa_cons (pe_dget2 hu (pv 3) (pv 5) (pe_op op_add (pe_dget hu (pv 2) (pv 4) (fun _ _ => rfl)) (pv 6)) ⟨rfl, rfl, rfl, rfl⟩) (pa_cons (pe_op op_add (pe_dget hu (pv 2) (pv 4) (fun _ _ => rfl)) (pv 6)) pa_nil))) rfl)) pss_nil))))
          (ps_for PassesOwn.never rfl (pi_itemsL (pe_dget2 hu (pv 1) (pv 4) pe_dnewK ⟨rfl, rfl, rfl, rfl⟩)) (pg_tup rfl (pgs_cons (pg_name (i := 5) scS.nd rfl (Or.inl rfl)) (pgs_cons (pg_name (i := 6) scS.nd rfl (Or.inl rfl)) pgs_nil))) pss_never))))))
      (pss_one (ps_ret (pv 2)))))), ?_⟩
    -- found = {}; waiting = {house: 0}
    intro Fa hFa
    intro Wd hWd
    refine ⟨_, rfl, upd_same, [(Sum.inl h, V.int 0)], rfl, (by show 1 ≤ 15; decide), ?_⟩
    have nFW : Fa ≠ Wd := fun z => by rw [← z, upd_same] at hWd; cases hWd
    have hWd0 : H Wd = none := by rw [upd_ne nFW.symm] at hWd; exact hWd
    have fF : Fresh H Fa := .of hFa
    have fW : Fresh H Wd := .of hWd0
    have eW : HO.dK (mergeK [] [((Sum.inl h : Key), V.int 0)]) = dI [(h, 0)] := rfl
    rw [eW, upd_upd]
    have e0 : Ex T no H (upd (upd H Fa (.dK [])) Wd (dI [(h, 0)])) := ((Ex.refl hT).new hFa).new hWd
    -- while waiting != {}
    refine ⟨fun (m : Nat) (σ : L2.St) (H1 : Hp) => ∃ (lf lw : List (Int × Int)) (v4 v5 v6 : Option V), σ = [some (.int h), some (.ref L), some (.ref Fa), some (.ref Wd), v4, v5, v6] ∧ Ex T no H H1 ∧ H1 Fa = some (dI lf) ∧ H1 Wd = some (dI lw) ∧ (ks lf).Nodup ∧ (ks lw).Nodup ∧ DJ G h (fun _ _ => True) (lk lf) (lk lw) ∧ m + Wy.cnt (lk lf) = 8,
      ⟨8, [], [(h, 0)], none, none, none, rfl, e0, by rw [upd_ne nFW]; exact upd_same, upd_same, by simp, by simp, ?_, rfl⟩, ?_⟩
    · have e1 : lk [(h, (0 : Int))] = fun b => if b = h then some 0 else none := by
        funext b
        rw [lk_cons]
        by_cases q : h = b
        · rw [if_pos q, if_pos q.symm]
        · rw [if_neg q, if_neg (fun z => q z.symm)]; rfl
      rw [e1]
      exact DJ.start G h _
    · rintro m σ H1 ⟨lf, lw, v4, v5, v6, rfl, e1, hF1, hW1, nf, nw, d1, hm⟩
      refine ⟨_, rfl, fun p0 hp0 => ⟨Wd, p0, _, rfl, rfl, by rw [upd_ne (ne_of_none hW1 hp0)]; exact hW1, upd_same, _, rfl, ?_⟩⟩
      have e2 : Ex T no H (upd H1 p0 (.dK [])) := e1.new hp0
      have hF2 : (upd H1 p0 (.dK [])) Fa = some (dI lf) := by rw [upd_ne (ne_of_none hF1 hp0)]; exact hF1
      have hW2 : (upd H1 p0 (.dK [])) Wd = some (dI lw) := by rw [upd_ne (ne_of_none hW1 hp0)]; exact hW1
      clear hF1 hW1 e1
      generalize upd H1 p0 (.dK []) = H2 at e2 hF2 hW2
      cases hq : (lw.map eI).isEmpty with
      | true =>
        refine iteF ?_
        refine ⟨_, rfl, ?_⟩
        exact k Fa lf H2 e2 hF2 nf (d1.fix (lk_nil_all hq) fun _ _ _ _ => trivial) fF
      | false =>
        refine iteT ?_
        have hne : lw ≠ [] := fun z => by rw [z] at hq; cases hq
        -- nearest = min(..)
        refine ⟨_, fun σ' H' z => z, ?_⟩
        refine ⟨Wd, lw, rfl, hW2, hne, e2.tb, fun n mm H3 hmem hmin x3 t3 => ?_⟩
        have hwn : lk lw n = some mm := lk_of nw hmem
        have e3 : Ex T no H H3 := e2.tr (Ex.of x3 t3)
        have hF3 : H3 Fa = some (dI lf) := x3 _ _ hF2 (dI_ne _)
        have hW3 : H3 Wd = some (dI lw) := x3 _ _ hW2 (dI_ne _)
        clear hF2 hW2 e2 x3 t3
        obtain ⟨n0, n8⟩ := d1.wIn hG h0 h8 n mm hwn
        have hfn : lk lf n = none := d1.dis n mm hwn
        -- found[nearest] = waiting.pop(nearest)
        refine ⟨_, rfl, Wd, rfl, .inl ⟨_, Rd.of hW3⟩, _, rfl, _, Sum.inl n, _, hW3, rfl, by rw [show lw.map eI = mkE V.int lw from rfl, valV_mk, hwn]; rfl, ?_⟩
        rw [show lw.map eI = mkE V.int lw from rfl, dropK_mk]
        have e4 : Ex T no H (upd H3 Wd (.dK (mkE V.int (dr lw n)))) := e3.wr (.inr fW) (fun u e => by rw [hW3] at e; cases e; trivial)
        have hF4 : (upd H3 Wd (.dK (mkE V.int (dr lw n)))) Fa = some (dI lf) := by rw [upd_ne nFW]; exact hF3
        have lf8 : lf.length ≤ 8 := len8 nf (d1.sIn hG h0 h8)
        refine ⟨_, rfl, _, rfl, Fa, _, rfl, DPut.k (k := Sum.inl n) hF4 (small1000 (by rw [List.length_map]; omega)), ?_⟩
        rw [show lf.map eI = mkE V.int lf from rfl, putK_mk nf]
        have e5 : Ex T no H (upd (upd H3 Wd (.dK (mkE V.int (dr lw n)))) Fa (.dK (mkE V.int (pt lf n mm)))) := e4.wr (.inr fF) (fun u e => by rw [hF4] at e; cases e; trivial)
        have hF5 : (upd (upd H3 Wd (.dK (mkE V.int (dr lw n)))) Fa (.dK (mkE V.int (pt lf n mm)))) Fa = some (dI (pt lf n mm)) := upd_same
        have hW5 : (upd (upd H3 Wd (.dK (mkE V.int (dr lw n)))) Fa (.dK (mkE V.int (pt lf n mm)))) Wd = some (dI (dr lw n)) := by rw [upd_ne nFW.symm]; exact upd_same
        clear e4 hF4 e3 hF3 hW3
        generalize (upd (upd H3 Wd (.dK (mkE V.int (dr lw n)))) Fa (.dK (mkE V.int (pt lf n mm)))) = H5 at e5 hF5 hW5
        obtain ⟨d5, top5⟩ := d1.pop (fun _ _ _ _ => trivial) hwn fun b y e => hmin b y (lk_mem e)
        rw [← lk_pt, ← lk_dr] at d5
        rw [← lk_pt] at top5
        have hn5 : lk (pt lf n mm) n = some mm := by rw [lk_pt]; exact up_same
        have cn5 : Wy.cnt (lk (pt lf n mm)) = Wy.cnt (lk lf) + 1 := by rw [lk_pt]; exact cnt_new n0 n8 hfn
        have c8 := cnt_le (lk (pt lf n mm))
        have hlt : (7 - Wy.cnt (lk lf) : Nat) < m := by omega
        have hsm : (7 - Wy.cnt (lk lf) : Nat) + (Wy.cnt (lk lf) + 1) = 8 := by omega
        have nf5 : (ks (pt lf n mm)).Nodup := nd_pt nf
        have nw5 : (ks (dr lw n)).Nodup := nd_dr nw
        have l5 := l0.ex e5 (fun z => z) fun _ _ _ z => z
        cases hx : lk ol n with
        | none =>
          -- no ties from it
          refine .inr ?_
          refine ⟨_, rfl, L, rfl, .inl ⟨_, Rd.of l5.out⟩, _, rfl, fun q hq => ?_⟩
          have nLq : L ≠ q := ne_of_none l5.out hq
          refine ⟨_, DGet.k (k := Sum.inl n) (by rw [upd_ne nLq]; exact l5.out), q, [], ?_, upd_same, fun o => ?_⟩
          · rw [valV_mk, hx]; rfl
          · refine for_items (kvs := []) (fun _ σ' H' => σ' = [some (.int h), some (.ref L), some (.ref Fa), some (.ref Wd), some (.int n), v5, v6] ∧ H' = upd (upd H5 q (.dK [])) q (.frz o (.dK []))) ⟨rfl, rfl⟩ (fun i σ' H' ⟨_, z⟩ => by rw [z]; exact upd_same) (fun i k' v t σ' H' hi => by simp at hi) ?_
            rintro σ' H' ⟨rfl, rfl⟩
            rw [upd_upd]
            refine ⟨7 - Wy.cnt (lk lf), hlt, _, _, _, _, _, rfl, e5.new hq, by rw [upd_ne (ne_of_none hF5 hq)]; exact hF5, by rw [upd_ne (ne_of_none hW5 hq)]; exact hW5, nf5, nw5, d5.mono fun a b p hp _ z => ?_, by rw [cn5]; exact hsm⟩
            subst z
            rw [l0.non _ hx] at hp; cases hp
        | some q =>
          refine .inl ?_
          obtain ⟨il, r1, r2, r3⟩ := l0.inn _ _ hx
          have r5 : H5 q = some (dI il) := e5.at_ r1 trivial
          have nqF : Fa ≠ q := (fF.ne r1 trivial).symm
          have nqW : Wd ≠ q := (fW.ne r1 trivial).symm
          refine ⟨q, dI il, r5, trivial, fun od => ?_⟩
          have eL : Ex T no (upd H q (.frz od (dI il))) (upd H5 q (.frz od (dI il))) := e5.lock r1 (fun z => z) trivial
          have hL5 : (upd H5 q (.frz od (dI il))) L = some (.dK (mkE V.ref ol)) := by rw [upd_ne (l5.neL hx).symm]; exact l5.out
          refine ⟨_, rfl, L, rfl, .inl ⟨_, Rd.of hL5⟩, _, rfl, fun p hp => ?_⟩
          have nLp : L ≠ p := ne_of_none hL5 hp
          have nqp : q ≠ p := ne_of_none (H := upd H5 q (.frz od (dI il))) upd_same hp
          have nFp : Fa ≠ p := ne_of_none (H := upd H5 q (.frz od (dI il))) (by rw [upd_ne nqF]; exact hF5) hp
          have nWp : Wd ≠ p := ne_of_none (H := upd H5 q (.frz od (dI il))) (by rw [upd_ne nqW]; exact hW5) hp
          refine ⟨_, DGet.k (k := Sum.inl n) (by rw [upd_ne nLp]; exact hL5), q, od, il.map eI, ?_, ?_, ?_⟩
          · rw [valV_mk, hx]; rfl
          · rw [upd_ne nqp]; exact upd_same
          · refine for_items (kvs := il.map eI) (fun i σ' H' => ∃ (lw' : List (Int × Int)) (v5 v6 : Option V), σ' = [some (.int h), some (.ref L), some (.ref Fa), some (.ref Wd), some (.int n), v5, v6] ∧ Ex T no (upd H q (.frz od (dI il))) H' ∧ H' q = some (.frz od (dI il)) ∧ H' Fa = some (dI (pt lf n mm)) ∧ H' Wd = some (dI lw') ∧ (ks lw').Nodup ∧
                DJ G h (fun a b => a ≠ n ∨ (a = n ∧ ∃ j, j < i ∧ (ks il)[j]? = some b)) (lk (pt lf n mm)) (lk lw'))
              ⟨dr lw n, v5, v6, rfl, eL.new hp, by rw [upd_ne nqp]; exact upd_same, by rw [upd_ne nFp, upd_ne nqF]; exact hF5, by rw [upd_ne nWp, upd_ne nqW]; exact hW5, nw5, d5.mono fun a b p _ z => ?_⟩ (fun i σ' H' ⟨_, _, _, _, _, z, _⟩ => z) ?_ ?_
            · rcases z with z | ⟨_, j, hj, _⟩
              · exact z
              · omega
            · rintro i k' v t σ' H' hi ⟨lw', w5, w6, rfl, e6, hq6, hF6, hW6, nw6, d6⟩ ht
              obtain ⟨⟨b, p'⟩, hb, he⟩ : ∃ e, il[i]? = some e ∧ (k', v) = eI e := by
                rw [List.getElem?_map] at hi
                cases z : il[i]? with
                | none => rw [z] at hi; cases hi
                | some e => rw [z] at hi; exact ⟨e, rfl, (Option.some.inj hi).symm⟩
              injection he with he1 he2
              have he1 : k' = Sum.inl b := he1
              have he2 : v = V.int p' := he2
              subst he1 he2
              have hGp : G n b = some p' := by rw [← r3]; exact lk_of r2 (List.mem_of_getElem? hb)
              have hkb : (ks il)[i]? = some b := by rw [List.getElem?_map, hb]; rfl
              have hF7 : (upd H' t (.tup [kV (Sum.inl b), V.int p'])) Fa = some (dI (pt lf n mm)) := by rw [upd_ne (ne_of_none hF6 ht)]; exact hF6
              have hW7 : (upd H' t (.tup [kV (Sum.inl b), V.int p'])) Wd = some (dI lw') := by rw [upd_ne (ne_of_none hW6 ht)]; exact hW6
              have hq7 : (upd H' t (.tup [kV (Sum.inl b), V.int p'])) q = some (.frz od (dI il)) := by rw [upd_ne (ne_of_none hq6 ht)]; exact hq6
              have e7 : Ex T no (upd H q (.frz od (dI il))) (upd H' t (.tup [kV (Sum.inl b), V.int p'])) := e6.new ht
              refine ⟨t, _, rfl, SqT.of upd_same, rfl, _, _, rfl, _, _, rfl, rfl, ?_⟩
              show _
              clear hF6 hW6 hq6 e6
              generalize (upd H' t (.tup [kV (Sum.inl b), V.int p'])) = H7 at hF7 hW7 hq7 e7
              -- if other not in found
              refine ⟨_, rfl, _, rfl, Fa, _, rfl, DGet.k (k := Sum.inl b) hF7, _, rfl, ?_⟩
              rw [show (pt lf n mm).map eI = mkE V.int (pt lf n mm) from rfl, valV_mk]
              cases hb5 : lk (pt lf n mm) b with
              | some y =>
                refine iteF ?_
                refine ⟨lw', _, _, rfl, e7, hq7, hF7, hW7, nw6, (d6.skip hG hn5 top5 hGp hb5).mono fun a c r _ z => ?_⟩
                rcases z with z | ⟨z1, j, z2, z3⟩
                · exact .inl (.inl z)
                · by_cases ej : j = i
                  · subst ej
                    rw [hkb] at z3; cases z3
                    exact .inr ⟨z1, rfl⟩
                  · exact .inl (.inr ⟨z1, j, by omega, z3⟩)
              | none =>
                refine iteT ?_
                have gn : DGet H7 Fa (V.int n) (some (V.int mm)) := by
                  have := DGet.k (k := (Sum.inl n : Key)) hF7
                  rw [show (pt lf n mm).map eI = mkE V.int (pt lf n mm) from rfl, valV_mk, hn5] at this
                  exact this
                -- waiting[other] = min(..)
                refine ⟨_, rfl, Wd, rfl, .inl ⟨_, Rd.of hW7⟩, _, rfl, _, rfl, _, rfl, Fa, _, rfl, gn, _, rfl, _, _, rfl, rfl, _, DGet.k (k := Sum.inl b) hW7, _, rfl, _, rfl, Fa, _, rfl, gn, _, rfl, _, _, rfl, rfl, ?_⟩
                obtain ⟨y, ey, el⟩ := lower_eq (lw := lw') (b := b) (x := mm + p') (v := ((lk lw' b).map V.int).getD (V.int (mm + p'))) rfl
                rw [show lw'.map eI = mkE V.int lw' from rfl, valV_mk, ey]
                have lw8 : lw'.length ≤ 8 := len8 nw6 (d6.wIn hG h0 h8)
                refine ⟨y, _, rfl, _, rfl, _, rfl, Wd, _, rfl, DPut.k (k := Sum.inl b) hW7 (small1000 (by rw [List.length_map]; omega)), ?_⟩
                rw [show lw'.map eI = mkE V.int lw' from rfl, putK_mk nw6]
                refine ⟨_, _, _, rfl, e7.wr (.inr ?_) (fun u e => by rw [hW7] at e; cases e; trivial), by rw [upd_ne nqW.symm]; exact hq7, by rw [upd_ne nFW]; exact hF7, upd_same, nd_pt nw6, ?_⟩
                · intro o' e'
                  rw [upd_ne nqW] at e'
                  exact fW o' e'
                · rw [el]
                  refine (d6.relax hG hn5 top5 hGp hb5).mono fun a c r _ z => ?_
                  rcases z with z | ⟨z1, j, z2, z3⟩
                  · exact .inl (.inl z)
                  · by_cases ej : j = i
                    · subst ej
                      rw [hkb] at z3; cases z3
                      exact .inr ⟨z1, rfl⟩
                    · exact .inl (.inr ⟨z1, j, by omega, z3⟩)
            · rintro σ' H' ⟨lw', w5, w6, rfl, e6, hq6, hF6, hW6, nw6, d6⟩
              refine ⟨hq6, 7 - Wy.cnt (lk lf), hlt, _, _, _, _, _, rfl, e6.unlock r1 hq6 trivial, by rw [upd_ne nqF]; exact hF6, by rw [upd_ne nqW]; exact hW6, nf5, nw6, d6.mono fun a b p hp _ => ?_, by rw [cn5]; exact hsm⟩
              by_cases z : a = n
              · subst z
                refine .inr ⟨rfl, ?_⟩
                rw [← r3] at hp
                obtain ⟨j, hj⟩ := List.mem_iff_getElem?.mp (lk_key hp)
                have := (List.getElem?_eq_some_iff.mp hj).1
                rw [List.length_map] at this
                exact ⟨j, by rw [List.length_map]; exact this, hj⟩
              · exact .inl z
end
end WyP

set_option Elab.async false
set_option linter.all false
set_option maxRecDepth 100000
set_option maxHeartbeats 4000000
/-! helpers for firsts_by and what follows -/
namespace WyP
open PySem PySem.Spec PyProof.Rows L2 LamX Wy WyL WyH
theorem DGet.r {H : Hp} {a : Addr} {kvs : List (Key × V)} {k : Key} (h : Rd H a (.dK kvs)) : DGet H a (kV k) (valV kvs k) := .inl ⟨kvs, k, h, rfl, rfl⟩
theorem DGet.m {α : Type} {f : α → V} {H : Hp} {a : Addr} {l : List (Int × α)} {k : Int} (h : Rd H a (.dK (mkE f l))) : DGet H a (.int k) ((lk l k).map f) := by
  rw [← valV_mk]
  exact DGet.r (k := (Sum.inl k : Key)) h
/-- lines.get(a, {}) -/
theorem rd_get {T : TT0} {to ty : TE} {σ : L2.St} {H : Hp} {Q : VK} {L : Addr} {ol : List (Int × Addr)} {G : Gr} {n : Int} (l : LN H L ol G) (hT : Tabs T H) (ho : ∀ Q' : VK, Q' (.ref L) H → to σ H Q') (hy : ∀ Q' : VK, Q' (.int n) H → ty σ H Q')
    (k : ∀ (q r : Addr) (il : List (Int × Int)), H q = none → Ex T no H (upd H q (.dK [])) → (upd H q (.dK [])) r = some (dI il) → (ks il).Nodup → (∀ b, lk il b = G n b) → Q (.ref r) (upd H q (.dK []))) : tDGet2 to ty (fun (σ : L2.St) (H : Hp) (Q : VK) => ∀ d, H d = none → Q (.ref d) (upd H d (.dK []))) σ H Q := by
  refine ho _ ⟨L, rfl, .inl ⟨_, Rd.of l.out⟩, hy _ fun q hq => ?_⟩
  have nLq : L ≠ q := ne_of_none l.out hq
  refine ⟨_, DGet.m (k := n) (Rd.of (by rw [upd_ne nLq]; exact l.out)), ?_⟩
  have e1 : Ex T no H (upd H q (.dK [])) := (Ex.refl hT).new hq
  cases hx : lk ol n with
  | none => exact k q q [] hq e1 upd_same (by simp) fun b => (l.non _ hx b).symm
  | some r =>
    obtain ⟨il, r1, r2, r3⟩ := l.inn _ _ hx
    exact k q r il hq e1 (by rw [upd_ne (ne_of_none r1 hq)]; exact r1) r2 r3
/-- firsts: a dict of tuples of ints -/
structure FR (H : Hp) (F : Addr) (lo : List (Int × Addr)) (Fn : FF) : Prop where
  out : H F = some (.dK (mkE V.ref lo))
  nd : (ks lo).Nodup
  non : ∀ b, lk lo b = none → Fn b = none
  inn : ∀ b q, lk lo b = some q → ∃ fs : List Int, Fn b = some fs ∧ H q = some (.tup (fs.map V.int))
theorem FR.ex {T : TT0} {D : Addr → Prop} {H H' : Hp} {F : Addr} {lo : List (Int × Addr)} {Fn : FF} (l : FR H F lo Fn) (e : Ex T D H H') (h1 : ¬ D F) (h2 : ∀ b xs, D b → H b ≠ some (.tup xs)) : FR H' F lo Fn :=
  ⟨e.atD l.out h1 trivial, l.nd, l.non, fun a q h => by
    obtain ⟨il, r0, r1⟩ := l.inn a q h
    exact ⟨il, r0, e.atD r1 (fun z => h2 q _ z r1) trivial⟩⟩
theorem FR.at_ {H : Hp} {F : Addr} {lo : List (Int × Addr)} {Fn : FF} (l : FR H F lo Fn) {b : Int} {fs : List Int} (h : Fn b = some fs) : ∃ q, lk lo b = some q ∧ H q = some (.tup (fs.map V.int)) := by
  cases e : lk lo b with
  | none => rw [l.non b e] at h; cases h
  | some q =>
    obtain ⟨gs, h1, h2⟩ := l.inn b q e
    rw [h] at h1; cases h1
    exact ⟨q, rfl, h2⟩
theorem FR.key {H : Hp} {F : Addr} {lo : List (Int × Addr)} {Fn : FF} (l : FR H F lo Fn) (b : Int) : b ∈ ks lo ↔ ∃ fs, Fn b = some fs := by
  constructor
  · intro m
    cases e : lk lo b with
    | none => exact absurd m (none_lk e)
    | some q =>
      obtain ⟨fs, h, _⟩ := l.inn b q e
      exact ⟨fs, h⟩
  · rintro ⟨fs, h⟩
    obtain ⟨q, e, _⟩ := l.at_ h
    exact lk_key e
/-- two dicts of marks -/
def mgP (sb cb : List (Int × Bool)) : List (Int × Bool) := cb.foldl (fun l e => pt l e.1 e.2) sb
theorem mergeK_mk : ∀ {cb sb : List (Int × Bool)}, (ks sb).Nodup → mergeK (mkE V.bl sb) (mkE V.bl cb) = mkE V.bl (mgP sb cb) ∧ (ks (mgP sb cb)).Nodup ∧ ∀ x, x ∈ ks (mgP sb cb) ↔ x ∈ ks sb ∨ x ∈ ks cb
  | [], sb, nd => ⟨rfl, nd, fun x => by simp [mgP]⟩
  | e :: r, sb, nd => by
    obtain ⟨h1, h2, h3⟩ := mergeK_mk (cb := r) (sb := pt sb e.1 e.2) (nd_pt nd)
    refine ⟨?_, h2, fun x => ?_⟩
    · show mergeK (putK (mkE V.bl sb) (Sum.inl e.1 : Key) (V.bl e.2)) (mkE V.bl r) = _
      rw [putK_mk nd, h1]
      rfl
    · show x ∈ ks (mgP (pt sb e.1 e.2) r) ↔ _
      rw [h3 x, ks_pt]
      show _ ↔ x ∈ ks sb ∨ x ∈ e.1 :: ks r
      rw [List.mem_cons]
      split
      · rename_i q
        constructor
        · rintro (z | z)
          · exact .inl z
          · exact .inr (.inr z)
        · rintro (z | z | z)
          · exact .inl z
          · rw [z]; exact .inl q
          · exact .inr z
      · rw [List.mem_append, List.mem_singleton, or_assoc]
theorem mem_pt {α : Type} {l : List (Int × α)} {k : Int} {v : α} {x : Int} : x ∈ ks (pt l k v) ↔ x ∈ ks l ∨ x = k := by
  rw [ks_pt]
  split
  · rename_i q
    constructor
    · exact .inl
    · rintro (z | z)
      · exact z
      · rw [z]; exact q
  · rw [List.mem_append, List.mem_singleton]
/-- the place of a lock alone -/
theorem ex_lock {T : TT0} {H : Hp} {d : Addr} {o u : HO} (t : Tabs T H) (e : H d = some u) (p : Pl u) : Ex T (fun x => x = d) H (upd H d o) := (Ex.refl t).wr (.inl rfl) fun u' e' => by rw [e] at e'; cases e'; exact p
theorem le8 {l : List Int} (nd : l.Nodup) (h : ∀ x, x ∈ l → 0 ≤ x ∧ x < 8) : l.length ≤ 8 := short8 nd h
theorem mk_le {α : Type} {l : List (Int × α)} (f : α → V) (nd : (ks l).Nodup) (h : ∀ x, x ∈ ks l → 0 ≤ x ∧ x < 8) : (mkE f l).length ≤ 8 := by
  have := short8 nd h
  rw [List.length_map] at this
  rw [mk_len]; exact this
theorem iteTe {b : Bool} {p q : Prop} (e : b = true) (h : p) : if b = true then p else q := by rw [if_pos e]; exact h
theorem iteFe {b : Bool} {p q : Prop} (e : b = false) (h : q) : if b = true then p else q := by subst e; exact h
/-- t or (one,), t a tuple of ints -/
theorem rd_or {T : TT0} {K : PySem.W.Frag} {ta tb : TE} {σ : L2.St} {H : Hp} {Q : VK} {tq : Addr} {fl : List Int} {one : Int} (hT : Tabs T H) (ht : H tq = some (.tup (fl.map V.int))) (ho : ∀ Q' : VK, Q' (.ref tq) H → ta σ H Q') (hb : ∀ Q' : VK, (∀ p, H p = none → Q' (.ref p) (upd H p (.tup [.int one]))) → tb σ H Q')
    (k : ∀ (H8 : Hp) (t8 : Addr) (gl : List Int), Ex T no H H8 → H8 t8 = some (.tup (gl.map V.int)) → (∀ x, x ∈ gl ↔ (fl ≠ [] ∧ x ∈ fl) ∨ (fl = [] ∧ x = one)) → Q (.ref t8) H8) : tOrT K ta tb σ H Q := by
  refine ho _ ⟨!(fl.map V.int).isEmpty, .inr (.inl ⟨_, SqT.of ht, rfl⟩), ?_⟩
  cases fl with
  | nil =>
    refine iteF ?_
    exact hb _ fun p hp => k _ p [one] ((Ex.refl hT).new hp) upd_same fun x => by simp
  | cons a r =>
    refine iteT ?_
    exact k H tq (a :: r) (Ex.refl hT) ht fun x => by simp
theorem lt_small {n : Nat} (h : n ≤ 999) : n < sizeLine := small1000 (by omega)
theorem le_small {n : Nat} (h : n ≤ 999) : n ≤ sizeLine := Nat.le_of_lt (lt_small h)
end WyP

set_option Elab.async false
set_option linter.all false
set_option maxRecDepth 100000
set_option maxHeartbeats 4000000
/-! firsts_by -/
namespace WyP
open PySem PySem.Spec PyProof.Rows L2 LamX Wy WyL WyH
section
variable {P : Program} {w : World} {K : PySem.W.Frag} {mg : Str → Option Value} {base : Heap} {T : TT0}
def spFirsts (T : TT0) : Sp := fun vs H Q _ => ∃ (h : Int) (L S : Addr) (ol : List (Int × Addr)) (ls : List (Int × Int)) (G : Gr), vs = [.int h, .ref L, .ref S] ∧ LN H L ol G ∧ GIn 8 G ∧ 0 ≤ h ∧ h < 8 ∧ H S = some (dI ls) ∧ (ks ls).Nodup ∧ Fix G h (lk ls) ∧ S ≠ L ∧ (∀ a q, lk ol a = some q → q ≠ S) ∧ Tabs T H ∧
  ∀ (F : Addr) (lo : List (Int × Addr)) (Fn : FF) (H' : Hp), Ex T no H H' → FR H' F lo Fn → Firsts G h (lk ls) Fn → Fresh H F → Q (.ref F) H'
theorem scF : FnScope ["house", "lines", "sums", "found", "one", "some", "ahead", "first"] ["house", "lines", "sums"] (defScope (top 4)) := ⟨rfl, rfl, rfl, by decide +kernel, rfl, by decide +kernel, by decide +kernel⟩
theorem ok_firsts {f c : Addr} {fd : FuncData} (F : FnP K "firsts_by" "firsts_by" (top 4) f fd) (hc : fd.code = .ref c) (B : Tb mg base T c "firsts_by") (gs : mg "sorted" = none) (gt : mg "tuple" = none) : FnOk P w K mg base CX0 4 f fd ["house", "lines", "sums"] (spFirsts T) := by
  refine okC F hc scF (fun vs H Q E h => ?_) (fun A outer s H vs Q E hr h => ?_)
  · obtain ⟨h, L, S, ol, ls, G, rfl, _⟩ := h
    rfl
  · obtain ⟨h, L, S, ol, ls, G, rfl, l0, hG, h0, h8, hS, ndS, fx, nSL, nSq, hT, k⟩ := h
    have hu := hu_of hr
    obtain ⟨Pa, tb1, tb2, tb3⟩ := B.ex
    refine ⟨_, PSs.nox (pss_cons (ps_set (i := 3) scF.nd rfl (Or.inl rfl) (pe_disp (pps_cons (pv 0) (pe_tup pa_nil) pps_nil) (by rfl) (by rfl) (fun z => by cases z) (by decide)))
      (pss_cons (ps_for PassesOwn.never rfl (pi_list (pe_sortK (T := T) (y := "other") (i := 2) rfl rfl gs ⟨⟨c, Pa, tb1, rfl, tb2, tb3⟩, rfl, ⟨rfl, rfl, rfl, rfl, by decide +kernel, by decide +kernel, by decide +kernel, by decide +kernel⟩, rfl, rfl, fun _ _ _ _ _ _ _ => rfl, hr⟩ rfl)) (pg_name (i := 4) scF.nd rfl (Or.inl rfl))
        (pss_one (ps_if (pt_cmpR op_ne (pv 4) (pv 0) (nomark _))
          (pss_cons (ps_set (i := 5) scF.nd rfl (Or.inl rfl) pe_dnewK)
          (pss_cons (ps_lock (ps_for PassesOwn.never rfl (pi_keys (pv 2)) (pg_name (i := 6) scF.nd rfl (Or.inl rfl))
              (pss_one (ps_if (PW.pt (pw_and (pt_cmp (pc_din hu (pv 4) (pe_dget2 hu (pv 1) (pv 6) pe_dnewK ⟨rfl, rfl, rfl, rfl⟩)))
                    (pw_and1 (pt_cmpR op_eq (pe_op op_add (pe_dget hu (pv 2) (pv 6) (fun _ _ => rfl)) (pe_dget hu (pe_dget hu (pv 1) (pv 6) (fun _ _ => rfl)) (pv 4) (fun _ _ => rfl))) (pe_dget hu (pv 2) (pv 4) (fun _ _ => rfl)) (nomark _)))))
                  (pss_one (ps_expr (pe_bm PySem.F.plainAttrs_dict PySem.F.slot_dict_update PySem.F.type_dict_update mt_update (pv 5)
                    (pa_cons (pe_dc (own := [("first", 7)]) (g := gName 7) (tt := tYes) rfl scF.nd (pi_tup (pe_orT (pe_dget hu (pv 3) (pv 6) (fun _ _ => rfl)) (pe_one (pe_tup (pa_cons (pv 4) pa_nil))))) (blkOk_by (N := ["house", "lines", "sums", "found", "one", "some", "ahead", "first"]) (sc := defScope (top 4)) (by decide +kernel)) (fun _ _ _ _ _ => pg_name (i := 7) scF.nd rfl (Or.inl rfl)) (fun _ _ _ _ _ => pts_nil) (fun _ _ _ _ _ => pv 7) (fun _ _ _ _ _ => pe_bl)) pa_nil)))) pss_nil))))
          (pss_one (ps_dput hu (pv 3) (pv 4) (pe_callTy call_tuple_of (by rfl) gt boot_tuple (pa_cons (pe_callB (call_sortedDI rfl) (by rfl) gs boot_sorted (pa_cons (pv 5) pa_nil)) pa_nil)) rfl)))) pss_nil)))
      (pss_one (ps_ret (pv 3))))), ?_⟩
    -- found = {house: ()}
    intro Fd hFd
    have hFd0 := hFd
    refine ⟨_, rfl, Nat.zero_le _, fun p0 hp0 => ?_⟩
    have nFp : Fd ≠ p0 := ne_of_none (H := upd H Fd (.dK [])) upd_same hp0
    refine ⟨by rw [upd_ne nFp]; exact upd_same, [(Sum.inl h, V.ref p0)], rfl, (by show 1 ≤ 15; decide), ?_⟩
    have fF : Fresh H Fd := .of hFd
    have e0 : Ex T no H (upd (upd H Fd (.dK [])) p0 (.tup [])) := ((Ex.refl hT).new hFd).new hp0
    have hF0 : (upd (upd H Fd (.dK [])) p0 (.tup [])) Fd = some (.dK []) := by rw [upd_ne nFp]; exact upd_same
    have e1 : Ex T no H (upd (upd (upd H Fd (.dK [])) p0 (.tup [])) Fd (.dK (mergeK [] [((Sum.inl h : Key), V.ref p0)]))) := e0.wr (.inr fF) (fun u e => by rw [hF0] at e; cases e; trivial)
    have fr1 : FR (upd (upd (upd H Fd (.dK [])) p0 (.tup [])) Fd (.dK (mergeK [] [((Sum.inl h : Key), V.ref p0)]))) Fd [(h, p0)] (fun b => if b = h then some [] else none) := by
      refine ⟨upd_same, by simp, fun b hb => ?_, fun b q hq => ?_⟩
      · rw [lk_cons] at hb
        by_cases z : h = b
        · rw [if_pos z] at hb; cases hb
        · rw [if_neg (fun y => z y.symm)]
      · rw [lk_cons] at hq
        by_cases z : h = b
        · rw [if_pos z] at hq; cases hq
          exact ⟨[], by rw [if_pos z.symm], by rw [upd_ne nFp.symm]; exact upd_same⟩
        · rw [if_neg z] at hq; cases hq
    clear e0 hF0 hp0 nFp
    show _
    generalize (upd (upd (upd H Fd (.dK [])) p0 (.tup [])) Fd (.dK (mergeK [] [((Sum.inl h : Key), V.ref p0)]))) = H1 at e1 fr1
    have ls8 : ls.length ≤ 8 := len8 ndS (fx.inR hG h0 h8)
    -- for one in sorted(sums, ..)
    refine ⟨S, ls, rfl, e1.at_ hS trivial, by omega, e1.tb, fun out pl H2 hperm hsort x2 t2 hpl => ?_⟩
    have e2 : Ex T no H (upd H2 pl (.lst (out.map fun e => V.int e.1))) := (e1.tr (Ex.of x2 t2)).new hpl
    have fr2 : FR (upd H2 pl (.lst (out.map fun e => V.int e.1))) Fd [(h, p0)] (fun b => if b = h then some [] else none) := fr1.ex (T := T) (D := no) ((Ex.of x2 t2).new hpl) (fun z => z) fun _ _ z => z.elim
    have fpl : Fresh H pl := (e1.tr (Ex.of x2 t2)).fresh (.of hpl) (fun z => z)
    have hl2 : (upd H2 pl (.lst (out.map fun e => V.int e.1))) pl = some (.lst (out.map fun e => V.int e.1)) := upd_same
    have nFpl : Fd ≠ pl := fun z => by have := fr2.out; rw [z, hl2] at this; cases this
    clear hpl x2 t2 fr1 e1
    generalize (upd H2 pl (.lst (out.map fun e => V.int e.1))) = H3 at e2 fr2 hl2
    have hkey : ∀ b y, lk ls b = some y ↔ (b, y) ∈ out := fun b y => by
      rw [hperm.mem_iff]
      exact ⟨lk_mem, lk_of ndS⟩
    have ndO : (ks out).Nodup := ((hperm.map _).nodup_iff).mpr ndS
    refine ⟨pl, rfl, ⟨_, .inl (.inl hl2)⟩, for_list (K := K) (a := pl) (xs := out.map fun e => V.int e.1) (fun i σ H' => ∃ (lo : List (Int × Addr)) (Fn : FF) (v4 v5 v6 v7 : Option V), σ = [some (.int h), some (.ref L), some (.ref S), some (.ref Fd), v4, v5, v6, v7] ∧ Ex T no H H' ∧ H' pl = some (.lst (out.map fun e => V.int e.1)) ∧ FR H' Fd lo Fn ∧ FPart G h (lk ls) (fun b => b ∈ ks (out.take i)) Fn)
      ⟨_, _, none, none, none, none, rfl, e2, hl2, fr2, ?_⟩ (fun i σ H' _ ⟨_, _, _, _, _, _, _, _, z, _⟩ => .inl (.inl z)) ?_ ?_⟩
    · exact (FPart.start G h (lk ls)).congr (fun b _ => by simp) ⟨0, fx.src⟩
    · rintro i y σ H4 hi ⟨lo, Fn, v4, v5, v6, v7, rfl, e4, hl4, fr4, fp⟩
      obtain ⟨⟨one, y⟩, ho, rfl⟩ := map_at hi
      have hone : lk ls one = some y := (hkey one y).mpr (List.mem_of_getElem? ho)
      obtain ⟨o0, o8⟩ := fx.inR hG h0 h8 one y hone
      have hi' : i < out.length := (List.getElem?_eq_some_iff.mp ho).1
      have htk : ks (out.take (i + 1)) = ks (out.take i) ++ [one] := by
        rw [List.take_add_one, ho]; simp
      have hmem : ∀ b, b ∈ ks (out.take i) → ∃ z, (b, z) ∈ out.take i ∧ lk ls b = some z := fun b hb => by
        obtain ⟨⟨b', z⟩, hz, rfl⟩ := List.mem_map.mp hb
        exact ⟨z, hz, (hkey _ z).mpr (List.mem_of_mem_take hz)⟩
      have hsp : out = out.take i ++ (one, y) :: out.drop (i + 1) := by
        have e := List.drop_eq_getElem_cons hi'
        rw [(List.getElem?_eq_some_iff.mp ho).2] at e
        rw [← e, List.take_append_drop]
      have hpw := hsort
      rw [hsp] at hpw
      obtain ⟨_, hpw2, hpw3⟩ := List.pairwise_append.mp hpw
      have hord : ∀ b z, b ∈ ks (out.take i) → lk ls b = some z → z ≤ y := fun b z hb hz => by
        obtain ⟨z', m, e⟩ := hmem b hb
        rw [hz] at e; cases e
        rcases hpw3 _ m _ List.mem_cons_self with q | q
        · exact Int.le_of_lt q
        · exact Int.le_of_eq q.1
      have hall : ∀ c x, lk ls c = some x → x < y → c ∈ ks (out.take i) := fun c x hc hx => by
        have m := (hkey c x).mp hc
        rw [hsp] at m
        rcases List.mem_append.mp m with m | m
        · exact List.mem_map.mpr ⟨_, m, rfl⟩
        · rcases List.mem_cons.mp m with m | m
          · cases m; omega
          · rcases (List.pairwise_cons.mp hpw2).1 _ m with q | q
            · have q : y < x := q
              omega
            · have q : y = x := q.1
              omega
      have hna : one ∉ ks (out.take i) := fun m => by
        have nd := ndO
        rw [hsp] at nd
        show False
        have nd : (ks (out.take i) ++ one :: ks (out.drop (i + 1))).Nodup := by simpa [ks] using nd
        exact (List.nodup_append.mp nd).2.2 _ m _ List.mem_cons_self rfl
      refine ⟨_, rfl, _, rfl, rfl, _, rfl, ?_⟩
      by_cases hne : one = h
      · refine iteFe (by rw [hne]; simp) ?_
        refine ⟨lo, Fn, _, _, _, _, rfl, e4, hl4, fr4, fp.congr (fun b hb => ?_) ⟨0, fx.src⟩⟩
        rw [htk, List.mem_append, List.mem_singleton, hne]
        simp [hb]
      · refine iteTe (by simp [hne]) ?_
        -- some = {}
        intro Sd hSd
        have fSd : Fresh H Sd := e4.fresh (.of hSd) (fun z => z)
        have nFS : Fd ≠ Sd := ne_of_none fr4.out hSd
        have npS : pl ≠ Sd := ne_of_none hl4 hSd
        have e5 : Ex T no H (upd H4 Sd (.dK [])) := e4.new hSd
        have fr5 : FR (upd H4 Sd (.dK [])) Fd lo Fn := fr4.ex (T := T) (D := no) ((Ex.refl e4.tb).new hSd) (fun z => z) fun _ _ z => z.elim
        have hl5 : (upd H4 Sd (.dK [])) pl = some (.lst (out.map fun e => V.int e.1)) := by rw [upd_ne npS]; exact hl4
        have hs5 : (upd H4 Sd (.dK [])) Sd = some (.dK (mkE V.bl [])) := upd_same
        clear e4 fr4 hl4 hSd
        generalize upd H4 Sd (.dK []) = H5 at e5 fr5 hl5 hs5
        have hS5 : H5 S = some (dI ls) := e5.at_ hS trivial
        have nSF : S ≠ Fd := fun z => by
          have := fF.ne hS trivial
          exact this z
        have nSSd : S ≠ Sd := fSd.ne hS trivial
        have nSp : S ≠ pl := fun z => by rw [z, hl5] at hS5; cases hS5
        refine ⟨S, dI ls, hS5, trivial, fun od => ?_⟩
        have eL : Ex T no (upd H S (.frz od (dI ls))) (upd H5 S (.frz od (dI ls))) := e5.lock hS (fun z => z) trivial
        have lL : LN (upd H S (.frz od (dI ls))) L ol G := l0.ex (ex_lock hT hS trivial) (fun z => nSL z.symm) nSq
        have frL : FR (upd H5 S (.frz od (dI ls))) Fd lo Fn := fr5.ex (ex_lock e5.tb hS5 trivial) (fun z => nSF z.symm) fun b xs z q => by rw [z, hS5] at q; cases q
        refine ⟨_, rfl, S, od, rfl, .inl ⟨_, upd_same, ?_⟩⟩
        refine for_keys (kvs := ls.map eI) (fun j σ' H' => ∃ (sb : List (Int × Bool)) (v6 v7 : Option V), σ' = [some (.int h), some (.ref L), some (.ref S), some (.ref Fd), some (.int one), some (.ref Sd), v6, v7] ∧ Ex T no (upd H S (.frz od (dI ls))) H' ∧ H' S = some (.frz od (dI ls)) ∧ H' pl = some (.lst (out.map fun e => V.int e.1)) ∧ H' Sd = some (.dK (mkE V.bl sb)) ∧ FR H' Fd lo Fn ∧ (ks sb).Nodup ∧
              ∀ x, x ∈ ks sb ↔ ∃ a z p, a ∈ (ks ls).take j ∧ lk ls a = some z ∧ G a one = some p ∧ z + p = y ∧ StepF Fn a one x)
          ⟨[], v6, v7, rfl, eL, upd_same, by rw [upd_ne nSp.symm]; exact hl5, by rw [upd_ne nSSd.symm]; exact hs5, frL, by simp, fun x => by simp⟩ (fun i σ' H' ⟨_, _, _, _, _, z, _⟩ => z) ?_ ?_
        · rintro j k' v σ' H6 hj ⟨sb, w6, w7, rfl, e6, hS6, hl6, hs6, fr6, nd6, in6⟩
          obtain ⟨⟨ah, z⟩, hb, he⟩ : ∃ e, ls[j]? = some e ∧ (k', v) = eI e := by
            rw [List.getElem?_map] at hj
            cases q : ls[j]? with
            | none => rw [q] at hj; cases hj
            | some e => rw [q] at hj; exact ⟨e, rfl, (Option.some.inj hj).symm⟩
          injection he with he1 he2
          have he1 : k' = Sum.inl ah := he1
          subst he1
          clear he2
          have hah : lk ls ah = some z := lk_of ndS (List.mem_of_getElem? hb)
          have htj : (ks ls).take (j + 1) = (ks ls).take j ++ [ah] := by
            have : (ks ls)[j]? = some ah := by rw [List.getElem?_map, hb]; rfl
            rw [List.take_add_one, this]; rfl
          have l6 : LN H6 L ol G := lL.ex e6 (fun z => z) fun _ _ _ z => z
          -- one in lines.get(ahead, {})
          refine ⟨_, rfl, ?_⟩
          refine rd_get (T := T) l6 e6.tb (fun Q' q => ⟨_, rfl, q⟩) (fun Q' q => ⟨_, rfl, q⟩) fun q r il hq eq hr' ndl hil => ?_
          refine ⟨r, _, rfl, DGet.m (k := one) (Rd.of hr'), _, rfl, ?_⟩
          rw [hil]
          have e7 := e6.tr eq
          have hS7 : (upd H6 q (.dK [])) S = some (.frz od (dI ls)) := by rw [upd_ne (ne_of_none hS6 hq)]; exact hS6
          have hl7 := eq.at_ hl6 trivial
          have hs7 := eq.at_ hs6 trivial
          have fr7 := fr6.ex eq (fun z => z) fun _ _ z => z.elim
          have l7 := l6.ex eq (fun z => z) fun _ _ _ z => z
          clear hr' hS6 hl6 hs6 fr6 l6 e6 eq hq
          generalize upd H6 q (.dK []) = H7 at e7 hS7 hl7 hs7 fr7 l7
          have g1 := DGet.m (f := V.int) (k := ah) (Or.inr ⟨od, hS7⟩ : Rd H7 S (dI ls))
          rw [hah] at g1
          have g2 := DGet.m (f := V.int) (k := one) (Or.inr ⟨od, hS7⟩ : Rd H7 S (dI ls))
          rw [hone] at g2
          cases hg : G ah one with
          | none =>
            refine iteF ?_
            refine ⟨sb, _, _, rfl, e7, hS7, hl7, hs7, fr7, nd6, fun x => ?_⟩
            rw [in6 x, htj]
            constructor
            · rintro ⟨a, z', p, m, r⟩
              exact ⟨a, z', p, List.mem_append_left _ m, r⟩
            · rintro ⟨a, z', p, m, r1, r2, r3⟩
              rcases List.mem_append.mp m with m | m
              · exact ⟨a, z', p, m, r1, r2, r3⟩
              · rw [List.mem_singleton.mp m, hg] at r2; cases r2
          | some p =>
            refine iteT ?_
            obtain ⟨r0, hr0⟩ : ∃ r0, lk ol ah = some r0 := by
              cases q0 : lk ol ah with
              | none => rw [l7.non ah q0 one] at hg; cases hg
              | some r0 => exact ⟨r0, rfl⟩
            obtain ⟨il0, i1, i2, i3⟩ := l7.inn ah r0 hr0
            have g3 := DGet.m (f := V.ref) (k := ah) (Rd.of l7.out)
            rw [hr0] at g3
            have g4 := DGet.m (f := V.int) (k := one) (Rd.of i1)
            rw [i3, hg] at g4
            refine ⟨_, rfl, _, rfl, S, _, rfl, g1, _, rfl, _, rfl, L, _, rfl, g3, _, rfl, r0, _, rfl, g4, _, _, rfl, rfl, _, rfl, _, rfl, S, _, rfl, g2, rfl, _, rfl, ?_⟩
            by_cases hzp : z + p = y
            · refine iteTe (by simp [hzp]) ?_
              -- some.update(..)
              obtain ⟨fl, hfl⟩ := fp.avail hG hah hg hzp hall
              obtain ⟨tq, htq, htup⟩ := fr7.at_ hfl
              have g5 := DGet.m (f := V.ref) (k := ah) (Rd.of fr7.out)
              rw [htq] at g5
              refine ⟨_, rfl, Or.inr (Or.inr (Or.inl ⟨rfl, .inl ⟨_, hs7⟩⟩)), ?_⟩
              refine rd_or (T := T) (one := one) e7.tb htup (fun Q' q => ⟨_, rfl, _, rfl, Fd, _, rfl, g5, q⟩) (fun Q' q => ⟨_, rfl, (by show 1 ≤ sizeLine; decide), q⟩) fun H8 t8 gl e78 ht8 hgl => ?_
              have hst : ∀ x, x ∈ gl ↔ StepF Fn ah one x := fun x => by
                rw [hgl x]
                constructor
                · exact fun z => ⟨fl, hfl, z⟩
                · rintro ⟨l', q1, q2⟩
                  rw [hfl] at q1; cases q1
                  exact q2
              have e8 := e7.tr e78
              have hS8 := e78.at_ hS7 trivial
              have hl8 := e78.at_ hl7 trivial
              have hs8 := e78.at_ hs7 trivial
              have fr8 := fr7.ex e78 (fun z => z) fun _ _ z => z.elim
              clear g1 g2 g3 g4 g5 htup htq i1 l7 hS7 hl7 hs7 fr7 e7 e78
              refine ⟨t8, rfl, ⟨_, SqT.of ht8⟩, fun D hD => ?_⟩
              refine dc_tup (K := K) (a := t8) (xs := gl.map V.int) (fun i H' => ∃ (cb : List (Int × Bool)), H' = upd H8 D (.dK (mkE V.bl cb)) ∧ (ks cb).Nodup ∧ ∀ x, x ∈ ks cb ↔ x ∈ gl.take i)
                ⟨[], rfl, by simp, fun x => by simp⟩ (fun i H' _ ⟨cb, z, _⟩ => by rw [z]; exact SqT.of (by rw [upd_ne (ne_of_none ht8 hD)]; exact ht8)) ?_ ?_
              · rintro i y' H' hi' ⟨cb, rfl, ndc, inc⟩
                obtain ⟨x0, hx0, rfl⟩ := map_at hi'
                refine ⟨rfl, _, rfl, mkE V.bl cb, Sum.inl x0, rfl, upd_same, lt_small ?_, pt cb x0 true, ?_, nd_pt ndc, fun x => ?_⟩
                · have := mk_le V.bl ndc fun x hx => fp.rngF (n := 8) hG hg ((hst x).mp (List.mem_of_mem_take ((inc x).mp hx)))
                  omega
                · rw [upd_upd, putK_mk ndc]
                · rw [mem_pt, inc x, List.take_add_one, hx0]
                  simp
              · rintro H' ⟨cb, rfl, ndc, inc⟩
                rw [List.length_map, List.take_length] at inc
                have nSD : Sd ≠ D := ne_of_none hs8 hD
                have hcb := mk_le V.bl ndc fun x hx => fp.rngF (n := 8) hG hg ((hst x).mp ((inc x).mp hx))
                have hsb := mk_le V.bl nd6 fun x hx => by
                  obtain ⟨a, z', p', _, _, r2, _, r4⟩ := (in6 x).mp hx
                  exact fp.rngF (n := 8) hG r2 r4
                obtain ⟨m1, m2, m3⟩ := mergeK_mk (cb := cb) nd6
                refine ⟨Sd, D, _, _, rfl, rfl, by rw [upd_ne nSD]; exact hs8, upd_same, nSD, by omega, ?_⟩
                rw [m1]
                have hs9 : (upd H8 D (.dK (mkE V.bl cb))) Sd = some (.dK (mkE V.bl sb)) := by rw [upd_ne nSD]; exact hs8
                have e9 : Ex T no (upd H S (.frz od (dI ls))) (upd (upd H8 D (.dK (mkE V.bl cb))) Sd (.dK (mkE V.bl (mgP sb cb)))) := (e8.new hD).wr (.inr fun o' e' => by
                  rw [upd_ne nSSd.symm] at e'
                  exact fSd o' e') fun u e => by rw [hs9] at e; cases e; trivial
                refine ⟨mgP sb cb, _, _, rfl, e9, ?_, ?_, upd_same, ?_, m2, fun x => ?_⟩
                · rw [upd_ne nSSd, upd_ne (ne_of_none hS8 hD)]; exact hS8
                · rw [upd_ne npS, upd_ne (ne_of_none hl8 hD)]; exact hl8
                · refine (fr8.ex (T := T) (D := no) ((Ex.refl e8.tb).new hD) (fun z => z) fun _ _ z => z.elim).ex (T := T) (D := fun x => x = Sd) ((Ex.refl (e8.new hD).tb).wr (.inl rfl) fun u e => by rw [hs9] at e; cases e; trivial) nFS fun b xs z q => by
                    rw [z, hs9] at q; cases q
                · rw [m3 x, in6 x, inc x, hst x, htj]
                  constructor
                  · rintro (⟨a, z', p', m, r⟩ | r)
                    · exact ⟨a, z', p', List.mem_append_left _ m, r⟩
                    · exact ⟨ah, z, p, List.mem_append_right _ List.mem_cons_self, hah, hg, hzp, r⟩
                  · rintro ⟨a, z', p', m, r1, r2, r3, r4⟩
                    rcases List.mem_append.mp m with m | m
                    · exact .inl ⟨a, z', p', m, r1, r2, r3, r4⟩
                    · rw [List.mem_singleton.mp m] at r4
                      exact .inr r4
            · refine iteFe (by simp [hzp]) ?_
              refine ⟨sb, _, _, rfl, e7, hS7, hl7, hs7, fr7, nd6, fun x => ?_⟩
              rw [in6 x, htj]
              constructor
              · rintro ⟨a, z', p', m, r⟩
                exact ⟨a, z', p', List.mem_append_left _ m, r⟩
              · rintro ⟨a, z', p', m, r1, r2, r3, r4⟩
                rcases List.mem_append.mp m with m | m
                · exact ⟨a, z', p', m, r1, r2, r3, r4⟩
                · rw [List.mem_singleton.mp m] at r1 r2
                  rw [hah] at r1; cases r1
                  rw [hg] at r2; cases r2
                  exact absurd r3 hzp
        · rintro σ' H6 ⟨sb, w6, w7, rfl, e6, hS6, hl6, hs6, fr6, nd6, in6⟩
          refine ⟨hS6, ?_⟩
          have e7 : Ex T no H (upd H6 S (dI ls)) := e6.unlock hS hS6 trivial
          have eu : Ex T (fun x => x = S) H6 (upd H6 S (dI ls)) := ex_lock e6.tb hS6 trivial
          have hl7 := eu.atD hl6 (fun z => nSp z.symm) trivial
          have hs7 := eu.atD hs6 (fun z => nSSd z.symm) trivial
          have fr7 := fr6.ex eu (fun z => nSF z.symm) fun b xs z q => by rw [z, hS6] at q; cases q
          have in7 : ∀ x, x ∈ ks sb ↔ ∃ a z p, lk ls a = some z ∧ G a one = some p ∧ z + p = y ∧ StepF Fn a one x := fun x => by
            rw [in6 x, List.length_map]
            have e : (ks ls).take ls.length = ks ls := by rw [← List.length_map (f := fun (e : Int × Int) => e.1), List.take_length]
            rw [e]
            constructor
            · rintro ⟨a, z, p, _, r⟩
              exact ⟨a, z, p, r⟩
            · rintro ⟨a, z, p, r, r'⟩
              exact ⟨a, z, p, lk_key r, r, r'⟩
          have rg : ∀ x, x ∈ ks sb → 0 ≤ x ∧ x < 8 := fun x hx => by
            obtain ⟨a, z', p', _, r2, _, r4⟩ := (in7 x).mp hx
            exact fp.rngF (n := 8) hG r2 r4
          have k8 := short8 nd6 rg
          clear in6 eu hS6 hl6 hs6 fr6
          show _
          generalize upd H6 S (dI ls) = H7 at e7 hl7 hs7 fr7
          -- found[one] = tuple(sorted(some))
          refine ⟨_, rfl, Sd, mkE V.bl sb, ks sb, rfl, Rd.of hs7, mk_keys _ _, by omega, fun ys pa hperm2 hsrt2 hpa => ?_⟩
          refine ⟨pa, _, rfl, .inl ⟨.inl (.inl upd_same), fun pb hpb => ?_⟩⟩
          have e8 : Ex T no H (upd (upd H7 pa (.lst (ys.map V.int))) pb (.tup (ys.map V.int))) := (e7.new hpa).new hpb
          have e78 : Ex T no H7 (upd (upd H7 pa (.lst (ys.map V.int))) pb (.tup (ys.map V.int))) := ((Ex.refl e7.tb).new hpa).new hpb
          have fr8 := fr7.ex e78 (fun z => z) fun _ _ z => z.elim
          have hl8 := e78.at_ hl7 trivial
          have hb8 : (upd (upd H7 pa (.lst (ys.map V.int))) pb (.tup (ys.map V.int))) pb = some (.tup (ys.map V.int)) := upd_same
          have nFb : Fd ≠ pb := ne_of_none (e78.at_ fr7.out trivial |> fun _ => (fr7.ex (T := T) (D := no) ((Ex.refl e7.tb).new hpa) (fun z => z) fun _ _ z => z.elim).out) hpb
          clear e78 hpb hpa e7 hl7 hs7 fr7
          generalize (upd (upd H7 pa (.lst (ys.map V.int))) pb (.tup (ys.map V.int))) = H8 at e8 fr8 hl8 hb8
          have hF1 : Fn one = none := by
            cases q : Fn one with
            | none => rfl
            | some l =>
              rcases (fp.dom one).mp ⟨l, q⟩ with r | r
              · exact absurd r hne
              · exact absurd r hna
          have lo8 : (mkE V.ref lo).length ≤ 8 := mk_le V.ref fr8.nd fun x hx => by
            obtain ⟨fs, r⟩ := (fr8.key x).mp hx
            rcases (fp.dom x).mp ⟨fs, r⟩ with r | r
            · rw [r]; exact ⟨h0, h8⟩
            · obtain ⟨z, r⟩ := fp.inS x r
              exact fx.inR hG h0 h8 x z r
          refine ⟨_, rfl, _, rfl, Fd, _, rfl, DPut.k (k := Sum.inl one) fr8.out (lt_small (by omega)), ?_⟩
          rw [putK_mk fr8.nd]
          refine ⟨pt lo one pb, up Fn one (some ys), _, _, _, _, rfl, e8.wr (.inr fF) (fun u e => by rw [fr8.out] at e; cases e; trivial), by rw [upd_ne nFpl.symm]; exact hl8, ⟨upd_same, nd_pt fr8.nd, fun b hb => ?_, fun b q hq => ?_⟩, ?_⟩
          · rw [lk_pt] at hb
            by_cases z : b = one
            · rw [z, up_same] at hb; cases hb
            · rw [up_ne z] at hb ⊢
              exact fr8.non b hb
          · rw [lk_pt] at hq
            rcases up_cases hq with ⟨z1, z2⟩ | ⟨z1, z2⟩
            · cases z2
              exact ⟨ys, by rw [z1, up_same], by rw [upd_ne nFb.symm]; exact hb8⟩
            · obtain ⟨fs, r1, r2⟩ := fr8.inn b q z2
              exact ⟨fs, by rw [up_ne z1]; exact r1, by rw [upd_ne fun z => by rw [z, fr8.out] at r2; cases r2]; exact r2⟩
          · have hst : ys.Pairwise (· < ·) := by
              have nd : ys.Nodup := (hperm2.nodup_iff).mpr nd6
              refine (hsrt2.and nd).imp fun {a b} z => ?_
              have := z.1
              have := z.2
              omega
            refine (fp.step hG fx hone hne hna hord hst (fun x hx => rg x (hperm2.mem_iff.mp hx)) fun x => by rw [hperm2.mem_iff]; exact in7 x).congr (fun b _ => ?_) ⟨0, fx.src⟩
            rw [htk, List.mem_append, List.mem_singleton]
    · rintro σ H4 ⟨lo, Fn, v4, v5, v6, v7, rfl, e4, hl4, fr4, fp⟩
      refine ⟨_, rfl, k Fd lo Fn H4 e4 fr4 (fp.firsts (fun b => ?_) ⟨0, fx.src⟩) fF⟩
      rw [List.length_map, List.take_length]
      constructor
      · exact fp.inS b |>.comp (by rw [List.length_map, List.take_length]; exact id)
      · rintro ⟨y, hy⟩
        exact List.mem_map.mpr ⟨_, (hkey b y).mp hy, rfl⟩
end
end WyP

set_option Elab.async false
set_option linter.all false
set_option maxRecDepth 100000
set_option maxHeartbeats 4000000
/-! table_by, table_of -/
namespace WyP
open PySem PySem.Spec PyProof.Rows L2 LamX Wy WyL WyH
/-- a def as its callers see it -/
structure Cal (P : Program) (w : World) (K : PySem.W.Frag) (mg : Str → Option Value) (base : Heap) (CX : CXT) (x : Str) (k : Nat) (f : Addr) (fd : FuncData) (ps : List Str) (sp : Sp) : Prop where
  ok : FnOk P w K mg base CX k f fd ps sp
  mg : mg x = some (.ref f)
  kp : PySem.W.keepIn K (.ref f) = true
  b : L2.Binds K fd ps []
/-- a table: rows by house -/
structure TR (H : Hp) (D : Addr) (lt : List (Int × Addr)) (S : PF) (Fn : FF) : Prop where
  out : H D = some (.dK (mkE V.ref lt))
  nd : (ks lt).Nodup
  non : ∀ b, lk lt b = none → S b = none
  inn : ∀ b q, lk lt b = some q → ∃ (y : Int) (fs : List Int) (t : Addr), S b = some y ∧ Fn b = some fs ∧ H q = some (.tup [.int y, .ref t]) ∧ H t = some (.tup (fs.map V.int))
theorem TR.ex {T : TT0} {D : Addr → Prop} {H H' : Hp} {F : Addr} {lo : List (Int × Addr)} {S : PF} {Fn : FF} (l : TR H F lo S Fn) (e : Ex T D H H') (h1 : ¬ D F) (h2 : ∀ b xs, D b → H b ≠ some (.tup xs)) : TR H' F lo S Fn :=
  ⟨e.atD l.out h1 trivial, l.nd, l.non, fun a q h => by
    obtain ⟨y, fs, t, r0, r1, r2, r3⟩ := l.inn a q h
    exact ⟨y, fs, t, r0, r1, e.atD r2 (fun z => h2 q _ z r2) trivial, e.atD r3 (fun z => h2 t _ z r3) trivial⟩⟩
section
variable {P : Program} {w : World} {K : PySem.W.Frag} {mg : Str → Option Value} {base : Heap} {T : TT0}
/-- the turns of a table's making: H1 ahead of it -/
structure TW (T : TT0) (H1 H' : Hp) (D : Addr) (i : Nat) (ys : List Int) (S : PF) (Fn : FF) (lt : List (Int × Addr)) : Prop where
  ex : Ex T (fun _ => False) H1 H'
  out : H' D = some (.dK (mkE V.ref lt))
  nd : (ks lt).Nodup
  key : ∀ b, b ∈ ks lt ↔ b ∈ ys.take i
  inn : ∀ b q, lk lt b = some q → ∃ (y : Int) (fs : List Int) (t : Addr), S b = some y ∧ Fn b = some fs ∧ H' q = some (.tup [.int y, .ref t]) ∧ H' t = some (.tup (fs.map V.int))
theorem TW.start {H1 : Hp} {D : Addr} {ys : List Int} {S : PF} {Fn : FF} (hT : Tabs T H1) (hD : H1 D = none) : TW T H1 (upd H1 D (.dK [])) D 0 ys S Fn [] :=
  ⟨(Ex.refl hT).new hD, upd_same, by simp, fun b => by simp, fun b q h => by cases h⟩
theorem TW.step {H1 H' : Hp} {D q t : Addr} {i : Nat} {ys : List Int} {S : PF} {Fn : FF} {lt : List (Int × Addr)} {x y : Int} {fs : List Int} (d : TW T H1 H' D i ys S Fn lt) (hD : H1 D = none) (hq : H' q = none) (hx : ys[i]? = some x) (hS : S x = some y) (hF : Fn x = some fs) (ht : H' t = some (.tup (fs.map V.int))) :
    TW T H1 (upd (upd H' q (.tup [.int y, .ref t])) D (.dK (putK (mkE V.ref lt) (Sum.inl x : Key) (V.ref q)))) D (i + 1) ys S Fn (pt lt x q) := by
  have nDq : D ≠ q := ne_of_none d.out hq
  have hD2 : (upd H' q (.tup [.int y, .ref t])) D = some (.dK (mkE V.ref lt)) := by rw [upd_ne nDq]; exact d.out
  rw [putK_mk d.nd]
  have keep : ∀ {b : Addr} {xs : List V}, H' b = some (.tup xs) → (upd (upd H' q (.tup [.int y, .ref t])) D (.dK (mkE V.ref (pt lt x q)))) b = some (.tup xs) := fun {b xs} e => by
    have n1 : b ≠ D := fun z => by rw [z, d.out] at e; cases e
    rw [upd_ne n1, upd_ne (ne_of_none e hq)]; exact e
  refine ⟨(d.ex.new hq).wr (.inr (.of hD)) (fun u e => by rw [hD2] at e; cases e; trivial), upd_same, nd_pt d.nd, fun b => ?_, fun b q' h => ?_⟩
  · rw [mem_pt, d.key b, List.take_add_one, hx]
    simp
  · rw [lk_pt] at h
    rcases up_cases h with ⟨z1, z2⟩ | ⟨z1, z2⟩
    · cases z2
      rw [z1]
      exact ⟨y, fs, t, hS, hF, by rw [upd_ne nDq.symm]; exact upd_same, keep ht⟩
    · obtain ⟨y', fs', t', r0, r1, r2, r3⟩ := d.inn b q' z2
      exact ⟨y', fs', t', r0, r1, keep r2, keep r3⟩
theorem TW.fin {H1 H' : Hp} {D : Addr} {ys : List Int} {S : PF} {Fn : FF} {lt : List (Int × Addr)} (d : TW T H1 H' D ys.length ys S Fn lt) (h : ∀ b y, S b = some y → b ∈ ys) : TR H' D lt S Fn :=
  ⟨d.out, d.nd, fun b hb => by
    cases q : S b with
    | none => rfl
    | some y =>
      refine absurd ?_ (none_lk hb)
      rw [d.key b, List.take_length]
      exact h b y q, d.inn⟩
def spTabBy (T : TT0) : Sp := fun vs H Q _ => ∃ (h : Int) (L : Addr) (ol : List (Int × Addr)) (G : Gr), vs = [.int h, .ref L] ∧ LN H L ol G ∧ GIn 8 G ∧ 0 ≤ h ∧ h < 8 ∧ Tabs T H ∧
  ∀ (D : Addr) (lt : List (Int × Addr)) (S : PF) (Fn : FF) (H' : Hp), Ex T no H H' → TR H' D lt S Fn → Fix G h S → Firsts G h S Fn → Fresh H D → Q (.ref D) H'
theorem scB : FnScope ["house", "lines", "sums", "firsts", "one"] ["house", "lines"] (defScope (top 5)) := ⟨rfl, rfl, rfl, by decide +kernel, rfl, by decide +kernel, by decide +kernel⟩
theorem ok_tabBy {f f1 f2 : Addr} {fd fd1 fd2 : FuncData} (F : FnP K "table_by" "table_by" (top 5) f fd) (C1 : Cal P w K mg base CX0 "sums_from" 4 f1 fd1 ["house", "lines"] (spSums T)) (C2 : Cal P w K mg base CX0 "firsts_by" 4 f2 fd2 ["house", "lines", "sums"] (spFirsts T)) (gs : mg "sorted" = none) : FnOk P w K mg base CX0 5 f fd ["house", "lines"] (spTabBy T) := by
  refine F.ok scB (fun vs H Q E h => ?_) (fun cdv A outer s H vs Q E hr h => ?_)
  · obtain ⟨h, L, ol, G, rfl, _⟩ := h
    rfl
  · obtain ⟨h, L, ol, G, rfl, l0, hG, h0, h8, hT, k⟩ := h
    have hu := hu_of hr
    refine ⟨_, PSs.nox (pss_cons (ps_set (i := 2) scB.nd rfl (Or.inr rfl) (pe_call C1.ok hr (by rfl) C1.mg C1.kp C1.b .nil pass0 (pa_cons (pv 0) (pa_cons (pv 1) pa_nil))))
      (pss_cons (ps_set (i := 3) scB.nd rfl (Or.inr rfl) (pe_call C2.ok hr (by rfl) C2.mg C2.kp C2.b .nil pass0 (pa_cons (pv 0) (pa_cons (pv 1) (pa_cons (pv 2) pa_nil)))))
      (pss_one (ps_ret (pe_dc (own := [("one", 4)]) (g := gName 4) (tt := tYes) rfl scB.nd (pi_list (pe_callB (call_sortedDI rfl) (by rfl) gs boot_sorted (pa_cons (pv 2) pa_nil))) (blkOk_by (N := ["house", "lines", "sums", "firsts", "one"]) (sc := defScope (top 5)) (by decide +kernel)) (fun _ _ _ _ _ => pg_name (i := 4) scB.nd rfl (Or.inl rfl)) (fun _ _ _ _ _ => pts_nil) (fun _ _ _ _ _ => pv 4)
        (fun _ _ _ _ _ => pe_tup (pa_cons (pe_dget hu (pv 2) (pv 4) (fun _ _ => rfl)) (pa_cons (pe_dget hu (pv 3) (pv 4) (fun _ _ => rfl)) pa_nil)))))))), ?_⟩
    -- sums
    refine ⟨_, rfl, _, rfl, h, L, ol, G, rfl, l0, hG, h0, h8, hT, fun S ls H1 e1 hS nd fx fS => ?_⟩
    have l1 := l0.ex e1 (fun z => z) fun _ _ _ z => z
    have nSL : S ≠ L := fun z => fS.ne l0.out trivial z.symm
    have nSq : ∀ a q, lk ol a = some q → q ≠ S := fun a q hq => by
      obtain ⟨il, r, _⟩ := l0.inn a q hq
      exact fS.ne r trivial
    -- firsts
    refine ⟨_, rfl, _, rfl, _, rfl, h, L, S, ol, ls, G, rfl, l1, hG, h0, h8, hS, nd, fx, nSL, nSq, e1.tb, fun F lo Fn H2 e2 fr2 fi fF => ?_⟩
    have hS2 := e2.at_ hS trivial
    have e12 := e1.tr e2
    have k8 := len8 nd (fx.inR hG h0 h8)
    refine ⟨_, rfl, S, _, ks ls, rfl, Rd.of hS2, mk_keys _ _, by rw [List.length_map]; omega, fun ys pa hperm hsrt hpa => ?_⟩
    have e3 := e12.new (o := .lst (ys.map V.int)) hpa
    have hS3 : (upd H2 pa (.lst (ys.map V.int))) S = some (dI ls) := by rw [upd_ne (ne_of_none hS2 hpa)]; exact hS2
    have fr3 := fr2.ex (T := T) (D := no) ((Ex.refl e2.tb).new (o := .lst (ys.map V.int)) hpa) (fun z => z) fun _ _ z => z.elim
    have hp3 : (upd H2 pa (.lst (ys.map V.int))) pa = some (.lst (ys.map V.int)) := upd_same
    clear e12 hpa fr2 hS2 e2 l1
    generalize (upd H2 pa (.lst (ys.map V.int))) = H3 at e3 hS3 fr3 hp3
    refine ⟨pa, rfl, ⟨_, .inl (.inl hp3)⟩, fun D hD => ?_⟩
    refine dc_list (K := K) (a := pa) (xs := ys.map V.int) (fun i H' => ∃ lt, TW T H3 H' D i ys (lk ls) Fn lt)
      ⟨[], TW.start e3.tb hD⟩ (fun i H' _ ⟨lt, z⟩ => .inl (.inl (z.ex.at_ hp3 trivial))) ?_ ?_
    · rintro i y H' hi ⟨lt, tw⟩
      obtain ⟨x, hx, rfl⟩ := map_at hi
      have hxk : x ∈ ks ls := hperm.mem_iff.mp (List.mem_of_getElem? hx)
      obtain ⟨yv, hyv⟩ : ∃ yv, lk ls x = some yv := by
        cases q : lk ls x with
        | none => exact absurd hxk (none_lk q)
        | some y => exact ⟨y, rfl⟩
      obtain ⟨fs, hfs⟩ := some_of_dom fi.dom hyv
      have fr4 := fr3.ex tw.ex (fun z => z) fun _ _ z => z.elim
      obtain ⟨t, ht1, ht2⟩ := fr4.at_ hfs
      have g1 := DGet.m (f := V.int) (k := x) (Rd.of (tw.ex.at_ hS3 trivial))
      rw [hyv] at g1
      have g2 := DGet.m (f := V.ref) (k := x) (Rd.of fr4.out)
      rw [ht1] at g2
      refine ⟨rfl, _, rfl, _, rfl, _, rfl, S, _, rfl, g1, _, rfl, _, rfl, F, _, rfl, g2, (by show 2 ≤ sizeLine; decide), fun q hq => ?_⟩
      have hl : (mkE V.ref lt).length ≤ 8 := mk_le V.ref tw.nd fun b hb => by
        have := (hperm.mem_iff.mp (List.mem_of_mem_take ((tw.key b).mp hb)))
        cases z : lk ls b with
        | none => exact absurd this (none_lk z)
        | some y => exact fx.inR hG h0 h8 b y z
      refine ⟨mkE V.ref lt, Sum.inl x, rfl, by rw [upd_ne (ne_of_none tw.out hq)]; exact tw.out, lt_small (by omega), _, tw.step hD hq hx hyv hfs ht2⟩
    · rintro H' ⟨lt, tw⟩
      rw [List.length_map] at tw
      refine k D lt (lk ls) Fn H' (e3.tr tw.ex) (tw.fin fun b y hb => hperm.mem_iff.mpr (lk_key hb)) fx fi (e3.fresh (.of hD) (fun z => z))
end
end WyP

set_option Elab.async false
set_option linter.all false
set_option maxRecDepth 100000
set_option maxHeartbeats 4000000
/-! table_of, goes_over -/
namespace WyP
open PySem PySem.Spec PyProof.Rows L2 LamX Wy WyL WyH
section
variable {P : Program} {w : World} {K : PySem.W.Frag} {mg : Str → Option Value} {base : Heap} {T : TT0}
def spTabOf (K : PySem.W.Frag) (T : TT0) : Sp := fun vs H Q _ => ∃ (h : Int) (a : Addr) (ts : List (Int × Int × Int)), vs = [.int h, .ref a] ∧ SeenAt K H a ts ∧ ts.length ≤ 1000 ∧ GIn 8 (gOf ts) ∧ 0 ≤ h ∧ h < 8 ∧ Tabs T H ∧
  ∀ (D : Addr) (lt : List (Int × Addr)) (S : PF) (Fn : FF) (H' : Hp), Ex T no H H' → TR H' D lt S Fn → Fix (gOf ts) h S → Firsts (gOf ts) h S Fn → Fresh H D → Q (.ref D) H'
theorem scO : FnScope ["house", "seen"] ["house", "seen"] (defScope (top 6)) := ⟨rfl, rfl, rfl, by decide +kernel, rfl, by decide +kernel, by decide +kernel⟩
theorem fresh_tr {D : Addr → Prop} {H H1 : Hp} {d : Addr} (e : Ex T no H H1) (f : Fresh H1 d) : Fresh H d := e.fresh f (fun z => z)
theorem ok_tabOf {f f1 f2 : Addr} {fd fd1 fd2 : FuncData} (F : FnP K "table_of" "table_of" (top 6) f fd) (C1 : Cal P w K mg base CX0 "ties_from" 1 f1 fd1 ["seen"] (spTies K T)) (C2 : Cal P w K mg base CX0 "table_by" 5 f2 fd2 ["house", "lines"] (spTabBy T)) : FnOk P w K mg base CX0 6 f fd ["house", "seen"] (spTabOf K T) := by
  refine F.ok scO (fun vs H Q E h => ?_) (fun cdv A outer s H vs Q E hr h => ?_)
  · obtain ⟨h, a, ts, rfl, _⟩ := h
    rfl
  · obtain ⟨h, a, ts, rfl, hS, hlen, hG, h0, h8, hT, k⟩ := h
    refine ⟨_, PSs.nox (pss_one (ps_ret (pe_call C2.ok hr (by rfl) C2.mg C2.kp C2.b .nil pass0 (pa_cons (pv 0) (pa_cons (pe_call C1.ok (hr.mono (by decide)) (by rfl) C1.mg C1.kp C1.b .nil pass0 (pa_cons (pv 1) pa_nil)) pa_nil))))), ?_⟩
    refine ⟨_, rfl, _, rfl, a, ts, rfl, hS, hlen, hT, fun L ol H1 e1 l1 fL fq _ => ?_⟩
    refine ⟨h, L, ol, gOf ts, rfl, l1, hG, h0, h8, e1.tb, fun D lt S Fn H2 e2 t2 fx fi fD => ?_⟩
    exact k D lt S Fn H2 (e1.tr e2) t2 fx fi (e1.fresh fD (fun z => z))
def spOver (K : PySem.W.Frag) (T : TT0) : Sp := fun vs H Q _ => ∃ (h t u v c : Int) (a p : Addr) (ts : List (Int × Int × Int)), vs = [.int h, .ref a, .int t, .ref p] ∧ SeenAt K H a ts ∧ ts.length ≤ 1000 ∧ GIn 8 (gOf ts) ∧ 0 ≤ h ∧ h < 8 ∧ H p = some (.tup [.int u, .int v]) ∧ gOf ts u v = some c ∧ Tabs T H ∧
  ∀ (b : Bool) (H' : Hp), Ex T no H H' → (∀ S B, Fix (gOf ts) h S → Fix (gOf ts) v B → (b = true ↔ Over S B u c t)) → Q (.bl b) H'
theorem scG : FnScope ["house", "seen", "target", "tie", "lines", "one", "other", "there", "back"] ["house", "seen", "target", "tie"] (defScope (top 7)) := ⟨rfl, rfl, rfl, by decide +kernel, rfl, by decide +kernel, by decide +kernel⟩
theorem ok_over {f f1 f2 : Addr} {fd fd1 fd2 : FuncData} (F : FnP K "goes_over" "goes_over" (top 7) f fd) (C1 : Cal P w K mg base CX0 "ties_from" 1 f1 fd1 ["seen"] (spTies K T)) (C2 : Cal P w K mg base CX0 "sums_from" 4 f2 fd2 ["house", "lines"] (spSums T)) : FnOk P w K mg base CX0 5 f fd ["house", "seen", "target", "tie"] (spOver K T) := by
  refine F.ok scG (fun vs H Q E h => ?_) (fun cdv A outer s H vs Q E hr h => ?_)
  · obtain ⟨h, t, u, v, c, a, p, ts, rfl, _⟩ := h
    rfl
  · obtain ⟨h, t, u, v, c, a, p, ts, rfl, hS, hlen, hG, h0, h8, hp, huv, hT, k⟩ := h
    have hu := hu_of hr
    refine ⟨_, PSs.nox (pss_cons (ps_set (i := 4) scG.nd rfl (Or.inl rfl) (pe_call C1.ok (hr.mono (by decide)) (by rfl) C1.mg C1.kp C1.b .nil pass0 (pa_cons (pv 1) pa_nil)))
      (pss_cons (ps_asg (pv 3) (pg_tup rfl (pgs_cons (pg_name (i := 5) scG.nd rfl (Or.inl rfl)) (pgs_cons (pg_name (i := 6) scG.nd rfl (Or.inl rfl)) pgs_nil))))
      (pss_cons (ps_if (pt_cmp (pc_dnotin hu (pv 6) (pe_dget2 hu (pv 4) (pv 5) pe_dnewK ⟨rfl, rfl, rfl, rfl⟩))) (pss_one (ps_ret pe_bl)) pss_nil)
      (pss_cons (ps_set (i := 7) scG.nd rfl (Or.inl rfl) (pe_call C2.ok hr (by rfl) C2.mg C2.kp C2.b .nil pass0 (pa_cons (pv 0) (pa_cons (pv 4) pa_nil))))
      (pss_cons (ps_set (i := 8) scG.nd rfl (Or.inl rfl) (pe_call C2.ok hr (by rfl) C2.mg C2.kp C2.b .nil pass0 (pa_cons (pv 6) (pa_cons (pv 4) pa_nil))))
      (pss_cons (ps_if (PW.pt (pw_or (pt_cmp (pc_dnotin hu (pv 5) (pv 7))) (pw_or1 (pt_cmp (pc_dnotin hu (pv 2) (pv 8)))))) (pss_one (ps_ret pe_bl)) pss_nil)
      (pss_one (ps_ret (pe_cmpR op_eq (pe_op op_add (pe_op op_add (pe_dget hu (pv 7) (pv 5) (fun _ _ => rfl)) (pe_dget hu (pe_dget hu (pv 4) (pv 5) (fun _ _ => rfl)) (pv 6) (fun _ _ => rfl))) (pe_dget hu (pv 8) (pv 2) (fun _ _ => rfl))) (pe_dget hu (pv 7) (pv 2) (fun _ _ => rfl)) (nomark _)))))))))), ?_⟩
    obtain ⟨_, _, v0, v8, _⟩ := hG _ _ _ huv
    refine ⟨_, rfl, a, ts, rfl, hS, hlen, hT, fun L ol H1 e1 l1 fL fq _ => ?_⟩
    refine ⟨_, rfl, p, _, rfl, SqT.of (e1.at_ hp trivial), rfl, _, _, rfl, _, _, rfl, rfl, ?_⟩
    refine ⟨_, rfl, ?_⟩
    refine rd_get (T := T) l1 e1.tb (fun Q' q => ⟨_, rfl, q⟩) (fun Q' q => ⟨_, rfl, q⟩) fun q r il hq eq hr' ndl hil => ?_
    refine ⟨r, _, rfl, DGet.m (k := v) (Rd.of hr'), _, rfl, ?_⟩
    rw [hil, huv]
    refine iteF ?_
    have e2 := e1.tr eq
    have l2 := l1.ex eq (fun z => z) fun _ _ _ z => z
    clear hr' hq eq l1
    generalize upd H1 q (.dK []) = H2 at e2 l2
    refine ⟨_, rfl, _, rfl, h, L, ol, gOf ts, rfl, l2, hG, h0, h8, e2.tb, fun S ls H3 e3 hS3 nd fx fS => ?_⟩
    have l3 := l2.ex e3 (fun z => z) fun _ _ _ z => z
    refine ⟨_, rfl, _, rfl, v, L, ol, gOf ts, rfl, l3, hG, v0, v8, e3.tb, fun B lb H4 e4 hB4 ndb fxb fB => ?_⟩
    have l4 := l3.ex e4 (fun z => z) fun _ _ _ z => z
    have hS4 := e4.at_ hS3 trivial
    have e5 := (e2.tr e3).tr e4
    have gs : ∀ b, DGet H4 S (.int b) ((lk ls b).map V.int) := fun b => DGet.m (Rd.of hS4)
    have gb : ∀ b, DGet H4 B (.int b) ((lk lb b).map V.int) := fun b => DGet.m (Rd.of hB4)
    have un : ∀ b, (∀ x y z, lk ls u = some x → lk lb t = some y → lk ls t = some z → (b = true ↔ x + c + y = z)) → ((lk ls u = none ∨ lk lb t = none) → b = false) → ∀ S B, Fix (gOf ts) h S → Fix (gOf ts) v B → (b = true ↔ Over S B u c t) := fun b k1 k2 S' B' fS' fB' => by
      rw [Fix.uniq hG fS' fx, Fix.uniq hG fB' fxb]
      constructor
      · intro hb
        cases q1 : lk ls u with
        | none => rw [k2 (.inl q1)] at hb; cases hb
        | some x =>
          cases q2 : lk lb t with
          | none => rw [k2 (.inr q2)] at hb; cases hb
          | some y =>
            obtain ⟨z, q3⟩ := reach hG fx fxb huv q1 q2
            exact ⟨x, y, z, q1, q2, q3, (k1 x y z q1 q2 q3).mp hb⟩
      · rintro ⟨x, y, z, q1, q2, q3, q4⟩
        exact (k1 x y z q1 q2 q3).mpr q4
    refine ⟨_, rfl, _, rfl, S, _, rfl, gs u, _, rfl, ?_⟩
    cases q1 : lk ls u with
    | none =>
      refine iteT ?_
      refine k false H4 e5 (un _ (fun x y z r => ?_) fun _ => rfl)
      rw [q1] at r; cases r
    | some x =>
      refine iteF ?_
      refine ⟨_, rfl, _, rfl, B, _, rfl, gb t, _, rfl, ?_⟩
      cases q2 : lk lb t with
      | none =>
        refine iteT ?_
        refine k false H4 e5 (un _ (fun x y z _ r => ?_) fun _ => rfl)
        rw [q2] at r; cases r
      | some y =>
        refine iteF ?_
        obtain ⟨z, q3⟩ := reach hG fx fxb huv q1 q2
        have g1 := gs u
        rw [q1] at g1
        have g2 := gb t
        rw [q2] at g2
        have g3 := gs t
        rw [q3] at g3
        obtain ⟨r0, hr0⟩ : ∃ r0, lk ol u = some r0 := by
          cases q0 : lk ol u with
          | none => have := l4.non u q0 v; rw [huv] at this; cases this
          | some r0 => exact ⟨r0, rfl⟩
        obtain ⟨il0, i1, i2, i3⟩ := l4.inn u r0 hr0
        have g4 := DGet.m (f := V.ref) (k := u) (Rd.of l4.out)
        rw [hr0] at g4
        have g5 := DGet.m (f := V.int) (k := v) (Rd.of i1)
        rw [i3, huv] at g5
        refine ⟨_, rfl, _, rfl, S, _, rfl, g1, _, rfl, _, rfl, L, _, rfl, g4, _, rfl, r0, _, rfl, g5, _, _, rfl, rfl, _, rfl, _, rfl, B, _, rfl, g2, _, _, rfl, rfl, _, rfl, _, rfl, S, _, rfl, g3, rfl, ?_⟩
        refine k _ H4 e5 (un _ (fun x' y' z' r1 r2 r3 => ?_) fun r => ?_)
        · rw [q1] at r1; rw [q2] at r2; rw [q3] at r3
          cases r1; cases r2; cases r3
          rw [decide_eq_true_iff]
          constructor
          · intro e; injection e
          · exact fun e => congrArg V.int e
        · rcases r with r | r
          · rw [q1] at r; cases r
          · rw [q2] at r; cases r
end
end WyP

set_option Elab.async false
set_option linter.all false
set_option maxRecDepth 100000
set_option maxHeartbeats 4000000
/-! is_whole, is_house, is_price, is_road, look_at_seen -/
namespace WyP
open PySem PySem.Spec PyProof.Rows L2 LamX Wy WyL WyH
section
variable {P : Program} {w : World} {K : PySem.W.Frag} {mg : Str → Option Value} {base : Heap} {T : TT0}
def spWhole : Sp := fun vs H Q _ => ∃ i : Int, vs = [.int i] ∧ Q (.bl true) H
def spHouse : Sp := fun vs H Q _ => ∃ m i : Int, vs = [.int m, .int i] ∧ 0 ≤ i ∧ i < m ∧ Q (.bl true) H
def spPrice : Sp := fun vs H Q _ => ∃ i : Int, vs = [.int i] ∧ 1 ≤ i ∧ i ≤ 99 ∧ Q (.bl true) H
def spRoad : Sp := fun vs H Q _ => ∃ a b : Int, vs = [.int a, .int b] ∧ 0 ≤ a ∧ a < 8 ∧ 0 ≤ b ∧ b < 8 ∧ a ≠ b ∧ Q (.bl true) H
theorem scWh : FnScope ["thing"] ["thing"] (defScope (top 14)) := ⟨rfl, rfl, rfl, by decide +kernel, rfl, by decide +kernel, by decide +kernel⟩
theorem scHo : FnScope ["many", "thing"] ["many", "thing"] (defScope (top 15)) := ⟨rfl, rfl, rfl, by decide +kernel, rfl, by decide +kernel, by decide +kernel⟩
theorem scPr : FnScope ["thing"] ["thing"] (defScope (top 16)) := ⟨rfl, rfl, rfl, by decide +kernel, rfl, by decide +kernel, by decide +kernel⟩
theorem scRo : FnScope ["one", "other"] ["one", "other"] (defScope (top 18)) := ⟨rfl, rfl, rfl, by decide +kernel, rfl, by decide +kernel, by decide +kernel⟩
theorem ok_whole {f : Addr} {fd : FuncData} (F : FnP K "is_whole" "is_whole" (top 14) f fd) (gi : mg "isinstance" = none) (gn : mg "int" = none) (gb : mg "bool" = none) : FnOk P w K mg base CX0 1 f fd ["thing"] spWhole := by
  refine F.ok scWh (fun vs H Q E h => ?_) (fun cdv A outer s H vs Q E hr h => ?_)
  · obtain ⟨i, rfl, _⟩ := h
    rfl
  · obtain ⟨i, rfl, k⟩ := h
    refine ⟨_, PSs.nox (pss_one (ps_ret (pe_and (pe_callB call_isi (by rfl) gi boot_isinstance (pa_cons (pv 0) (pa_cons (pe_bltn (v := .ty "int") (by rfl) gn boot_int rfl) pa_nil))) (pe_one (pe_not (pe_callB call_isi (by rfl) gi boot_isinstance (pa_cons (pv 0) (pa_cons (pe_bltn (v := .ty "bool") (by rfl) gb boot_bool rfl) pa_nil)))))))), ?_⟩
    refine ⟨_, rfl, _, _, _, _, true, rfl, .ty "int", .base (.int i), kit_ty (by decide +kernel), true, rfl, iteT ?_⟩
    exact ⟨_, rfl, _, _, _, _, false, rfl, .ty "bool", .base (.int i), kit_ty (by decide +kernel), false, rfl, k⟩
theorem ok_house {f f1 : Addr} {fd fd1 : FuncData} (F : FnP K "is_house" "is_house" (top 15) f fd) (C1 : Cal P w K mg base CX0 "is_whole" 1 f1 fd1 ["thing"] spWhole) : FnOk P w K mg base CX0 2 f fd ["many", "thing"] spHouse := by
  refine F.ok scHo (fun vs H Q E h => ?_) (fun cdv A outer s H vs Q E hr h => ?_)
  · obtain ⟨m, i, rfl, _⟩ := h
    rfl
  · obtain ⟨m, i, rfl, i0, im, k⟩ := h
    refine ⟨_, PSs.nox (pss_one (ps_ret (pe_and (pe_call C1.ok hr (by rfl) C1.mg C1.kp C1.b .nil pass0 (pa_cons (pv 1) pa_nil)) (pe_one (pe_chain op_le op_lt pe_int (pv 1) (pv 0)))))), ?_⟩
    refine ⟨_, rfl, i, rfl, true, rfl, iteT ⟨_, rfl, _, _, rfl, rfl, _, rfl, ?_⟩⟩
    refine iteTe (decide_eq_true i0) ⟨_, rfl, _, _, rfl, rfl, ?_⟩
    show Q (V.bl (decide (i < m))) H
    rw [decide_eq_true im]
    exact k
theorem ok_price {f f1 : Addr} {fd fd1 : FuncData} (F : FnP K "is_price" "is_price" (top 16) f fd) (C1 : Cal P w K mg base CX0 "is_whole" 1 f1 fd1 ["thing"] spWhole) {t : Tok} (gm : mg "MOST_PRICE" = some (.int 99 t)) : FnOk P w K mg base CX0 2 f fd ["thing"] spPrice := by
  refine F.ok scPr (fun vs H Q E h => ?_) (fun cdv A outer s H vs Q E hr h => ?_)
  · obtain ⟨i, rfl, _⟩ := h
    rfl
  · obtain ⟨i, rfl, i0, im, k⟩ := h
    refine ⟨_, PSs.nox (pss_one (ps_ret (pe_and (pe_call C1.ok hr (by rfl) C1.mg C1.kp C1.b .nil pass0 (pa_cons (pv 0) pa_nil)) (pe_one (pe_chain op_le op_le pe_int (pv 0) (pe_glob (v := .int 99) (by rfl) gm ⟨_, rfl⟩)))))), ?_⟩
    refine ⟨_, rfl, i, rfl, true, rfl, iteT ⟨_, rfl, _, _, rfl, rfl, _, rfl, ?_⟩⟩
    refine iteTe (decide_eq_true i0) ⟨_, _, rfl, rfl, ?_⟩
    show Q (V.bl (decide (i ≤ 99))) H
    rw [decide_eq_true im]
    exact k
theorem ok_road {f f1 : Addr} {fd fd1 : FuncData} (F : FnP K "is_road" "is_road" (top 18) f fd) (C1 : Cal P w K mg base CX0 "is_house" 2 f1 fd1 ["many", "thing"] spHouse) {t : Tok} (gm : mg "MOST_HOUSES" = some (.int 8 t)) : FnOk P w K mg base CX0 3 f fd ["one", "other"] spRoad := by
  refine F.ok scRo (fun vs H Q E h => ?_) (fun cdv A outer s H vs Q E hr h => ?_)
  · obtain ⟨a, b, rfl, _⟩ := h
    rfl
  · obtain ⟨a, b, rfl, a0, a8, b0, b8, ne, k⟩ := h
    refine ⟨_, PSs.nox (pss_one (ps_ret (pe_and (pe_call C1.ok hr (by rfl) C1.mg C1.kp C1.b .nil pass0 (pa_cons (pe_glob (v := .int 8) (by rfl) gm ⟨_, rfl⟩) (pa_cons (pv 0) pa_nil))) (pe_and (pe_call C1.ok hr (by rfl) C1.mg C1.kp C1.b .nil pass0 (pa_cons (pe_glob (v := .int 8) (by rfl) gm ⟨_, rfl⟩) (pa_cons (pv 1) pa_nil))) (pe_one (pe_cmpR op_ne (pv 0) (pv 1) (nomark _))))))), ?_⟩
    refine ⟨_, rfl, 8, a, rfl, a0, a8, true, rfl, iteT ⟨_, rfl, 8, b, rfl, b0, b8, true, rfl, iteT ⟨_, rfl, _, rfl, rfl, ?_⟩⟩⟩
    have e : (!decide (V.int a = V.int b)) = true := by simp [ne]
    rw [e]
    exact k
end
end WyP

set_option Elab.async false
set_option linter.all false
set_option maxRecDepth 100000
set_option maxHeartbeats 4000000
/-! look_at_seen -/
namespace WyP
open PySem PySem.Spec PyProof.Rows L2 LamX Wy WyL WyH
abbrev Tr3 := Int × Int × Int
/-- a tracked list of tuples of three ints -/
structure SeenL (H : Hp) (a : Addr) (ps : List Addr) (ts : List Tr3) : Prop where
  out : H a = some (.lst (ps.map V.ref))
  inn : Paired (fun p (t : Tr3) => H p = some (.tup [.int t.1, .int t.2.1, .int t.2.2])) ps ts
theorem SeenL.at_ {K : PySem.W.Frag} {H : Hp} {a : Addr} {ps : List Addr} {ts : List Tr3} (l : SeenL H a ps ts) : SeenAt K H a ts := ⟨ps, .inl (.inl l.out), l.inn⟩
theorem SeenL.ex {T : TT0} {D : Addr → Prop} {H H' : Hp} {a : Addr} {ps : List Addr} {ts : List Tr3} (l : SeenL H a ps ts) (e : Ex T D H H') (nd : ¬ D a) (nt : ∀ b xs, D b → H b ≠ some (.tup xs)) : SeenL H' a ps ts :=
  ⟨e.atD l.out nd trivial, Paired.imp (fun p t q => e.atD q (fun z => nt p _ z q) trivial) l.inn⟩
/-- ties as the statement asks -/
structure TsOk (ts : List Tr3) : Prop where
  each : ∀ t ∈ ts, 0 ≤ t.1 ∧ t.1 < 8 ∧ 0 ≤ t.2.1 ∧ t.2.1 < 8 ∧ t.1 ≠ t.2.1 ∧ 1 ≤ t.2.2 ∧ t.2.2 ≤ 99
  nd : (ts.map fun t => (t.1, t.2.1)).Nodup
def tKs (ts : List Tr3) : List (List Key × V) := ts.map fun t => ([(Sum.inl t.1 : Key), Sum.inl t.2.1], V.bl true)
theorem tKs_none {ts : List Tr3} {x y : Int} (h : (x, y) ∉ ts.map fun t => (t.1, t.2.1)) : valV (tKs ts) ([Sum.inl x, Sum.inl y] : List Key) = none ∧ putK (tKs ts) ([Sum.inl x, Sum.inl y] : List Key) (V.bl true) = tKs ts ++ [([Sum.inl x, Sum.inl y], V.bl true)] := by
  have e : ∀ kv ∈ tKs ts, ¬ kv.1 = ([Sum.inl x, Sum.inl y] : List Key) := fun kv m z => by
    obtain ⟨t, ht, rfl⟩ := List.mem_map.mp m
    injection z with z1 z2
    injection z2 with z2 _
    have z1 := Sum.inl.inj z1
    have z2 := Sum.inl.inj z2
    exact h (List.mem_map.mpr ⟨t, ht, by rw [z1, z2]⟩)
  constructor
  · unfold valV
    rw [List.find?_eq_none.mpr fun kv m z => e kv m (of_decide_eq_true z)]
    rfl
  · unfold putK
    rw [if_neg]
    intro z
    obtain ⟨kv, m, q⟩ := List.any_eq_true.mp z
    exact e kv m (of_decide_eq_true q)
section
variable {P : Program} {w : World} {K : PySem.W.Frag} {mg : Str → Option Value} {base : Heap} {T : TT0}
def spLook (T : TT0) : Sp := fun vs H Q _ => ∃ (a : Addr) (ps : List Addr) (ts : List Tr3), vs = [.ref a] ∧ SeenL H a ps ts ∧ ts.length ≤ 900 ∧ TsOk ts ∧ Tabs T H ∧ ∀ H', Ex T no H H' → Q .non H'
theorem scL : FnScope ["thing", "told", "tie"] ["thing"] (defScope (top 19)) := ⟨rfl, rfl, rfl, by decide +kernel, rfl, by decide +kernel, by decide +kernel⟩
theorem ok_look {f f1 f2 : Addr} {fd fd1 fd2 : FuncData} (F : FnP K "look_at_seen" "look_at_seen" (top 19) f fd) (C1 : Cal P w K mg base CX0 "is_road" 3 f1 fd1 ["one", "other"] spRoad) (C2 : Cal P w K mg base CX0 "is_price" 2 f2 fd2 ["thing"] spPrice) (gi : mg "isinstance" = none) (gl : mg "list" = none) (gt : mg "tuple" = none) (gn : mg "len" = none) : FnOk P w K mg base CX0 4 f fd ["thing"] (spLook T) := by
  refine F.ok scL (fun vs H Q E h => ?_) (fun cdv A outer s H vs Q E hr h => ?_)
  · obtain ⟨a, ps, ts, rfl, _⟩ := h
    rfl
  · obtain ⟨a, ps, ts, rfl, hS, hlen, hok, hT, k⟩ := h
    have hu := hu_of hr
    refine ⟨_, PSs.nox (pss_cons (ps_if (pt_not (pt_val (pe_callB call_isi (by rfl) gi boot_isinstance (pa_cons (pv 0) (pa_cons (pe_bltn (v := .ty "list") (by rfl) gl boot_list rfl) pa_nil))))) pss_never pss_nil)
      (pss_cons (ps_set (i := 1) scL.nd rfl (Or.inl rfl) pe_dnewT)
      (pss_one (ps_for PassesOwn.never rfl (pi_list (pv 0)) (pg_name (i := 2) scL.nd rfl (Or.inl rfl))
        (pss_cons (ps_if (PW.pt (pw_or (pt_not (pt_val (pe_callB call_isi (by rfl) gi boot_isinstance (pa_cons (pv 2) (pa_cons (pe_bltn (v := .ty "tuple") (by rfl) gt boot_tuple rfl) pa_nil)))))
            (pw_or (pt_cmpR op_ne (pe_callB call_len_seq (by rfl) gn boot_len (pa_cons (pv 2) pa_nil)) pe_int (nomark _))
            (pw_or (pt_not (pt_val (pe_call C1.ok hr (by rfl) C1.mg C1.kp C1.b .nil pass0 (pa_cons (pe_ix ix_tup (pv 2) pe_int (fun _ _ => rfl)) (pa_cons (pe_ix ix_tup (pv 2) pe_int (fun _ _ => rfl)) pa_nil)))))
            (pw_or1 (pt_not (pt_val (pe_call C2.ok (hr.mono (by decide)) (by rfl) C2.mg C2.kp C2.b .nil pass0 (pa_cons (pe_ix ix_tup (pv 2) pe_int (fun _ _ => rfl)) pa_nil))))))))) pss_never pss_nil)
        (pss_cons (ps_if (pt_cmp (pc_din hu (pe_slice sl_tup (pv 2) po_none (po_some pe_int)) (pv 1))) pss_never pss_nil)
        (pss_one (ps_dput hu (pv 1) (pe_slice sl_tup (pv 2) po_none (po_some pe_int)) pe_bl rfl)))))))), ?_⟩
    refine ⟨_, rfl, _, _, _, _, true, rfl, .ty "list", .base (.lst hS.out), kit_ty (by decide +kernel), true, rfl, ?_⟩
    refine iteF ?_
    intro D hD
    have e1 : Ex T no H (upd H D (.dT [])) := (Ex.refl hT).new hD
    have h1 : (upd H D (.dT [])) D = some (.dT []) := upd_same
    have fD : Fresh H D := .of hD
    clear hD
    generalize upd H D (.dT []) = H1 at e1 h1
    have hpl : ps.length = ts.length := Paired.length hS.inn
    refine ⟨_, rfl, a, rfl, ⟨_, .inl (.inl (e1.at_ hS.out trivial))⟩, for_list (K := K) (a := a) (xs := ps.map V.ref) (fun i σ H' => ∃ (v2 : Option V), σ = [some (.ref a), some (.ref D), v2] ∧ Ex T no H H' ∧ H' D = some (.dT (tKs (ts.take i))))
      ⟨_, rfl, e1, h1⟩ (fun i σ H' _ ⟨_, _, e, _⟩ => .inl (.inl (e.at_ hS.out trivial))) ?_ ?_⟩
    · rintro i y σ H2 hi ⟨v2, rfl, e2, h2⟩
      obtain ⟨p, hp, rfl⟩ := map_at hi
      obtain ⟨⟨x, y, c⟩, ht, htp⟩ := Paired.at_ hS.inn hp
      have hi2 : i < ts.length := (List.getElem?_eq_some_iff.mp ht).1
      have htp2 : H2 p = some (.tup [.int x, .int y, .int c]) := e2.at_ htp trivial
      obtain ⟨x0, x8, y0, y8, ne, c0, c9⟩ := hok.each _ (List.mem_of_getElem? ht)
      have hnot : (x, y) ∉ (ts.take i).map fun t => (t.1, t.2.1) := fun m => by
        have nd := hok.nd
        have e : ts = ts.take i ++ (x, y, c) :: ts.drop (i + 1) := by
          have e := List.drop_eq_getElem_cons hi2
          rw [(List.getElem?_eq_some_iff.mp ht).2] at e
          rw [← e, List.take_append_drop]
        rw [e, List.map_append, List.map_cons] at nd
        exact (List.nodup_append.mp nd).2.2 _ m _ List.mem_cons_self rfl
      obtain ⟨t1, t2⟩ := tKs_none hnot
      refine ⟨_, rfl, _, _, _, _, true, rfl, .ty "tuple", .base (.tup htp2), kit_ty (by decide +kernel), true, rfl, ?_⟩
      refine iteF ?_
      refine ⟨_, rfl, p, _, rfl, .inr (SqT.of htp2), rfl, _, rfl, ?_⟩
      refine iteF ?_
      refine ⟨_, rfl, p, _, _, _, rfl, rfl, SqT.of htp2, atI_nat (j := 0) rfl, _, rfl, p, _, _, _, rfl, rfl, SqT.of htp2, atI_nat (j := 1) rfl, x, y, rfl, x0, x8, y0, y8, ne, true, rfl, ?_⟩
      refine iteF ?_
      refine ⟨_, rfl, p, _, _, _, rfl, rfl, SqT.of htp2, atI_nat (j := 2) rfl, c, rfl, c0, c9, true, rfl, ?_⟩
      refine iteF ?_
      -- tie[:2] in told
      refine ⟨_, rfl, _, rfl, p, _, rfl, SqT.of htp2, by show ¬(HT.sIx 3 0 none = 0 ∧ HT.sIx 3 3 (some 2) = 3); decide, fun q hq => ?_⟩
      have hD3 : (upd H2 q (.tup (cutV [.int x, .int y, .int c] none (some 2)))) D = some (.dT (tKs (ts.take i))) := by rw [upd_ne (ne_of_none h2 hq)]; exact h2
      have g := DGet.t (b := q) (k := ([Sum.inl x, Sum.inl y] : List Key)) hD3 upd_same
      rw [t1] at g
      refine ⟨_, rfl, D, _, rfl, g, _, rfl, ?_⟩
      refine iteF ?_
      have e3 : Ex T no H (upd H2 q (.tup (cutV [.int x, .int y, .int c] none (some 2)))) := e2.new hq
      have htp3 : (upd H2 q (.tup (cutV [.int x, .int y, .int c] none (some 2)))) p = some (.tup [.int x, .int y, .int c]) := by rw [upd_ne (ne_of_none htp2 hq)]; exact htp2
      clear g h2 htp2 e2 hq
      generalize upd H2 q (.tup (cutV [.int x, .int y, .int c] none (some 2))) = H3 at hD3 e3 htp3
      refine ⟨_, rfl, _, rfl, _, rfl, p, _, rfl, SqT.of htp3, by show ¬(HT.sIx 3 0 none = 0 ∧ HT.sIx 3 3 (some 2) = 3); decide, fun q2 hq2 => ?_⟩
      have hD4 : (upd H3 q2 (.tup (cutV [.int x, .int y, .int c] none (some 2)))) D = some (.dT (tKs (ts.take i))) := by rw [upd_ne (ne_of_none hD3 hq2)]; exact hD3
      refine ⟨D, _, rfl, DPut.t (b := q2) (k := ([Sum.inl x, Sum.inl y] : List Key)) hD4 upd_same (small1000 (by unfold tKs; rw [List.length_map, List.length_take]; omega)), ?_⟩
      rw [t2]
      refine ⟨_, rfl, (e3.new hq2).wr (.inr fD) (fun u e => by rw [hD4] at e; cases e; trivial), ?_⟩
      rw [upd_same, List.take_add_one, ht]
      show some (HO.dT (tKs (ts.take i) ++ [_])) = some (HO.dT (tKs (ts.take i ++ [_])))
      unfold tKs
      rw [List.map_append]
      rfl
    · rintro σ H2 ⟨v2, rfl, e2, h2⟩
      exact k H2 e2
end
end WyP

set_option Elab.async false
set_option linter.all false
set_option maxRecDepth 100000
set_option maxHeartbeats 4000000
/-! Ways: what stands; price_now, is_least_step, put -/
namespace WyP
open PySem PySem.Spec PyProof.Rows L2 LamX Wy WyL WyH
/-- facts of the class -/
structure WC (K : PySem.W.Frag) (C : Addr) : Prop where
  cl : Cls K C
  nH : NoAttr K C "own_house"
  nL : NoAttr K C "own_lines"
  nS : NoAttr K C "own_sums"
  nF : NoAttr K C "own_firsts"
  nN : NoAttr K C "own_settings"
abbrev fsW (h n : Int) (L S F : Addr) : List (Str × V) := [("own_house", .int h), ("own_lines", .ref L), ("own_sums", .ref S), ("own_firsts", .ref F), ("own_settings", .int n)]
/-- an instance whose lines and sums are to be read -/
structure WR (C : Addr) (H : Hp) (p L S : Addr) (ol : List (Int × Addr)) (ls : List (Int × Int)) (G : Gr) : Prop where
  ins : ∃ dx h n F, H p = some (.ins C dx (fsW h n L S F))
  ln : LN H L ol G
  sm : Rd H S (dI ls)
theorem Rd.exD {T : TT0} {D : Addr → Prop} {H H' : Hp} {a : Addr} {u : HO} (h : Rd H a u) (e : Ex T D H H') (nd : ¬ D a) (p : Pl u) : Rd H' a u := by
  rcases h with h | ⟨o, h⟩
  · exact .inl (e.atD h nd p)
  · exact .inr ⟨o, e.atD h nd trivial⟩
theorem WR.ex {T : TT0} {C : Addr} {H H' : Hp} {p L S : Addr} {ol : List (Int × Addr)} {ls : List (Int × Int)} {G : Gr} (l : WR C H p L S ol ls G) (e : Ex T no H H') : WR C H' p L S ol ls G := by
  obtain ⟨dx, h, n, F, i⟩ := l.ins
  exact ⟨⟨dx, h, n, F, e.at_ i trivial⟩, l.ln.ex e (fun z => z) fun _ _ _ z => z, Rd.exD l.sm e (fun z => z) trivial⟩
def pO (o : Option Int) : V := (o.map V.int).getD .non
def stepB (G : Gr) (S : PF) (a b : Int) : Bool := match G a b, S a, S b with
  | some p, some x, some y => decide (x + p = y)
  | _, _, _ => false
theorem stepB_iff {G : Gr} {S : PF} {a b : Int} : stepB G S a b = true ↔ Wy.Step G S a b := by
  unfold stepB Wy.Step
  constructor
  · intro h
    cases q1 : G a b with
    | none => rw [q1] at h; cases h
    | some p =>
      cases q2 : S a with
      | none => rw [q1, q2] at h; cases h
      | some x =>
        cases q3 : S b with
        | none => rw [q1, q2, q3] at h; cases h
        | some y =>
          rw [q1, q2, q3] at h
          exact ⟨x, p, y, rfl, rfl, rfl, of_decide_eq_true h⟩
  · rintro ⟨x, p, y, h1, h2, h3, h4⟩
    rw [h1, h2, h3]
    exact decide_eq_true h4
section
variable {P : Program} {w : World} {K : PySem.W.Frag} {mg : Str → Option Value} {base : Heap} {T : TT0} {C : Addr}
def spNow (C : Addr) (T : TT0) : Sp := fun vs H Q _ => ∃ (p L S : Addr) (ol : List (Int × Addr)) (ls : List (Int × Int)) (G : Gr) (a b : Int), vs = [.ref p, .int a, .int b] ∧ WR C H p L S ol ls G ∧ Tabs T H ∧ ∀ H', Ex T no H H' → Q (pO (G a b)) H'
def spStep (C : Addr) (T : TT0) : Sp := fun vs H Q _ => ∃ (p L S : Addr) (ol : List (Int × Addr)) (ls : List (Int × Int)) (G : Gr) (a b : Int), vs = [.ref p, .int a, .int b] ∧ WR C H p L S ol ls G ∧ Tabs T H ∧ ∀ H', Ex T no H H' → Q (.bl (stepB G (lk ls) a b)) H'
theorem scN : FnScope ["self", "one", "other"] ["self", "one", "other"] (defScope (cW 1)) := ⟨rfl, rfl, rfl, by decide +kernel, rfl, by decide +kernel, by decide +kernel⟩
theorem scI : FnScope ["self", "one", "other", "price"] ["self", "one", "other"] (defScope (cW 2)) := ⟨rfl, rfl, rfl, by decide +kernel, rfl, by decide +kernel, by decide +kernel⟩
theorem ok_now {f : Addr} {fd : FuncData} (F : FnP K "price_now" "Ways.price_now" (cW 1) f fd) (wc : WC K C) : FnOk P w K mg base CX0 1 f fd ["self", "one", "other"] (spNow C T) := by
  refine F.ok scN (fun vs H Q E h => ?_) (fun cdv A outer s H vs Q E hr h => ?_)
  · obtain ⟨p, L, S, ol, ls, G, a, b, rfl, _⟩ := h
    rfl
  · obtain ⟨p, L, S, ol, ls, G, a, b, rfl, l0, hT, k⟩ := h
    have hu := hu_of hr
    refine ⟨_, PSs.nox (pss_one (ps_ret (pe_dget1 hu (pe_dget2 hu (pe_fld (pv 0) rfl) (pv 1) pe_dnewK ⟨rfl, rfl, rfl, rfl⟩) (pv 2) ⟨rfl, rfl, rfl, rfl⟩))), ?_⟩
    obtain ⟨dx, h, n, F, hi⟩ := l0.ins
    unfold tRet tDGet1
    refine rd_get (T := T) l0.ln hT (fun Q' q => ⟨_, rfl, p, C, dx, _, _, rfl, hi, wc.cl, wc.nL, rfl, q⟩) (fun Q' q => ⟨_, rfl, q⟩) fun q r il hq eq hr' ndl hil => ?_
    refine ⟨r, rfl, .inl ⟨_, Rd.of hr'⟩, _, rfl, _, DGet.m (k := b) (Rd.of hr'), ?_⟩
    rw [hil]
    exact k _ eq
theorem ok_step {f f1 : Addr} {fd fd1 : FuncData} (F : FnP K "is_least_step" "Ways.is_least_step" (cW 2) f fd) (wc : WC K C) (m1 : Meth K C "price_now" f1) (C1 : FnOk P w K mg base CX0 1 f1 fd1 ["self", "one", "other"] (spNow C T)) (b1 : L2.Binds K fd1 ["self", "one", "other"] []) : FnOk P w K mg base CX0 2 f fd ["self", "one", "other"] (spStep C T) := by
  refine F.ok scI (fun vs H Q E h => ?_) (fun cdv A outer s H vs Q E hr h => ?_)
  · obtain ⟨p, L, S, ol, ls, G, a, b, rfl, _⟩ := h
    rfl
  · obtain ⟨p, L, S, ol, ls, G, a, b, rfl, l0, hT, k⟩ := h
    have hu := hu_of hr
    refine ⟨_, PSs.nox (pss_cons (ps_set (i := 3) scI.nd rfl (Or.inl rfl) (pe_meth (pv 0) wc.cl m1 C1 hr b1 .nil pass0 (pa_cons (pv 1) (pa_cons (pv 2) pa_nil))))
      (pss_cons (ps_if (PW.pt (pw_or (pt_cmp (pc_isN (pv 3))) (pw_or (pt_cmp (pc_dnotin hu (pv 1) (pe_fld (pv 0) rfl))) (pw_or1 (pt_cmp (pc_dnotin hu (pv 2) (pe_fld (pv 0) rfl))))))) (pss_one (ps_ret pe_bl)) pss_nil)
      (pss_one (ps_ret (pe_cmpR op_eq (pe_op op_add (pe_dget hu (pe_fld (pv 0) rfl) (pv 1) (fun _ _ => rfl)) (pv 3)) (pe_dget hu (pe_fld (pv 0) rfl) (pv 2) (fun _ _ => rfl)) (nomark _)))))), ?_⟩
    obtain ⟨dx, h, n, F, hi⟩ := l0.ins
    refine ⟨_, rfl, p, dx, _, rfl, hi, rfl, _, rfl, _, rfl, p, L, S, ol, ls, G, a, b, rfl, l0, hT, fun H1 e1 => ?_⟩
    have hi1 := e1.at_ hi trivial
    have hS := Rd.exD l0.sm e1 (fun z => z) trivial
    have gs : ∀ b, DGet H1 S (.int b) ((lk ls b).map V.int) := fun b => DGet.m hS
    have kk : ∀ b', stepB G (lk ls) a b = b' → Q (.bl b') H1 := fun b' e => by rw [← e]; exact k H1 e1
    clear k
    cases q1 : G a b with
    | none =>
      refine ⟨_, rfl, true, rfl, iteT ?_⟩
      exact kk false (by unfold stepB; rw [q1])
    | some c =>
      refine ⟨_, rfl, false, rfl, iteF ?_⟩
      refine ⟨_, rfl, _, rfl, p, C, dx, _, _, rfl, hi1, wc.cl, wc.nS, rfl, S, _, rfl, gs a, _, rfl, ?_⟩
      cases q2 : lk ls a with
      | none =>
        refine iteT ?_
        exact kk false (by unfold stepB; rw [q1, q2])
      | some x =>
        refine iteF ?_
        refine ⟨_, rfl, _, rfl, p, C, dx, _, _, rfl, hi1, wc.cl, wc.nS, rfl, S, _, rfl, gs b, _, rfl, ?_⟩
        cases q3 : lk ls b with
        | none =>
          refine iteT ?_
          exact kk false (by unfold stepB; rw [q1, q2, q3])
        | some y =>
          refine iteF ?_
          have g1 := gs a
          rw [q2] at g1
          have g2 := gs b
          rw [q3] at g2
          refine ⟨_, rfl, p, C, dx, _, _, rfl, hi1, wc.cl, wc.nS, rfl, _, rfl, S, _, rfl, g1, _, rfl, _, _, rfl, rfl, _, rfl, p, C, dx, _, _, rfl, hi1, wc.cl, wc.nS, rfl, _, rfl, S, _, rfl, g2, rfl, ?_⟩
          refine kk _ ?_
          unfold stepB
          rw [q1, q2, q3]
          show decide (x + c = y) = decide (V.int (x + c) = V.int y)
          by_cases e : x + c = y
          · simp [e]
          · simp [e]
end
end WyP

set_option Elab.async false
set_option linter.all false
set_option maxRecDepth 100000
set_option maxHeartbeats 4000000
/-! Ways.put, Ways.table -/
namespace WyP
open PySem PySem.Spec PyProof.Rows L2 LamX Wy WyL WyH
theorem LN.set {T : TT0} {H H' : Hp} {L q : Addr} {ol : List (Int × Addr)} {G : Gr} {x y : Int} {v : Option Int} {il : List (Int × Int)} (l : LN H L ol G) (hq : lk ol x = some q) (e : Ex T (fun z => z = q) H H') (hn : H' q = some (dI il)) (nd : (ks il).Nodup) (hl : lk il = up (G x) y v) : LN H' L ol (up2 G x y v) := by
  refine ⟨e.atD l.out (fun z => l.neL hq z.symm) trivial, l.nd, fun a ha b => ?_, fun a q' ha => ?_, l.inj⟩
  · unfold up2
    by_cases z : a = x ∧ b = y
    · rw [z.1, hq] at ha; cases ha
    · rw [if_neg z]; exact l.non a ha b
  · by_cases z : a = x
    · subst z
      rw [hq] at ha; cases ha
      refine ⟨_, hn, nd, fun b => ?_⟩
      rw [hl]
      unfold up up2
      by_cases z : b = y
      · rw [if_pos z, if_pos ⟨rfl, z⟩]
      · rw [if_neg z, if_neg (fun w => z w.2)]
    · obtain ⟨il2, s1, s2, s3⟩ := l.inn a q' ha
      refine ⟨il2, e.atD s1 (fun w => z (l.inj _ _ _ (w ▸ ha) hq)) trivial, s2, fun b => ?_⟩
      unfold up2
      rw [if_neg (fun w => z w.1)]
      exact s3 b
/-- lines.get(a, {}) where a has a line -/
theorem rd_get2 {T : TT0} {to ty : TE} {σ : L2.St} {H : Hp} {Q : VK} {L r : Addr} {ol : List (Int × Addr)} {G : Gr} {n : Int} (l : LN H L ol G) (hT : Tabs T H) (hr : lk ol n = some r) (ho : ∀ Q' : VK, Q' (.ref L) H → to σ H Q') (hy : ∀ Q' : VK, Q' (.int n) H → ty σ H Q')
    (k : ∀ (q : Addr), H q = none → Ex T no H (upd H q (.dK [])) → Q (.ref r) (upd H q (.dK []))) : tDGet2 to ty (fun (σ : L2.St) (H : Hp) (Q : VK) => ∀ d, H d = none → Q (.ref d) (upd H d (.dK []))) σ H Q := by
  refine ho _ ⟨L, rfl, .inl ⟨_, Rd.of l.out⟩, hy _ fun q hq => ?_⟩
  have nLq : L ≠ q := ne_of_none l.out hq
  have g := DGet.m (f := V.ref) (k := n) (Rd.of (show (upd H q (.dK [])) L = some (.dK (mkE V.ref ol)) by rw [upd_ne nLq]; exact l.out))
  rw [hr] at g
  exact ⟨_, g, k q hq ((Ex.refl hT).new hq)⟩
section
variable {P : Program} {w : World} {K : PySem.W.Frag} {mg : Str → Option Value} {base : Heap} {T : TT0} {C : Addr}
def spPut (C : Addr) (T : TT0) : Sp := fun vs H Q _ => ∃ (p L S q : Addr) (ol : List (Int × Addr)) (ls : List (Int × Int)) (G : Gr) (a b : Int) (c : Option Int), vs = [.ref p, .int a, .int b, pO c] ∧ WR C H p L S ol ls G ∧ GIn 8 G ∧ lk ol a = some q ∧ ol.length ≤ 900 ∧ Tabs T H ∧ ∀ H', Ex T (fun z => z = q) H H' → LN H' L ol (up2 G a b c) → Q .non H'
theorem scPt : FnScope ["self", "one", "other", "price"] ["self", "one", "other", "price"] (defScope (cW 5)) := ⟨rfl, rfl, rfl, by decide +kernel, rfl, by decide +kernel, by decide +kernel⟩
theorem ok_put {f : Addr} {fd : FuncData} (F : FnP K "put" "Ways.put" (cW 5) f fd) (wc : WC K C) : FnOk P w K mg base CX0 1 f fd ["self", "one", "other", "price"] (spPut C T) := by
  refine F.ok scPt (fun vs H Q E h => ?_) (fun cdv A outer s H vs Q E hr h => ?_)
  · obtain ⟨p, L, S, q, ol, ls, G, a, b, c, rfl, _⟩ := h
    rfl
  · obtain ⟨p, L, S, q, ol, ls, G, a, b, c, rfl, l0, hG, hq, ho9, hT, k⟩ := h
    have hu := hu_of hr
    refine ⟨_, PSs.nox (pss_one (ps_if (pt_cmp (pc_isN (pv 3)))
      (pss_one (ps_expr (pe_dpop2 (pe_dget2 hu (pe_fld (pv 0) rfl) (pv 1) pe_dnewK ⟨rfl, rfl, rfl, rfl⟩) (pv 2) pe_non ⟨rfl, rfl, rfl, rfl⟩)))
      (pss_one (ps_dput hu (pe_dsetd (pe_fld (pv 0) rfl) (pv 1) pe_dnewK ⟨rfl, rfl, rfl, rfl⟩) (pv 2) (pv 3) rfl)))), ?_⟩
    obtain ⟨dx, h, n, F, hi⟩ := l0.ins
    obtain ⟨il, i1, i2, i3⟩ := l0.ln.inn a q hq
    have i3' : lk il = G a := funext i3
    have il8 : il.length ≤ 8 := len8 i2 fun b y e => by
      rw [i3] at e
      obtain ⟨_, _, z1, z2, _⟩ := hG _ _ _ e
      exact ⟨z1, z2⟩
    cases c with
    | none =>
      refine ⟨_, rfl, true, rfl, iteT ?_⟩
      unfold tDrop tDPop2
      refine rd_get2 (T := T) l0.ln hT hq (fun Q' q => ⟨_, rfl, p, C, dx, _, _, rfl, hi, wc.cl, wc.nL, rfl, q⟩) (fun Q' q => ⟨_, rfl, q⟩) fun q1 hq1 e1 => ?_
      have h1 : (upd H q1 (.dK [])) q = some (dI il) := e1.at_ i1 trivial
      have hn : valV (il.map eI) (Sum.inl b : Key) = (lk il b).map V.int := valV_mk (f := V.int) b il
      refine ⟨q, rfl, .inl ⟨_, Rd.of h1⟩, _, rfl, il.map eI, Sum.inl b, h1, rfl, fun v hv => ?_, fun hv => ?_⟩
      · have ed : dropK (il.map eI) (Sum.inl b : Key) = (dr il b).map eI := dropK_mk V.int b il
        rw [ed]
        have e2 : Ex T (fun z => z = q) H (upd (upd H q1 (.dK [])) q (dI (dr il b))) := (e1.mono (fun _ z => z.elim)).wr (.inl rfl) fun u e => by rw [h1] at e; cases e; trivial
        refine k _ e2 (l0.ln.set hq e2 upd_same (nd_dr i2) ?_)
        rw [lk_dr, i3']
      · rw [hn] at hv
        have e2 : Ex T (fun z => z = q) H (upd H q1 (.dK [])) := e1.mono (fun _ z => z.elim)
        refine k _ e2 (l0.ln.set hq e2 h1 i2 ?_)
        rw [i3']
        funext z
        unfold up
        by_cases e : z = b
        · rw [if_pos e, e, ← i3 b]
          cases r : lk il b with
          | none => rfl
          | some y => rw [r] at hv; cases hv
        · rw [if_neg e]
    | some c =>
      refine ⟨_, rfl, false, rfl, iteF ?_⟩
      refine ⟨_, rfl, _, rfl, p, C, dx, _, _, rfl, hi, wc.cl, wc.nL, rfl, L, rfl, .inl ⟨_, Rd.of l0.ln.out⟩, _, rfl, fun q1 hq1 => ?_⟩
      have e1 : Ex T no H (upd H q1 (.dK [])) := (Ex.refl hT).new hq1
      have h1 : (upd H q1 (.dK [])) q = some (dI il) := e1.at_ i1 trivial
      refine ⟨mkE V.ref ol, Sum.inl a, e1.at_ l0.ln.out trivial, rfl, ?_, fun v hv => ?_, fun hn => ?_⟩
      · rw [mk_len]; exact lt_small (by omega)
      · rw [valV_mk, hq] at hv
        cases hv
        refine ⟨_, rfl, q, _, rfl, DPut.k (k := Sum.inl b) h1 (lt_small (by rw [List.length_map]; omega)), ?_⟩
        have ep : putK (il.map eI) (Sum.inl b : Key) (V.int c) = (pt il b c).map eI := putK_mk (f := V.int) i2
        show Q .non (upd (upd H q1 (.dK [])) q (.dK (putK (il.map eI) (Sum.inl b : Key) (V.int c))))
        rw [ep]
        have e2 : Ex T (fun z => z = q) H (upd (upd H q1 (.dK [])) q (dI (pt il b c))) := (e1.mono (fun _ z => z.elim)).wr (.inl rfl) fun u e => by rw [h1] at e; cases e; trivial
        refine k _ e2 (l0.ln.set hq e2 upd_same (nd_pt i2) ?_)
        rw [lk_pt, i3']
      · rw [valV_mk, hq] at hn
        cases hn
end
end WyP

set_option Elab.async false
set_option linter.all false
set_option maxRecDepth 100000
set_option maxHeartbeats 4000000
/-! Ways.table -/
namespace WyP
open PySem PySem.Spec PyProof.Rows L2 LamX Wy WyL WyH
/-- an instance as it stands between calls -/
structure WO (C : Addr) (H : Hp) (p L S F : Addr) (ol : List (Int × Addr)) (ls : List (Int × Int)) (lo : List (Int × Addr)) (h n : Int) (G : Gr) (Fn : FF) : Prop where
  ins : ∃ dx, H p = some (.ins C dx (fsW h n L S F))
  ln : LN H L ol G
  sm : H S = some (dI ls)
  nd : (ks ls).Nodup
  fr : FR H F lo Fn
  sL : S ≠ L
  sq : ∀ a q, lk ol a = some q → q ≠ S
  fS : F ≠ S
  fL : F ≠ L
  fq : ∀ a q, lk ol a = some q → q ≠ F
theorem WO.wr {C : Addr} {H : Hp} {p L S F : Addr} {ol : List (Int × Addr)} {ls : List (Int × Int)} {lo : List (Int × Addr)} {h n : Int} {G : Gr} {Fn : FF} (o : WO C H p L S F ol ls lo h n G Fn) : WR C H p L S ol ls G :=
  let ⟨dx, e⟩ := o.ins
  ⟨⟨dx, h, n, F, e⟩, o.ln, Rd.of o.sm⟩
theorem WO.ex {T : TT0} {C : Addr} {H H' : Hp} {p L S F : Addr} {ol : List (Int × Addr)} {ls : List (Int × Int)} {lo : List (Int × Addr)} {h n : Int} {G : Gr} {Fn : FF} (o : WO C H p L S F ol ls lo h n G Fn) (e : Ex T no H H') : WO C H' p L S F ol ls lo h n G Fn :=
  ⟨let ⟨dx, i⟩ := o.ins; ⟨dx, e.at_ i trivial⟩, o.ln.ex e (fun z => z) fun _ _ _ z => z, e.at_ o.sm trivial, o.nd, o.fr.ex e (fun z => z) fun _ _ z => z.elim, o.sL, o.sq, o.fS, o.fL, o.fq⟩
theorem pe_fldK {X : Cx} {K' : PySem.W.Frag} {e : Expr} {f : Str} {pos : Pos} {ta : TE} (hK : X.K = K') (he : PE X e ta) (hb : attributeBase e f X.env (eval e X.env) = eval e X.env := by rfl) : PE X (.Attribute e f pos) (tFld K' ta f) := by
  subst hK
  exact pe_fld he hb
section
variable {P : Program} {w : World} {K : PySem.W.Frag} {mg : Str → Option Value} {base : Heap} {T : TT0} {C : Addr}
def spTable (C : Addr) (T : TT0) : Sp := fun vs H Q _ => ∃ (p L S F : Addr) (ol : List (Int × Addr)) (ls : List (Int × Int)) (lo : List (Int × Addr)) (h n : Int) (G : Gr) (Fn : FF), vs = [.ref p] ∧ WO C H p L S F ol ls lo h n G Fn ∧ InR 8 (lk ls) ∧ (∀ b y, lk ls b = some y → ∃ fs, Fn b = some fs) ∧ Tabs T H ∧
  ∀ (D : Addr) (lt : List (Int × Addr)) (H' : Hp), Ex T no H H' → TR H' D lt (lk ls) Fn → Fresh H D → Q (.ref D) H'
theorem scTb : FnScope ["self", "one"] ["self"] (defScope (cW 8)) := ⟨rfl, rfl, rfl, by decide +kernel, rfl, by decide +kernel, by decide +kernel⟩
theorem ok_table {f : Addr} {fd : FuncData} (F : FnP K "table" "Ways.table" (cW 8) f fd) (wc : WC K C) (gs : mg "sorted" = none) : FnOk P w K mg base CX0 1 f fd ["self"] (spTable C T) := by
  refine F.ok scTb (fun vs H Q E h => ?_) (fun cdv A outer s H vs Q E hr h => ?_)
  · obtain ⟨p, L, S, F, ol, ls, lo, h, n, G, Fn, rfl, _⟩ := h
    rfl
  · obtain ⟨p, L, S, F, ol, ls, lo, h, n, G, Fn, rfl, o, hR, hdom, hT, k⟩ := h
    have hu := hu_of hr
    refine ⟨_, PSs.nox (pss_one (ps_ret (pe_dc (own := [("one", 1)]) (g := gName 1) (tt := tYes) rfl scTb.nd (pi_list (pe_callB (call_sortedDI rfl) (by rfl) gs boot_sorted (pa_cons (pe_fld (pv 0) rfl) pa_nil))) (blkOk_by (N := ["self", "one"]) (sc := defScope (cW 8)) (by decide +kernel)) (fun _ _ _ _ _ => pg_name (i := 1) scTb.nd rfl (Or.inl rfl)) (fun _ _ _ _ _ => pts_nil) (fun _ _ _ _ _ => pv 1)
        (fun _ _ _ _ _ => pe_tup (pa_cons (pe_dget hu (pe_fldK (K' := K) rfl (pv 0)) (pv 1) (fun _ _ => rfl)) (pa_cons (pe_dget hu (pe_fldK (K' := K) rfl (pv 0)) (pv 1) (fun _ _ => rfl)) pa_nil)))))), ?_⟩
    obtain ⟨dx, hi⟩ := o.ins
    have hS2 := o.sm
    have nd := o.nd
    have k8 := len8 nd hR
    refine ⟨_, rfl, p, C, dx, _, _, rfl, hi, wc.cl, wc.nS, rfl, S, _, ks ls, rfl, Rd.of hS2, mk_keys _ _, by rw [List.length_map]; omega, fun ys pa hperm hsrt hpa => ?_⟩
    have e3 : Ex T no H (upd H pa (.lst (ys.map V.int))) := (Ex.refl hT).new hpa
    have o3 := o.ex e3
    have hp3 : (upd H pa (.lst (ys.map V.int))) pa = some (.lst (ys.map V.int)) := upd_same
    clear hpa hS2 o hi
    generalize (upd H pa (.lst (ys.map V.int))) = H3 at e3 o3 hp3
    refine ⟨pa, rfl, ⟨_, .inl (.inl hp3)⟩, fun D hD => ?_⟩
    refine dc_list (K := K) (a := pa) (xs := ys.map V.int) (fun i H' => ∃ lt, TW T H3 H' D i ys (lk ls) Fn lt)
      ⟨[], TW.start e3.tb hD⟩ (fun i H' _ ⟨lt, z⟩ => .inl (.inl (z.ex.at_ hp3 trivial))) ?_ ?_
    · rintro i y H' hi ⟨lt, tw⟩
      obtain ⟨x, hx, rfl⟩ := map_at hi
      have hxk : x ∈ ks ls := hperm.mem_iff.mp (List.mem_of_getElem? hx)
      obtain ⟨yv, hyv⟩ : ∃ yv, lk ls x = some yv := by
        cases q : lk ls x with
        | none => exact absurd hxk (none_lk q)
        | some y => exact ⟨y, rfl⟩
      obtain ⟨fs, hfs⟩ := hdom x yv hyv
      have o4 := o3.ex tw.ex
      obtain ⟨dx4, hi4⟩ := o4.ins
      obtain ⟨t, ht1, ht2⟩ := o4.fr.at_ hfs
      have g1 := DGet.m (f := V.int) (k := x) (Rd.of o4.sm)
      rw [hyv] at g1
      have g2 := DGet.m (f := V.ref) (k := x) (Rd.of o4.fr.out)
      rw [ht1] at g2
      refine ⟨rfl, _, rfl, _, rfl, p, C, dx4, _, _, rfl, hi4, wc.cl, wc.nS, rfl, _, rfl, S, _, rfl, g1, _, rfl, p, C, dx4, _, _, rfl, hi4, wc.cl, wc.nF, rfl, _, rfl, F, _, rfl, g2, (by show 2 ≤ sizeLine; decide), fun q hq => ?_⟩
      have hl : (mkE V.ref lt).length ≤ 8 := mk_le V.ref tw.nd fun b hb => by
        have := (hperm.mem_iff.mp (List.mem_of_mem_take ((tw.key b).mp hb)))
        cases z : lk ls b with
        | none => exact absurd this (none_lk z)
        | some y => exact hR b y z
      refine ⟨mkE V.ref lt, Sum.inl x, rfl, by rw [upd_ne (ne_of_none tw.out hq)]; exact tw.out, lt_small (by omega), _, tw.step hD hq hx hyv hfs ht2⟩
    · rintro H' ⟨lt, tw⟩
      rw [List.length_map] at tw
      refine k D lt H' (e3.tr tw.ex) (tw.fin fun b y hb => hperm.mem_iff.mpr (lk_key hb)) (e3.fresh (.of hD) (fun z => z))
end
end WyP

set_option Elab.async false
set_option linter.all false
set_option maxRecDepth 100000
set_option maxHeartbeats 4000000
/-! data: lists of ints, rows of a table -/
namespace WyP
open PySem PySem.Spec PyProof.Rows L2 LamX Wy WyL WyH
theorem beq_dec (a b : Int) : (a == b) = decide (a = b) := by
  by_cases e : a = b
  · simp [e]
  · simp [e]
theorem canAll_ints : ∀ X : List Int, PyData.canLayAll0 (X.map PyData.int) = true
  | [] => by simp [PyData.canLayAll0]
  | a :: r => by simp [PyData.canLayAll0, PyData.canLay0, canAll_ints r]
theorem depthAll_ints : ∀ X : List Int, PyData.depthAll (X.map PyData.int) ≤ 2
  | [] => by simp [PyData.depthAll]
  | a :: r => by
    have := depthAll_ints r
    simp [PyData.depthAll, PyData.depth]
    omega
theorem shaped_ints (X : List Int) : SeqAt.shaped (.list (X.map PyData.int)) = true := by
  have h1 := canAll_ints X
  have h2 := depthAll_ints X
  unfold SeqAt.shaped
  simp [PyData.canLay0, PyData.depth, h1]
  omega
theorem dpAll_ints {K : PySem.W.Frag} {H : Hp} : ∀ X : List Int, DpAll K H (X.map V.int) (X.map PyData.int)
  | [] => .nil
  | a :: r => .cons (.int a) (dpAll_ints r)
theorem eqvAll_ints : ∀ X Y : List Int, PyData.eqvAll (X.map PyData.int) (Y.map PyData.int) = decide (X = Y)
  | [], [] => by simp [PyData.eqvAll]
  | [], b :: s => by simp [PyData.eqvAll]
  | a :: r, [] => by simp [PyData.eqvAll]
  | a :: r, b :: s => by
    have := eqvAll_ints r s
    simp [PyData.eqvAll, PyData.eqv, this]
    rw [beq_dec]
theorem eqv_ints (X Y : List Int) : PyData.eqv (.list (X.map PyData.int)) (.list (Y.map PyData.int)) = decide (X = Y) := by
  rw [← eqvAll_ints]
  simp [PyData.eqv]
theorem eqv_tints (X Y : List Int) : PyData.eqv (.tuple (X.map PyData.int)) (.tuple (Y.map PyData.int)) = decide (X = Y) := by
  rw [← eqvAll_ints]
  simp [PyData.eqv]
/-- a row as data -/
def rowD (S : PF) (Fn : FF) (b : Int) : PyData := match S b, Fn b with
  | some y, some fs => .tuple [.int y, .tuple (fs.map PyData.int)]
  | _, _ => .none
theorem rowD_at {S : PF} {Fn : FF} {b y : Int} {fs : List Int} (h1 : S b = some y) (h2 : Fn b = some fs) : rowD S Fn b = .tuple [.int y, .tuple (fs.map PyData.int)] := by
  unfold rowD; rw [h1, h2]
theorem rowD_no {S : PF} {Fn : FF} {b : Int} (h1 : S b = none) : rowD S Fn b = .none := by
  unfold rowD; rw [h1]
theorem can_row (y : Int) (fs : List Int) : PyData.canLay0 (.tuple [.int y, .tuple (fs.map PyData.int)]) = true := by
  simp [PyData.canLay0, PyData.canLayAll0, canAll_ints fs]
theorem depth_row (y : Int) (fs : List Int) : PyData.depth (.tuple [.int y, .tuple (fs.map PyData.int)]) ≤ 5 := by
  have := depthAll_ints fs
  simp [PyData.depth, PyData.depthAll]
  omega
theorem shaped_row (S : PF) (Fn : FF) (b : Int) : SeqAt.shaped (rowD S Fn b) = true := by
  unfold rowD
  split
  · rename_i y fs _ _
    have h1 := can_row y fs
    have h2 := depth_row y fs
    unfold SeqAt.shaped
    rw [h1, decide_eq_true (by omega)]
    rfl
  · rfl
/-- are two rows alike -/
def rowEq (S : PF) (Fn : FF) (S' : PF) (Fn' : FF) (b : Int) : Bool := decide (S b = S' b) && decide (Fn b = Fn' b)
theorem eqv_row {S S' : PF} {Fn Fn' : FF} {b : Int} (d : Fn b = none ↔ S b = none) (d' : Fn' b = none ↔ S' b = none) : PyData.eqv (rowD S Fn b) (rowD S' Fn' b) = rowEq S Fn S' Fn' b := by
  unfold rowEq
  cases h1 : S b with
  | none =>
    have h2 := d.mpr h1
    rw [rowD_no h1, h2]
    cases h3 : S' b with
    | none =>
      have h4 := d'.mpr h3
      rw [rowD_no h3, h4]
      simp [PyData.eqv]
    | some y' =>
      cases h4 : Fn' b with
      | none => rw [d'.mp h4] at h3; cases h3
      | some fs' =>
        rw [rowD_at h3 h4]
        simp [PyData.eqv]
  | some y =>
    cases h2 : Fn b with
    | none => rw [d.mp h2] at h1; cases h1
    | some fs =>
      rw [rowD_at h1 h2]
      cases h3 : S' b with
      | none =>
        have h4 := d'.mpr h3
        rw [rowD_no h3, h4]
        simp [PyData.eqv]
      | some y' =>
        cases h4 : Fn' b with
        | none => rw [d'.mp h4] at h3; cases h3
        | some fs' =>
          rw [rowD_at h3 h4]
          have e := eqvAll_ints fs fs'
          simp [PyData.eqv, PyData.eqvAll, e]
          rw [beq_dec]
theorem rowEq_symm (S : PF) (Fn : FF) (S' : PF) (Fn' : FF) (b : Int) : rowEq S Fn S' Fn' b = rowEq S' Fn' S Fn b := by
  unfold rowEq
  rw [show decide (S b = S' b) = decide (S' b = S b) from decide_eq_decide.mpr ⟨Eq.symm, Eq.symm⟩, show decide (Fn b = Fn' b) = decide (Fn' b = Fn b) from decide_eq_decide.mpr ⟨Eq.symm, Eq.symm⟩]
theorem TR.row {K : PySem.W.Frag} {H : Hp} {D q : Addr} {lt : List (Int × Addr)} {S : PF} {Fn : FF} (t : TR H D lt S Fn) {b : Int} (h : lk lt b = some q) : Dp K H (.ref q) (rowD S Fn b) := by
  obtain ⟨y, fs, u, r0, r1, r2, r3⟩ := t.inn b q h
  rw [rowD_at r0 r1]
  exact .tup (SqT.of r2) (.cons (.int y) (.cons (.tup (SqT.of r3) (dpAll_ints fs)) .nil))
theorem TR.get {K : PySem.W.Frag} {H : Hp} {D : Addr} {lt : List (Int × Addr)} {S : PF} {Fn : FF} (t : TR H D lt S Fn) (b : Int) : Dp K H (((lk lt b).map V.ref).getD .non) (rowD S Fn b) := by
  cases h : lk lt b with
  | none =>
    rw [rowD_no (t.non b h)]
    exact .non
  | some q => exact t.row h
theorem inV_ints (a : Int) : ∀ X : List Int, inV (.int a) (X.map V.int) = decide (a ∈ X)
  | [] => by simp [inV]
  | b :: r => by
    have := inV_ints a r
    unfold inV at this ⊢
    rw [List.map_cons, List.any_cons, this]
    show ((b == a) || decide (a ∈ r)) = _
    by_cases e : b = a
    · simp [e]
    · have e2 : ¬ a = b := fun z => e z.symm
      simp [e, e2]
theorem flat_ints (X : List Int) : (X.map V.int).all flatV = true := by
  rw [List.all_eq_true]
  intro v m
  obtain ⟨x, _, rfl⟩ := List.mem_map.mp m
  rfl
end WyP

set_option Elab.async false
set_option linter.all false
set_option maxRecDepth 100000
set_option maxHeartbeats 4000000
/-! Ways.lost_behind -/
namespace WyP
open PySem PySem.Spec PyProof.Rows L2 LamX Wy WyL WyH
theorem WR.exD {T : TT0} {D : Addr → Prop} {C : Addr} {H H' : Hp} {p L S : Addr} {ol : List (Int × Addr)} {ls : List (Int × Int)} {G : Gr} (l : WR C H p L S ol ls G) (e : Ex T D H H') (hp : ¬ D p) (hL : ¬ D L) (hq : ∀ a q, lk ol a = some q → ¬ D q) (hS : Rd H' S (dI ls)) : WR C H' p L S ol ls G := by
  obtain ⟨dx, h, n, F, i⟩ := l.ins
  exact ⟨⟨dx, h, n, F, e.atD i hp trivial⟩, l.ln.ex e hL hq, hS⟩
/-- under the lock of the sums -/
theorem WR.lock {T : TT0} {C : Addr} {H : Hp} {p L S : Addr} {ol : List (Int × Addr)} {ls : List (Int × Int)} {G : Gr} (l : WR C H p L S ol ls G) (hT : Tabs T H) (hS : H S = some (dI ls)) (sL : S ≠ L) (sq : ∀ a q, lk ol a = some q → q ≠ S) (od : Obj) : WR C (upd H S (.frz od (dI ls))) p L S ol ls G := by
  refine l.exD (ex_lock hT hS trivial) (fun z => ?_) (fun z => sL z.symm) sq (.inr ⟨od, upd_same⟩)
  obtain ⟨dx, h, n, F, i⟩ := l.ins
  rw [z, hS] at i
  cases i
theorem key_at {ls : List (Int × Int)} {i : Nat} {k' : Key} {y : V} (hj : (ls.map eI)[i]? = some (k', y)) : ∃ a z, (ks ls)[i]? = some a ∧ (ks ls).take (i + 1) = (ks ls).take i ++ [a] ∧ k' = Sum.inl a ∧ y = V.int z ∧ ls[i]? = some (a, z) := by
  rw [List.getElem?_map] at hj
  cases q : ls[i]? with
  | none => rw [q] at hj; cases hj
  | some e =>
    rw [q] at hj
    have h1 : (ks ls)[i]? = some e.1 := by rw [List.getElem?_map, q]; rfl
    exact ⟨e.1, e.2, h1, by rw [List.take_add_one, h1]; rfl, (congrArg (·.1) (Option.some.inj hj)).symm, (congrArg (·.2) (Option.some.inj hj)).symm, rfl⟩
theorem notin_t {a : Int} {X : List Int} (h : a ∉ X) : (if true = true then !inV (.int a) (X.map V.int) else inV (.int a) (X.map V.int)) = true := by
  rw [if_pos rfl, inV_ints]; simp [h]
theorem notin_f {a : Int} {X : List Int} (h : a ∈ X) : (if true = true then !inV (.int a) (X.map V.int) else inV (.int a) (X.map V.int)) = false := by
  rw [if_pos rfl, inV_ints]; simp [h]
theorem op_notIn_seqK {X : Cx} {K' : PySem.W.Frag} (h : X.K = K') : OpR X (compareOp .NotIn) (rIn K' true) := by
  subst h
  exact op_notIn_seq
section
variable {P : Program} {w : World} {K : PySem.W.Frag} {mg : Str → Option Value} {base : Heap} {T : TT0} {C : Addr}
def spLost (C : Addr) (T : TT0) : Sp := fun vs H Q _ => ∃ (p L S : Addr) (ol : List (Int × Addr)) (ls : List (Int × Int)) (G : Gr) (h v : Int), vs = [.ref p, .int v] ∧ WR C H p L S ol ls G ∧ H S = some (dI ls) ∧ (ks ls).Nodup ∧ S ≠ L ∧ (∀ a q, lk ol a = some q → q ≠ S) ∧ GIn 8 G ∧ InR 8 (lk ls) ∧ (∀ b y, lk ls b = some y → 0 ≤ y) ∧ lk ls h = some 0 ∧ LB G h (lk ls) [] [v] ∧ Tabs T H ∧
  ∀ (l : Addr) (X : List Int) (H' : Hp), Ex T no H H' → H' l = some (.lst (X.map V.int)) → LB G h (lk ls) X [] → Fresh H l → Q (.ref l) H'
theorem scLb : FnScope ["self", "first", "found", "waiting", "house", "ahead", "one", "other"] ["self", "first"] (defScope (cW 3)) := ⟨rfl, rfl, rfl, by decide +kernel, rfl, by decide +kernel, by decide +kernel⟩
theorem ok_lost {f f2 : Addr} {fd fd2 : FuncData} (F : FnP K "lost_behind" "Ways.lost_behind" (cW 3) f fd) (wc : WC K C) (m2 : Meth K C "is_least_step" f2) (C2 : FnOk P w K mg base CX0 2 f2 fd2 ["self", "one", "other"] (spStep C T)) (b2 : L2.Binds K fd2 ["self", "one", "other"] []) : FnOk P w K mg base CX0 3 f fd ["self", "first"] (spLost C T) := by
  refine F.ok scLb (fun vs H Q E h => ?_) (fun cdv A outer s H vs Q E hr h => ?_)
  · obtain ⟨p, L, S, ol, ls, G, h, v, rfl, _⟩ := h
    rfl
  · obtain ⟨p, L, S, ol, ls, G, h, v, rfl, wr, hS, nd, sL, sq, hG, hR, nn, h0, lb0, hT, k⟩ := h
    have hu := hu_of hr
    refine ⟨_, PSs.nox (pss_cons (ps_set (i := 2) scLb.nd rfl (Or.inr rfl) (pe_lst pa_nil))
      (pss_cons (ps_set (i := 3) scLb.nd rfl (Or.inl rfl) (pe_lst (pa_cons (pv 1) pa_nil)))
      (pss_cons (ps_while PassesOwn.never (pt_cmpR (op_neD hr.units) (pv 3) (pe_lst pa_nil) (nomark _))
        (pss_cons (ps_set (i := 4) scLb.nd rfl (Or.inr rfl) (pe_bm0 PySem.F.plainAttrs_list PySem.F.slot_list_pop PySem.F.type_list_pop mt_pop (pv 3)))
        (pss_cons (ps_lock (ps_setLc (i := 5) (own := [("one", 6)]) (g := gName 6) rfl scLb.nd rfl rfl (sw_true rfl rfl rfl (by decide +kernel)) (pi_keys (pe_fld (pv 0) rfl)) (blkOk_by (N := ["self", "first", "found", "waiting", "house", "ahead", "one", "other"]) (sc := defScope (cW 3)) (by decide +kernel)) (fun _ _ _ _ _ => pg_name (i := 6) scLb.nd rfl (Or.inl rfl))
            (fun _ _ _ _ _ => pts_one (PW.pt (pw_and (pt_cmpR (op_notIn_seqK (K' := K) rfl) (pv 6) (pv 2) (by rfl)) (pw_and1 (pt_val (pe_meth (pv 0) wc.cl m2 C2 hr b2 .nil pass0 (pa_cons (pv 6) (pa_cons (pv 4) pa_nil))))))))
            (fun _ _ _ _ _ => pv 6)))
        (pss_one (ps_if (PW.pt (pw_and (pt_cmpR op_notIn_seq (pv 4) (pv 2) (by rfl)) (pw_and1 (pt_cmpR (op_eqD hr.units) (pv 5) (pe_lst pa_nil) (nomark _)))))
          (pss_cons (ps_expr (pe_bm PySem.F.plainAttrs_list PySem.F.slot_list_append PySem.F.type_list_append mt_append (pv 2) (pa_cons (pv 4) pa_nil)))
          (pss_one (ps_lock (ps_expr (pe_bm PySem.F.plainAttrs_list PySem.F.slot_list_extend PySem.F.type_list_extend mt_extend (pv 3) (pa_cons
              (pe_lc (own := [("other", 7)]) (g := gName 7) rfl scLb.nd (pi_keys (pe_fld (pv 0) rfl)) (blkOk_by (N := ["self", "first", "found", "waiting", "house", "ahead", "one", "other"]) (sc := defScope (cW 3)) (by decide +kernel)) (fun _ _ _ _ _ => pg_name (i := 7) scLb.nd rfl (Or.inl rfl))
                (fun _ _ _ _ _ => pts_one (pt_val (pe_meth (pv 0) wc.cl m2 C2 hr b2 .nil pass0 (pa_cons (pv 4) (pa_cons (pv 7) pa_nil)))))
                (fun _ _ _ _ _ => pv 7)) pa_nil)))))) pss_nil)))))
      (pss_one (ps_ret (pv 2)))))), ?_⟩
    obtain ⟨dx, h', n, F, hi⟩ := id wr.ins
    -- found = []; waiting = [first]
    refine ⟨Nat.zero_le _, fun l hl => ?_⟩
    refine ⟨_, rfl, (by show 1 ≤ sizeLine; decide), fun wl hwl => ?_⟩
    have e0 : Ex T no H (upd (upd H l (.lst [])) wl (.lst [.int v])) := ((Ex.refl hT).new hl).new hwl
    have nlw : l ≠ wl := ne_of_none (H := upd H l (.lst [])) upd_same hwl
    have fl : Fresh H l := .of hl
    have fw : Fresh H wl := ((Ex.refl hT).new (D := no) (o := .lst []) hl).fresh (.of hwl) (fun z => z)
    have nSl : S ≠ l := fl.ne hS trivial
    have nSw : S ≠ wl := fw.ne hS trivial
    have hl0 : (upd (upd H l (.lst [])) wl (.lst [.int v])) l = some (.lst (([] : List Int).map V.int)) := by rw [upd_ne nlw]; exact upd_same
    have hw0 : (upd (upd H l (.lst [])) wl (.lst [.int v])) wl = some (.lst ([v].map V.int)) := upd_same
    clear hl hwl
    generalize (upd (upd H l (.lst [])) wl (.lst [.int v])) = H0 at e0 hl0 hw0
    refine ⟨fun (m : Nat) (σ : L2.St) (H1 : Hp) => ∃ (X Wl : List Int) (v4 v5 v6 v7 : Option V), σ = [some (.ref p), some (.int v), some (.ref l), some (.ref wl), v4, v5, v6, v7] ∧ Ex T no H H1 ∧ H1 l = some (.lst (X.map V.int)) ∧ H1 wl = some (.lst (Wl.map V.int)) ∧ LB G h (lk ls) X Wl ∧ m + 10 * X.length = 80 + Wl.length ∧ m ≤ 81,
      ⟨81, [], [v], none, none, none, none, rfl, e0, hl0, hw0, lb0, rfl, Nat.le_refl _⟩, ?_⟩
    rintro m σ H1 ⟨X, Wl, v4, v5, v6, v7, rfl, e1, hl1, hw1, lb1, hm, hm81⟩
    have X8 := LB.len (n := 8) lb1 hR
    refine ⟨_, rfl, Nat.zero_le _, fun p0 hp0 => ?_⟩
    have hw1' : (upd H1 p0 (.lst [])) wl = some (.lst (Wl.map V.int)) := by rw [upd_ne (ne_of_none hw1 hp0)]; exact hw1
    have hl1' : (upd H1 p0 (.lst [])) l = some (.lst (X.map V.int)) := by rw [upd_ne (ne_of_none hl1 hp0)]; exact hl1
    have e1' := e1.new (o := .lst []) hp0
    refine ⟨.list (Wl.map PyData.int), .list (([] : List Int).map PyData.int), .lst (.inl (.inl hw1')) (dpAll_ints Wl), .lst (.inl (.inl upd_same)) .nil, shaped_ints _, shaped_ints _, _, rfl, ?_⟩
    rw [eqv_ints]
    clear e1 hl1 hw1 hp0
    generalize upd H1 p0 (.lst []) = H2 at e1' hl1' hw1'
    rcases List.eq_nil_or_concat Wl with rfl | ⟨Wl', kk, rfl⟩
    · refine iteF ?_
      exact ⟨_, rfl, k l X H2 e1' hl1' lb1 fl⟩
    · rw [List.concat_eq_append] at *
      refine iteTe (by simp) ?_
      -- house = waiting.pop()
      refine ⟨_, fun σ' H' z => z, ?_⟩
      refine ⟨_, rfl, .inl ⟨rfl, _, .inl (.inl hw1')⟩, wl, _, V.int kk, rfl, rfl, hw1', by simp, ?_⟩
      have ed : ((Wl' ++ [kk]).map V.int).dropLast = Wl'.map V.int := by rw [List.map_append]; simp
      rw [ed]
      have e3 : Ex T no H (upd H2 wl (.lst (Wl'.map V.int))) := e1'.wr (.inr fw) fun u e => by rw [hw1'] at e; cases e; trivial
      have hl3 : (upd H2 wl (.lst (Wl'.map V.int))) l = some (.lst (X.map V.int)) := by rw [upd_ne nlw]; exact hl1'
      have hw3 : (upd H2 wl (.lst (Wl'.map V.int))) wl = some (.lst (Wl'.map V.int)) := upd_same
      clear e1' hl1' hw1' ed
      generalize (upd H2 wl (.lst (Wl'.map V.int))) = H3 at e3 hl3 hw3
      have hS3 := e3.at_ hS trivial
      -- ahead = [..]
      refine ⟨S, dI ls, hS3, trivial, fun od => ?_⟩
      have eL : Ex T no (upd H S (.frz od (dI ls))) (upd H3 S (.frz od (dI ls))) := e3.lock hS (fun z => z) trivial
      have wL := wr.lock hT hS sL sq od
      have hSL : (upd H3 S (.frz od (dI ls))) S = some (.frz od (dI ls)) := upd_same
      have hlL : (upd H3 S (.frz od (dI ls))) l = some (.lst (X.map V.int)) := by rw [upd_ne nSl.symm]; exact hl3
      have hwL : (upd H3 S (.frz od (dI ls))) wl = some (.lst (Wl'.map V.int)) := by rw [upd_ne nSw.symm]; exact hw3
      obtain ⟨dxL, hL', nL, FL, hiL⟩ := (wL.ex eL).ins
      refine ⟨_, rfl, p, C, dxL, _, _, rfl, hiL, wc.cl, wc.nS, rfl, S, od, rfl, .inl ⟨_, hSL, fun D hD => ?_⟩⟩
      clear hiL
      have nlD : l ≠ D := ne_of_none hlL hD
      have nwD : wl ≠ D := ne_of_none hwL hD
      have nSD : S ≠ D := ne_of_none hSL hD
      have fDL : Fresh (upd H S (.frz od (dI ls))) D := eL.fresh (.of hD) (fun z => z)
      refine lc_keys (kvs := ls.map eI) (fun i H' => Ex T no (upd H S (.frz od (dI ls))) H' ∧ H' S = some (.frz od (dI ls)) ∧ H' l = some (.lst (X.map V.int)) ∧ H' wl = some (.lst (Wl'.map V.int)) ∧ H' D = some (.lst ((((ks ls).take i).filter fun a => decide (a ∉ X) && stepB G (lk ls) a kk).map V.int)))
        ⟨eL.new hD, by rw [upd_ne nSD]; exact hSL, by rw [upd_ne nlD]; exact hlL, by rw [upd_ne nwD]; exact hwL, upd_same⟩ (fun i H' z => z.2.1) ?_ ?_
      · rintro i k' y H' hj ⟨e4, hS4, hl4, hw4, hD4⟩
        obtain ⟨a, z, hka, htk, rfl, rfl, _⟩ := key_at hj
        refine ⟨rfl, ?_⟩
        refine ⟨_, rfl, _, rfl, l, _, rfl, .inl (.inl (.inl hl4)), rfl, flat_ints X, _, rfl, ?_⟩
        by_cases hin : a ∈ X
        · refine iteFe (notin_f hin) ?_
          refine ⟨e4, hS4, hl4, hw4, ?_⟩
          rw [hD4, htk, List.filter_append]
          simp [hin]
        · refine iteTe (notin_t hin) ?_
          have wr4 := wL.ex e4
          obtain ⟨dx4, h4', n4, F4, hi4⟩ := id wr4.ins
          refine ⟨_, rfl, p, dx4, _, rfl, hi4, rfl, _, rfl, _, rfl, p, L, S, ol, ls, G, a, kk, rfl, wr4, e4.tb, fun H5 e45 => ?_⟩
          have e5 := e4.tr e45
          have hS5 := e45.at_ hS4 trivial
          have hl5 := e45.at_ hl4 trivial
          have hw5 := e45.at_ hw4 trivial
          have hD5 := e45.at_ hD4 trivial
          refine ⟨_, rfl, ?_⟩
          by_cases hst : stepB G (lk ls) a kk = true
          · refine iteTe hst ?_
            refine ⟨_, rfl, _, hD5, lt_small ?_, e5.wr (.inr fDL) (fun u e => by rw [hD5] at e; cases e; trivial), by rw [upd_ne nSD]; exact hS5, by rw [upd_ne nlD]; exact hl5, by rw [upd_ne nwD]; exact hw5, ?_⟩
            · rw [List.length_map]
              have h1 := List.length_filter_le (fun a => decide (a ∉ X) && stepB G (lk ls) a kk) ((ks ls).take i)
              have h3 := len8 nd hR
              rw [List.length_take] at h1
              rw [List.length_map] at h1
              omega
            · rw [upd_same, htk, List.filter_append]
              simp [hin, hst]
              rfl
          · refine iteFe (by cases q : stepB G (lk ls) a kk with | false => rfl | true => exact absurd q hst) ?_
            refine ⟨e5, hS5, hl5, hw5, ?_⟩
            rw [hD5, htk, List.filter_append]
            simp [hst]
      · rintro H' ⟨e4, hS4, hl4, hw4, hD4⟩
        refine ⟨hS4, ?_⟩
        have etk : (ks ls).take (ls.map eI).length = ks ls := by rw [List.length_map, ← List.length_map (f := fun (e : Int × Int) => e.1), List.take_length]
        rw [etk] at hD4
        have e5 : Ex T no H (upd H' S (dI ls)) := e4.unlock hS hS4 trivial
        have hS5 : (upd H' S (dI ls)) S = some (dI ls) := upd_same
        have hl5 : (upd H' S (dI ls)) l = some (.lst (X.map V.int)) := by rw [upd_ne nSl.symm]; exact hl4
        have hw5 : (upd H' S (dI ls)) wl = some (.lst (Wl'.map V.int)) := by rw [upd_ne nSw.symm]; exact hw4
        have hD5 : (upd H' S (dI ls)) D = some (.lst (((ks ls).filter fun a => decide (a ∉ X) && stepB G (lk ls) a kk).map V.int)) := by rw [upd_ne nSD.symm]; exact hD4
        clear e4 hS4 hl4 hw4 hD4 eL wL hSL hlL hwL nSD fDL etk e3 hl3 hw3 hS3 hD
        show _
        generalize (upd H' S (dI ls)) = H5 at e5 hS5 hl5 hw5 hD5
        have hahead : ∀ a, a ∈ ((ks ls).filter fun a => decide (a ∉ X) && stepB G (lk ls) a kk) ↔ a ∉ X ∧ Wy.Step G (lk ls) a kk := fun a => by
          rw [List.mem_filter, Bool.and_eq_true, decide_eq_true_iff, stepB_iff]
          constructor
          · exact fun z => z.2
          · rintro ⟨z1, x, p, y, z2, z3, z4⟩
            exact ⟨lk_key z3, z1, x, p, y, z2, z3, z4⟩
        generalize ((ks ls).filter fun a => decide (a ∉ X) && stepB G (lk ls) a kk) = ah at hD5 hahead
        -- if house not in found and ahead == []
        have skip : (kk ∈ X ∨ ah ≠ []) → LB G h (lk ls) X Wl' := fun z => lb1.skip (z.imp id fun z => by
          obtain ⟨a, m⟩ := List.exists_mem_of_ne_nil ah z
          exact ⟨a, (hahead a).mp m⟩)
        have hlen : (Wl' ++ [kk]).length = Wl'.length + 1 := by simp
        rw [hlen] at hm
        refine ⟨_, rfl, _, rfl, l, _, rfl, .inl (.inl (.inl hl5)), rfl, flat_ints X, _, rfl, ?_⟩
        by_cases hin : kk ∈ X
        · refine iteFe (notin_f hin) ?_
          exact ⟨m - 1, by omega, X, Wl', _, _, _, _, rfl, e5, hl5, hw5, skip (.inl hin), by omega, by omega⟩
        · refine iteTe (notin_t hin) ?_
          refine ⟨_, rfl, Nat.zero_le _, fun p1 hp1 => ?_⟩
          have e6 := e5.new (o := .lst []) hp1
          have hS6 : (upd H5 p1 (.lst [])) S = some (dI ls) := by rw [upd_ne (ne_of_none hS5 hp1)]; exact hS5
          have hl6 : (upd H5 p1 (.lst [])) l = some (.lst (X.map V.int)) := by rw [upd_ne (ne_of_none hl5 hp1)]; exact hl5
          have hw6 : (upd H5 p1 (.lst [])) wl = some (.lst (Wl'.map V.int)) := by rw [upd_ne (ne_of_none hw5 hp1)]; exact hw5
          have hD6 : (upd H5 p1 (.lst [])) D = some (.lst (ah.map V.int)) := by rw [upd_ne (ne_of_none hD5 hp1)]; exact hD5
          refine ⟨.list (ah.map PyData.int), .list (([] : List Int).map PyData.int), .lst (.inl (.inl hD6)) (dpAll_ints ah), .lst (.inl (.inl upd_same)) .nil, shaped_ints _, shaped_ints _, _, rfl, ?_⟩
          rw [eqv_ints]
          clear e5 hS5 hl5 hw5 hD5 hp1 hD6
          generalize (upd H5 p1 (.lst [])) = H6 at e6 hS6 hl6 hw6
          by_cases hah : ah = []
          · refine iteTe (by simp [hah]) ?_
            -- found.append(house)
            refine ⟨_, rfl, .inl ⟨rfl, _, .inl (.inl hl6)⟩, _, rfl, l, _, _, rfl, rfl, hl6, lt_small (by rw [List.length_map]; omega), ?_⟩
            have e7 : Ex T no H (upd H6 l (.lst (X.map V.int ++ [V.int kk]))) := e6.wr (.inr fl) fun u e => by rw [hl6] at e; cases e; trivial
            have hS7 : (upd H6 l (.lst (X.map V.int ++ [V.int kk]))) S = some (dI ls) := by rw [upd_ne nSl]; exact hS6
            have hl7 : (upd H6 l (.lst (X.map V.int ++ [V.int kk]))) l = some (.lst ((X ++ [kk]).map V.int)) := by rw [upd_same, List.map_append]; rfl
            have hw7 : (upd H6 l (.lst (X.map V.int ++ [V.int kk]))) wl = some (.lst (Wl'.map V.int)) := by rw [upd_ne nlw.symm]; exact hw6
            clear e6 hS6 hl6 hw6
            generalize (upd H6 l (.lst (X.map V.int ++ [V.int kk]))) = H7 at e7 hS7 hl7 hw7
            -- waiting.extend([..])
            refine ⟨S, dI ls, hS7, trivial, fun od2 => ?_⟩
            have eL2 : Ex T no (upd H S (.frz od2 (dI ls))) (upd H7 S (.frz od2 (dI ls))) := e7.lock hS (fun z => z) trivial
            have wL2 := wr.lock hT hS sL sq od2
            have hSL2 : (upd H7 S (.frz od2 (dI ls))) S = some (.frz od2 (dI ls)) := upd_same
            have hlL2 : (upd H7 S (.frz od2 (dI ls))) l = some (.lst ((X ++ [kk]).map V.int)) := by rw [upd_ne nSl.symm]; exact hl7
            have hwL2 : (upd H7 S (.frz od2 (dI ls))) wl = some (.lst (Wl'.map V.int)) := by rw [upd_ne nSw.symm]; exact hw7
            obtain ⟨dxM, hM', nM, FM, hiM⟩ := (wL2.ex eL2).ins
            refine ⟨_, rfl, .inl ⟨rfl, _, .inl (.inl hwL2)⟩, _, rfl, p, C, dxM, _, _, rfl, hiM, wc.cl, wc.nS, rfl, S, od2, rfl, .inl ⟨_, hSL2, fun E1 hE => ?_⟩⟩
            clear hiM
            have nlE : l ≠ E1 := ne_of_none hlL2 hE
            have nwE : wl ≠ E1 := ne_of_none hwL2 hE
            have nSE : S ≠ E1 := ne_of_none hSL2 hE
            have fEL : Fresh (upd H S (.frz od2 (dI ls))) E1 := eL2.fresh (.of hE) (fun z => z)
            have fwL : Fresh (upd H S (.frz od2 (dI ls))) wl := fun o' e' => by rw [upd_ne nSw.symm] at e'; exact fw o' e'
            refine lc_keys (kvs := ls.map eI) (fun i H' => Ex T no (upd H S (.frz od2 (dI ls))) H' ∧ H' S = some (.frz od2 (dI ls)) ∧ H' l = some (.lst ((X ++ [kk]).map V.int)) ∧ H' wl = some (.lst (Wl'.map V.int)) ∧ H' E1 = some (.lst ((((ks ls).take i).filter fun a => stepB G (lk ls) kk a).map V.int)))
              ⟨eL2.new hE, by rw [upd_ne nSE]; exact hSL2, by rw [upd_ne nlE]; exact hlL2, by rw [upd_ne nwE]; exact hwL2, upd_same⟩ (fun i H' z => z.2.1) ?_ ?_
            · rintro i k' y H' hj ⟨e4, hS4, hl4, hw4, hD4⟩
              obtain ⟨a, z, hka, htk, rfl, rfl, _⟩ := key_at hj
              refine ⟨rfl, ?_⟩
              have wr4 := wL2.ex e4
              obtain ⟨dx4, h4', n4, F4, hi4⟩ := id wr4.ins
              refine ⟨_, rfl, p, dx4, _, rfl, hi4, rfl, _, rfl, _, rfl, p, L, S, ol, ls, G, kk, a, rfl, wr4, e4.tb, fun H5 e45 => ?_⟩
              have e5 := e4.tr e45
              have hS5 := e45.at_ hS4 trivial
              have hl5 := e45.at_ hl4 trivial
              have hw5 := e45.at_ hw4 trivial
              have hD5 := e45.at_ hD4 trivial
              refine ⟨_, rfl, ?_⟩
              by_cases hst : stepB G (lk ls) kk a = true
              · refine iteTe hst ?_
                refine ⟨_, rfl, _, hD5, lt_small ?_, e5.wr (.inr fEL) (fun u e => by rw [hD5] at e; cases e; trivial), by rw [upd_ne nSE]; exact hS5, by rw [upd_ne nlE]; exact hl5, by rw [upd_ne nwE]; exact hw5, ?_⟩
                · rw [List.length_map]
                  have h1 := List.length_filter_le (fun a => stepB G (lk ls) kk a) ((ks ls).take i)
                  have h3 := len8 nd hR
                  rw [List.length_take] at h1
                  rw [List.length_map] at h1
                  omega
                · rw [upd_same, htk, List.filter_append]
                  simp [hst]
                  rfl
              · refine iteFe (by cases q : stepB G (lk ls) kk a with | false => rfl | true => exact absurd q hst) ?_
                refine ⟨e5, hS5, hl5, hw5, ?_⟩
                rw [hD5, htk, List.filter_append]
                simp [hst]
            · rintro H' ⟨e4, hS4, hl4, hw4, hD4⟩
              have etk : (ks ls).take (ls.map eI).length = ks ls := by rw [List.length_map, ← List.length_map (f := fun (e : Int × Int) => e.1), List.take_length]
              rw [etk] at hD4
              have hL8 : ((ks ls).filter fun a => stepB G (lk ls) kk a).length ≤ 8 := by
                have h1 := List.length_filter_le (fun a => stepB G (lk ls) kk a) (ks ls)
                have h3 := len8 nd hR
                rw [List.length_map] at h1
                omega
              have hLL : ∀ b, b ∈ ((ks ls).filter fun a => stepB G (lk ls) kk a) ↔ Wy.Step G (lk ls) kk b := fun b => by
                rw [List.mem_filter, stepB_iff]
                constructor
                · exact fun z => z.2
                · rintro ⟨x, p, y, z2, z3, z4, z5⟩
                  exact ⟨lk_key z4, x, p, y, z2, z3, z4, z5⟩
              have lb2 := lb1.lose (L := (ks ls).filter fun a => stepB G (lk ls) kk a) hin (fun a st => Classical.byContradiction fun z => by
                have := (hahead a).mpr ⟨z, st⟩
                rw [hah] at this
                cases this) hLL nn h0 hG
              generalize ((ks ls).filter fun a => stepB G (lk ls) kk a) = nL at hD4 hL8 lb2
              have X9 := LB.len (n := 8) lb2 hR
              have hXl : (X ++ [kk]).length = X.length + 1 := by simp
              rw [hXl] at X9
              have nwS : wl ≠ S := nSw.symm
              have hw5 : (upd H' wl (.lst (Wl'.map V.int ++ nL.map V.int))) wl = some (.lst ((Wl' ++ nL).map V.int)) := by rw [upd_same, List.map_append]
              have hS5 : (upd H' wl (.lst (Wl'.map V.int ++ nL.map V.int))) S = some (.frz od2 (dI ls)) := by rw [upd_ne nSw]; exact hS4
              have hl5 : (upd H' wl (.lst (Wl'.map V.int ++ nL.map V.int))) l = some (.lst ((X ++ [kk]).map V.int)) := by rw [upd_ne nlw]; exact hl4
              refine ⟨wl, E1, _, _, rfl, rfl, hw4, hD4, le_small (by rw [List.length_map, List.length_map]; omega), hS5, ?_⟩
              have e5 : Ex T no (upd H S (.frz od2 (dI ls))) (upd H' wl (.lst (Wl'.map V.int ++ nL.map V.int))) := e4.wr (.inr fwL) fun u e => by rw [hw4] at e; cases e; trivial
              have e6 : Ex T no H (upd (upd H' wl (.lst (Wl'.map V.int ++ nL.map V.int))) S (dI ls)) := e5.unlock hS hS5 trivial
              exact ⟨m - 11 + nL.length, by omega, X ++ [kk], Wl' ++ nL, _, _, _, _, rfl, e6, by rw [upd_ne nSl.symm]; exact hl5, by rw [upd_ne nSw.symm]; exact hw5, lb2, by rw [hXl, List.length_append]; omega, by omega⟩
          · refine iteFe (by simp [hah]) ?_
            exact ⟨m - 1, by omega, X, Wl', _, _, _, _, rfl, e6, hl6, hw6, skip (.inr hah), by omega, by omega⟩
end
end WyP

set_option Elab.async false
set_option linter.all false
set_option maxRecDepth 100000
set_option maxHeartbeats 4000000
/-! Ways.nearer -/
namespace WyP
open PySem PySem.Spec PyProof.Rows L2 LamX Wy WyL WyH
theorem rd_tst {tA tB : TT} {σ : L2.St} {H : Hp} {Q : Bool → Hp → Prop} (b : Bool) (h : ∀ Q' : Bool → Hp → Prop, Q' b H → tOr tA tB σ H Q') (k : Q b H) : tOr tA tB σ H Q := h Q k
section
variable {P : Program} {w : World} {K : PySem.W.Frag} {mg : Str → Option Value} {base : Heap} {T : TT0} {C : Addr}
abbrev tw (S Wd : Addr) : Addr → Prop := fun x => x = S ∨ x = Wd
def spNear (C : Addr) (T : TT0) : Sp := fun vs H Q _ => ∃ (p L S Wd : Addr) (ol : List (Int × Addr)) (ls lw : List (Int × Int)) (G : Gr) (h : Int), vs = [.ref p, .ref Wd] ∧ WR C H p L S ol ls G ∧ H S = some (dI ls) ∧ H Wd = some (dI lw) ∧ (ks ls).Nodup ∧ (ks lw).Nodup ∧ S ≠ L ∧ (∀ a q, lk ol a = some q → q ≠ S) ∧ Wd ≠ L ∧ Wd ≠ S ∧ (∀ a q, lk ol a = some q → q ≠ Wd) ∧ GIn 8 G ∧ 0 ≤ h ∧ h < 8 ∧ NR G h (fun _ _ => True) (lk ls) (lk lw) ∧ Tabs T H ∧
  ∀ (ls' : List (Int × Int)) (H' : Hp), Ex T (tw S Wd) H H' → H' S = some (dI ls') → (ks ls').Nodup → Fix G h (lk ls') → Q .non H'
theorem scNr : FnScope ["self", "waiting", "house", "here", "other", "price"] ["self", "waiting"] (defScope (cW 4)) := ⟨rfl, rfl, rfl, by decide +kernel, rfl, by decide +kernel, by decide +kernel⟩
theorem ok_near {f c : Addr} {fd : FuncData} (F : FnP K "nearer" "Ways.nearer" (cW 4) f fd) (hc : fd.code = .ref c) (B : Tb mg base T c "Ways.nearer") (wc : WC K C) (gm : mg "min" = none) : FnOk P w K mg base CX0 4 f fd ["self", "waiting"] (spNear C T) := by
  refine okC F hc scNr (fun vs H Q E h => ?_) (fun A outer s H vs Q E hr h => ?_)
  · obtain ⟨p, L, S, Wd, ol, ls, lw, G, h, rfl, _⟩ := h
    rfl
  · obtain ⟨p, L, S, Wd, ol, ls, lw, G, h, rfl, wr, hS, hW, ndS, ndW, sL, sq, wL, wS, wq, hG, h0, h8, nr, hT, k⟩ := h
    have hu := hu_of hr
    obtain ⟨Pa, tb1, tb2, tb3⟩ := B.ex
    refine ⟨_, PSs.nox (pss_one (ps_while PassesOwn.never (pt_cmpR (op_ne_empty hr.units0) (pv 1) pe_dnewK (nomark _))
        (pss_cons (ps_set (i := 2) scNr.nd rfl (Or.inl rfl) (pe_minK (T := T) (y := "one") (i := 1) rfl rfl gm ⟨⟨c, Pa, tb1, rfl, tb2, tb3⟩, rfl, ⟨rfl, rfl, rfl, rfl, by decide +kernel, by decide +kernel, by decide +kernel, by decide +kernel⟩, rfl, rfl, fun _ _ _ _ _ _ _ => rfl, hr⟩))
        (pss_cons (ps_set (i := 3) scNr.nd rfl (Or.inl rfl) (pe_dpop1 (pv 1) (pv 2) ⟨rfl, rfl, rfl, rfl⟩))
        (pss_one (ps_if (PW.pt (pw_or (pt_cmp (pc_dnotin hu (pv 2) (pe_fld (pv 0) rfl))) (pw_or1 (pt_cmpR op_lt (pv 3) (pe_dget hu (pe_fld (pv 0) rfl) (pv 2) (fun _ _ => rfl)) (nomark _)))))
          (pss_cons (ps_dput hu (pe_fld (pv 0) rfl) (pv 2) (pv 3) rfl)
          (pss_one (ps_or (ps_lock (ps_for PassesOwn.never rfl (pi_items (pe_dget2 hu (pe_fld (pv 0) rfl) (pv 2) pe_dnewK ⟨rfl, rfl, rfl, rfl⟩)) (pg_tup rfl (pgs_cons (pg_name (i := 4) scNr.nd rfl (Or.inl rfl)) (pgs_cons (pg_name (i := 5) scNr.nd rfl (Or.inl rfl)) pgs_nil)))
            (pss_one (ps_dput hu (pv 1) (pv 4) (pe_callB (call_min2 rfl) (by rfl) gm boot_min (pa_cons (pe_dget2 hu (pv 1) (pv 4) (pe_op op_add (pv 3) (pv 5)) ⟨rfl, rfl, rfl, rfl⟩) (pa_cons (pe_op op_add (pv 3) (pv 5)) pa_nil))) rfl))))
          (ps_for PassesOwn.never rfl (pi_itemsL (pe_dget2 hu (pe_fld (pv 0) rfl) (pv 2) pe_dnewK ⟨rfl, rfl, rfl, rfl⟩)) (pg_tup rfl (pgs_cons (pg_name (i := 4) scNr.nd rfl (Or.inl rfl)) (pgs_cons (pg_name (i := 5) scNr.nd rfl (Or.inl rfl)) pgs_nil))) pss_never)))) pss_nil)))))), ?_⟩
    obtain ⟨dx, hh, nn, Fa, hi⟩ := wr.ins
    have l0 := wr.ln
    obtain ⟨B, bd0⟩ := Bd.some (nr.sIn hG h0 h8) (nr.wIn hG)
    have nDp : ¬ tw S Wd p := fun z => by
      rcases z with z | z
      · rw [z, hS] at hi; cases hi
      · rw [z, hW] at hi; cases hi
    have nDL : ¬ tw S Wd L := fun z => by
      rcases z with z | z
      · exact sL z.symm
      · exact wL z.symm
    have nDq : ∀ a q, lk ol a = some q → ¬ tw S Wd q := fun a q e z => by
      rcases z with z | z
      · exact sq a q e z
      · exact wq a q e z
    refine ⟨fun (m : Nat) (σ : L2.St) (H1 : Hp) => ∃ (ls lw : List (Int × Int)) (v2 v3 v4 v5 : Option V), σ = [some (.ref p), some (.ref Wd), v2, v3, v4, v5] ∧ Ex T (tw S Wd) H H1 ∧ H1 S = some (dI ls) ∧ H1 Wd = some (dI lw) ∧ (ks ls).Nodup ∧ (ks lw).Nodup ∧ NR G h (fun _ _ => True) (lk ls) (lk lw) ∧ Bd B (lk ls) (lk lw) ∧ m = mu B (lk ls) (lk lw),
      ⟨_, ls, lw, none, none, none, none, rfl, Ex.refl hT, hS, hW, ndS, ndW, nr, bd0, rfl⟩, ?_⟩
    clear hS hW ndS ndW nr bd0 wr
    rintro m σ H1 ⟨ls, lw, v2, v3, v4, v5, rfl, e1, hS1, hW1, nS, nW, d1, bd, hm⟩
    refine ⟨_, rfl, fun p0 hp0 => ⟨Wd, p0, _, rfl, rfl, by rw [upd_ne (ne_of_none hW1 hp0)]; exact hW1, upd_same, _, rfl, ?_⟩⟩
    have e2 : Ex T (tw S Wd) H (upd H1 p0 (.dK [])) := e1.new hp0
    have hS2 : (upd H1 p0 (.dK [])) S = some (dI ls) := by rw [upd_ne (ne_of_none hS1 hp0)]; exact hS1
    have hW2 : (upd H1 p0 (.dK [])) Wd = some (dI lw) := by rw [upd_ne (ne_of_none hW1 hp0)]; exact hW1
    clear hS1 hW1 e1
    generalize upd H1 p0 (.dK []) = H2 at e2 hS2 hW2
    cases hq : (lw.map eI).isEmpty with
    | true =>
      refine iteF ?_
      exact k ls H2 e2 hS2 nS (d1.fix (lk_nil_all hq) fun _ _ _ _ => trivial)
    | false =>
      refine iteT ?_
      have hne : lw ≠ [] := fun z => by rw [z] at hq; cases hq
      -- house = min(..)
      refine ⟨_, fun σ' H' z => z, ?_⟩
      refine ⟨Wd, lw, rfl, hW2, hne, e2.tb, fun n mm H3 hmem hmin x3 t3 => ?_⟩
      have hwn : lk lw n = some mm := lk_of nW hmem
      have e3 : Ex T (tw S Wd) H H3 := e2.tr (Ex.of x3 t3)
      have hS3 : H3 S = some (dI ls) := x3 _ _ hS2 (dI_ne _)
      have hW3 : H3 Wd = some (dI lw) := x3 _ _ hW2 (dI_ne _)
      clear hS2 hW2 e2 x3 t3
      obtain ⟨n0, n8⟩ := d1.wIn hG n mm hwn
      -- here = waiting.pop(house)
      refine ⟨_, rfl, Wd, rfl, .inl ⟨_, Rd.of hW3⟩, _, rfl, _, Sum.inl n, _, hW3, rfl, by rw [show lw.map eI = mkE V.int lw from rfl, valV_mk, hwn]; rfl, ?_⟩
      rw [show lw.map eI = mkE V.int lw from rfl, dropK_mk]
      have e4 : Ex T (tw S Wd) H (upd H3 Wd (.dK (mkE V.int (dr lw n)))) := e3.wr (.inl (.inr rfl)) (fun u e => by rw [hW3] at e; cases e; trivial)
      have hS4 : (upd H3 Wd (.dK (mkE V.int (dr lw n)))) S = some (dI ls) := by rw [upd_ne wS.symm]; exact hS3
      have hW4 : (upd H3 Wd (.dK (mkE V.int (dr lw n)))) Wd = some (dI (dr lw n)) := upd_same
      have nW4 : (ks (dr lw n)).Nodup := nd_dr nW
      clear e3 hS3 hW3
      generalize (upd H3 Wd (.dK (mkE V.int (dr lw n)))) = H4 at e4 hS4 hW4
      have hi4 := e4.atD hi nDp trivial
      have gS := DGet.m (f := V.int) (k := n) (Rd.of hS4)
      dsimp only [gName, tIfS]
      refine rd_tst (match lk ls n with | none => true | some y => decide (mm < y)) (fun Q' q => ?_) ?_
      · refine ⟨_, rfl, _, rfl, p, C, dx, _, _, rfl, hi4, wc.cl, wc.nS, rfl, S, _, rfl, gS, _, rfl, ?_⟩
        cases hl : lk ls n with
        | none =>
          rw [hl] at q
          exact iteT q
        | some y =>
          rw [hl] at q gS
          refine iteF ?_
          exact ⟨_, rfl, _, rfl, p, C, dx, _, _, rfl, hi4, wc.cl, wc.nS, rfl, _, rfl, S, _, rfl, gS, _, _, rfl, rfl, _, rfl, q⟩
      by_cases hc : (match lk ls n with | none => true | some y => decide (mm < y)) = true
      · refine iteTe hc ?_
        have hs : ∀ y, lk ls n = some y → mm < y := fun y e => by
          rw [e] at hc
          exact of_decide_eq_true hc
        obtain ⟨d5, nh, mm0⟩ := d1.take hG (fun _ _ _ _ => trivial) hwn hs
        have bd5 := bd.take n0 n8 hwn hs
        rw [← lk_pt, ← lk_dr] at d5 bd5
        have hmu : ∀ W', mu B (lk (pt ls n mm)) W' < m := fun W' => by
          rw [lk_pt, hm]
          exact mu_take bd n0 n8 mm0 hwn hs
        have ls8 : ls.length ≤ 8 := len8 nS (d1.sIn hG h0 h8)
        -- self.own_sums[house] = here
        refine ⟨_, rfl, _, rfl, p, C, dx, _, _, rfl, hi4, wc.cl, wc.nS, rfl, _, rfl, S, _, rfl, DPut.k (k := Sum.inl n) hS4 (lt_small (by rw [List.length_map]; omega)), ?_⟩
        rw [show ls.map eI = mkE V.int ls from rfl, putK_mk nS]
        have e5 : Ex T (tw S Wd) H (upd H4 S (.dK (mkE V.int (pt ls n mm)))) := e4.wr (.inl (.inl rfl)) (fun u e => by rw [hS4] at e; cases e; trivial)
        have hS5 : (upd H4 S (.dK (mkE V.int (pt ls n mm)))) S = some (dI (pt ls n mm)) := upd_same
        have hW5 : (upd H4 S (.dK (mkE V.int (pt ls n mm)))) Wd = some (dI (dr lw n)) := by rw [upd_ne wS]; exact hW4
        have nS5 : (ks (pt ls n mm)).Nodup := nd_pt nS
        have hn5 : lk (pt ls n mm) n = some mm := by rw [lk_pt]; exact up_same
        clear e4 hS4 hW4 hi4 gS
        generalize (upd H4 S (.dK (mkE V.int (pt ls n mm)))) = H5 at e5 hS5 hW5
        have l5 := l0.ex e5 nDL nDq
        have hi5 := e5.atD hi nDp trivial
        cases hx : lk ol n with
        | none =>
          -- no ties from it
          refine .inr ?_
          refine ⟨_, rfl, p, C, dx, _, _, rfl, hi5, wc.cl, wc.nL, rfl, L, rfl, .inl ⟨_, Rd.of l5.out⟩, _, rfl, fun q hq => ?_⟩
          have nLq : L ≠ q := ne_of_none l5.out hq
          refine ⟨_, DGet.k (k := Sum.inl n) (by rw [upd_ne nLq]; exact l5.out), q, [], ?_, upd_same, fun o => ?_⟩
          · rw [valV_mk, hx]; rfl
          · refine for_items (kvs := []) (fun _ σ' H' => σ' = [some (.ref p), some (.ref Wd), some (.int n), some (.int mm), v4, v5] ∧ H' = upd (upd H5 q (.dK [])) q (.frz o (.dK []))) ⟨rfl, rfl⟩ (fun i σ' H' ⟨_, z⟩ => by rw [z]; exact upd_same) (fun i k' v t σ' H' hi => by simp at hi) ?_
            rintro σ' H' ⟨rfl, rfl⟩
            rw [upd_upd]
            refine ⟨_, hmu _, pt ls n mm, dr lw n, _, _, _, _, rfl, e5.new hq, by rw [upd_ne (ne_of_none hS5 hq)]; exact hS5, by rw [upd_ne (ne_of_none hW5 hq)]; exact hW5, nS5, nW4, d5.mono fun a b p hp _ z => ?_, bd5, rfl⟩
            subst z
            rw [l0.non _ hx] at hp; cases hp
        | some q =>
          refine .inl ?_
          obtain ⟨il, r1, r2, r3⟩ := l0.inn _ _ hx
          have r5 : H5 q = some (dI il) := e5.atD r1 (nDq _ _ hx) trivial
          have nqS : S ≠ q := fun z => sq _ _ hx z.symm
          have nqW : Wd ≠ q := fun z => wq _ _ hx z.symm
          refine ⟨q, dI il, r5, trivial, fun od => ?_⟩
          have eL : Ex T (tw S Wd) (upd H q (.frz od (dI il))) (upd H5 q (.frz od (dI il))) := e5.lock r1 (nDq _ _ hx) trivial
          have hL5 : (upd H5 q (.frz od (dI il))) L = some (.dK (mkE V.ref ol)) := by rw [upd_ne (l5.neL hx).symm]; exact l5.out
          have hi6 : (upd H5 q (.frz od (dI il))) p = some (.ins C dx (fsW hh nn L S Fa)) := by
            rw [upd_ne fun z => by rw [z, r5] at hi5; cases hi5]
            exact hi5
          refine ⟨_, rfl, p, C, dx, _, _, rfl, hi6, wc.cl, wc.nL, rfl, L, rfl, .inl ⟨_, Rd.of hL5⟩, _, rfl, fun p1 hp => ?_⟩
          have nLp : L ≠ p1 := ne_of_none hL5 hp
          have nqp : q ≠ p1 := ne_of_none (H := upd H5 q (.frz od (dI il))) upd_same hp
          have nSp : S ≠ p1 := ne_of_none (H := upd H5 q (.frz od (dI il))) (by rw [upd_ne nqS]; exact hS5) hp
          have nWp : Wd ≠ p1 := ne_of_none (H := upd H5 q (.frz od (dI il))) (by rw [upd_ne nqW]; exact hW5) hp
          refine ⟨_, DGet.k (k := Sum.inl n) (by rw [upd_ne nLp]; exact hL5), q, od, il.map eI, ?_, ?_, ?_⟩
          · rw [valV_mk, hx]; rfl
          · rw [upd_ne nqp]; exact upd_same
          · refine for_items (kvs := il.map eI) (fun i σ' H' => ∃ (lw' : List (Int × Int)) (v4 v5 : Option V), σ' = [some (.ref p), some (.ref Wd), some (.int n), some (.int mm), v4, v5] ∧ Ex T (tw S Wd) (upd H q (.frz od (dI il))) H' ∧ H' q = some (.frz od (dI il)) ∧ H' S = some (dI (pt ls n mm)) ∧ H' Wd = some (dI lw') ∧ (ks lw').Nodup ∧ Bd B (lk (pt ls n mm)) (lk lw') ∧
                NR G h (fun a b => a ≠ n ∨ (a = n ∧ ∃ j, j < i ∧ (ks il)[j]? = some b)) (lk (pt ls n mm)) (lk lw'))
              ⟨dr lw n, v4, v5, rfl, eL.new hp, by rw [upd_ne nqp]; exact upd_same, by rw [upd_ne nSp, upd_ne nqS]; exact hS5, by rw [upd_ne nWp, upd_ne nqW]; exact hW5, nW4, bd5, d5.mono fun a b p _ z => ?_⟩ (fun i σ' H' ⟨_, _, _, _, _, z, _⟩ => z) ?_ ?_
            · rcases z with z | ⟨_, j, hj, _⟩
              · exact z
              · omega
            · rintro i k' v t σ' H' hi2 ⟨lw', w4, w5, rfl, e6, hq6, hS6, hW6, nw6, bd6, d6⟩ ht
              obtain ⟨b, p', hkb, _, rfl, rfl, hil⟩ := key_at hi2
              have hGp : G n b = some p' := by rw [← r3]; exact lk_of r2 (List.mem_of_getElem? hil)
              have hS7 : (upd H' t (.tup [kV (Sum.inl b), V.int p'])) S = some (dI (pt ls n mm)) := by rw [upd_ne (ne_of_none hS6 ht)]; exact hS6
              have hW7 : (upd H' t (.tup [kV (Sum.inl b), V.int p'])) Wd = some (dI lw') := by rw [upd_ne (ne_of_none hW6 ht)]; exact hW6
              have hq7 : (upd H' t (.tup [kV (Sum.inl b), V.int p'])) q = some (.frz od (dI il)) := by rw [upd_ne (ne_of_none hq6 ht)]; exact hq6
              have e7 : Ex T (tw S Wd) (upd H q (.frz od (dI il))) (upd H' t (.tup [kV (Sum.inl b), V.int p'])) := e6.new ht
              refine ⟨t, _, rfl, SqT.of upd_same, rfl, _, _, rfl, _, _, rfl, rfl, ?_⟩
              show _
              clear hS6 hW6 hq6 e6
              generalize (upd H' t (.tup [kV (Sum.inl b), V.int p'])) = H7 at hS7 hW7 hq7 e7
              -- waiting[other] = min(..)
              refine ⟨_, rfl, Wd, rfl, .inl ⟨_, Rd.of hW7⟩, _, rfl, _, rfl, _, rfl, _, _, rfl, rfl, _, DGet.k (k := Sum.inl b) hW7, _, rfl, _, rfl, _, _, rfl, rfl, ?_⟩
              obtain ⟨y, ey, el⟩ := lower_eq (lw := lw') (b := b) (x := mm + p') (v := ((lk lw' b).map V.int).getD (V.int (mm + p'))) rfl
              rw [show lw'.map eI = mkE V.int lw' from rfl, valV_mk, ey]
              have lw8 : lw'.length ≤ 8 := len8 nw6 (d6.wIn hG)
              refine ⟨y, _, rfl, _, rfl, _, rfl, Wd, _, rfl, DPut.k (k := Sum.inl b) hW7 (lt_small (by rw [List.length_map]; omega)), ?_⟩
              rw [show lw'.map eI = mkE V.int lw' from rfl, putK_mk nw6]
              refine ⟨_, _, _, rfl, e7.wr (.inl (.inr rfl)) (fun u e => by rw [hW7] at e; cases e; trivial), by rw [upd_ne nqW.symm]; exact hq7, by rw [upd_ne wS.symm]; exact hS7, upd_same, nd_pt nw6, ?_, ?_⟩
              · rw [el]
                exact bd6.relax hn5 (hG _ _ _ hGp).2.2.2.2.2.2
              · rw [el]
                refine (d6.relax hn5 hGp).mono fun a c r _ z => ?_
                rcases z with z | ⟨z1, j, z2, z3⟩
                · exact .inl (.inl z)
                · by_cases ej : j = i
                  · subst ej
                    rw [hkb] at z3; cases z3
                    exact .inr ⟨z1, rfl⟩
                  · exact .inl (.inr ⟨z1, j, by omega, z3⟩)
            · rintro σ' H' ⟨lw', w4, w5, rfl, e6, hq6, hS6, hW6, nw6, bd6, d6⟩
              refine ⟨hq6, _, hmu _, pt ls n mm, lw', _, _, _, _, rfl, e6.unlock r1 hq6 trivial, by rw [upd_ne nqS]; exact hS6, by rw [upd_ne nqW]; exact hW6, nS5, nw6, d6.mono fun a b p hp _ => ?_, bd6, rfl⟩
              by_cases z : a = n
              · subst z
                refine .inr ⟨rfl, ?_⟩
                rw [← r3] at hp
                obtain ⟨j, hj⟩ := List.mem_iff_getElem?.mp (lk_key hp)
                have := (List.getElem?_eq_some_iff.mp hj).1
                rw [List.length_map] at this
                exact ⟨j, by rw [List.length_map]; exact this, hj⟩
              · exact .inl z
      · refine iteFe (by cases q : (match lk ls n with | none => true | some y => decide (mm < y)) with | false => rfl | true => exact absurd q hc) ?_
        obtain ⟨y, hy, hle⟩ : ∃ y, lk ls n = some y ∧ y ≤ mm := by
          cases q : lk ls n with
          | none => rw [q] at hc; exact absurd rfl hc
          | some y =>
            rw [q] at hc
            refine ⟨y, rfl, ?_⟩
            have : ¬ mm < y := fun z => hc (decide_eq_true z)
            omega
        have d6 := d1.drop hwn hy hle
        have bd6 := bd.drop (k := n)
        rw [← lk_dr] at d6 bd6
        refine ⟨mu B (lk ls) (lk (dr lw n)), by rw [hm, lk_dr]; exact mu_drop n0 n8 hwn, ls, dr lw n, _, _, _, _, rfl, e4, hS4, hW4, nS, nW4, d6, bd6, rfl⟩
end
end WyP

set_option Elab.async false
set_option linter.all false
set_option maxRecDepth 100000
set_option maxHeartbeats 4000000
/-! Ways.settle -/
namespace WyP
open PySem PySem.Spec PyProof.Rows L2 LamX Wy WyL WyH
section
variable {P : Program} {w : World} {K : PySem.W.Frag} {mg : Str → Option Value} {base : Heap} {T : TT0} {C : Addr}
def spSettle (C : Addr) (T : TT0) : Sp := fun vs H Q _ => ∃ (p L S q0 : Addr) (ol : List (Int × Addr)) (ls : List (Int × Int)) (G : Gr) (h u v : Int) (pr : Option Int), vs = [.ref p, .int u, .int v, pO pr] ∧ WR C H p L S ol ls G ∧ H S = some (dI ls) ∧ (ks ls).Nodup ∧ S ≠ L ∧ (∀ a q, lk ol a = some q → q ≠ S) ∧ ol.length ≤ 900 ∧ GIn 8 G ∧ 0 ≤ h ∧ h < 8 ∧ Fix G h (lk ls) ∧ lk ol u = some q0 ∧
  ((pr = none ∧ ∃ c, G u v = some c) ∨ (∃ c, pr = some c ∧ G u v = none ∧ GIn 8 (up2 G u v (some c)))) ∧ Tabs T H ∧
  ∀ (ls' : List (Int × Int)) (H' : Hp), Ex T (tw S q0) H H' → LN H' L ol (up2 G u v pr) → H' S = some (dI ls') → (ks ls').Nodup → Fix (up2 G u v pr) h (lk ls') → Q .non H'
theorem scSe : FnScope ["self", "one", "other", "price", "is_lost", "waiting", "lost", "house", "ahead", "here", "step"] ["self", "one", "other", "price"] (defScope (cW 6)) := ⟨rfl, rfl, rfl, by decide +kernel, rfl, by decide +kernel, by decide +kernel⟩
theorem ok_settle {f f1 f2 f3 f4 f5 : Addr} {fd fd1 fd2 fd3 fd4 fd5 : FuncData} (F : FnP K "settle" "Ways.settle" (cW 6) f fd) (wc : WC K C)
    (m1 : Meth K C "price_now" f1) (C1 : FnOk P w K mg base CX0 1 f1 fd1 ["self", "one", "other"] (spNow C T)) (b1 : L2.Binds K fd1 ["self", "one", "other"] [])
    (m2 : Meth K C "is_least_step" f2) (C2 : FnOk P w K mg base CX0 2 f2 fd2 ["self", "one", "other"] (spStep C T)) (b2 : L2.Binds K fd2 ["self", "one", "other"] [])
    (m3 : Meth K C "lost_behind" f3) (C3 : FnOk P w K mg base CX0 3 f3 fd3 ["self", "first"] (spLost C T)) (b3 : L2.Binds K fd3 ["self", "first"] [])
    (m4 : Meth K C "nearer" f4) (C4 : FnOk P w K mg base CX0 4 f4 fd4 ["self", "waiting"] (spNear C T)) (b4 : L2.Binds K fd4 ["self", "waiting"] [])
    (m5 : Meth K C "put" f5) (C5 : FnOk P w K mg base CX0 1 f5 fd5 ["self", "one", "other", "price"] (spPut C T)) (b5 : L2.Binds K fd5 ["self", "one", "other", "price"] [])
    (gm : mg "min" = none) : FnOk P w K mg base CX0 5 f fd ["self", "one", "other", "price"] (spSettle C T) := by
  refine F.ok scSe (fun vs H Q E h => ?_) (fun cdv A outer s H vs Q E hr h => ?_)
  · obtain ⟨p, L, S, q0, ol, ls, G, h, u, v, pr, rfl, _⟩ := h
    rfl
  · obtain ⟨p, L, S, q0, ol, ls, G, h, u, v, pr, rfl, wr, hS, nd, sL, sq, ho9, hG, h0, h8, fx, hq0, hpr, hT, k⟩ := h
    have hu := hu_of hr
    refine ⟨_, PSs.nox (pss_cons (ps_set (i := 4) scSe.nd rfl (Or.inl rfl) (pe_meth (pv 0) wc.cl m2 C2 (hr.mono (by decide)) b2 .nil pass0 (pa_cons (pv 1) (pa_cons (pv 2) pa_nil))))
      (pss_cons (ps_expr (pe_meth (pv 0) wc.cl m5 C5 (hr.mono (by decide)) b5 .nil pass0 (pa_cons (pv 1) (pa_cons (pv 2) (pa_cons (pv 3) pa_nil)))))
      (pss_cons (ps_set (i := 5) scSe.nd rfl (Or.inl rfl) pe_dnewK)
      (pss_cons (ps_if (PW.pt (pw_and (pt_val (pv 4)) (pw_and1 (pt_not (pt_val (pe_meth (pv 0) wc.cl m2 C2 (hr.mono (by decide)) b2 .nil pass0 (pa_cons (pv 1) (pa_cons (pv 2) pa_nil))))))))
          (pss_cons (ps_set (i := 6) scSe.nd rfl (Or.inl rfl) (pe_meth (pv 0) wc.cl m3 C3 (hr.mono (by decide)) b3 .nil pass0 (pa_cons (pv 2) pa_nil)))
          (pss_cons (ps_for PassesOwn.never rfl (pi_list (pv 6)) (pg_name (i := 7) scSe.nd rfl (Or.inl rfl))
              (pss_one (ps_expr (pe_dpop1 (pe_fld (pv 0) rfl) (pv 7) ⟨rfl, rfl, rfl, rfl⟩))))
          (pss_one (ps_lock (ps_for PassesOwn.never rfl (pi_items (pe_fld (pv 0) rfl)) (pg_tup rfl (pgs_cons (pg_name (i := 8) scSe.nd rfl (Or.inl rfl)) (pgs_cons (pg_name (i := 9) scSe.nd rfl (Or.inl rfl)) pgs_nil)))
              (pss_one (ps_for PassesOwn.never rfl (pi_list (pv 6)) (pg_name (i := 7) scSe.nd rfl (Or.inl rfl))
                (pss_cons (ps_set (i := 10) scSe.nd rfl (Or.inl rfl) (pe_meth (pv 0) wc.cl m1 C1 (hr.mono (by decide)) b1 .nil pass0 (pa_cons (pv 8) (pa_cons (pv 7) pa_nil))))
                (pss_one (ps_if (pt_cmp (pc_notN (pv 10)))
                  (pss_one (ps_dput hu (pv 5) (pv 7) (pe_callB (call_min2 rfl) (by rfl) gm boot_min (pa_cons (pe_dget2 hu (pv 5) (pv 7) (pe_op op_add (pv 9) (pv 10)) ⟨rfl, rfl, rfl, rfl⟩) (pa_cons (pe_op op_add (pv 9) (pv 10)) pa_nil))) rfl)) pss_nil)))))))))) pss_nil)
      (pss_cons (ps_if (PW.pt (pw_and (pt_cmp (pc_notN (pv 3))) (pw_and1 (pt_cmp (pc_din hu (pv 1) (pe_fld (pv 0) rfl))))))
          (pss_cons (ps_set (i := 9) scSe.nd rfl (Or.inl rfl) (pe_op op_add (pe_dget hu (pe_fld (pv 0) rfl) (pv 1) (fun _ _ => rfl)) (pv 3)))
          (pss_one (ps_dput hu (pv 5) (pv 2) (pe_callB (call_min2 rfl) (by rfl) gm boot_min (pa_cons (pe_dget2 hu (pv 5) (pv 2) (pv 9) ⟨rfl, rfl, rfl, rfl⟩) (pa_cons (pv 9) pa_nil))) rfl))) pss_nil)
      (pss_one (ps_expr (pe_meth (pv 0) wc.cl m4 C4 hr b4 .nil pass0 (pa_cons (pv 5) pa_nil))))))))), ?_⟩
    obtain ⟨dx, hh, nn, Fa, hi⟩ := id wr.ins
    -- is_lost
    refine ⟨_, rfl, p, dx, _, rfl, hi, rfl, _, rfl, _, rfl, p, L, S, ol, ls, G, u, v, rfl, wr, hT, fun H1 e1 => ?_⟩
    have wr1 := wr.ex e1
    have hi1 := e1.at_ hi trivial
    -- self.put(..)
    refine ⟨_, rfl, p, dx, _, rfl, hi1, rfl, _, rfl, _, rfl, _, rfl, p, L, S, q0, ol, ls, G, u, v, pr, rfl, wr1, hG, hq0, ho9, e1.tb, fun H2 e12 l2 => ?_⟩
    have nq0S := sq _ _ hq0
    have nq0L := wr.ln.neL hq0
    have e2 : Ex T (tw S q0) H H2 := (e1.mono (fun _ z => z.elim)).trans e12 fun x z => .inl (.inr z)
    have hS2 : H2 S = some (dI ls) := e12.atD (e1.at_ hS trivial) (fun z => nq0S z.symm) trivial
    -- waiting = {}
    intro Wd hWd
    have fW : Fresh H Wd := e2.fresh (.of hWd) (fun z => by
      rcases z with z | z
      · rw [z, hS2] at hWd; cases hWd
      · obtain ⟨il, r, _⟩ := l2.inn _ _ hq0
        rw [z, r] at hWd; cases hWd)
    have nSW : Wd ≠ S := (fW.ne hS trivial).symm
    have nLW : Wd ≠ L := (fW.ne wr.ln.out trivial).symm
    have nqW : ∀ a q, lk ol a = some q → q ≠ Wd := fun a q e => by
      obtain ⟨il, r, _⟩ := wr.ln.inn _ _ e
      exact fW.ne r trivial
    have e3 : Ex T (tw S q0) H (upd H2 Wd (.dK [])) := e2.new hWd
    have l3 : LN (upd H2 Wd (.dK [])) L ol (up2 G u v pr) := l2.ex (T := T) (D := no) ((Ex.refl e2.tb).new hWd) (fun z => z) fun _ _ _ z => z
    have hS3 : (upd H2 Wd (.dK [])) S = some (dI ls) := by rw [upd_ne nSW.symm]; exact hS2
    have hW3 : (upd H2 Wd (.dK [])) Wd = some (dI []) := upd_same
    have hG' : GIn 8 (up2 G u v pr) := by
      rcases hpr with ⟨rfl, c, _⟩ | ⟨c, rfl, _, g⟩
      · exact hG.rem
      · exact g
    have nDp : ¬ tw S q0 p := fun z => by
      rcases z with z | z
      · rw [z, hS] at hi; cases hi
      · obtain ⟨il, r, _⟩ := wr.ln.inn _ _ hq0
        rw [z, r] at hi; cases hi
    have npW : p ≠ Wd := fW.ne hi trivial
    clear wr1 hi1 e1 e12 e2 hS2 l2 hWd
    generalize (upd H2 Wd (.dK [])) = H3 at e3 l3 hS3 hW3
    have fin : ∀ (Hx : Hp) (lsx lwx : List (Int × Int)), Ex T (tw S q0) H Hx → LN Hx L ol (up2 G u v pr) → Hx S = some (dI lsx) → Hx Wd = some (dI lwx) → (ks lsx).Nodup → (ks lwx).Nodup → NR (up2 G u v pr) h (fun _ _ => True) (lk lsx) (lk lwx) → spNear C T [.ref p, .ref Wd] Hx (fun _ H' => Q .non H') E0 := fun Hx lsx lwx ex lx hSx hWx ndx nwx nrx =>
      ⟨p, L, S, Wd, ol, lsx, lwx, _, h, rfl, ⟨⟨dx, hh, nn, Fa, ex.atD hi nDp trivial⟩, lx, .inl hSx⟩, hSx, hWx, ndx, nwx, sL, sq, nLW, nSW, nqW, hG', h0, h8, nrx, ex.tb, fun ls' H' e' hS' nd' fx' => by
        refine k ls' H' (ex.trans e' fun x z => ?_) (lx.ex e' (fun z => ?_) fun a q hq z => ?_) hS' nd' fx'
        · rcases z with z | z
          · exact .inl (.inl z)
          · exact .inr (z ▸ fW)
        · rcases z with z | z
          · exact sL z.symm
          · exact nLW z.symm
        · rcases z with z | z
          · exact sq _ _ hq z
          · exact nqW _ _ hq z⟩
    rcases hpr with ⟨rfl, c, hc⟩ | ⟨c, rfl, hno, _⟩
    · -- the tie goes
      cases hst : stepB G (lk ls) u v with
      | false =>
        refine ⟨_, rfl, _, rfl, ?_⟩
        refine iteF ?_
        refine iteF ?_
        refine ⟨_, rfl, false, rfl, ?_⟩
        refine iteF ?_
        refine iteF ?_
        refine ⟨_, rfl, p, dx, _, rfl, e3.atD hi nDp trivial, rfl, _, rfl, fin H3 ls [] e3 l3 hS3 hW3 nd (by simp) ?_⟩
        exact no_loss fx (fun z => by rw [stepB_iff.mpr z] at hst; cases hst) _
      | true =>
        have st0 := stepB_iff.mp hst
        have lb0 : LB (up2 G u v none) h (lk ls) [] [v] := LB.start (c := c) fx hG st0
        have hi3 := e3.atD hi nDp trivial
        have wr3 : WR C H3 p L S ol ls (up2 G u v none) := ⟨⟨dx, hh, nn, Fa, hi3⟩, l3, .inl hS3⟩
        refine ⟨_, rfl, _, rfl, ?_⟩
        refine iteT ?_
        refine ⟨_, rfl, p, dx, _, rfl, hi3, rfl, _, rfl, _, rfl, p, L, S, ol, ls, _, u, v, rfl, wr3, e3.tb, fun H4 e34 => ?_⟩
        have hst' : stepB (up2 G u v none) (lk ls) u v = false := by
          unfold stepB up2
          rw [if_pos ⟨rfl, rfl⟩]
        refine ⟨_, rfl, ?_⟩
        rw [hst']
        refine iteT ?_
        have wr4 := wr3.ex e34
        have hi4 := e34.at_ hi3 trivial
        have hS4 := e34.at_ hS3 trivial
        have hW4 := e34.at_ hW3 trivial
        have e4 := e3.tr e34
        refine ⟨_, rfl, p, dx, _, rfl, hi4, rfl, _, rfl, p, L, S, ol, ls, _, h, v, rfl, wr4, hS4, nd, sL, sq, hG', fx.inR hG h0 h8, fx.nn, fx.src, lb0, e4.tb, fun l X H5 e45 hl5 lbX fl4 => ?_⟩
        have e5 := e4.tr e45
        have hS5 := e45.at_ hS4 trivial
        have hW5 := e45.at_ hW4 trivial
        have l5 := (wr4.ex e45).ln
        have nlS : S ≠ l := fl4.ne hS4 trivial
        have nlW : Wd ≠ l := fl4.ne hW4 trivial
        have nlq : q0 ≠ l := by
          obtain ⟨il, r, _⟩ := wr4.ln.inn _ _ hq0
          exact fl4.ne r trivial
        have nlL : L ≠ l := fl4.ne wr4.ln.out trivial
        have nlqs : ∀ a q, lk ol a = some q → q ≠ l := fun a q e => by
          obtain ⟨il, r, _⟩ := wr4.ln.inn _ _ e
          exact fl4.ne r trivial
        clear e34 e45 wr3 wr4 hi3 hi4 hS4 hW4 e4 hS3 hW3 l3 e3 hst' fl4
        -- for house in lost: self.own_sums.pop(house)
        refine ⟨_, rfl, l, rfl, ⟨_, .inl (.inl hl5)⟩, for_list (K := K) (a := l) (xs := X.map V.int) (fun i σ H' => ∃ (lsx : List (Int × Int)) (v7 v8 v9 v10 : Option V), σ = [some (.ref p), some (.int u), some (.int v), some .non, some (.bl true), some (.ref Wd), some (.ref l), v7, v8, v9, v10] ∧ Ex T (tw S q0) H H' ∧ LN H' L ol (up2 G u v none) ∧ H' S = some (dI lsx) ∧ (ks lsx).Nodup ∧ lk lsx = less (lk ls) (X.take i) ∧ H' Wd = some (dI []) ∧ H' l = some (.lst (X.map V.int)))
          ⟨ls, none, none, none, none, rfl, e5, l5, hS5, nd, by rw [List.take_zero, less_nil], hW5, hl5⟩ (fun i σ H' _ ⟨_, _, _, _, _, _, _, _, _, _, _, _, z⟩ => .inl (.inl z)) ?_ ?_⟩
        · rintro i y σ H6 hi6 ⟨lsx, v7, v8, v9, v10, rfl, e6, l6, hS6, nd6, lk6, hW6, hl6⟩
          obtain ⟨x, hx, rfl⟩ := map_at hi6
          have hxX := List.mem_of_getElem? hx
          obtain ⟨hxh, ⟨yx, hyx⟩, _⟩ := lbX.hX x hxX
          have hxt : x ∉ X.take i := fun m => by
            have nd := lbX.nd
            have hi' : i < X.length := (List.getElem?_eq_some_iff.mp hx).1
            have e := List.drop_eq_getElem_cons hi'
            rw [(List.getElem?_eq_some_iff.mp hx).2] at e
            rw [← List.take_append_drop i X, e] at nd
            exact (List.nodup_append.mp nd).2.2 _ m _ List.mem_cons_self rfl
          have hv6 : lk lsx x = some yx := by rw [lk6]; exact less_of hyx hxt
          refine ⟨_, rfl, p, C, dx, _, _, rfl, e6.atD hi nDp trivial, wc.cl, wc.nS, rfl, S, rfl, .inl ⟨_, Rd.of hS6⟩, _, rfl, lsx.map eI, Sum.inl x, V.int yx, hS6, rfl, by rw [show lsx.map eI = mkE V.int lsx from rfl, valV_mk, hv6]; rfl, ?_⟩
          rw [show lsx.map eI = mkE V.int lsx from rfl, dropK_mk]
          refine ⟨dr lsx x, _, _, _, _, rfl, e6.wr (.inl (.inl rfl)) (fun u e => by rw [hS6] at e; cases e; trivial), l6.ex (T := T) (D := fun z => z = S) ((Ex.refl e6.tb).wr (.inl rfl) fun u e => by rw [hS6] at e; cases e; trivial) (fun z => sL z.symm) sq, upd_same, nd_dr nd6, ?_, by rw [upd_ne nSW]; exact hW6, by rw [upd_ne nlS.symm]; exact hl6⟩
          rw [lk_dr, lk6, List.take_add_one, hx]
          exact (less_snoc _ _ _).symm
        · rintro σ H6 ⟨lsx, v7, v8, v9, v10, rfl, e6, l6, hS6, nd6, lk6, hW6, hl6⟩
          rw [List.length_map, List.take_length] at lk6
          have hi6 := e6.atD hi nDp trivial
          -- for ahead, here in self.own_sums.items()
          refine ⟨S, dI lsx, hS6, trivial, fun od => ?_⟩
          have eL : Ex T (fun x => x = S) H6 (upd H6 S (.frz od (dI lsx))) := ex_lock e6.tb hS6 trivial
          have npS : p ≠ S := fun z => by rw [z, hS6] at hi6; cases hi6
          have hiL := eL.atD hi6 npS trivial
          have wL : WR C (upd H6 S (.frz od (dI lsx))) p L S ol lsx (up2 G u v none) := ⟨⟨dx, hh, nn, Fa, hiL⟩, l6.ex eL (fun z => sL z.symm) sq, .inr ⟨od, upd_same⟩⟩
          have hWL : (upd H6 S (.frz od (dI lsx))) Wd = some (dI []) := by rw [upd_ne nSW]; exact hW6
          have hlL : (upd H6 S (.frz od (dI lsx))) l = some (.lst (X.map V.int)) := by rw [upd_ne nlS.symm]; exact hl6
          refine ⟨_, rfl, p, C, dx, _, _, rfl, hiL, wc.cl, wc.nS, rfl, S, od, lsx.map eI, rfl, upd_same, ?_⟩
          refine for_items (kvs := lsx.map eI) (fun i σ' H' => ∃ (lw : List (Int × Int)) (v7 v8 v9 v10 : Option V), σ' = [some (.ref p), some (.int u), some (.int v), some .non, some (.bl true), some (.ref Wd), some (.ref l), v7, v8, v9, v10] ∧ Ex T (fun x => x = Wd) (upd H6 S (.frz od (dI lsx))) H' ∧ H' S = some (.frz od (dI lsx)) ∧ H' Wd = some (dI lw) ∧ (ks lw).Nodup ∧ WN (up2 G u v none) (lk lsx) (fun a b => b ∈ X ∧ a ∈ (ks lsx).take i) (lk lw))
            ⟨[], v7, v8, v9, v10, rfl, Ex.refl eL.tb, upd_same, hWL, by simp, (WN.start _ _).mono fun a x b p _ _ z => by simp at z⟩ (fun i σ' H' ⟨_, _, _, _, _, _, _, z, _⟩ => z) ?_ ?_
          · rintro i k' y t σ' H7 hi7 ⟨lw, w7, w8, w9, w10, rfl, e7, hS7, hW7, nw7, wn⟩ ht
            obtain ⟨a, z, hka, htk, rfl, rfl, hil⟩ := key_at hi7
            have haz : lk lsx a = some z := lk_of nd6 (List.mem_of_getElem? hil)
            have e8 : Ex T (fun x => x = Wd) (upd H6 S (.frz od (dI lsx))) (upd H7 t (.tup [kV (Sum.inl a), V.int z])) := e7.new ht
            have hS8 : (upd H7 t (.tup [kV (Sum.inl a), V.int z])) S = some (.frz od (dI lsx)) := by rw [upd_ne (ne_of_none hS7 ht)]; exact hS7
            have hW8 : (upd H7 t (.tup [kV (Sum.inl a), V.int z])) Wd = some (dI lw) := by rw [upd_ne (ne_of_none hW7 ht)]; exact hW7
            refine ⟨t, _, rfl, SqT.of upd_same, rfl, _, _, rfl, _, _, rfl, rfl, ?_⟩
            show _
            clear e7 hS7 hW7 ht
            generalize (upd H7 t (.tup [kV (Sum.inl a), V.int z])) = H8 at e8 hS8 hW8
            refine ⟨_, rfl, l, rfl, ⟨_, .inl (.inl (e8.atD hlL (fun z => nlW z.symm) trivial))⟩, for_list (K := K) (a := l) (xs := X.map V.int) (fun j σ' H' => ∃ (lw : List (Int × Int)) (v7 v10 : Option V), σ' = [some (.ref p), some (.int u), some (.int v), some .non, some (.bl true), some (.ref Wd), some (.ref l), v7, some (.int a), some (.int z), v10] ∧ Ex T (fun x => x = Wd) (upd H6 S (.frz od (dI lsx))) H' ∧ H' S = some (.frz od (dI lsx)) ∧ H' Wd = some (dI lw) ∧ (ks lw).Nodup ∧ WN (up2 G u v none) (lk lsx) (fun a' b => (b ∈ X ∧ a' ∈ (ks lsx).take i) ∨ (a' = a ∧ b ∈ X.take j)) (lk lw))
              ⟨lw, _, _, rfl, e8, hS8, hW8, nw7, wn.mono fun a' x b p' _ _ z' => ?_⟩ (fun j σ' H' _ ⟨_, _, _, _, e, _⟩ => .inl (.inl (e.atD hlL (fun z => nlW z.symm) trivial))) ?_ ?_⟩
            · rcases z' with z' | ⟨_, z'⟩
              · exact z'
              · simp at z'
            · rintro j yb σ' H9 hj ⟨lw, v7, v10, rfl, e9, hS9, hW9, nw9, wn9⟩
              obtain ⟨b, hb, rfl⟩ := map_at hj
              have wr9 := wL.exD e9 npW (fun z => nLW z.symm) nqW (.inr ⟨od, hS9⟩)
              obtain ⟨dx9, hh9, nn9, Fa9, hi9⟩ := id wr9.ins
              refine ⟨_, rfl, p, dx9, _, rfl, hi9, rfl, _, rfl, _, rfl, p, L, S, ol, lsx, _, a, b, rfl, wr9, e9.tb, fun H10 e910 => ?_⟩
              have e10 := e9.tr e910
              have hS10 := e910.at_ hS9 trivial
              have hW10 := e910.at_ hW9 trivial
              cases hg : up2 G u v none a b with
              | none =>
                refine ⟨_, rfl, false, rfl, ?_⟩
                refine iteF ?_
                refine ⟨lw, _, _, rfl, e10, hS10, hW10, nw9, wn9.mono fun a' x b' p' _ hp' z' => ?_⟩
                rcases z' with z' | ⟨z1, z2⟩
                · exact .inl z'
                · rw [List.take_add_one, hb] at z2
                  rcases List.mem_append.mp z2 with z2 | z2
                  · exact .inr ⟨z1, z2⟩
                  · have : b' = b := by simpa using z2
                    rw [z1, this, hg] at hp'; cases hp'
              | some p' =>
                refine ⟨_, rfl, true, rfl, ?_⟩
                refine iteT ?_
                refine ⟨_, rfl, Wd, rfl, .inl ⟨_, Rd.of hW10⟩, _, rfl, _, rfl, _, rfl, _, _, rfl, rfl, _, DGet.k (k := Sum.inl b) hW10, _, rfl, _, rfl, _, _, rfl, rfl, ?_⟩
                obtain ⟨y, ey, el⟩ := lower_eq (lw := lw) (b := b) (x := z + p') (v := ((lk lw b).map V.int).getD (V.int (z + p'))) rfl
                rw [show lw.map eI = mkE V.int lw from rfl, valV_mk, ey]
                have lw8 : lw.length ≤ 8 := len8 nw9 fun b' y' e => by
                  obtain ⟨a', x', p'', _, r, _⟩ := wn9.w2 b' y' e
                  obtain ⟨_, _, z1, z2, _⟩ := hG' _ _ _ r
                  exact ⟨z1, z2⟩
                refine ⟨y, _, rfl, _, rfl, _, rfl, Wd, _, rfl, DPut.k (k := Sum.inl b) hW10 (lt_small (by rw [List.length_map]; omega)), ?_⟩
                rw [show lw.map eI = mkE V.int lw from rfl, putK_mk nw9]
                refine ⟨_, _, _, rfl, e10.wr (.inl rfl) (fun u e => by rw [hW10] at e; cases e; trivial), by rw [upd_ne nSW.symm]; exact hS10, upd_same, nd_pt nw9, ?_⟩
                rw [el]
                refine (wn9.relax haz hg).mono fun a' x b' p'' _ _ z' => ?_
                rcases z' with z' | ⟨z1, z2⟩
                · exact .inl (.inl z')
                · rw [List.take_add_one, hb] at z2
                  rcases List.mem_append.mp z2 with z2 | z2
                  · exact .inl (.inr ⟨z1, z2⟩)
                  · exact .inr ⟨z1, by simpa using z2⟩
            · rintro σ' H9 ⟨lw, v7, v10, rfl, e9, hS9, hW9, nw9, wn9⟩
              refine ⟨lw, _, _, _, _, rfl, e9, hS9, hW9, nw9, wn9.mono fun a' x b p' _ _ z' => ?_⟩
              rw [List.length_map, List.take_length]
              obtain ⟨z1, z2⟩ := z'
              rw [htk] at z2
              rcases List.mem_append.mp z2 with z2 | z2
              · exact .inl ⟨z1, z2⟩
              · exact .inr ⟨by simpa using z2, z1⟩
          · rintro σ' H' ⟨lw, w7, w8, w9, w10, rfl, e7, hS7, hW7, nw7, wn⟩
            refine ⟨hS7, ?_⟩
            have etk : (ks lsx).take (lsx.map eI).length = ks lsx := by rw [List.length_map, ← List.length_map (f := fun (e : Int × Int) => e.1), List.take_length]
            rw [etk] at wn
            have e8 : Ex T (tw S q0) H (upd H' S (dI lsx)) := by
              refine ⟨fun b o hb ndb nt => ?_, tabs_upd e7.tb fun u e => by rw [hS7] at e; cases e; trivial⟩
              have hbS : b ≠ S := fun z => ndb (.inl z)
              have hbW : b ≠ Wd := fun z => by
                rw [z] at hb
                obtain ⟨ps, r⟩ := fW o hb
                exact nt ps r
              rw [upd_ne hbS]
              exact e7.ext b o (by rw [upd_ne hbS]; exact e6.ext b o hb ndb nt) hbW nt
            have l7 : LN H' L ol (up2 G u v none) := wL.ln.ex e7 (fun z => nLW z.symm) nqW
            have l8 : LN (upd H' S (dI lsx)) L ol (up2 G u v none) := l7.ex (ex_lock e7.tb hS7 trivial) (fun z => sL z.symm) sq
            refine ⟨_, rfl, false, rfl, ?_⟩
            refine iteF ?_
            refine iteF ?_
            refine ⟨_, rfl, p, dx, _, rfl, e8.atD hi nDp trivial, rfl, _, rfl, fin _ lsx lw e8 l8 upd_same (by rw [upd_ne nSW]; exact hW7) nd6 nw7 ?_⟩
            rw [lk6]
            rw [lk6] at wn
            refine lbX.near fx (fun a x b p e1 e2 e3 => wn.w1 a x b p e1 e3 ⟨e2, lk_key (v := x) (by rw [lk6]; exact e1)⟩) wn.w2 _
    · -- the tie comes
      have hst : stepB G (lk ls) u v = false := by unfold stepB; rw [hno]
      have hi3 := e3.atD hi nDp trivial
      have hc' : up2 G u v (some c) u v = some c := by unfold up2; rw [if_pos ⟨rfl, rfl⟩]
      have hrem : rem (up2 G u v (some c)) u v = G := by
        funext a b
        unfold rem up2
        by_cases e : a = u ∧ b = v
        · rw [if_pos e, e.1, e.2, hno]
        · rw [if_neg e, if_neg e]
      have fx' : Fix (rem (up2 G u v (some c)) u v) h (lk ls) := by rw [hrem]; exact fx
      refine ⟨_, rfl, _, rfl, ?_⟩
      refine iteFe hst ?_
      refine iteF ?_
      refine ⟨_, rfl, true, rfl, ?_⟩
      refine iteT ?_
      refine ⟨_, rfl, _, rfl, p, C, dx, _, _, rfl, hi3, wc.cl, wc.nS, rfl, S, _, rfl, DGet.m (f := V.int) (k := u) (Rd.of hS3), _, rfl, ?_⟩
      cases hx : lk ls u with
      | none =>
        refine iteF ?_
        refine ⟨_, rfl, p, dx, _, rfl, hi3, rfl, _, rfl, fin H3 ls [] e3 l3 hS3 hW3 nd (by simp) ?_⟩
        exact again hc' fx' (fun x e => by rw [hx] at e; cases e) (fun b y e => by cases e) _
      | some x =>
        refine iteT ?_
        have g := DGet.m (f := V.int) (k := u) (Rd.of hS3)
        rw [hx] at g
        refine ⟨_, rfl, p, C, dx, _, _, rfl, hi3, wc.cl, wc.nS, rfl, _, rfl, S, _, rfl, g, _, rfl, _, _, rfl, rfl, ?_⟩
        refine ⟨_, rfl, Wd, rfl, .inl ⟨_, Rd.of hW3⟩, _, rfl, _, rfl, _, DGet.k (k := Sum.inl v) hW3, _, rfl, ?_⟩
        obtain ⟨y, ey, el⟩ := lower_eq (lw := []) (b := v) (x := x + c) (v := ((lk ([] : List (Int × Int)) v).map V.int).getD (V.int (x + c))) rfl
        rw [show ([] : List (Int × Int)).map eI = mkE V.int [] from rfl, valV_mk]
        show _
        rw [ey]
        refine ⟨y, _, rfl, _, rfl, _, rfl, Wd, _, rfl, DPut.k (k := Sum.inl v) hW3 (by decide), ?_⟩
        rw [show ([] : List (Int × Int)).map eI = mkE V.int [] from rfl, putK_mk (by simp)]
        have e4 : Ex T (tw S q0) H (upd H3 Wd (.dK (mkE V.int (pt [] v (if x + c < y then x + c else y))))) := e3.wr (.inr fW) fun u e => by rw [hW3] at e; cases e; trivial
        have eW : Ex T (fun z => z = Wd) H3 (upd H3 Wd (.dK (mkE V.int (pt [] v (if x + c < y then x + c else y))))) := (Ex.refl e3.tb).wr (.inl rfl) fun u e => by rw [hW3] at e; cases e; trivial
        refine ⟨_, rfl, p, dx, _, rfl, e4.atD hi nDp trivial, rfl, _, rfl, fin _ ls _ e4 (l3.ex eW (fun z => nLW z.symm) nqW) (by rw [upd_ne nSW.symm]; exact hS3) upd_same nd (nd_pt (by simp)) ?_⟩
        rw [el]
        refine again hc' fx' (fun x' e => ?_) (fun b z e => ?_) _
        · rw [hx] at e; cases e
          unfold lower
          rw [up_same]
          rfl
        · rcases lower_cases e with ⟨q1, q2⟩ | q
          · exact ⟨q1, x, hx, q2.symm⟩
          · cases q
end
end WyP

set_option Elab.async false
set_option linter.all false
set_option maxRecDepth 100000
set_option maxHeartbeats 4000000
/-! Ways.__init__ -/
namespace WyP
open PySem PySem.Spec PyProof.Rows L2 LamX Wy WyL WyH
abbrev fs1 (h : Int) : List (Str × V) := [("own_house", .int h)]
abbrev fs2 (h : Int) (L : Addr) : List (Str × V) := [("own_house", .int h), ("own_lines", .ref L)]
abbrev fs3 (h : Int) (L S : Addr) : List (Str × V) := [("own_house", .int h), ("own_lines", .ref L), ("own_sums", .ref S)]
abbrev fs4 (h : Int) (L S F : Addr) : List (Str × V) := [("own_house", .int h), ("own_lines", .ref L), ("own_sums", .ref S), ("own_firsts", .ref F)]
section
variable {P : Program} {w : World} {K : PySem.W.Frag} {mg : Str → Option Value} {base : Heap} {T : TT0} {C : Addr}
def spInit (C : Addr) (T : TT0) : Sp := fun vs H Q _ => ∃ (p a dx : Addr) (ps : List Addr) (ts : List Tr3) (h : Int), vs = [.ref p, .int h, .ref a] ∧ H p = some (.ins C dx []) ∧ SeenL H a ps ts ∧ ts.length ≤ 900 ∧ TsOk ts ∧ GIn 8 (gOf ts) ∧ 0 ≤ h ∧ h < 8 ∧ Tabs T H ∧
  ∀ (L S F : Addr) (ol : List (Int × Addr)) (ls : List (Int × Int)) (lo : List (Int × Addr)) (Fn : FF) (H' : Hp), Ex T (fun x => x = p) H H' → WO C H' p L S F ol ls lo h 0 (gOf ts) Fn → Fix (gOf ts) h (lk ls) → Firsts (gOf ts) h (lk ls) Fn → Fresh H L → Fresh H S → Fresh H F → (∀ a q, lk ol a = some q → Fresh H q) → ol.length ≤ 900 → Q .non H'
theorem scIn : FnScope ["self", "house", "seen"] ["self", "house", "seen"] (defScope (cW 0)) := ⟨rfl, rfl, rfl, by decide +kernel, rfl, by decide +kernel, by decide +kernel⟩
theorem ok_init {f f1 f2 f3 f4 f5 : Addr} {fd fd1 fd2 fd3 fd4 fd5 : FuncData} (F : FnP K "__init__" "Ways.__init__" (cW 0) f fd) (wc : WC K C)
    (C1 : Cal P w K mg base CX0 "is_house" 2 f1 fd1 ["many", "thing"] spHouse) (C2 : Cal P w K mg base CX0 "look_at_seen" 4 f2 fd2 ["thing"] (spLook T)) (C3 : Cal P w K mg base CX0 "ties_from" 1 f3 fd3 ["seen"] (spTies K T)) (C4 : Cal P w K mg base CX0 "sums_from" 4 f4 fd4 ["house", "lines"] (spSums T)) (C5 : Cal P w K mg base CX0 "firsts_by" 4 f5 fd5 ["house", "lines", "sums"] (spFirsts T))
    {t : Tok} (gM : mg "MOST_HOUSES" = some (.int 8 t)) : FnOk P w K mg base CX0 5 f fd ["self", "house", "seen"] (spInit C T) := by
  refine F.ok scIn (fun vs H Q E h => ?_) (fun cdv A outer s H vs Q E hr h => ?_)
  · obtain ⟨p, a, dx, ps, ts, h, rfl, _⟩ := h
    rfl
  · obtain ⟨p, a, dx, ps, ts, h, rfl, hi, hS, hlen, hok, hG, h0, h8, hT, k⟩ := h
    refine ⟨_, PSs.nox (pss_cons (ps_if (pt_not (pt_val (pe_call C1.ok (hr.mono (by decide)) (by rfl) C1.mg C1.kp C1.b .nil pass0 (pa_cons (pe_glob (v := .int 8) (by rfl) gM ⟨_, rfl⟩) (pa_cons (pv 1) pa_nil))))) pss_never pss_nil)
      (pss_cons (ps_expr (pe_call C2.ok hr (by rfl) C2.mg C2.kp C2.b .nil pass0 (pa_cons (pv 2) pa_nil)))
      (pss_cons (ps_fld (pv 0) (pv 1) rfl)
      (pss_cons (ps_fld (pv 0) (pe_call C3.ok (hr.mono (by decide)) (by rfl) C3.mg C3.kp C3.b .nil pass0 (pa_cons (pv 2) pa_nil)) rfl)
      (pss_cons (ps_fld (pv 0) (pe_call C4.ok hr (by rfl) C4.mg C4.kp C4.b .nil pass0 (pa_cons (pv 1) (pa_cons (pe_fld (pv 0) rfl) pa_nil))) rfl)
      (pss_cons (ps_fld (pv 0) (pe_call C5.ok hr (by rfl) C5.mg C5.kp C5.b .nil pass0 (pa_cons (pv 1) (pa_cons (pe_fld (pv 0) rfl) (pa_cons (pe_fld (pv 0) rfl) pa_nil)))) rfl)
      (pss_one (ps_fld (pv 0) pe_int rfl)))))))), ?_⟩
    refine ⟨_, rfl, 8, h, rfl, h0, h8, true, rfl, ?_⟩
    refine iteF ?_
    refine ⟨_, rfl, a, ps, ts, rfl, hS, hlen, hok, hT, fun H1 e1 => ?_⟩
    have wr {H1 : Hp} {dx fs fs'} (e : Ex T (fun x => x = p) H H1) (hp : H1 p = some (.ins C dx fs)) : Ex T (fun x => x = p) H (upd H1 p (.ins C dx fs')) := e.wr (.inl rfl) fun u e => by rw [hp] at e; cases e; trivial
    have wr1 {H1 : Hp} {dx fs fs'} (hT : Tabs T H1) (hp : H1 p = some (.ins C dx fs)) : Ex T (fun x => x = p) H1 (upd H1 p (.ins C dx fs')) := (Ex.refl hT).wr (.inl rfl) fun u e => by rw [hp] at e; cases e; trivial
    have hi1 := e1.at_ hi trivial
    -- self.own_house = house
    refine ⟨_, rfl, _, rfl, p, C, dx, [], rfl, hi1, wc.cl, wc.nH, by decide, ?_⟩
    have e2 := wr (fs' := (fs1 h)) (e1.mono fun _ z => z.elim) hi1
    have hi2 : (upd H1 p (.ins C dx (fs1 h))) p = some (.ins C dx (fs1 h)) := upd_same
    show _
    have ef : putF "own_house" (V.int h) [] = (fs1 h) := rfl
    rw [ef]
    clear hi1 e1 ef
    generalize (upd H1 p (.ins C dx (fs1 h))) = H2 at e2 hi2
    have nap : a ≠ p := fun z => by rw [← z, hS.out] at hi; cases hi
    have hS2 := hS.ex e2 nap fun b xs z q => by rw [z, hi] at q; cases q
    -- self.own_lines = ties_from(seen)
    refine ⟨_, rfl, a, ts, rfl, hS2.at_, by omega, e2.tb, fun L ol H3 e23 l3 fL fq hol => ?_⟩
    have e3 := e2.trans e23 fun _ z => z.elim
    have hi3 := e23.at_ hi2 trivial
    refine ⟨_, rfl, p, C, dx, _, rfl, hi3, wc.cl, wc.nL, (by show 1 < 1000; decide), ?_⟩
    have ef : putF "own_lines" (V.ref L) (fs1 h) = (fs2 h L) := rfl
    rw [ef]
    have npL : p ≠ L := fL.ne hi2 trivial
    have npq : ∀ a q, lk ol a = some q → q ≠ p := fun a q e => ((fq a q e).ne hi2 trivial).symm
    have e4 := wr (fs' := (fs2 h L)) e3 hi3
    have l4 := l3.ex (wr1 (fs' := (fs2 h L)) e3.tb hi3) (fun z => npL z.symm) npq
    have hi4 : (upd H3 p (.ins C dx (fs2 h L))) p = some (.ins C dx (fs2 h L)) := upd_same
    have fL' : Fresh H L := e2.fresh fL (fun z => npL z.symm)
    have fq' : ∀ a q, lk ol a = some q → Fresh H q := fun a q e => e2.fresh (fq a q e) (npq a q e)
    clear l3 e3 hi3 e23 hi2 hS2 ef fL fq
    generalize (upd H3 p (.ins C dx (fs2 h L))) = H4 at e4 l4 hi4
    -- self.own_sums = sums_from(house, self.own_lines)
    refine ⟨_, rfl, _, rfl, p, C, dx, _, _, rfl, hi4, wc.cl, wc.nL, rfl, h, L, ol, gOf ts, rfl, l4, hG, h0, h8, e4.tb, fun S ls H5 e45 hS5 nd fx fS => ?_⟩
    have e5 := e4.trans e45 fun _ z => z.elim
    have hi5 := e45.at_ hi4 trivial
    have l5 := l4.ex e45 (fun z => z) fun _ _ _ z => z
    have npS : p ≠ S := fS.ne hi4 trivial
    have nLS : L ≠ S := fS.ne l4.out trivial
    have nqS : ∀ a q, lk ol a = some q → q ≠ S := fun a q e => by
      obtain ⟨il, r, _⟩ := l4.inn a q e
      exact fS.ne r trivial
    refine ⟨_, rfl, p, C, dx, _, rfl, hi5, wc.cl, wc.nS, (by show 2 < 1000; decide), ?_⟩
    have ef : putF "own_sums" (V.ref S) (fs2 h L) = (fs3 h L S) := rfl
    rw [ef]
    have e6 := wr (fs' := (fs3 h L S)) e5 hi5
    have w6 := wr1 (fs' := (fs3 h L S)) e5.tb hi5
    have l6 := l5.ex w6 (fun z => npL z.symm) npq
    have hS6 := w6.atD hS5 (fun z => npS z.symm) trivial
    have hi6 : (upd H5 p (.ins C dx (fs3 h L S))) p = some (.ins C dx (fs3 h L S)) := upd_same
    have fS' : Fresh H S := e4.fresh fS (fun z => npS z.symm)
    clear l5 e5 hi5 e45 hi4 w6 hS5 ef fS l4
    generalize (upd H5 p (.ins C dx (fs3 h L S))) = H6 at e6 l6 hi6 hS6
    -- self.own_firsts = firsts_by(..)
    refine ⟨_, rfl, _, rfl, p, C, dx, _, _, rfl, hi6, wc.cl, wc.nL, rfl, _, rfl, p, C, dx, _, _, rfl, hi6, wc.cl, wc.nS, rfl, h, L, S, ol, ls, gOf ts, rfl, l6, hG, h0, h8, hS6, nd, fx, nLS.symm, nqS, e6.tb, fun F lo Fn H7 e67 fr7 fi fF => ?_⟩
    have e7 := e6.trans e67 fun _ z => z.elim
    have hi7 := e67.at_ hi6 trivial
    have npF : p ≠ F := fF.ne hi6 trivial
    refine ⟨_, rfl, p, C, dx, _, rfl, hi7, wc.cl, wc.nF, (by show 3 < 1000; decide), ?_⟩
    have ef : putF "own_firsts" (V.ref F) (fs3 h L S) = (fs4 h L S F) := rfl
    rw [ef]
    have hi8 : (upd H7 p (.ins C dx (fs4 h L S F))) p = some (.ins C dx (fs4 h L S F)) := upd_same
    refine ⟨_, rfl, p, C, dx, _, rfl, hi8, wc.cl, wc.nN, (by show 4 < 1000; decide), ?_⟩
    have ef : putF "own_settings" (V.int 0) (fs4 h L S F) = fsW h 0 L S F := rfl
    rw [ef, upd_upd]
    have e9 := wr (fs' := fsW h 0 L S F) e7 hi7
    have w9 := wr1 (fs' := fsW h 0 L S F) e7.tb hi7
    have l7 := l6.ex e67 (fun z => z) fun _ _ _ z => z
    refine k L S F ol ls lo Fn _ e9 ⟨⟨dx, upd_same⟩, l7.ex w9 (fun z => npL z.symm) npq, w9.atD (e67.at_ hS6 trivial) (fun z => npS z.symm) trivial, nd, fr7.ex w9 (fun z => npF z.symm) (fun b xs z q => by rw [z, hi7] at q; cases q), nLS.symm, nqS, (fF.ne hS6 trivial).symm, (fF.ne l6.out trivial).symm, fun a q e => ?_⟩ fx fi fL' fS' (e6.fresh fF (fun z => npF z.symm)) fq' (by omega)
    obtain ⟨il, r, _⟩ := l6.inn a q e
    exact fF.ne r trivial
end
end WyP

set_option Elab.async false
set_option linter.all false
set_option maxRecDepth 100000
set_option maxHeartbeats 4000000
/-! Ways.set_tie -/
namespace WyP
open PySem PySem.Spec PyProof.Rows L2 LamX Wy WyL WyH
def eight : List Int := (List.range 8).map fun (i : Nat) => (i : Int)
def told (S : PF) (F : FF) (S' : PF) (F' : FF) : List Int := eight.filter fun b => !rowEq S F S' F' b
theorem told_symm (S : PF) (F : FF) (S' : PF) (F' : FF) : told S F S' F' = told S' F' S F := by
  unfold told
  congr 1
  funext b
  rw [rowEq_symm]
theorem op_neDK {X : Cx} {K' : PySem.W.Frag} (h : X.K = K') (hu : X.A.units + 64 < cLine) : OpR X (compareOp .NotEq) (rNeD K') := by
  subst h
  exact op_neD hu
section
variable {P : Program} {w : World} {K : PySem.W.Frag} {mg : Str → Option Value} {base : Heap} {T : TT0} {C : Addr}
abbrev th (p S q : Addr) : Addr → Prop := fun x => x = p ∨ x = S ∨ x = q
def spSet (C : Addr) (T : TT0) : Sp := fun vs H Q _ => ∃ (p L S F q0 : Addr) (ol : List (Int × Addr)) (ls : List (Int × Int)) (lo : List (Int × Addr)) (h n u v : Int) (G : Gr) (Fn : FF) (pr : Option Int), vs = [.ref p, .int u, .int v, pO pr] ∧ WO C H p L S F ol ls lo h n G Fn ∧ ol.length ≤ 900 ∧ GIn 8 G ∧ 0 ≤ h ∧ h < 8 ∧ Fix G h (lk ls) ∧ Firsts G h (lk ls) Fn ∧ lk ol u = some q0 ∧ 0 ≤ u ∧ u < 8 ∧ 0 ≤ v ∧ v < 8 ∧ u ≠ v ∧
  ((pr = none ∧ ∃ c, G u v = some c) ∨ (∃ c, pr = some c ∧ G u v = none ∧ 1 ≤ c ∧ c ≤ 99)) ∧ Tabs T H ∧
  ∀ (ls' : List (Int × Int)) (lo' : List (Int × Addr)) (Fn' : FF) (F' l : Addr) (H' : Hp), Ex T (th p S q0) H H' → WO C H' p L S F' ol ls' lo' h (n + 1) (up2 G u v pr) Fn' → Fix (up2 G u v pr) h (lk ls') → Firsts (up2 G u v pr) h (lk ls') Fn' → H' l = some (.lst ((told (lk ls) Fn (lk ls') Fn').map V.int)) → Fresh H l → Q (.ref l) H'
theorem scSt : FnScope ["self", "one", "other", "price", "elder", "later", "house"] ["self", "one", "other", "price"] (defScope (cW 7)) := ⟨rfl, rfl, rfl, by decide +kernel, rfl, by decide +kernel, by decide +kernel⟩
theorem up2_gin {G : Gr} {u v c : Int} (hG : GIn 8 G) (u0 : 0 ≤ u) (u8 : u < 8) (v0 : 0 ≤ v) (v8 : v < 8) (ne : u ≠ v) (c0 : 1 ≤ c) (c9 : c ≤ 99) : GIn 8 (up2 G u v (some c)) := fun a b p e => by
  unfold up2 at e
  by_cases z : a = u ∧ b = v
  · rw [if_pos z] at e
    cases e
    rw [z.1, z.2]
    exact ⟨u0, u8, v0, v8, ne, c0, c9⟩
  · rw [if_neg z] at e
    exact hG a b p e
theorem ok_set {f f1 f2 f3 f5 f6 : Addr} {fd fd1 fd2 fd3 fd5 fd6 : FuncData} {kws : List (Str × V)} (F : FunD K "set_tie" "Ways.set_tie" (defArgs (cW 7)) (defBody (cW 7)) (defScope (cW 7)) [] kws f fd) (wc : WC K C)
    (C1 : Cal P w K mg base CX0 "is_road" 3 f1 fd1 ["one", "other"] spRoad) (C2 : Cal P w K mg base CX0 "is_price" 2 f2 fd2 ["thing"] spPrice)
    (m3 : Meth K C "table" f3) (C3 : FnOk P w K mg base CX0 1 f3 fd3 ["self"] (spTable C T)) (b3 : L2.Binds K fd3 ["self"] [])
    (C5 : Cal P w K mg base CX0 "firsts_by" 4 f5 fd5 ["house", "lines", "sums"] (spFirsts T))
    (m6 : Meth K C "settle" f6) (C6 : FnOk P w K mg base CX0 5 f6 fd6 ["self", "one", "other", "price"] (spSettle C T)) (b6 : L2.Binds K fd6 ["self", "one", "other", "price"] [])
    {t : Tok} (gM : mg "MOST_HOUSES" = some (.int 8 t)) (gr : mg "range" = none) : FnOk P w K mg base CX0 6 f fd ["self", "one", "other", "price"] (spSet C T) := by
  refine F.ok scSt (fun vs H Q E h => ?_) (fun cdv A outer s H vs Q E hr h => ?_)
  · obtain ⟨p, L, S, F, q0, ol, ls, lo, h, n, u, v, G, Fn, pr, rfl, _⟩ := h
    rfl
  · obtain ⟨p, L, S, F, q0, ol, ls, lo, h, n, u, v, G, Fn, pr, rfl, o, ho9, hG, h0, h8, fx, fi, hq0, u0, u8, v0, v8, ne, hpr, hT, k⟩ := h
    have hu := hu_of hr
    refine ⟨_, PSs.nox (pss_cons (ps_if (PW.pt (pw_or (pt_not (pt_val (pe_call C1.ok (hr.mono (by decide)) (by rfl) C1.mg C1.kp C1.b .nil pass0 (pa_cons (pv 1) (pa_cons (pv 2) pa_nil)))))
          (pw_or1 (PW.pt (pw_and (pt_cmp (pc_notN (pv 3))) (pw_and1 (pt_not (pt_val (pe_call C2.ok (hr.mono (by decide)) (by rfl) C2.mg C2.kp C2.b .nil pass0 (pa_cons (pv 3) pa_nil)))))))))) pss_never pss_nil)
      (pss_cons (ps_set (i := 4) scSt.nd rfl (Or.inr rfl) (pe_meth0 (pv 0) wc.cl m3 C3 (hr.mono (by decide)) b3 .nil pass0))
      (pss_cons (ps_expr (pe_meth (pv 0) wc.cl m6 C6 hr b6 .nil pass0 (pa_cons (pv 1) (pa_cons (pv 2) (pa_cons (pv 3) pa_nil)))))
      (pss_cons (ps_fld (pv 0) (pe_call C5.ok (hr.mono (by decide)) (by rfl) C5.mg C5.kp C5.b .nil pass0 (pa_cons (pe_fld (pv 0) rfl) (pa_cons (pe_fld (pv 0) rfl) (pa_cons (pe_fld (pv 0) rfl) pa_nil)))) rfl)
      (pss_cons (ps_fldaug (pv 0) pe_int in_add)
      (pss_cons (ps_set (i := 5) scSt.nd rfl (Or.inr rfl) (pe_meth0 (pv 0) wc.cl m3 C3 (hr.mono (by decide)) b3 .nil pass0))
      (pss_one (ps_ret (pe_lc (own := [("house", 6)]) (g := gName 6) rfl scSt.nd (pi_range1 (by rfl) gr (pa_cons (pe_glob (v := .int 8) (by rfl) gM ⟨_, rfl⟩) pa_nil)) (blkOk_by (N := ["self", "one", "other", "price", "elder", "later", "house"]) (sc := defScope (cW 7)) (by decide +kernel)) (fun _ _ _ _ _ => pg_name (i := 6) scSt.nd rfl (Or.inl rfl))
          (fun _ _ _ _ _ => pts_one (pt_cmpR (op_neDK (K' := K) rfl hr.units) (pe_dget1 hu (pv 4) (pv 6) ⟨rfl, rfl, rfl, rfl⟩) (pe_dget1 hu (pv 5) (pv 6) ⟨rfl, rfl, rfl, rfl⟩) (nomark _)))
          (fun _ _ _ _ _ => pv 6)))))))))), ?_⟩
    obtain ⟨dx, hi⟩ := o.ins
    dsimp only [tSeq, tIfS]
    refine rd_tst false (fun Q' q => ?_) ?_
    · refine ⟨_, rfl, _, rfl, u, v, rfl, u0, u8, v0, v8, ne, true, rfl, ?_⟩
      refine iteF ?_
      rcases hpr with ⟨rfl, _⟩ | ⟨c, rfl, _, c0, c9⟩
      · refine ⟨_, rfl, false, rfl, ?_⟩
        exact iteF q
      · refine ⟨_, rfl, true, rfl, ?_⟩
        refine iteT ?_
        exact ⟨_, rfl, c, rfl, c0, c9, true, rfl, q⟩
    refine iteF ?_
    -- elder = self.table()
    have hR := fx.inR hG h0 h8
    refine ⟨_, rfl, p, dx, _, rfl, hi, rfl, p, L, S, F, ol, ls, lo, h, n, G, Fn, rfl, o, hR, fun b y e => some_of_dom fi.dom e, hT, fun D0 lt0 H1 e1 tr0 fD0 => ?_⟩
    have o1 := o.ex e1
    have hi1 := e1.at_ hi trivial
    have nD0S : D0 ≠ S := (fD0.ne o.sm trivial).symm
    have nD0p : D0 ≠ p := (fD0.ne hi trivial).symm
    have nD0q : D0 ≠ q0 := by
      obtain ⟨il, r, _⟩ := o.ln.inn _ _ hq0
      exact (fD0.ne r trivial).symm
    have nq0F := o.fq _ _ hq0
    have nq0S := o.sq _ _ hq0
    have nq0p : q0 ≠ p := fun z => by
      obtain ⟨il, r, _⟩ := o.ln.inn _ _ hq0
      rw [z, hi] at r; cases r
    have npS : p ≠ S := fun z => by
      have := o.sm
      rw [← z, hi] at this; cases this
    have npL : p ≠ L := fun z => by
      have := o.ln.out
      rw [← z, hi] at this; cases this
    have npq : ∀ a q, lk ol a = some q → q ≠ p := fun a q e z => by
      obtain ⟨il, r, _⟩ := o.ln.inn _ _ e
      rw [z, hi] at r; cases r
    -- self.settle(..)
    have hpr' : (pr = none ∧ ∃ c, G u v = some c) ∨ (∃ c, pr = some c ∧ G u v = none ∧ GIn 8 (up2 G u v (some c))) := by
      rcases hpr with z | ⟨c, z1, z2, z3, z4⟩
      · exact .inl z
      · exact .inr ⟨c, z1, z2, up2_gin hG u0 u8 v0 v8 ne z3 z4⟩
    have hG' : GIn 8 (up2 G u v pr) := by
      rcases hpr' with ⟨rfl, c, _⟩ | ⟨c, rfl, _, g⟩
      · exact hG.rem
      · exact g
    refine ⟨_, rfl, p, dx, _, rfl, hi1, rfl, _, rfl, _, rfl, _, rfl, p, L, S, q0, ol, ls, G, h, u, v, pr, rfl, o1.wr, o1.sm, o1.nd, o.sL, o.sq, ho9, hG, h0, h8, fx, hq0, hpr', e1.tb, fun ls' H2 e12 l2 hS2 nd2 fx2 => ?_⟩
    have e2 : Ex T (th p S q0) H H2 := (e1.mono (fun _ z => z.elim)).trans e12 fun x z => .inl (.inr z)
    have hi2 := e12.atD hi1 (fun z => z.elim (fun z => npS z) (fun z => nq0p z.symm)) trivial
    have tr2 := tr0.ex e12 (fun z => z.elim nD0S nD0q) fun b xs z q => by
      rcases z with z | z
      · rw [z, o1.sm] at q; cases q
      · obtain ⟨il, r, _⟩ := o1.ln.inn _ _ hq0
        rw [z, r] at q; cases q
    -- self.own_firsts = firsts_by(..)
    refine ⟨_, rfl, p, C, dx, _, _, rfl, hi2, wc.cl, wc.nH, rfl, _, rfl, p, C, dx, _, _, rfl, hi2, wc.cl, wc.nL, rfl, _, rfl, p, C, dx, _, _, rfl, hi2, wc.cl, wc.nS, rfl, h, L, S, ol, ls', _, rfl, l2, hG', h0, h8, hS2, nd2, fx2, o.sL, o.sq, e2.tb, fun F' lo' Fn' H3 e23 fr3 fi3 fF' => ?_⟩
    have e3 := e2.trans e23 fun _ z => z.elim
    have hi3 := e23.at_ hi2 trivial
    have hS3 := e23.at_ hS2 trivial
    have l3 := l2.ex e23 (fun z => z) fun _ _ _ z => z
    have tr3 := tr2.ex e23 (fun z => z) fun _ _ z => z.elim
    have npF : p ≠ F' := fF'.ne hi2 trivial
    refine ⟨_, rfl, p, C, dx, _, rfl, hi3, wc.cl, wc.nF, (by show 5 < 1000; decide), ?_⟩
    have hi4 : (upd H3 p (.ins C dx (putF "own_firsts" (V.ref F') (fsW h n L S F)))) p = some (.ins C dx (fsW h n L S F')) := upd_same
    refine ⟨_, rfl, p, C, dx, _, _, rfl, hi4, wc.cl, wc.nN, rfl, _, _, rfl, rfl, dx, _, hi4, (by show 5 < 1000; decide), ?_⟩
    rw [upd_upd]
    have w5 : Ex T (fun x => x = p) H3 (upd H3 p (.ins C dx (fsW h (n + 1) L S F'))) := (Ex.refl e3.tb).wr (.inl rfl) fun u e => by rw [hi3] at e; cases e; trivial
    have e5 : Ex T (th p S q0) H (upd H3 p (.ins C dx (fsW h (n + 1) L S F'))) := e3.wr (.inl (.inl rfl)) fun u e => by rw [hi3] at e; cases e; trivial
    have tr5 := tr3.ex w5 nD0p fun b xs z q => by rw [z, hi3] at q; cases q
    have o5 : WO C (upd H3 p (.ins C dx (fsW h (n + 1) L S F'))) p L S F' ol ls' lo' h (n + 1) (up2 G u v pr) Fn' :=
      ⟨⟨dx, upd_same⟩, l3.ex w5 (fun z => npL z.symm) npq, w5.atD hS3 (fun z => npS z.symm) trivial, nd2, fr3.ex w5 (fun z => npF z.symm) (fun b xs z q => by rw [z, hi3] at q; cases q), o.sL, o.sq, (fF'.ne hS2 trivial).symm, (fF'.ne l2.out trivial).symm, fun a q e => by
        obtain ⟨il, r, _⟩ := l2.inn a q e
        exact fF'.ne r trivial⟩
    have ef : putF "own_settings" (V.int (n + 1)) (fsW h n L S F') = fsW h (n + 1) L S F' := rfl
    rw [ef]
    clear ef w5 hi4 hi3 hS3 l3 tr3 e3 e23 hi2 tr2 e2 e12 l2 hS2 o1 hi1 fr3
    generalize (upd H3 p (.ins C dx (fsW h (n + 1) L S F'))) = H5 at e5 tr5 o5
    obtain ⟨dx5, hi5⟩ := o5.ins
    -- later = self.table()
    refine ⟨_, rfl, p, dx5, _, rfl, hi5, rfl, p, L, S, F', ol, ls', lo', h, n + 1, _, Fn', rfl, o5, fx2.inR hG' h0 h8, fun b y e => some_of_dom fi3.dom e, e5.tb, fun D1 lt1 H6 e56 tr1 fD1 => ?_⟩
    have e6 := e5.tr e56
    have o6 := o5.ex e56
    have tr6 := tr5.ex e56 (fun z => z) fun _ _ z => z.elim
    refine ⟨8, rfl, by decide, by decide, fun R hR' => ?_⟩
    refine lc_range (lo := 0) (n := 8) (fun i H' => Ex T no H6 H' ∧ H' R = some (.lst (((eight.take i).filter fun b => !rowEq (lk ls) Fn (lk ls') Fn' b).map V.int)))
      ⟨(Ex.refl e6.tb).new hR', upd_same⟩ ?_ ?_
    · rintro i H7 hi8 ⟨e7, hR7⟩
      have t0 := tr6.ex e7 (fun z => z) fun _ _ z => z.elim
      have t1 := tr1.ex e7 (fun z => z) fun _ _ z => z.elim
      have hei : eight[i]? = some (i : Int) := by
        unfold eight
        rw [List.getElem?_map, List.getElem?_range hi8]
        rfl
      refine ⟨rfl, _, rfl, D0, rfl, .inl ⟨_, Rd.of t0.out⟩, _, rfl, _, DGet.m (k := (0 : Int) + i) (Rd.of t0.out), _, rfl, D1, rfl, .inl ⟨_, Rd.of t1.out⟩, _, rfl, _, DGet.m (k := (0 : Int) + i) (Rd.of t1.out), _, _, t0.get _, t1.get _, shaped_row _ _ _, shaped_row _ _ _, _, rfl, ?_⟩
      rw [eqv_row (fi.dom _) (fi3.dom _), Int.zero_add]
      cases hb : rowEq (lk ls) Fn (lk ls') Fn' (i : Int) with
      | true =>
        refine iteF ?_
        refine ⟨e7, ?_⟩
        rw [hR7, List.take_add_one, hei, List.filter_append]
        simp [hb]
      | false =>
        refine iteT ?_
        refine ⟨_, rfl, _, hR7, lt_small ?_, e7.wr (.inr (.of hR')) (fun u e => by rw [hR7] at e; cases e; trivial), ?_⟩
        · rw [List.length_map]
          have h1 := List.length_filter_le (fun b => !rowEq (lk ls) Fn (lk ls') Fn' b) (eight.take i)
          rw [List.length_take] at h1
          omega
        · rw [upd_same, List.take_add_one, hei, List.filter_append]
          simp [hb]
    · rintro H7 ⟨e7, hR7⟩
      have : eight.take 8 = eight := by decide
      rw [this] at hR7
      exact k ls' lo' Fn' F' R H7 (e6.tr e7) (o6.ex e7) fx2 fi3 hR7 (e6.fresh (.of hR') (fun z => by
        rcases z with z | z | z
        · obtain ⟨dx6, hi6⟩ := o6.ins
          rw [z, hi6] at hR'; cases hR'
        · rw [z, o6.sm] at hR'; cases hR'
        · obtain ⟨il, r, _⟩ := o6.ln.inn _ _ hq0
          rw [z, r] at hR'; cases hR'))
end
end WyP

set_option Elab.async false
set_option linter.all false
set_option maxRecDepth 100000
set_option maxHeartbeats 4000000
/-! _law_cell_at, _law_pool, _law_take, _law_price -/
namespace WyP
open PySem PySem.Spec PyProof.Rows L2 LamX Wy WyL WyH
def PoolOk (H : Hp) (pl : Addr) : Prop := ∃ c s : Int, H pl = some (.lst [.int c, .int s]) ∧ 0 ≤ c ∧ 0 ≤ s ∧ s < 2147483648
abbrev on (pl : Addr) : Addr → Prop := fun x => x = pl
section
variable {P : Program} {w : World} {K : PySem.W.Frag} {mg : Str → Option Value} {base : Heap} {T : TT0}
def spCell (K : PySem.W.Frag) : Sp := fun vs H Q _ => ∃ (a : Addr) (ns : List Int) (k : Nat), vs = [.ref a, .int k] ∧ SqL K H a (ns.map V.int) ∧ ∀ c : Int, Q (.int c) H
def spPool (K : PySem.W.Frag) (T : TT0) : Sp := fun vs H Q _ => ∃ (a : Addr) (ns : List Int) (k : Nat), vs = [.ref a, .int k] ∧ SqL K H a (ns.map V.int) ∧ k ≤ 63 ∧ Tabs T H ∧ ∀ (pl : Addr) (H' : Hp), Ex T no H H' → PoolOk H' pl → Fresh H pl → Q (.ref pl) H'
def spTake (T : TT0) : Sp := fun vs H Q _ => ∃ (pl : Addr) (m : Int), vs = [.ref pl, .int m] ∧ PoolOk H pl ∧ 1 ≤ m ∧ m ≤ 1000 ∧ Tabs T H ∧ ∀ (r : Int) (H' : Hp), Ex T (on pl) H H' → PoolOk H' pl → 0 ≤ r → r < m → Q (.int r) H'
def spLPrice (T : TT0) : Sp := fun vs H Q _ => ∃ (pl : Addr), vs = [.ref pl] ∧ PoolOk H pl ∧ Tabs T H ∧ ∀ (r : Int) (H' : Hp), Ex T (on pl) H H' → PoolOk H' pl → 1 ≤ r → r ≤ 99 → Q (.int r) H'
theorem scCe : FnScope ["_law_script", "_law_k"] ["_law_script", "_law_k"] (defScope (top 22)) := ⟨rfl, rfl, rfl, by decide +kernel, rfl, by decide +kernel, by decide +kernel⟩
theorem scPo : FnScope ["_law_script", "_law_k", "_law_cell", "_law_seed"] ["_law_script", "_law_k"] (defScope (top 23)) := ⟨rfl, rfl, rfl, by decide +kernel, rfl, by decide +kernel, by decide +kernel⟩
theorem scTa : FnScope ["_law_pool_here", "_law_many", "_law_found"] ["_law_pool_here", "_law_many"] (defScope (top 24)) := ⟨rfl, rfl, rfl, by decide +kernel, rfl, by decide +kernel, by decide +kernel⟩
theorem scLp : FnScope ["_law_pool_here"] ["_law_pool_here"] (defScope (top 25)) := ⟨rfl, rfl, rfl, by decide +kernel, rfl, by decide +kernel, by decide +kernel⟩
theorem ok_cell {f : Addr} {fd : FuncData} (F : FnP K "_law_cell_at" "_law_cell_at" (top 22) f fd) (gl : mg "len" = none) : FnOk P w K mg base CX0 1 f fd ["_law_script", "_law_k"] (spCell K) := by
  refine F.ok scCe (fun vs H Q E h => ?_) (fun cdv A outer s H vs Q E hr h => ?_)
  · obtain ⟨a, ns, k, rfl, _⟩ := h
    rfl
  · obtain ⟨a, ns, k, rfl, hS, kk⟩ := h
    refine ⟨_, PSs.nox (pss_cons (ps_if (pt_cmpR op_lt (pv 1) (pe_callB call_len_seq (by rfl) gl boot_len (pa_cons (pv 0) pa_nil)) (nomark _)) (pss_one (ps_ret (pe_ix ix_list (pv 0) (pv 1) (fun _ _ => rfl)))) pss_nil)
      (pss_one (ps_ret pe_int))), ?_⟩
    refine ⟨_, rfl, _, rfl, a, _, rfl, .inl hS, _, _, rfl, rfl, _, rfl, ?_⟩
    by_cases hlt : (k : Int) < ((ns.map V.int).length : Int)
    · refine iteTe (decide_eq_true hlt) ?_
      have hk : k < ns.length := by rw [List.length_map] at hlt; omega
      exact ⟨_, rfl, _, rfl, a, _, _, _, rfl, rfl, hS, atI_nat (j := k) (v := V.int ns[k]) (by rw [List.getElem?_map, List.getElem?_eq_getElem hk]; rfl), kk _⟩
    · refine iteFe (decide_eq_false hlt) ?_
      exact kk 0
theorem ok_pool {f f1 : Addr} {fd fd1 : FuncData} (F : FnP K "_law_pool" "_law_pool" (top 23) f fd) (C1 : Cal P w K mg base CX0 "_law_cell_at" 1 f1 fd1 ["_law_script", "_law_k"] (spCell K)) : FnOk P w K mg base CX0 2 f fd ["_law_script", "_law_k"] (spPool K T) := by
  refine F.ok scPo (fun vs H Q E h => ?_) (fun cdv A outer s H vs Q E hr h => ?_)
  · obtain ⟨a, ns, k, rfl, _⟩ := h
    rfl
  · obtain ⟨a, ns, k, rfl, hS, hk, hT, kk⟩ := h
    refine ⟨_, PSs.nox (pss_cons (ps_set (i := 2) scPo.nd rfl (Or.inl rfl) (pe_call C1.ok hr (by rfl) C1.mg C1.kp C1.b .nil pass0 (pa_cons (pv 0) (pa_cons (pv 1) pa_nil))))
      (pss_cons (ps_set (i := 3) scPo.nd rfl (Or.inl rfl) (pe_op op_mod (pe_op op_mul (pe_op op_add (pe_op op_add (pe_op op_mod (pv 2) pe_int) (pe_op op_mul (pe_op op_mul pe_int (pv 1)) (pv 1))) pe_int) pe_int) pe_int))
      (pss_cons (ps_if (pt_cmpR op_lt (pv 2) (pe_op op_pow pe_int pe_int) (nomark _)) (pss_one (ps_set (i := 2) scPo.nd rfl (Or.inl rfl) pe_int)) pss_nil)
      (pss_one (ps_ret (pe_lst (pa_cons (pv 2) (pa_cons (pe_op op_mod (pe_op op_mul (pv 3) (pv 3)) pe_int) pa_nil)))))))), ?_⟩
    refine ⟨_, rfl, _, rfl, a, ns, k, rfl, hS, fun c => ?_⟩
    have hk' : (k : Int) ≤ 63 := by omega
    have hk0 : (0 : Int) ≤ k := by omega
    refine ⟨_, rfl, _, _, rfl, rfl, (by show (0 : Int) < 2147483629; decide), _, rfl, _, _, rfl, rfl, .inl ⟨by decide, by decide⟩, _, rfl, _, _, rfl, rfl, .inr ⟨by omega, by omega⟩, _, _, rfl, rfl, _, _, rfl, rfl, _, _, rfl, rfl, .inr ⟨by decide, by decide⟩, _, _, rfl, rfl, (by show (0 : Int) < 2147483647; decide), ?_⟩
    have b1 : ∀ x : Int, 0 ≤ x % 2147483647 := fun x => Int.emod_nonneg _ (by decide)
    have b2 : ∀ x : Int, x % 2147483647 < 2147483647 := fun x => Int.emod_lt_of_pos _ (by decide)
    obtain ⟨sd, hsd⟩ : ∃ sd, sd = (c % 2147483629 + 7919 * (k : Int) * k + 1) * 48271 % 2147483647 := ⟨_, rfl⟩
    have s0 : 0 ≤ sd := by rw [hsd]; exact b1 _
    have s9 : sd < 2147483647 := by rw [hsd]; exact b2 _
    have c1 : ∀ x : Int, 0 ≤ x % 2147483629 := fun x => Int.emod_nonneg _ (by decide)
    have c2 : ∀ x : Int, x % 2147483629 < 2147483629 := fun x => Int.emod_lt_of_pos _ (by decide)
    dsimp only
    rw [← hsd]
    clear hsd
    refine ⟨_, rfl, _, _, rfl, rfl, ⟨by decide, by decide, by decide⟩, _, _, rfl, rfl, _, rfl, ?_⟩
    by_cases hc : c < 10 ^ (18 : Int).toNat
    · refine iteTe (decide_eq_true hc) ?_
      refine ⟨_, rfl, _, rfl, _, rfl, _, _, rfl, rfl, .inl ⟨by omega, by omega⟩, _, _, rfl, rfl, (by show (0 : Int) < 2147483629; decide), (by show 2 ≤ sizeLine; decide), fun pl hpl => ?_⟩
      exact kk pl _ ((Ex.refl hT).new hpl) ⟨_, _, upd_same, Int.le_refl _, c1 _, by have := c2 (sd * sd); omega⟩ (.of hpl)
    · refine iteFe (decide_eq_false hc) ?_
      refine ⟨_, rfl, _, rfl, _, rfl, _, _, rfl, rfl, .inl ⟨by omega, by omega⟩, _, _, rfl, rfl, (by show (0 : Int) < 2147483629; decide), (by show 2 ≤ sizeLine; decide), fun pl hpl => ?_⟩
      have hc0 : (0 : Int) ≤ c := by
        have : (0 : Int) ≤ 10 ^ (18 : Int).toNat := by decide
        omega
      exact kk pl _ ((Ex.refl hT).new hpl) ⟨_, _, upd_same, hc0, c1 _, by have := c2 (sd * sd); omega⟩ (.of hpl)
theorem ok_take {f : Addr} {fd : FuncData} (F : FnP K "_law_take" "_law_take" (top 24) f fd) : FnOk P w K mg base CX0 1 f fd ["_law_pool_here", "_law_many"] (spTake T) := by
  refine F.ok scTa (fun vs H Q E h => ?_) (fun cdv A outer s H vs Q E hr h => ?_)
  · obtain ⟨pl, m, rfl, _⟩ := h
    rfl
  · obtain ⟨pl, m, rfl, ⟨c, s, hp, c0, s0, s9⟩, m0, m9, hT, kk⟩ := h
    refine ⟨_, PSs.nox (pss_cons (ps_if (pt_cmpR op_gt (pe_ix ix_list (pv 0) pe_int (fun _ _ => rfl)) pe_int (nomark _))
        (pss_cons (ps_set (i := 2) scTa.nd rfl (Or.inl rfl) (pe_op op_mod (pe_ix ix_list (pv 0) pe_int (fun _ _ => rfl)) (pv 1)))
        (pss_cons (ps_asg (pe_op op_fdiv (pe_ix ix_list (pv 0) pe_int (fun _ _ => rfl)) (pv 1)) (pg_sub (pv 0) pe_int set_list))
        (pss_one (ps_ret (pv 2))))) pss_nil)
      (pss_cons (ps_asg (pe_op op_mod (pe_op op_add (pe_op op_mul (pe_ix ix_list (pv 0) pe_int (fun _ _ => rfl)) pe_int) pe_int) pe_int) (pg_sub (pv 0) pe_int set_list))
      (pss_one (ps_ret (pe_op op_mod (pe_op op_fdiv (pe_op op_mod (pe_op op_mul (pe_ix ix_list (pv 0) pe_int (fun _ _ => rfl)) (pe_ix ix_list (pv 0) pe_int (fun _ _ => rfl))) pe_int) pe_int) (pv 1)))))), ?_⟩
    have wr {o u : HO} {H1 : Hp} (e : Ex T (on pl) H H1) (h : H1 pl = some u) (hu : Pl u) : Ex T (on pl) H (upd H1 pl o) := e.wr (.inl rfl) fun u' e' => by rw [h] at e'; cases e'; exact hu
    have e1 : ∀ o, Ex T (on pl) H (upd H pl o) := fun o => wr (Ex.refl hT) hp trivial
    refine ⟨_, rfl, pl, _, _, _, rfl, rfl, .inl (.inl hp), atI_nat (j := 0) rfl, _, _, rfl, rfl, _, rfl, ?_⟩
    by_cases hc : 0 < c
    · refine iteTe (decide_eq_true hc) ?_
      refine ⟨_, rfl, pl, _, _, _, rfl, rfl, .inl (.inl hp), atI_nat (j := 0) rfl, _, rfl, _, _, rfl, rfl, (by show 0 < m; omega), ?_⟩
      refine ⟨_, rfl, pl, _, _, _, rfl, rfl, .inl (.inl hp), atI_nat (j := 0) rfl, _, rfl, _, _, rfl, rfl, ⟨by show 0 < m; omega, by show m < _; omega⟩, ?_⟩
      refine ⟨_, rfl, pl, _, _, 0, rfl, rfl, hp, rfl, ?_⟩
      exact ⟨_, rfl, kk _ _ (e1 _) ⟨_, _, upd_same, Int.ediv_nonneg c0 (by omega), s0, s9⟩ (Int.emod_nonneg _ (by omega)) (Int.emod_lt_of_pos _ (by omega))⟩
    · refine iteFe (decide_eq_false hc) ?_
      refine ⟨_, rfl, pl, _, _, _, rfl, rfl, .inl (.inl hp), atI_nat (j := 1) rfl, _, _, rfl, rfl, .inr ⟨by decide, by decide⟩, _, _, rfl, rfl, _, _, rfl, rfl, (by show (0 : Int) < 2147483647; decide), ?_⟩
      have b1 : ∀ x : Int, 0 ≤ x % 2147483647 := fun x => Int.emod_nonneg _ (by decide)
      have b2 : ∀ x : Int, x % 2147483647 < 2147483647 := fun x => Int.emod_lt_of_pos _ (by decide)
      obtain ⟨sd, hsd⟩ : ∃ sd, sd = (s * 48271 + 11) % 2147483647 := ⟨_, rfl⟩
      have t0 : 0 ≤ sd := by rw [hsd]; exact b1 _
      have t9 : sd < 2147483647 := by rw [hsd]; exact b2 _
      refine ⟨_, rfl, pl, _, _, 1, rfl, rfl, hp, rfl, ?_⟩
      dsimp only
      rw [← hsd]
      clear hsd
      have h2 : (upd H pl (.lst [.int c, .int sd])) pl = some (.lst [.int c, .int sd]) := upd_same
      refine ⟨_, rfl, pl, _, _, _, rfl, rfl, .inl (.inl h2), atI_nat (j := 1) rfl, _, rfl, pl, _, _, _, rfl, rfl, .inl (.inl h2), atI_nat (j := 1) rfl, _, _, rfl, rfl, .inl ⟨by omega, by omega⟩, _, _, rfl, rfl, (by show (0 : Int) < 2147483629; decide), _, _, rfl, rfl, ⟨by decide, by decide⟩, _, rfl, _, _, rfl, rfl, (by show 0 < m; omega), ?_⟩
      exact kk _ _ (e1 _) ⟨_, _, h2, c0, t0, by omega⟩ (Int.emod_nonneg _ (by omega)) (Int.emod_lt_of_pos _ (by omega))
theorem ok_lprice {f f1 : Addr} {fd fd1 : FuncData} (F : FnP K "_law_price" "_law_price" (top 25) f fd) (C1 : Cal P w K mg base CX0 "_law_take" 1 f1 fd1 ["_law_pool_here", "_law_many"] (spTake T)) : FnOk P w K mg base CX0 2 f fd ["_law_pool_here"] (spLPrice T) := by
  refine F.ok scLp (fun vs H Q E h => ?_) (fun cdv A outer s H vs Q E hr h => ?_)
  · obtain ⟨pl, rfl, _⟩ := h
    rfl
  · obtain ⟨pl, rfl, hp, hT, kk⟩ := h
    refine ⟨_, PSs.nox (pss_one (ps_ret (pe_ix ix_list (pe_lst (pa_cons pe_int (pa_cons pe_int (pa_cons pe_int (pa_cons pe_int (pa_cons (pe_op op_add pe_int (pe_call C1.ok hr (by rfl) C1.mg C1.kp C1.b .nil pass0 (pa_cons (pv 0) (pa_cons pe_int pa_nil)))) (pa_cons (pe_op op_add pe_int (pe_call C1.ok hr (by rfl) C1.mg C1.kp C1.b .nil pass0 (pa_cons (pv 0) (pa_cons pe_int pa_nil)))) pa_nil)))))))
      (pe_call C1.ok hr (by rfl) C1.mg C1.kp C1.b .nil pass0 (pa_cons (pv 0) (pa_cons pe_int pa_nil))) (fun _ _ => rfl)))), ?_⟩
    refine ⟨_, rfl, pl, 9, rfl, hp, by decide, by decide, hT, fun r1 H1 e1 p1 r10 r19 => ?_⟩
    refine ⟨_, _, rfl, rfl, _, rfl, pl, 99, rfl, p1, by decide, by decide, e1.tb, fun r2 H2 e2 p2 r20 r29 => ?_⟩
    refine ⟨_, _, rfl, rfl, (by show 6 ≤ sizeLine; decide), fun D hD => ?_⟩
    have e12 := e1.trans e2 fun _ z => .inl z
    obtain ⟨c, s', hp2, z1, z2, z3⟩ := p2
    have nD : pl ≠ D := ne_of_none hp2 hD
    have e3 := e12.new (o := .lst [.int 1, .int 1, .int 2, .int 3, .int (1 + r1), .int (1 + r2)]) hD
    have p3 : PoolOk (upd H2 D (.lst [.int 1, .int 1, .int 2, .int 3, .int (1 + r1), .int (1 + r2)])) pl := ⟨c, s', by rw [upd_ne nD]; exact hp2, z1, z2, z3⟩
    have hD3 : (upd H2 D (.lst [.int 1, .int 1, .int 2, .int 3, .int (1 + r1), .int (1 + r2)])) D = some (.lst [.int 1, .int 1, .int 2, .int 3, .int (1 + r1), .int (1 + r2)]) := upd_same
    refine ⟨_, rfl, pl, 6, rfl, p3, by decide, by decide, e3.tb, fun r3 H4 e4 p4 r30 r39 => ?_⟩
    have hD4 := e4.atD hD3 (fun z => nD z.symm) trivial
    have e5 := e3.trans e4 fun _ z => .inl z
    have hr3 : r3 = 0 ∨ r3 = 1 ∨ r3 = 2 ∨ r3 = 3 ∨ r3 = 4 ∨ r3 = 5 := by omega
    rcases hr3 with rfl | rfl | rfl | rfl | rfl | rfl
    · exact ⟨D, _, _, _, rfl, rfl, .inl (.inl hD4), atI_nat (j := 0) rfl, kk _ _ e5 p4 (by decide) (by decide)⟩
    · exact ⟨D, _, _, _, rfl, rfl, .inl (.inl hD4), atI_nat (j := 1) rfl, kk _ _ e5 p4 (by decide) (by decide)⟩
    · exact ⟨D, _, _, _, rfl, rfl, .inl (.inl hD4), atI_nat (j := 2) rfl, kk _ _ e5 p4 (by decide) (by decide)⟩
    · exact ⟨D, _, _, _, rfl, rfl, .inl (.inl hD4), atI_nat (j := 3) rfl, kk _ _ e5 p4 (by decide) (by decide)⟩
    · exact ⟨D, _, _, _, rfl, rfl, .inl (.inl hD4), atI_nat (j := 4) rfl, kk _ _ e5 p4 (by omega) (by omega)⟩
    · exact ⟨D, _, _, _, rfl, rfl, .inl (.inl hD4), atI_nat (j := 5) rfl, kk _ _ e5 p4 (by omega) (by omega)⟩
end
end WyP

set_option Elab.async false
set_option linter.all false
set_option maxRecDepth 100000
set_option maxHeartbeats 4000000
/-! _law_shuffled, _law_seen_drawn -/
namespace WyP
open PySem PySem.Spec PyProof.Rows L2 LamX Wy WyL WyH
theorem Paired.append {α β : Type} {R : α → β → Prop} : ∀ {as as' : List α} {bs bs' : List β}, Paired R as bs → Paired R as' bs' → Paired R (as ++ as') (bs ++ bs')
  | _, _, _, _, .nil, h => h
  | _, _, _, _, .cons r t, h => .cons r (Paired.append t h)
theorem Paired.takeP {α β : Type} {R : α → β → Prop} : ∀ {as : List α} {bs : List β} (n : Nat), Paired R as bs → Paired R (as.take n) (bs.take n)
  | _, _, 0, _ => by simp; exact .nil
  | _, _, n + 1, .nil => by simp; exact .nil
  | _, _, n + 1, .cons r t => by simpa using .cons r (Paired.takeP n t)
theorem Paired.dropP {α β : Type} {R : α → β → Prop} : ∀ {as : List α} {bs : List β} (n : Nat), Paired R as bs → Paired R (as.drop n) (bs.drop n)
  | _, _, 0, h => by simpa using h
  | _, _, n + 1, .nil => by simp; exact .nil
  | _, _, n + 1, .cons r t => by simpa using Paired.dropP n t
abbrev RT (H : Hp) : Addr → Tr3 → Prop := fun p t => H p = some (.tup [.int t.1, .int t.2.1, .int t.2.2])
theorem PoolOk.ex {T : TT0} {D : Addr → Prop} {H H' : Hp} {pl : Addr} (h : PoolOk H pl) (e : Ex T D H H') (n : ¬ D pl) : PoolOk H' pl := by
  obtain ⟨c, s, h1, h2⟩ := h
  exact ⟨c, s, e.atD h1 n trivial, h2⟩
section
variable {P : Program} {w : World} {K : PySem.W.Frag} {mg : Str → Option Value} {base : Heap} {T : TT0}
def spShuf (T : TT0) : Sp := fun vs H Q _ => ∃ (pl a : Addr) (ps : List Addr) (ts : List Tr3), vs = [.ref pl, .ref a] ∧ PoolOk H pl ∧ SeenL H a ps ts ∧ ts.length ≤ 64 ∧ pl ≠ a ∧ Tabs T H ∧
  ∀ (f : Addr) (ps' : List Addr) (ts' : List Tr3) (H' : Hp), Ex T (on pl) H H' → PoolOk H' pl → SeenL H' f ps' ts' → ts'.Perm ts → Fresh H f → Q (.ref f) H'
theorem scSh : FnScope ["_law_pool_here", "_law_rows", "_law_found", "_law_row"] ["_law_pool_here", "_law_rows"] (defScope (top 26)) := ⟨rfl, rfl, rfl, by decide +kernel, rfl, by decide +kernel, by decide +kernel⟩
theorem ok_shuf {f f1 : Addr} {fd fd1 : FuncData} (F : FnP K "_law_shuffled" "_law_shuffled" (top 26) f fd) (C1 : Cal P w K mg base CX0 "_law_take" 1 f1 fd1 ["_law_pool_here", "_law_many"] (spTake T)) (gl : mg "len" = none) : FnOk P w K mg base CX0 2 f fd ["_law_pool_here", "_law_rows"] (spShuf T) := by
  refine F.ok scSh (fun vs H Q E h => ?_) (fun cdv A outer s H vs Q E hr h => ?_)
  · obtain ⟨pl, a, ps, ts, rfl, _⟩ := h
    rfl
  · obtain ⟨pl, a, ps, ts, rfl, hp, hS, hlen, npa, hT, kk⟩ := h
    refine ⟨_, PSs.nox (pss_cons (ps_set (i := 2) scSh.nd rfl (Or.inl rfl) (pe_lst pa_nil))
      (pss_cons (ps_for PassesOwn.never rfl (pi_list (pv 1)) (pg_name (i := 3) scSh.nd rfl (Or.inl rfl))
        (pss_one (ps_expr (pe_bm PySem.F.plainAttrs_list PySem.F.slot_list_insert PySem.F.type_list_insert mt_insert (pv 2) (pa_cons (pe_call C1.ok hr (by rfl) C1.mg C1.kp C1.b .nil pass0 (pa_cons (pv 0) (pa_cons (pe_op op_add (pe_callB call_len_seq (by rfl) gl boot_len (pa_cons (pv 2) pa_nil)) pe_int) pa_nil))) (pa_cons (pv 3) pa_nil))))))
      (pss_one (ps_ret (pv 2))))), ?_⟩
    refine ⟨Nat.zero_le _, fun fo hfo => ?_⟩
    have e1 : Ex T (on pl) H (upd H fo (.lst [])) := (Ex.refl hT).new hfo
    have ffo : Fresh H fo := .of hfo
    obtain ⟨c0, s0, hpl, _⟩ := id hp
    have nfp : pl ≠ fo := ne_of_none hpl hfo
    have hp1 : PoolOk (upd H fo (.lst [])) pl := hp.ex (T := T) (D := no) ((Ex.refl hT).new hfo) (fun z => z)
    have npf : ∀ {b : Addr} {xs : List V}, H b = some (.tup xs) → ¬ on pl b := fun {b xs} q z => by
      have z : b = pl := z
      rw [z, hpl] at q; cases q
    have hpn : ps.length = ts.length := Paired.length hS.inn
    refine ⟨_, rfl, a, rfl, ⟨_, .inl (.inl (e1.atD hS.out (fun z => npa z.symm) trivial))⟩, for_list (K := K) (a := a) (xs := ps.map V.ref) (fun i σ H' => ∃ (qs : List Addr) (us : List Tr3) (v3 : Option V), σ = [some (.ref pl), some (.ref a), some (.ref fo), v3] ∧ Ex T (on pl) H H' ∧ PoolOk H' pl ∧ H' fo = some (.lst (qs.map V.ref)) ∧ Paired (RT H) qs us ∧ us.Perm (ts.take i))
      ⟨[], [], none, rfl, e1, hp1, upd_same, .nil, .nil⟩ (fun i σ H' _ ⟨_, _, _, _, e, _⟩ => .inl (.inl (e.atD hS.out (fun z => npa z.symm) trivial))) ?_ ?_⟩
    · rintro i y σ H2 hi ⟨qs, us, v3, rfl, e2, hp2, hf2, pr2, pm2⟩
      obtain ⟨p, hp, rfl⟩ := map_at hi
      obtain ⟨t, ht, htp⟩ := Paired.at_ hS.inn hp
      have hul : us.length ≤ 64 := by
        have := pm2.length_eq
        rw [List.length_take] at this
        omega
      have hql : qs.length = us.length := Paired.length pr2
      refine ⟨_, rfl, .inl ⟨rfl, _, .inl (.inl hf2)⟩, _, rfl, _, rfl, fo, _, rfl, .inl (.inl (.inl hf2)), _, _, rfl, rfl, pl, _, rfl, hp2, ?_, ?_, e2.tb, fun r H3 e3 hp3 r0 rm => ?_⟩
      · show (1 : Int) ≤ ((qs.map V.ref).length : Int) + 1
        omega
      · show ((qs.map V.ref).length : Int) + 1 ≤ 1000
        rw [List.length_map]
        omega
      have hf3 := e3.atD hf2 (fun z => nfp z.symm) trivial
      have rm : r < ((qs.map V.ref).length : Int) + 1 := rm
      rw [List.length_map] at rm
      refine ⟨_, rfl, fo, _, r, _, rfl, rfl, hf3, lt_small (by rw [List.length_map]; omega), r0, by omega, ?_⟩
      have e4 := (e2.trans e3 fun _ z => .inl z)
      refine ⟨qs.take r.toNat ++ [p] ++ qs.drop r.toNat, us.take r.toNat ++ [t] ++ us.drop r.toNat, _, rfl, e4.wr (.inr ffo) (fun u e => by rw [hf3] at e; cases e; trivial), ?_, ?_, Paired.append (Paired.append (Paired.takeP _ pr2) (.cons htp .nil)) (Paired.dropP _ pr2), ?_⟩
      · obtain ⟨c, s, h1, h2⟩ := hp3
        exact ⟨c, s, by rw [upd_ne nfp]; exact h1, h2⟩
      · rw [upd_same, List.map_append, List.map_append, List.map_take, List.map_drop]
        rfl
      · rw [List.take_add_one, ht]
        have h1 : (us.take r.toNat ++ [t] ++ us.drop r.toNat).Perm (t :: us) := by
          rw [List.append_assoc]
          have : (us.take r.toNat ++ ([t] ++ us.drop r.toNat)).Perm ([t] ++ (us.take r.toNat ++ us.drop r.toNat)) := by
            rw [← List.append_assoc, ← List.append_assoc]
            exact List.perm_append_comm.append_right _
          rw [List.take_append_drop] at this
          exact this
        exact h1.trans ((pm2.cons t).trans (List.perm_append_comm (l₁ := [t])))
    · rintro σ H2 ⟨qs, us, v3, rfl, e2, hp2, hf2, pr2, pm2⟩
      rw [List.length_map, hpn, List.take_length] at pm2
      exact ⟨_, rfl, kk fo qs us H2 e2 hp2 ⟨hf2, Paired.imp (fun b t q => e2.atD q (npf q) trivial) pr2⟩ pm2 ffo⟩
end
end WyP

set_option Elab.async false
set_option linter.all false
set_option maxRecDepth 100000
set_option maxHeartbeats 4000000
/-! _law_seen_drawn, _law_over_due -/
namespace WyP
open PySem PySem.Spec PyProof.Rows L2 LamX Wy WyL WyH
structure TsN (n : Int) (ts : List Tr3) : Prop where
  each : ∀ t ∈ ts, 0 ≤ t.1 ∧ t.1 < n ∧ 0 ≤ t.2.1 ∧ t.2.1 < n ∧ t.1 ≠ t.2.1 ∧ 1 ≤ t.2.2 ∧ t.2.2 ≤ 99
  nd : (ts.map fun t => (t.1, t.2.1)).Nodup
theorem TsN.perm {n : Int} {ts us : List Tr3} (h : TsN n ts) (p : us.Perm ts) : TsN n us := ⟨fun t m => h.each t (p.mem_iff.mp m), ((p.map _).nodup_iff).mpr h.nd⟩
theorem TsN.ok {n : Int} {ts : List Tr3} (h : TsN n ts) (l : n ≤ 8) : TsOk ts := ⟨fun t m => by
  obtain ⟨a, b, c, d, e⟩ := h.each t m
  exact ⟨a, by omega, c, by omega, e⟩, h.nd⟩
theorem gOf_mem : ∀ {ts : List Tr3} {a b p : Int}, gOf ts a b = some p → (a, b, p) ∈ ts := by
  intro ts
  suffices ∀ (us : List Tr3) (G : Gr) (a b p : Int), (us.foldl (fun G t => up2 G t.1 t.2.1 (some t.2.2)) G) a b = some p → (a, b, p) ∈ us ∨ G a b = some p by
    intro a b p h
    rcases this ts _ a b p h with z | z
    · exact z
    · cases z
  intro us
  induction us with
  | nil => exact fun G a b p h => .inr h
  | cons t r ih =>
    intro G a b p h
    rcases ih _ a b p h with z | z
    · exact .inl (List.mem_cons_of_mem _ z)
    · have z : (if a = t.1 ∧ b = t.2.1 then some t.2.2 else G a b) = some p := z
      by_cases e : a = t.1 ∧ b = t.2.1
      · rw [if_pos e] at z
        cases z
        rw [e.1, e.2]
        exact .inl List.mem_cons_self
      · rw [if_neg e] at z
        exact .inr z
theorem gOf_at {ts : List Tr3} (nd : (ts.map fun t => (t.1, t.2.1)).Nodup) {t : Tr3} (h : t ∈ ts) : gOf ts t.1 t.2.1 = some t.2.2 := by
  suffices ∀ (us : List Tr3) (G : Gr), (us.map fun t => (t.1, t.2.1)).Nodup → (t ∈ us ∨ ((t.1, t.2.1) ∉ us.map (fun t => (t.1, t.2.1)) ∧ G t.1 t.2.1 = some t.2.2)) → (us.foldl (fun G t => up2 G t.1 t.2.1 (some t.2.2)) G) t.1 t.2.1 = some t.2.2 from this ts _ nd (.inl h)
  intro us
  induction us with
  | nil =>
    intro G _ h
    rcases h with h | h
    · cases h
    · exact h.2
  | cons s r ih =>
    intro G nd h
    rw [List.map_cons, List.nodup_cons] at nd
    refine ih _ nd.2 ?_
    rcases h with h | ⟨h1, h2⟩
    · rcases List.mem_cons.mp h with rfl | h
      · refine .inr ⟨nd.1, ?_⟩
        show (if t.1 = t.1 ∧ t.2.1 = t.2.1 then some t.2.2 else G t.1 t.2.1) = _
        rw [if_pos ⟨rfl, rfl⟩]
      · exact .inl h
    · rw [List.map_cons, List.mem_cons, not_or] at h1
      refine .inr ⟨h1.2, ?_⟩
      show (if t.1 = s.1 ∧ t.2.1 = s.2.1 then some s.2.2 else G t.1 t.2.1) = _
      rw [if_neg (fun z => h1.1 (Prod.ext z.1 z.2))]
      exact h2
theorem TsN.gin {n : Int} {ts : List Tr3} (h : TsN n ts) : GIn n (gOf ts) := fun a b p e => by
  obtain ⟨x1, x2, x3, x4, x5, x6, x7⟩ := h.each _ (gOf_mem e)
  exact ⟨x1, x2, x3, x4, x5, x6, x7⟩
section
variable {P : Program} {w : World} {K : PySem.W.Frag} {mg : Str → Option Value} {base : Heap} {T : TT0}
def spDrawn (T : TT0) : Sp := fun vs H Q _ => ∃ (pl : Addr) (n : Int), vs = [.ref pl, .int n, .int 30] ∧ PoolOk H pl ∧ 3 ≤ n ∧ n ≤ 8 ∧ Tabs T H ∧
  ∀ (f : Addr) (ps : List Addr) (ts : List Tr3) (H' : Hp), Ex T (on pl) H H' → PoolOk H' pl → SeenL H' f ps ts → TsN n ts → ts.length ≤ 64 → Fresh H f → Q (.ref f) H'
theorem scDr : FnScope ["_law_pool_here", "_law_many", "_law_most", "_law_found", "_law_one", "_law_other"] ["_law_pool_here", "_law_many", "_law_most"] (defScope (top 27)) := ⟨rfl, rfl, rfl, by decide +kernel, rfl, by decide +kernel, by decide +kernel⟩
/-- drawn so far: pairs ahead of (i, j) -/
structure DrS (T : TT0) (H : Hp) (pl fo : Addr) (n i j : Int) (H' : Hp) (qs : List Addr) (us : List Tr3) : Prop where
  ex : Ex T (on pl) H H'
  pool : PoolOk H' pl
  out : H' fo = some (.lst (qs.map V.ref))
  inn : Paired (RT H') qs us
  ok : TsN n us
  lt : ∀ t ∈ us, t.1 < i ∨ (t.1 = i ∧ t.2.1 < j)
  len : us.length ≤ 30
theorem RT.ex {T : TT0} {H H' : Hp} {pl : Addr} {qs : List Addr} {us : List Tr3} (h : Paired (RT H) qs us) (e : Ex T (on pl) H H') (p : PoolOk H pl) : Paired (RT H') qs us := Paired.imp (fun (b : Addr) (t : Tr3) (q : H b = some (.tup [.int t.1, .int t.2.1, .int t.2.2])) => e.atD q (fun z => by
  obtain ⟨c, s, h, _⟩ := p
  have z : b = pl := z
  rw [z, h] at q; cases q) trivial) h
theorem ok_drawn {f f1 f2 f3 : Addr} {fd fd1 fd2 fd3 : FuncData} (F : FnP K "_law_seen_drawn" "_law_seen_drawn" (top 27) f fd) (C1 : Cal P w K mg base CX0 "_law_take" 1 f1 fd1 ["_law_pool_here", "_law_many"] (spTake T)) (C2 : Cal P w K mg base CX0 "_law_price" 2 f2 fd2 ["_law_pool_here"] (spLPrice T)) (C3 : Cal P w K mg base CX0 "_law_shuffled" 2 f3 fd3 ["_law_pool_here", "_law_rows"] (spShuf T)) (gl : mg "len" = none) (gr : mg "range" = none) : FnOk P w K mg base CX0 3 f fd ["_law_pool_here", "_law_many", "_law_most"] (spDrawn T) := by
  refine F.ok scDr (fun vs H Q E h => ?_) (fun cdv A outer s H vs Q E hr h => ?_)
  · obtain ⟨pl, n, rfl, _⟩ := h
    rfl
  · obtain ⟨pl, n, rfl, hp, n3, n8, hT, kk⟩ := h
    refine ⟨_, PSs.nox (pss_cons (ps_set (i := 3) scDr.nd rfl (Or.inl rfl) (pe_lst pa_nil))
      (pss_cons (ps_for PassesOwn.never rfl (pi_range1 rfl gr (pa_cons (pv 1) pa_nil)) (pg_name (i := 4) scDr.nd rfl (Or.inl rfl))
        (pss_one (ps_for PassesOwn.never rfl (pi_range1 rfl gr (pa_cons (pv 1) pa_nil)) (pg_name (i := 5) scDr.nd rfl (Or.inl rfl))
          (pss_one (ps_if (PW.pt (pw_and (pt_cmpR op_ne (pv 4) (pv 5) (nomark _)) (pw_and (pt_cmpR op_lt (pe_callB call_len_seq (by rfl) gl boot_len (pa_cons (pv 3) pa_nil)) (pv 2) (nomark _)) (pw_and1 (pt_cmpR op_eq (pe_call C1.ok (hr.mono (by decide)) (by rfl) C1.mg C1.kp C1.b .nil pass0 (pa_cons (pv 0) (pa_cons pe_int pa_nil))) pe_int (nomark _))))))
            (pss_one (ps_expr (pe_bm PySem.F.plainAttrs_list PySem.F.slot_list_append PySem.F.type_list_append mt_append (pv 3) (pa_cons (pe_tup (pa_cons (pv 4) (pa_cons (pv 5) (pa_cons (pe_call C2.ok hr (by rfl) C2.mg C2.kp C2.b .nil pass0 (pa_cons (pv 0) pa_nil)) pa_nil)))) pa_nil)))) pss_nil)))))
      (pss_one (ps_ret (pe_call C3.ok hr (by rfl) C3.mg C3.kp C3.b .nil pass0 (pa_cons (pv 0) (pa_cons (pv 3) pa_nil))))))), ?_⟩
    refine ⟨Nat.zero_le _, fun fo hfo => ?_⟩
    have e1 : Ex T (on pl) H (upd H fo (.lst [])) := (Ex.refl hT).new hfo
    have ffo : Fresh H fo := .of hfo
    obtain ⟨c0, s0, hpl, _⟩ := id hp
    have nfp : pl ≠ fo := ne_of_none hpl hfo
    have hp1 : PoolOk (upd H fo (.lst [])) pl := hp.ex (T := T) (D := no) ((Ex.refl hT).new hfo) (fun z => z)
    refine ⟨_, rfl, n, rfl, by omega, by omega, ?_⟩
    refine for_range (lo := 0) (n := n.toNat) (fun i σ H' => ∃ (qs : List Addr) (us : List Tr3) (v4 v5 : Option V), σ = [some (.ref pl), some (.int n), some (.int 30), some (.ref fo), v4, v5] ∧ DrS T H pl fo n (0 + i) 0 H' qs us)
      ⟨[], [], none, none, rfl, e1, hp1, upd_same, .nil, ⟨(fun _ m => by cases m), by simp⟩, (fun _ m => by cases m), by simp⟩ ?_ ?_
    · rintro i σ H2 hi ⟨qs, us, v4, v5, rfl, d⟩
      refine ⟨_, rfl, n, rfl, by omega, by omega, ?_⟩
      refine for_range (lo := 0) (n := n.toNat) (fun j σ H' => ∃ (qs : List Addr) (us : List Tr3) (v5 : Option V), σ = [some (.ref pl), some (.int n), some (.int 30), some (.ref fo), some (.int (0 + i)), v5] ∧ DrS T H pl fo n (0 + i) (0 + j) H' qs us)
        ⟨qs, us, v5, rfl, (by simpa using d)⟩ ?_ ?_
      · rintro j σ H3 hj ⟨qs, us, v5, rfl, d⟩
        have next : ∀ {H'}, DrS T H pl fo n (0 + i) (0 + j) H' qs us → DrS T H pl fo n (0 + i) (0 + (j + 1 : Nat)) H' qs us := fun d => ⟨d.ex, d.pool, d.out, d.inn, d.ok, fun t m => (d.lt t m).imp id fun z => ⟨z.1, by have := z.2; omega⟩, d.len⟩
        refine ⟨_, rfl, _, rfl, rfl, _, rfl, ?_⟩
        by_cases hij : (0 : Int) + i = 0 + j
        · refine iteFe (by rw [hij]; simp) ?_
          exact ⟨qs, us, _, rfl, next d⟩
        refine iteTe (by rw [decide_eq_false (fun z => hij (V.int.inj z))]; rfl) ?_
        have hql : qs.length = us.length := Paired.length d.inn
        refine ⟨_, rfl, fo, _, rfl, .inl (.inl (.inl d.out)), _, rfl, _, _, rfl, rfl, _, rfl, ?_⟩
        by_cases hl : ((qs.map V.ref).length : Int) < 30
        · refine iteTe (decide_eq_true hl) ?_
          have hl2 : us.length < 30 := by rw [List.length_map, hql] at hl; omega
          refine ⟨_, rfl, pl, 3, rfl, d.pool, by decide, by decide, d.ex.tb, fun r H4 e4 hp4 r0 r3 => ?_⟩
          have d4 : DrS T H pl fo n (0 + i) (0 + j) H4 qs us := ⟨d.ex.trans e4 fun _ z => .inl z, hp4, e4.atD d.out (fun z => nfp z.symm) trivial, RT.ex d.inn e4 d.pool, d.ok, d.lt, d.len⟩
          refine ⟨rfl, _, rfl, ?_⟩
          by_cases hr0 : V.int r = V.int 0
          · refine iteTe (decide_eq_true hr0) ?_
            refine ⟨_, rfl, .inl ⟨rfl, _, .inl (.inl d4.out)⟩, _, rfl, _, rfl, _, rfl, pl, rfl, d4.pool, d4.ex.tb, fun c H5 e5 hp5 c0 c9 => ?_⟩
            have d5 : DrS T H pl fo n (0 + i) (0 + j) H5 qs us := ⟨d4.ex.trans e5 fun _ z => .inl z, hp5, e5.atD d4.out (fun z => nfp z.symm) trivial, RT.ex d4.inn e5 d4.pool, d4.ok, d4.lt, d4.len⟩
            refine ⟨(by show 3 ≤ sizeLine; decide), fun q hq => ?_⟩
            have nfq : fo ≠ q := ne_of_none d5.out hq
            have ho : (upd H5 q (.tup [.int (0 + i), .int (0 + j), .int c])) fo = some (.lst (qs.map V.ref)) := by rw [upd_ne nfq]; exact d5.out
            refine ⟨fo, _, _, rfl, rfl, ho, lt_small (by rw [List.length_map]; omega), ?_⟩
            have eq : Ex T (on pl) H5 (upd H5 q (.tup [.int (0 + i), .int (0 + j), .int c])) := (Ex.refl d5.ex.tb).new hq
            have en : Ex T no H5 (upd H5 q (.tup [.int (0 + i), .int (0 + j), .int c])) := (Ex.refl d5.ex.tb).new hq
            have pr : Paired (RT (upd H5 q (.tup [.int (0 + i), .int (0 + j), .int c]))) (qs ++ [q]) (us ++ [(0 + (i : Int), 0 + (j : Int), c)]) := Paired.append (RT.ex d5.inn eq d5.pool) (.cons upd_same .nil)
            have hp6 := d5.pool.ex en (fun z => z)
            have e6 := d5.ex.tr en
            generalize (upd H5 q (.tup [.int (0 + i), .int (0 + j), .int c])) = H6 at ho pr hp6 e6
            have wf : Ex T (fun x => x = fo) H6 (upd H6 fo (.lst (qs.map V.ref ++ [V.ref q]))) := (Ex.refl e6.tb).wr (.inl rfl) fun u e => by rw [ho] at e; cases e; trivial
            refine ⟨qs ++ [q], us ++ [(0 + (i : Int), 0 + (j : Int), c)], _, rfl, e6.wr (.inr ffo) (fun u e => by rw [ho] at e; cases e; trivial), hp6.ex wf nfp, ?_, Paired.imp (fun (b : Addr) (t : Tr3) (z : H6 b = some (.tup [.int t.1, .int t.2.1, .int t.2.2])) => wf.atD z (fun y => by rw [y, ho] at z; cases z) trivial) pr, ⟨fun t m => ?_, ?_⟩, fun t m => ?_, ?_⟩
            · rw [upd_same, List.map_append]; rfl
            · rcases List.mem_append.mp m with m | m
              · exact d.ok.each t m
              · rw [List.mem_singleton.mp m]
                exact ⟨by show (0 : Int) ≤ 0 + i; omega, by show (0 : Int) + i < n; omega, by show (0 : Int) ≤ 0 + j; omega, by show (0 : Int) + j < n; omega, hij, c0, c9⟩
            · rw [List.map_append]
              refine nd_snoc d.ok.nd fun m => ?_
              obtain ⟨t, m, e⟩ := List.mem_map.mp m
              have e1 : t.1 = 0 + (i : Int) := congrArg (·.1) e
              have e2 : t.2.1 = 0 + (j : Int) := congrArg (·.2) e
              rcases d.lt t m with z | ⟨_, z⟩
              · omega
              · omega
            · rcases List.mem_append.mp m with m | m
              · rcases d.lt t m with z | ⟨z1, z2⟩
                · exact .inl z
                · exact .inr ⟨z1, by omega⟩
              · rw [List.mem_singleton.mp m]
                exact .inr ⟨rfl, by show (0 : Int) + j < 0 + (j + 1 : Nat); omega⟩
            · rw [List.length_append]
              show us.length + 1 ≤ 30
              omega
          · refine iteFe (decide_eq_false hr0) ?_
            exact ⟨qs, us, _, rfl, next d4⟩
        · refine iteFe (decide_eq_false hl) ?_
          exact ⟨qs, us, _, rfl, next d⟩
      · rintro σ H3 ⟨qs, us, v5, rfl, d⟩
        refine ⟨qs, us, _, _, rfl, d.ex, d.pool, d.out, d.inn, d.ok, fun t m => .inl ?_, d.len⟩
        rcases d.lt t m with z | ⟨z, _⟩
        · omega
        · omega
    · rintro σ H2 ⟨qs, us, v4, v5, rfl, d⟩
      refine ⟨_, rfl, _, rfl, pl, fo, qs, us, rfl, d.pool, ⟨d.out, d.inn⟩, by have := d.len; omega, nfp, d.ex.tb, fun f ps' ts' H3 e3 hp3 hS3 pm ff => ?_⟩
      refine kk f ps' ts' H3 (d.ex.trans e3 fun _ z => .inl z) hp3 hS3 (d.ok.perm pm) (by have := pm.length_eq; have := d.len; omega) (d.ex.fresh ff fun z => ?_)
      obtain ⟨c, s, h, _⟩ := d.pool
      obtain ⟨ps, h'⟩ := ff _ (z ▸ h)
      cases h'
end
end WyP

set_option Elab.async false
set_option linter.all false
set_option maxRecDepth 100000
set_option maxHeartbeats 4000000
/-! _law_over_due -/
namespace WyP
open PySem PySem.Spec PyProof.Rows L2 LamX Wy WyL WyH
/-- the tables of all houses -/
structure TBS (H : Hp) (D : Addr) (n : Int) (G : Gr) (lt : List (Int × Addr)) : Prop where
  out : H D = some (.dK (mkE V.ref lt))
  inn : ∀ h, 0 ≤ h → h < n → ∃ (q : Addr) (lq : List (Int × Addr)) (S : PF) (Fn : FF), lk lt h = some q ∧ TR H q lq S Fn ∧ Fix G h S ∧ Firsts G h S Fn
theorem TBS.ex {T : TT0} {Df : Addr → Prop} {H H' : Hp} {D : Addr} {n : Int} {G : Gr} {lt : List (Int × Addr)} (l : TBS H D n G lt) (e : Ex T Df H H') (h1 : ∀ b kvs, Df b → H b ≠ some (.dK kvs)) (h2 : ∀ b xs, Df b → H b ≠ some (.tup xs)) : TBS H' D n G lt :=
  ⟨e.atD l.out (fun z => h1 _ _ z l.out) trivial, fun h a b => by
    obtain ⟨q, lq, S, Fn, r1, r2, r3⟩ := l.inn h a b
    exact ⟨q, lq, S, Fn, r1, r2.ex e (fun z => h1 _ _ z r2.out) h2, r3⟩⟩
theorem TR.at_ {H : Hp} {D : Addr} {lt : List (Int × Addr)} {S : PF} {Fn : FF} (t : TR H D lt S Fn) {b y : Int} (h : S b = some y) : ∃ q u, lk lt b = some q ∧ H q = some (.tup [.int y, .ref u]) := by
  cases e : lk lt b with
  | none => rw [t.non b e] at h; cases h
  | some q =>
    obtain ⟨y', fs, u, r0, r1, r2, r3⟩ := t.inn b q e
    rw [h] at r0; cases r0
    exact ⟨q, u, rfl, r2⟩
theorem TR.no_ {H : Hp} {D : Addr} {lt : List (Int × Addr)} {S : PF} {Fn : FF} (t : TR H D lt S Fn) {b : Int} (h : S b = none) : lk lt b = none := by
  cases e : lk lt b with
  | none => rfl
  | some q =>
    obtain ⟨y', fs, u, r0, r1, r2, r3⟩ := t.inn b q e
    rw [h] at r0; cases r0
section
variable {P : Program} {w : World} {K : PySem.W.Frag} {mg : Str → Option Value} {base : Heap} {T : TT0}
def spDue : Sp := fun vs H Q _ => ∃ (D r : Addr) (h t u v c n : Int) (G : Gr) (lt : List (Int × Addr)), vs = [.ref D, .int h, .int t, .ref r] ∧ TBS H D n G lt ∧ GIn 8 G ∧ H r = some (.tup [.int u, .int v, .int c]) ∧ G u v = some c ∧ 0 ≤ h ∧ h < n ∧ 0 ≤ v ∧ v < n ∧
  ∀ (b : Bool), (∀ S B, Fix G h S → Fix G v B → (b = true ↔ Over S B u c t)) → Q (.bl b) H
theorem scDu : FnScope ["_law_tables", "_law_house", "_law_target", "_law_road", "_law_one", "_law_other", "_law_cost", "_law_gone"] ["_law_tables", "_law_house", "_law_target", "_law_road"] (defScope (top 28)) := ⟨rfl, rfl, rfl, by decide +kernel, rfl, by decide +kernel, by decide +kernel⟩
theorem ok_due {f : Addr} {fd : FuncData} (F : FnP K "_law_over_due" "_law_over_due" (top 28) f fd) : FnOk P w K mg base CX0 1 f fd ["_law_tables", "_law_house", "_law_target", "_law_road"] spDue := by
  refine F.ok scDu (fun vs H Q E h => ?_) (fun cdv A outer s H vs Q E hr h => ?_)
  · obtain ⟨D, r, h, t, u, v, c, n, G, lt, rfl, _⟩ := h
    rfl
  · obtain ⟨D, r, h, t, u, v, c, n, G, lt, rfl, tb, hG, hr', huv, h0, hn, v0, vn, k⟩ := h
    have hu := hu_of hr
    refine ⟨_, PSs.nox (pss_cons (ps_asg (pv 3) (pg_tup rfl (pgs_cons (pg_name (i := 4) scDu.nd rfl (Or.inl rfl)) (pgs_cons (pg_name (i := 5) scDu.nd rfl (Or.inl rfl)) (pgs_cons (pg_name (i := 6) scDu.nd rfl (Or.inl rfl)) pgs_nil)))))
      (pss_cons (ps_if (PW.pt (pw_or (pt_cmp (pc_dnotin hu (pv 4) (pe_dget hu (pv 0) (pv 1) (fun _ _ => rfl)))) (pw_or1 (pt_cmp (pc_dnotin hu (pv 2) (pe_dget hu (pv 0) (pv 5) (fun _ _ => rfl))))))) (pss_one (ps_ret pe_bl)) pss_nil)
      (pss_cons (ps_set (i := 7) scDu.nd rfl (Or.inl rfl) (pe_op op_add (pe_op op_add (pe_ix ix_tup (pe_dget hu (pe_dget hu (pv 0) (pv 1) (fun _ _ => rfl)) (pv 4) (fun _ _ => rfl)) pe_int (fun _ _ => rfl)) (pv 6)) (pe_ix ix_tup (pe_dget hu (pe_dget hu (pv 0) (pv 5) (fun _ _ => rfl)) (pv 2) (fun _ _ => rfl)) pe_int (fun _ _ => rfl))))
      (pss_one (ps_ret (pe_cmpR op_eq (pv 7) (pe_ix ix_tup (pe_dget hu (pe_dget hu (pv 0) (pv 1) (fun _ _ => rfl)) (pv 2) (fun _ _ => rfl)) pe_int (fun _ _ => rfl)) (nomark _))))))), ?_⟩
    obtain ⟨q1, l1, S, F1, a1, t1, fx, _⟩ := tb.inn h h0 hn
    obtain ⟨q2, l2, B, F2, a2, t2, fxb, _⟩ := tb.inn v v0 vn
    have g1 := DGet.m (f := V.ref) (k := h) (Rd.of tb.out)
    rw [a1] at g1
    have g2 := DGet.m (f := V.ref) (k := v) (Rd.of tb.out)
    rw [a2] at g2
    have un : ∀ b, (∀ x y z, S u = some x → B t = some y → S t = some z → (b = true ↔ x + c + y = z)) → ((S u = none ∨ B t = none) → b = false) → Q (.bl b) H := fun b k1 k2 => k b fun S' B' fS' fB' => by
      rw [Fix.uniq hG fS' fx, Fix.uniq hG fB' fxb]
      constructor
      · intro hb
        cases q1 : S u with
        | none => rw [k2 (.inl q1)] at hb; cases hb
        | some x =>
          cases q2 : B t with
          | none => rw [k2 (.inr q2)] at hb; cases hb
          | some y =>
            obtain ⟨z, q3⟩ := reach hG fx fxb huv q1 q2
            exact ⟨x, y, z, q1, q2, q3, (k1 x y z q1 q2 q3).mp hb⟩
      · rintro ⟨x, y, z, q1, q2, q3, q4⟩
        exact (k1 x y z q1 q2 q3).mpr q4
    refine ⟨_, rfl, r, _, rfl, SqT.of hr', rfl, _, _, rfl, _, _, rfl, _, _, rfl, rfl, ?_⟩
    refine ⟨_, rfl, _, rfl, _, rfl, D, _, rfl, g1, q1, _, rfl, DGet.m (f := V.ref) (k := u) (Rd.of t1.out), _, rfl, ?_⟩
    cases e1 : S u with
    | none =>
      rw [t1.no_ e1]
      refine iteT ?_
      exact un false (fun x y z r => by rw [e1] at r; cases r) fun _ => rfl
    | some x =>
      obtain ⟨p1, w1, b1, c1⟩ := t1.at_ e1
      rw [b1]
      refine iteF ?_
      refine ⟨_, rfl, _, rfl, _, rfl, D, _, rfl, g2, q2, _, rfl, DGet.m (f := V.ref) (k := t) (Rd.of t2.out), _, rfl, ?_⟩
      cases e2 : B t with
      | none =>
        rw [t2.no_ e2]
        refine iteT ?_
        exact un false (fun x y z _ r => by rw [e2] at r; cases r) fun _ => rfl
      | some y =>
        obtain ⟨p2, w2, b2, c2⟩ := t2.at_ e2
        rw [b2]
        refine iteF ?_
        obtain ⟨z, e3⟩ := reach hG fx fxb huv e1 e2
        obtain ⟨p3, w3, b3, c3⟩ := t1.at_ e3
        have g3 := DGet.m (f := V.ref) (k := u) (Rd.of t1.out)
        rw [b1] at g3
        have g4 := DGet.m (f := V.ref) (k := t) (Rd.of t2.out)
        rw [b2] at g4
        have g5 := DGet.m (f := V.ref) (k := t) (Rd.of t1.out)
        rw [b3] at g5
        refine ⟨_, rfl, _, rfl, D, _, rfl, g1, _, rfl, q1, _, rfl, g3, p1, _, _, _, rfl, rfl, SqT.of c1, atI_nat (j := 0) rfl, _, rfl, _, _, rfl, rfl, _, rfl, _, rfl, D, _, rfl, g2, _, rfl, q2, _, rfl, g4, p2, _, _, _, rfl, rfl, SqT.of c2, atI_nat (j := 0) rfl, _, _, rfl, rfl, ?_⟩
        refine ⟨_, rfl, _, rfl, _, rfl, D, _, rfl, g1, _, rfl, q1, _, rfl, g5, p3, _, _, _, rfl, rfl, SqT.of c3, atI_nat (j := 0) rfl, rfl, ?_⟩
        refine un _ (fun x' y' z' r1 r2 r3 => ?_) fun r => ?_
        · rw [e1] at r1; rw [e2] at r2; rw [e3] at r3
          cases r1; cases r2; cases r3
          rw [decide_eq_true_iff]
          constructor
          · intro e; injection e
          · exact fun e => congrArg V.int e
        · rcases r with r | r
          · rw [e1] at r; cases r
          · rw [e2] at r; cases r
end
end WyP

set_option Elab.async false
set_option linter.all false
set_option maxRecDepth 100000
set_option maxHeartbeats 4000000
/-! binding of keyword-only parameters; data alike -/
namespace WyP
open PySem PySem.Spec PyProof.Rows L2 LamX Wy WyL WyH
/-- a def with parameters p.. and one keyword-only -/
theorem kbn_goes {K : PySem.W.Frag} {f : Addr} {fd : FuncData} (F : FnP K "goes_over" "goes_over" (top 7) f fd) : KBn K fd ["house", "seen", "target", "tie"] 3 ["tie"] (fun us ws => us ++ ws) (fun vs zs => vs ++ zs) := by
  obtain ⟨oc, od, dV, kV, doc, pm, an, cdv, ct, osl, rfl, lk, hcd, hd, hk⟩ := F.ex
  refine ⟨fun s us ws hK h1 h2 => ?_, fun r1 r2 => ?_⟩
  · rcases hd with ⟨_, rfl⟩ | ⟨h, _⟩
    · match us, ws, h1, h2 with
      | [a, b, c], [d], _, _ =>
        intro M A E Q q
        have : bindArgs (PySem.W.fnOf "goes_over" "goes_over" (defArgs (top 7)) (defBody (top 7)) (defScope (top 7)) Value.none kV doc pm an cdv ct) { pos := [a, b, c], kw := [("tie", d)] } = (pure ([("house", a), ("seen", b), ("target", c), ("tie", d)] : List (Str × Value)) : Sem (List (Str × Value))) := rfl
        show wpAny M A (bindArgs _ { pos := [a, b, c], kw := [("tie", d)] }) Q E s
        rw [this]
        exact wpAny_pure q
    · exact absurd rfl h
  · exact Vals.append r1 r2

theorem kbn_set {K : PySem.W.Frag} {f : Addr} {fd : FuncData} {kws : List (Str × V)} (F : FunD K "set_tie" "Ways.set_tie" (defArgs (cW 7)) (defBody (cW 7)) (defScope (cW 7)) [] kws f fd) : KBn K fd ["self", "one", "other", "price"] 3 ["price"] (fun us ws => us ++ ws) (fun vs zs => vs ++ zs) := by
  obtain ⟨oc, od, dV, kV, doc, pm, an, cdv, ct, osl, rfl, lk, hcd, hd, hk⟩ := F.ex
  refine ⟨fun s us ws hK h1 h2 => ?_, fun r1 r2 => ?_⟩
  · rcases hd with ⟨_, rfl⟩ | ⟨h, _⟩
    · match us, ws, h1, h2 with
      | [a, b, c], [d], _, _ =>
        intro M A E Q q
        have : bindArgs (PySem.W.fnOf "set_tie" "Ways.set_tie" (defArgs (cW 7)) (defBody (cW 7)) (defScope (cW 7)) Value.none kV doc pm an cdv ct) { pos := [a, b, c], kw := [("price", d)] } = (pure ([("self", a), ("one", b), ("other", c), ("price", d)] : List (Str × Value)) : Sem (List (Str × Value))) := rfl
        show wpAny M A (bindArgs _ { pos := [a, b, c], kw := [("price", d)] }) Q E s
        rw [this]
        exact wpAny_pure q
    · exact absurd rfl h
  · exact Vals.append r1 r2
theorem b0_set {K : PySem.W.Frag} {f : Addr} {fd : FuncData} (F : FunD K "set_tie" "Ways.set_tie" (defArgs (cW 7)) (defBody (cW 7)) (defScope (cW 7)) [] [("price", .non)] f fd) : ∃ ds, Vals [V.non] ds ∧ L2.Binds K fd ["self", "one", "other", "price"] ds := by
  refine F.binds0 (ps := ["self", "one", "other", "price"]) 3 (by simp) rfl fun D doc pm an cdv ct us ks hu hk => ?_
  match us, ks, hu, hk with
  | [a, b, c], [d], _, _ => exact ⟨_, _, _, _, _, _, rfl, rfl, rfl⟩
theorem alikeAll_ints : ∀ X : List Int, PySem.W.alikeAll (X.map PyData.int) (X.map PyData.int) = true
  | [] => by simp [PySem.W.alikeAll]
  | a :: r => by simp [PySem.W.alikeAll, PySem.W.alike, alikeAll_ints r]
theorem alike_row (S : PF) (Fn : FF) (b : Int) : PySem.W.alike (rowD S Fn b) (rowD S Fn b) = true := by
  unfold rowD
  split
  · rename_i y fs _ _
    simp [PySem.W.alike, PySem.W.alikeAll, alikeAll_ints fs]
  · simp [PySem.W.alike]
theorem depth_rowD (S : PF) (Fn : FF) (b : Int) : (rowD S Fn b).depth ≤ 10 := by
  unfold rowD
  split
  · rename_i y fs _ _
    have := depth_row y fs
    omega
  · simp [PyData.depth]
theorem TR.keys {H : Hp} {D : Addr} {lt : List (Int × Addr)} {S : PF} {Fn : FF} (t : TR H D lt S Fn) (b : Int) : b ∈ ks lt ↔ ∃ y, S b = some y := by
  constructor
  · intro m
    cases e : lk lt b with
    | none => exact absurd m (none_lk e)
    | some q =>
      obtain ⟨y, fs, u, r, _⟩ := t.inn b q e
      exact ⟨y, r⟩
  · rintro ⟨y, h⟩
    obtain ⟨q, u, e, _⟩ := t.at_ h
    exact lk_key e
/-- two tables of the same rows -/
theorem TR.same {K : PySem.W.Frag} {H : Hp} {D D' : Addr} {lt lt' : List (Int × Addr)} {S : PF} {Fn : FF} (t : TR H D lt S Fn) (t' : TR H D' lt' S Fn) (d : ∀ b, Fn b = none ↔ S b = none) : (mkE V.ref lt).length = (mkE V.ref lt').length ∧ ∀ p ∈ mkE V.ref lt, ∃ u d, valV (mkE V.ref lt') p.1 = some u ∧ Dp K H p.2 d ∧ Dp K H u d ∧ PySem.W.alike d d = true ∧ d.depth ≤ 10 ∧ PyData.eqv d d = true := by
  constructor
  · rw [mk_len, mk_len]
    have h1 : (ks lt).Perm (ks lt') := (List.perm_ext_iff_of_nodup t.nd t'.nd).mpr fun b => by rw [t.keys, t'.keys]
    have := h1.length_eq
    rwa [List.length_map, List.length_map] at this
  · intro p hp
    obtain ⟨⟨b, q⟩, hb, rfl⟩ := List.mem_map.mp hp
    have hl := lk_of t.nd hb
    obtain ⟨y, hy⟩ := (t.keys b).mp (lk_key hl)
    obtain ⟨q', u', e', _⟩ := t'.at_ hy
    refine ⟨V.ref q', rowD S Fn b, ?_, t.row hl, t'.row e', alike_row _ _ _, depth_rowD _ _ _, ?_⟩
    · show valV (mkE V.ref lt') (Sum.inl b : Key) = _
      rw [valV_mk, e']; rfl
    · rw [eqv_row (d b) (d b)]
      unfold rowEq
      simp
end WyP

set_option Elab.async false
set_option linter.all false
set_option maxRecDepth 100000
set_option maxHeartbeats 4000000
/-! _law_right -/
namespace WyP
open PySem PySem.Spec PyProof.Rows L2 LamX Wy WyL WyH
def overB (S B : PF) (u c t : Int) : Bool := match S u, B t, S t with
  | some x, some y, some z => decide (x + c + y = z)
  | _, _, _ => false
theorem overB_iff {S B : PF} {u c t : Int} : overB S B u c t = true ↔ Over S B u c t := by
  unfold overB Over
  constructor
  · intro h
    cases q1 : S u with
    | none => rw [q1] at h; cases h
    | some x =>
      cases q2 : B t with
      | none => rw [q1, q2] at h; cases h
      | some y =>
        cases q3 : S t with
        | none => rw [q1, q2, q3] at h; cases h
        | some z =>
          rw [q1, q2, q3] at h
          exact ⟨x, y, z, rfl, rfl, rfl, of_decide_eq_true h⟩
  · rintro ⟨x, y, z, h1, h2, h3, h4⟩
    rw [h1, h2, h3]
    exact decide_eq_true h4
def upTo (n : Int) : List Int := (List.range n.toNat).map fun (i : Nat) => (i : Int)
theorem upTo_at {n : Int} {i : Nat} (h : i < n.toNat) : (upTo n)[i]? = some (i : Int) := by
  unfold upTo
  rw [List.getElem?_map, List.getElem?_range h]
  rfl
theorem upTo_len (n : Int) : (upTo n).length = n.toNat := by unfold upTo; rw [List.length_map, List.length_range]
theorem upTo_mem {n x : Int} : x ∈ upTo n ↔ 0 ≤ x ∧ x < n := by
  unfold upTo
  rw [List.mem_map]
  constructor
  · rintro ⟨i, h, rfl⟩
    have := List.mem_range.mp h
    omega
  · rintro ⟨h1, h2⟩
    exact ⟨x.toNat, List.mem_range.mpr (by omega), by omega⟩
/-- what stands while a tie is tried -/
structure RB (T : TT0) (C : Addr) (H : Hp) (p L S F : Addr) (ol : List (Int × Addr)) (ls : List (Int × Int)) (lo : List (Int × Addr)) (h k : Int) (G : Gr) (Fn : FF) (D1 : Addr) (lt1 : List (Int × Addr)) (S1 : PF) (F1 : FF) (Hc : Hp) : Prop where
  e : Ex T no H Hc
  wo : WO C Hc p L S F ol ls lo h k G Fn
  tr : TR Hc D1 lt1 S1 F1
section
variable {T : TT0} {C : Addr} {H : Hp} {p L S F : Addr} {ol : List (Int × Addr)} {ls : List (Int × Int)} {lo : List (Int × Addr)} {h k : Int} {G : Gr} {Fn : FF} {D1 : Addr} {lt1 : List (Int × Addr)} {S1 : PF} {F1 : FF} {Hc Hd : Hp}
theorem RB.ex (b : RB T C H p L S F ol ls lo h k G Fn D1 lt1 S1 F1 Hc) (e : Ex T no Hc Hd) : RB T C H p L S F ol ls lo h k G Fn D1 lt1 S1 F1 Hd := ⟨b.e.tr e, b.wo.ex e, b.tr.ex e (fun z => z) fun _ _ z => z.elim⟩
end
section
variable {P : Program} {w : World} {K : PySem.W.Frag} {mg : Str → Option Value} {base : Heap} {T : TT0} {C : Addr}
def spRight (T : TT0) : Sp := fun vs H Q _ => ∃ (D sn r : Addr) (h n u v c : Int) (ps : List Addr) (ts : List Tr3) (lt : List (Int × Addr)), vs = [.ref D, .ref sn, .int h, .int n, .ref r] ∧ TBS H D n (gOf ts) lt ∧ SeenL H sn ps ts ∧ TsN n ts ∧ ts.length ≤ 64 ∧ 3 ≤ n ∧ n ≤ 8 ∧ 0 ≤ h ∧ h < n ∧ H r = some (.tup [.int u, .int v, .int c]) ∧ (u, v, c) ∈ ts ∧ Tabs T H ∧
  ∀ H', Ex T no H H' → Q (.bl true) H'
abbrev NR5 : List Str := ["_law_tables", "_law_seen", "_law_house", "_law_many", "_law_road", "_law_own", "_law_rows", "_law_pair", "_law_target", "_law_over", "_law_told", "_law_later"]
theorem scRi : FnScope NR5 ["_law_tables", "_law_seen", "_law_house", "_law_many", "_law_road"] (defScope (top 29)) := ⟨rfl, rfl, rfl, by decide +kernel, rfl, by decide +kernel, by decide +kernel⟩
theorem ok_right {f f1 f2 f3 f4 f5 : Addr} {fd fd1 fd2 fd3 fd4 fd5 : FuncData} {dsS : List Value} (F : FnP K "_law_right" "_law_right" (top 29) f fd) (wc : WC K C) (mw : mg "Ways" = some (.ref C)) (mk : Mk K C f1) (CI : FnOk P w K mg base CX0 5 f1 fd1 ["self", "house", "seen"] (spInit C T)) (bI : L2.Binds K fd1 ["self", "house", "seen"] [])
    (mT : Meth K C "table" f2) (CT : FnOk P w K mg base CX0 1 f2 fd2 ["self"] (spTable C T)) (bT : L2.Binds K fd2 ["self"] [])
    (mS : Meth K C "set_tie" f3) (CS : FnOk P w K mg base CX0 6 f3 fd3 ["self", "one", "other", "price"] (spSet C T)) (bS : L2.Binds K fd3 ["self", "one", "other", "price"] dsS) (hS0 : Vals [V.non] dsS) (kS : KBn K fd3 ["self", "one", "other", "price"] 3 ["price"] (fun us ws => us ++ ws) (fun vs zs => vs ++ zs))
    (OG : FnOk P w K mg base CX0 5 f4 fd4 ["house", "seen", "target", "tie"] (spOver K T)) (gG : mg "goes_over" = some (.ref f4)) (kpG : PySem.W.keepIn K (.ref f4) = true) (kG : KBn K fd4 ["house", "seen", "target", "tie"] 3 ["tie"] (fun us ws => us ++ ws) (fun vs zs => vs ++ zs))
    (CD : Cal P w K mg base CX0 "_law_over_due" 1 f5 fd5 ["_law_tables", "_law_house", "_law_target", "_law_road"] spDue)
    (gr : mg "range" = none) : FnOk P w K mg base CX0 7 f fd ["_law_tables", "_law_seen", "_law_house", "_law_many", "_law_road"] (spRight T) := by
  refine F.ok scRi (fun vs H Q E h => ?_) (fun cdv A outer s H vs Q E hr h => ?_)
  · obtain ⟨D, sn, r, h, n, u, v, c, ps, ts, lt, rfl, _⟩ := h
    rfl
  · obtain ⟨D, sn, r, h, n, u, v, c, ps, ts, lt, rfl, tb, hsn, hts, hlen, n3, n8, h0, hn, hr0, hin, hT, kk⟩ := h
    have hu := hu_of hr
    refine ⟨_, PSs.nox (pss_cons (ps_set (i := 5) scRi.nd rfl (Or.inl rfl) (pe_make mk CI hr (by rfl) mw bI .nil pass0 (pa_cons (pv 2) (pa_cons (pv 1) pa_nil))))
      (pss_cons (ps_set (i := 6) scRi.nd rfl (Or.inl rfl) (pe_meth0 (pv 5) wc.cl mT CT (hr.mono (by decide)) bT .nil pass0))
      (pss_cons (ps_set (i := 7) scRi.nd rfl (Or.inr rfl) (pe_slice sl_tup (pv 4) po_none (po_some pe_int)))
      (pss_cons (ps_set (i := 9) scRi.nd rfl (Or.inr rfl) (pe_lc (own := [("_law_target", 8)]) (g := gName 8) rfl scRi.nd (pi_range1 rfl gr (pa_cons (pv 3) pa_nil)) (blkOk_by (N := NR5) (sc := defScope (top 29)) (by decide +kernel)) (fun _ _ _ _ _ => pg_name (i := 8) scRi.nd rfl (Or.inl rfl))
          (fun _ _ _ _ _ => pts_one (pt_val (pe_callN OG (hr.mono (by decide)) (by rfl) gG kpG kG pass0 (pa_cons (pv 2) (pa_cons (pv 1) (pa_cons (pv 8) pa_nil))) (pk_cons (pv 7) pk_nil))))
          (fun _ _ _ _ _ => pv 8)))
      (pss_cons (ps_if (pt_cmpR (op_neD hr.units) (pv 9) (pe_lc (own := [("_law_target", 8)]) (g := gName 8) rfl scRi.nd (pi_range1 rfl gr (pa_cons (pv 3) pa_nil)) (blkOk_by (N := NR5) (sc := defScope (top 29)) (by decide +kernel)) (fun _ _ _ _ _ => pg_name (i := 8) scRi.nd rfl (Or.inl rfl))
          (fun _ _ _ _ _ => pts_one (pt_val (pe_call CD.ok (hr.mono (by decide)) (by rfl) CD.mg CD.kp CD.b .nil pass0 (pa_cons (pv 0) (pa_cons (pv 2) (pa_cons (pv 8) (pa_cons (pv 4) pa_nil)))))))
          (fun _ _ _ _ _ => pv 8)) (nomark _)) pss_never pss_nil)
      (pss_cons (ps_set (i := 10) scRi.nd rfl (Or.inl rfl) (pe_meth (pv 5) wc.cl mS CS hr bS hS0 pass0 (pa_cons (pe_ix ix_tup (pv 4) pe_int (fun _ _ => rfl)) (pa_cons (pe_ix ix_tup (pv 4) pe_int (fun _ _ => rfl)) pa_nil))))
      (pss_cons (ps_set (i := 11) scRi.nd rfl (Or.inl rfl) (pe_meth0 (pv 5) wc.cl mT CT (hr.mono (by decide)) bT .nil pass0))
      (pss_cons (ps_if (pt_cmpR (op_neD hr.units) (pe_lc (own := [("_law_target", 8)]) (g := gName 8) rfl scRi.nd (pi_list (pv 10)) (blkOk_by (N := NR5) (sc := defScope (top 29)) (by decide +kernel)) (fun _ _ _ _ _ => pg_name (i := 8) scRi.nd rfl (Or.inl rfl))
          (fun _ _ _ _ _ => pts_one (pt_cmpR (op_notIn_seqK (K' := K) rfl) (pv 8) (pv 9) (by rfl)))
          (fun _ _ _ _ _ => pv 8)) (pe_lst pa_nil) (nomark _)) pss_never pss_nil)
      (pss_cons (ps_lock (ps_for PassesOwn.never rfl (pi_keys (pv 6)) (pg_name (i := 8) scRi.nd rfl (Or.inl rfl))
          (pss_one (ps_if (PW.pt (pw_and (pt_cmpR op_notIn_seq (pv 8) (pv 9) (by rfl)) (pw_and1 (pt_cmpR (op_neD hr.units) (pe_dget1 hu (pv 11) (pv 8) ⟨rfl, rfl, rfl, rfl⟩) (pe_dget hu (pv 6) (pv 8) (fun _ _ => rfl)) (nomark _))))) pss_never pss_nil))))
      (pss_one (ps_ret (pe_and (pe_cmpR (op_eqD hr.units) (pe_methN (pl := _) (pv 5) wc.cl mS CS hr kS pass0 (pa_cons (pe_ix ix_tup (pv 4) pe_int (fun _ _ => rfl)) (pa_cons (pe_ix ix_tup (pv 4) pe_int (fun _ _ => rfl)) pa_nil)) (pk_cons (pe_ix ix_tup (pv 4) pe_int (fun _ _ => rfl)) pk_nil)) (pv 10) (nomark _))
          (pe_one (pe_cmpR (op_eqT hr.units) (pe_meth0 (pv 5) wc.cl mT CT (hr.mono (by decide)) bT .nil pass0) (pv 6) (nomark _))))))))))))))), ?_⟩
    have tsok := hts.ok n8
    have gin : GIn n (gOf ts) := hts.gin
    have hG : GIn 8 (gOf ts) := gin.mono n8
    have huv : gOf ts u v = some c := gOf_at hts.nd hin
    obtain ⟨u0, u8, v0, v8, une, c0, c9⟩ := hG _ _ _ huv
    obtain ⟨_, _, _, vn, _⟩ := gin _ _ _ huv
    obtain ⟨_, _, B, _, _, _, fxB, _⟩ := tb.inn v v0 vn
    have h8 : h < 8 := by omega
    have noD1 : ∀ b (kvs : List (Key × V)), no b → H b ≠ some (.dK kvs) := fun _ _ z => z.elim
    have noD2 : ∀ b xs, no b → H b ≠ some (.tup xs) := fun _ _ z => z.elim
    -- own = Ways(house, seen)
    refine ⟨_, rfl, _, rfl, fun p dx np ndx nex => ?_⟩
    have npx : (upd H dx (.own p)) p = none := by rw [upd_ne nex.symm]; exact np
    have e1 : Ex T no H (upd (upd H dx (.own p)) p (.ins C dx [])) := ((Ex.refl hT).new ndx).new npx
    have fp : Fresh H p := .of np
    have hp1 : (upd (upd H dx (.own p)) p (.ins C dx [])) p = some (.ins C dx []) := upd_same
    clear npx ndx np
    generalize (upd (upd H dx (.own p)) p (.ins C dx [])) = H1 at e1 hp1
    refine ⟨p, sn, dx, ps, ts, h, rfl, hp1, hsn.ex e1 (fun z => z) noD2, by omega, tsok, hG, h0, h8, e1.tb, fun L S F ol ls lo Fn H2 e12 wo fx fi fL fS fF fq hol => ⟨rfl, ?_⟩⟩
    have e2 : Ex T no H H2 := e1.trans e12 fun x z => .inr (z ▸ fp)
    have fS' : Fresh H S := e1.fresh fS (fun z => z)
    obtain ⟨q0, hq0⟩ : ∃ q0, lk ol u = some q0 := by
      cases e : lk ol u with
      | none => have := wo.ln.non u e v; rw [huv] at this; cases this
      | some q => exact ⟨q, rfl⟩
    have fq' : Fresh H q0 := e1.fresh (fq _ _ hq0) (fun z => z)
    clear hp1 e12 e1 fL fS fF fq
    -- rows = own.table()
    obtain ⟨dx2, hi2⟩ := wo.ins
    refine ⟨_, rfl, p, dx2, _, rfl, hi2, rfl, p, L, S, F, ol, ls, lo, h, 0, gOf ts, Fn, rfl, wo, fx.inR hG h0 h8, fun b y e => some_of_dom fi.dom e, e2.tb, fun D1 lt1 H3 e23 tr1 fD1 => ?_⟩
    have rb3 : RB T C H p L S F ol ls lo h 0 (gOf ts) Fn D1 lt1 (lk ls) Fn H3 := ⟨e2.tr e23, wo.ex e23, tr1⟩
    have nDS : D1 ≠ S := (fD1.ne wo.sm trivial).symm
    have nDp : D1 ≠ p := (fD1.ne hi2 trivial).symm
    have nDq : D1 ≠ q0 := by
      obtain ⟨il, r, _⟩ := wo.ln.inn _ _ hq0
      exact (fD1.ne r trivial).symm
    clear e23 tr1 e2 wo hi2 fD1
    -- pair = road[:2]
    refine ⟨_, rfl, _, rfl, r, _, rfl, SqT.of (rb3.e.at_ hr0 trivial), (by show ¬(HT.sIx 3 0 none = 0 ∧ HT.sIx 3 3 (some 2) = 3); decide), fun pr hpr => ?_⟩
    have rb4 := rb3.ex ((Ex.refl rb3.e.tb).new (o := .tup (cutV [.int u, .int v, .int c] none (some 2))) hpr)
    have hp4 : (upd H3 pr (.tup (cutV [.int u, .int v, .int c] none (some 2)))) pr = some (.tup [.int u, .int v]) := upd_same
    clear rb3 hpr
    generalize (upd H3 pr (.tup (cutV [.int u, .int v, .int c] none (some 2)))) = H4 at rb4 hp4
    have ob : ∀ b t, (∀ S B, Fix (gOf ts) h S → Fix (gOf ts) v B → (b = true ↔ Over S B u c t)) → b = overB (lk ls) B u c t := fun b t hb => by
      have := hb _ _ fx fxB
      rw [← overB_iff] at this
      exact Bool.eq_iff_iff.mpr this
    -- over = [..]
    refine ⟨_, rfl, n, rfl, by omega, by omega, fun O hO => ?_⟩
    refine lc_range (lo := 0) (n := n.toNat) (fun i H' => Ex T no H4 H' ∧ H' O = some (.lst ((((upTo n).take i).filter fun t => overB (lk ls) B u c t).map V.int)))
      ⟨(Ex.refl rb4.e.tb).new hO, upd_same⟩ ?_ ?_
    · rintro i H5 hi ⟨e5, hO5⟩
      have hei := upTo_at hi
      refine ⟨rfl, _, rfl, _, rfl, _, rfl, _, rfl, rfl, rfl, h, 0 + i, u, v, c, sn, pr, ts, rfl, (hsn.ex (rb4.e.tr e5) (fun z => z) noD2).at_, by omega, hG, h0, h8, e5.at_ hp4 trivial, huv, e5.tb, fun b H6 e56 hb => ?_⟩
      have hb' := ob b _ hb
      rw [Int.zero_add] at hb'
      have e6 := e5.tr e56
      have hO6 := e56.at_ hO5 trivial
      refine ⟨_, rfl, ?_⟩
      cases b with
      | false =>
        refine iteF ?_
        refine ⟨e6, ?_⟩
        rw [hO6, List.take_add_one, hei, List.filter_append]
        simp [← hb']
      | true =>
        refine iteT ?_
        refine ⟨_, rfl, _, hO6, lt_small ?_, e6.wr (.inr (.of hO)) (fun u e => by rw [hO6] at e; cases e; trivial), ?_⟩
        · rw [List.length_map]
          have h1 := List.length_filter_le (fun t => overB (lk ls) B u c t) ((upTo n).take i)
          rw [List.length_take, upTo_len] at h1
          omega
        · rw [upd_same, List.take_add_one, hei, List.filter_append]
          simp [← hb']
    rintro H5 ⟨e5, hO5⟩
    rw [← upTo_len, List.take_length] at hO5
    have rb5 := rb4.ex e5
    have nDO : ∀ {b : Addr} {o : HO}, H4 b = some o → b ≠ O := fun e => ne_of_none e hO
    have nSO := nDO rb4.wo.sm
    have npO : p ≠ O := by
      obtain ⟨d, e⟩ := rb4.wo.ins
      exact nDO e
    have nqO : q0 ≠ O := by
      obtain ⟨il, e, _⟩ := rb4.wo.ln.inn _ _ hq0
      exact nDO e
    clear e5 rb4 hO hp4 nDO
    generalize hov : ((upTo n).filter fun t => overB (lk ls) B u c t) = ov at hO5
    have hovm : ∀ t, t ∈ ov ↔ Over (lk ls) B u c t := fun t => by
      rw [← hov, List.mem_filter, overB_iff]
      constructor
      · exact fun z => z.2
      · rintro ⟨x, y, z, q1, q2, q3, q4⟩
        exact ⟨upTo_mem.mpr (fx.inR gin h0 hn t z q3), x, y, z, q1, q2, q3, q4⟩
    -- over != [..]
    refine ⟨_, rfl, _, rfl, n, rfl, by omega, by omega, fun O2 hO2 => ?_⟩
    refine lc_range (lo := 0) (n := n.toNat) (fun i H' => Ex T no H5 H' ∧ H' O2 = some (.lst ((((upTo n).take i).filter fun t => overB (lk ls) B u c t).map V.int)))
      ⟨(Ex.refl rb5.e.tb).new hO2, upd_same⟩ ?_ ?_
    · rintro i H6 hi ⟨e6, hO6⟩
      have hei := upTo_at hi
      refine ⟨rfl, _, rfl, _, rfl, _, rfl, _, rfl, D, r, h, 0 + i, u, v, c, n, gOf ts, lt, rfl, tb.ex (rb5.e.tr e6) noD1 noD2, hG, (rb5.e.tr e6).at_ hr0 trivial, huv, h0, hn, v0, vn, fun b hb => ?_⟩
      have hb' := ob b _ hb
      rw [Int.zero_add] at hb'
      refine ⟨_, rfl, ?_⟩
      cases b with
      | false =>
        refine iteF ?_
        refine ⟨e6, ?_⟩
        rw [hO6, List.take_add_one, hei, List.filter_append]
        simp [← hb']
      | true =>
        refine iteT ?_
        refine ⟨_, rfl, _, hO6, lt_small ?_, e6.wr (.inr (.of hO2)) (fun u e => by rw [hO6] at e; cases e; trivial), ?_⟩
        · rw [List.length_map]
          have h1 := List.length_filter_le (fun t => overB (lk ls) B u c t) ((upTo n).take i)
          rw [List.length_take, upTo_len] at h1
          omega
        · rw [upd_same, List.take_add_one, hei, List.filter_append]
          simp [← hb']
    rintro H6 ⟨e6, hO6⟩
    rw [← upTo_len, List.take_length, hov] at hO6
    have rb6 := rb5.ex e6
    have hOv6 := e6.at_ hO5 trivial
    clear e6 rb5 hO5 hO2
    refine ⟨.list (ov.map PyData.int), .list (ov.map PyData.int), .lst (.inl (.inl hOv6)) (dpAll_ints ov), .lst (.inl (.inl hO6)) (dpAll_ints ov), shaped_ints _, shaped_ints _, _, rfl, ?_⟩
    rw [eqv_ints]
    refine iteFe (by simp) ?_
    clear hO6
    -- told = own.set_tie(road[0], road[1])
    obtain ⟨dx6, hi6⟩ := rb6.wo.ins
    have hr6 := rb6.e.at_ hr0 trivial
    refine ⟨_, rfl, p, dx6, _, rfl, hi6, rfl, _, rfl, r, _, _, _, rfl, rfl, SqT.of hr6, atI_nat (j := 0) rfl, _, rfl, r, _, _, _, rfl, rfl, SqT.of hr6, atI_nat (j := 1) rfl, p, L, S, F, q0, ol, ls, lo, h, 0, u, v, gOf ts, Fn, none, rfl, rb6.wo, hol, hG, h0, h8, fx, fi, hq0, u0, u8, v0, v8, une, .inl ⟨rfl, c, huv⟩, rb6.e.tb, fun ls' lo' Fn' F' l H7 e67 wo' fx' fi' hl7 fl => ?_⟩
    have thF : ∀ x, th p S q0 x → no x ∨ Fresh H x := fun x z => by
      rcases z with rfl | rfl | rfl
      · exact .inr fp
      · exact .inr fS'
      · exact .inr fq'
    have thD : ¬ th p S q0 D1 := fun z => by
      rcases z with z | z | z
      · exact nDp z
      · exact nDS z
      · exact nDq z
    have thO : ¬ th p S q0 O := fun z => by
      rcases z with z | z | z
      · exact npO z.symm
      · exact nSO z.symm
      · exact nqO z.symm
    have thT : ∀ {Hc : Hp} {F ls lo k G Fn}, WO C Hc p L S F ol ls lo h k G Fn → ∀ b xs, th p S q0 b → Hc b ≠ some (.tup xs) := fun {Hc F ls lo k G Fn} wo b xs z q => by
      rcases z with rfl | rfl | rfl
      · obtain ⟨d, e⟩ := wo.ins
        rw [e] at q; cases q
      · rw [wo.sm] at q; cases q
      · obtain ⟨il, e, _⟩ := wo.ln.inn _ _ hq0
        rw [e] at q; cases q
    have hG' : GIn 8 (up2 (gOf ts) u v none) := hG.rem
    have st : ∀ t, t ∉ ov → rowEq (lk ls) Fn (lk ls') Fn' t = true := fun t ht => by
      obtain ⟨a, b⟩ := stay hG fx fx' fxB huv fi fi' (t := t) (fun z => ht ((hovm t).mpr z))
      unfold rowEq
      rw [a, b]
      simp
    have rb7 : RB T C H p L S F' ol ls' lo' h (0 + 1) (up2 (gOf ts) u v none) Fn' D1 lt1 (lk ls) Fn H7 := ⟨rb6.e.trans e67 thF, wo', rb6.tr.ex e67 thD (thT rb6.wo)⟩
    have hOv7 := e67.atD hOv6 thO trivial
    have nlO : O ≠ l := fl.ne hOv6 trivial
    have nlD : D1 ≠ l := fl.ne rb6.tr.out trivial
    have thl : ¬ th p S q0 l := fun z => by
      rcases z with z | z | z
      · rw [z] at fl
        exact fl.ne hi6 trivial rfl
      · rw [z] at fl
        exact fl.ne rb6.wo.sm trivial rfl
      · obtain ⟨il, e, _⟩ := rb6.wo.ln.inn _ _ hq0
        rw [z] at fl
        exact fl.ne e trivial rfl
    clear rb6 e67 wo' hOv6 hi6 hr6 fl
    generalize htl : told (lk ls) Fn (lk ls') Fn' = tl at hl7
    -- later = own.table()
    obtain ⟨dx7, hi7⟩ := rb7.wo.ins
    refine ⟨_, rfl, p, dx7, _, rfl, hi7, rfl, p, L, S, F', ol, ls', lo', h, 0 + 1, _, Fn', rfl, rb7.wo, fx'.inR hG' h0 h8, fun b y e => some_of_dom fi'.dom e, rb7.e.tb, fun D2 lt2 H8 e78 tr2 fD2 => ?_⟩
    have rb8 := rb7.ex e78
    have hOv8 := e78.at_ hOv7 trivial
    have hl8 := e78.at_ hl7 trivial
    have nD12 : D1 ≠ D2 := fD2.ne rb7.tr.out trivial
    clear rb7 hOv7 hl7 e78 hi7 fD2
    -- [.. for .. in told if .. not in over] != []
    refine ⟨_, rfl, l, rfl, ⟨_, .inl (.inl hl8)⟩, fun E1 hE => ?_⟩
    have eE := (Ex.refl rb8.e.tb : Ex T no H8 H8).new (o := .lst []) hE
    refine lc_list (K := K) (a := l) (xs := tl.map V.int) (fun i H' => Ex T no H8 H' ∧ H' E1 = some (.lst (([] : List Int).map V.int)))
      ⟨eE, upd_same⟩ (fun i H' _ z => .inl (.inl (z.1.at_ hl8 trivial))) ?_ ?_
    · rintro i y H9 hi ⟨e9, hE9⟩
      obtain ⟨t, ht, rfl⟩ := map_at hi
      have hto : t ∈ ov := Classical.byContradiction fun z => by
        have h1 := st t z
        have h2 := List.mem_of_getElem? ht
        rw [← htl] at h2
        unfold told at h2
        have h3 := (List.mem_filter.mp h2).2
        rw [h1] at h3
        cases h3
      refine ⟨rfl, _, rfl, _, rfl, O, _, rfl, .inl (.inl (.inl (e9.at_ hOv8 trivial))), rfl, flat_ints ov, _, rfl, ?_⟩
      refine iteFe (notin_f hto) ?_
      exact ⟨e9, hE9⟩
    rintro H9 ⟨e9, hE9⟩
    refine ⟨Nat.zero_le _, fun p1 hp1 => ?_⟩
    have hE10 : (upd H9 p1 (.lst [])) E1 = some (.lst (([] : List Int).map V.int)) := by rw [upd_ne (ne_of_none hE9 hp1)]; exact hE9
    refine ⟨.list (([] : List Int).map PyData.int), .list (([] : List Int).map PyData.int), .lst (.inl (.inl hE10)) (dpAll_ints []), .lst (.inl (.inl upd_same)) (dpAll_ints []), shaped_ints _, shaped_ints _, _, rfl, ?_⟩
    rw [eqv_ints]
    refine iteFe (by simp) ?_
    have e10 : Ex T no H8 (upd H9 p1 (.lst [])) := e9.new hp1
    have rb10 := rb8.ex e10
    have hOv10 := e10.at_ hOv8 trivial
    have hl10 := e10.at_ hl8 trivial
    have tr10 := tr2.ex e10 (fun z => z) fun _ _ z => z.elim
    clear e9 hE9 hp1 hE10 e10 rb8 hOv8 hl8 tr2 hE eE
    generalize (upd H9 p1 (.lst [])) = H10 at rb10 hOv10 hl10 tr10
    -- for .. in rows
    have hD10 := rb10.tr.out
    refine ⟨D1, .dK (mkE V.ref lt1), hD10, trivial, fun od => ?_⟩
    have eL : Ex T (fun x => x = D1) H10 (upd H10 D1 (.frz od (.dK (mkE V.ref lt1)))) := ex_lock rb10.e.tb hD10 trivial
    have nT : ∀ b xs, (fun x => x = D1) b → H10 b ≠ some (.tup xs) := fun b xs z q => by
      have z : b = D1 := z
      rw [z, hD10] at q; cases q
    have hOvL := eL.atD hOv10 (fun z => by
      have z : O = D1 := z
      rw [z, hD10] at hOv10; cases hOv10) trivial
    have trL := tr10.ex eL (fun z => nD12 z.symm) nT
    refine ⟨_, rfl, D1, od, rfl, .inl ⟨_, upd_same, ?_⟩⟩
    refine for_keys (kvs := mkE V.ref lt1) (fun i σ' H' => ∃ vt, σ' = [some (.ref D), some (.ref sn), some (.int h), some (.int n), some (.ref r), some (.ref p), some (.ref D1), some (.ref pr), vt, some (.ref O), some (.ref l), some (.ref D2)] ∧ H' = upd H10 D1 (.frz od (.dK (mkE V.ref lt1))))
      ⟨_, rfl, rfl⟩ (fun i σ' H' ⟨_, _, z⟩ => by rw [z]; exact upd_same) ?_ ?_
    · rintro i k' y σ' H11 hi ⟨vt, rfl, rfl⟩
      obtain ⟨⟨t, q⟩, hb, he⟩ : ∃ e, lt1[i]? = some e ∧ (k', y) = ((Sum.inl e.1 : Key), V.ref e.2) := by
        unfold mkE at hi
        rw [List.getElem?_map] at hi
        cases z : lt1[i]? with
        | none => rw [z] at hi; cases hi
        | some e => rw [z] at hi; exact ⟨e, rfl, (Option.some.inj hi).symm⟩
      injection he with he1 he2
      have he1 : k' = Sum.inl t := he1
      subst he1
      have hlt : lk lt1 t = some q := lk_of rb10.tr.nd (List.mem_of_getElem? hb)
      refine ⟨_, rfl, _, rfl, O, _, rfl, .inl (.inl (.inl hOvL)), rfl, flat_ints ov, _, rfl, ?_⟩
      by_cases hto : t ∈ ov
      · refine iteFe (notin_f hto) ?_
        exact ⟨_, rfl, rfl⟩
      · refine iteTe (notin_t hto) ?_
        have g1 := DGet.m (f := V.ref) (k := t) (Or.inr ⟨od, upd_same⟩ : Rd (upd H10 D1 (.frz od (.dK (mkE V.ref lt1)))) D1 (.dK (mkE V.ref lt1)))
        rw [hlt] at g1
        have dr1 : Dp K (upd H10 D1 (.frz od (.dK (mkE V.ref lt1)))) (.ref q) (rowD (lk ls) Fn t) := by
          obtain ⟨y', fs', t', r0, r1, r2, r3⟩ := rb10.tr.inn t q hlt
          rw [rowD_at r0 r1]
          exact .tup (SqT.of (eL.atD r2 (fun z => nT _ _ z r2) trivial)) (.cons (.int y') (.cons (.tup (SqT.of (eL.atD r3 (fun z => nT _ _ z r3) trivial)) (dpAll_ints fs')) .nil))
        refine ⟨_, rfl, D2, rfl, .inl ⟨_, Rd.of trL.out⟩, _, rfl, _, DGet.m (k := t) (Rd.of trL.out), _, rfl, _, rfl, D1, _, rfl, g1, _, _, trL.get t, dr1, shaped_row _ _ _, shaped_row _ _ _, _, rfl, ?_⟩
        rw [eqv_row (fi'.dom t) (fi.dom t), ← rowEq_symm, st t hto]
        refine iteF ?_
        exact ⟨_, rfl, rfl⟩
    rintro σ' H11 ⟨vt, rfl, rfl⟩
    refine ⟨upd_same, ?_⟩
    rw [upd_upd]
    have hback : upd H10 D1 (.dK (mkE V.ref lt1)) = H10 := by
      funext b
      by_cases z : b = D1
      · rw [z, upd_same, hD10]
      · rw [upd_ne z]
    rw [hback]
    clear hback eL nT hOvL trL tr10
    -- own.set_tie(.., price=..) == told and own.table() == rows
    obtain ⟨dxA, hiA⟩ := rb10.wo.ins
    have hrA := rb10.e.at_ hr0 trivial
    have hno : up2 (gOf ts) u v none u v = none := by unfold up2; rw [if_pos ⟨rfl, rfl⟩]
    have hback2 : up2 (up2 (gOf ts) u v none) u v (some c) = gOf ts := by
      funext a b
      unfold up2
      by_cases z : a = u ∧ b = v
      · rw [if_pos z, z.1, z.2, huv]
      · rw [if_neg z, if_neg z]
    refine ⟨_, rfl, p, dxA, _, rfl, hiA, rfl, _, rfl, r, _, _, _, rfl, rfl, SqT.of hrA, atI_nat (j := 0) rfl, _, rfl, r, _, _, _, rfl, rfl, SqT.of hrA, atI_nat (j := 1) rfl, _, rfl, r, _, _, _, rfl, rfl, SqT.of hrA, atI_nat (j := 2) rfl, rfl, rfl, p, L, S, F', q0, ol, ls', lo', h, 0 + 1, u, v, _, Fn', some c, rfl, rb10.wo, hol, hG', h0, h8, fx', fi', hq0, u0, u8, v0, v8, une, .inr ⟨c, rfl, hno, c0, c9⟩, rb10.e.tb, fun ls2 lo2 Fn2 F2 l2 H12 e12 wo2 fx2 fi2 hl2 fl2 => ?_⟩
    rw [hback2] at wo2 fx2 fi2
    have es : lk ls2 = lk ls := Fix.uniq hG fx2 fx
    rw [es] at fx2 fi2 hl2
    have ef : Fn2 = Fn := Firsts.uniq hG fx fi2 fi
    subst ef
    rw [told_symm, htl] at hl2
    have hl12 := e12.atD hl10 thl trivial
    refine ⟨_, rfl, .list (tl.map PyData.int), .list (tl.map PyData.int), .lst (.inl (.inl hl2)) (dpAll_ints tl), .lst (.inl (.inl hl12)) (dpAll_ints tl), shaped_ints _, shaped_ints _, _, rfl, ?_⟩
    rw [eqv_ints]
    refine iteTe (by simp) ?_
    have rb12 : RB T C H p L S F2 ol ls2 lo2 h (0 + 1 + 1) (gOf ts) Fn2 D1 lt1 (lk ls) Fn2 H12 := ⟨rb10.e.trans e12 thF, wo2, rb10.tr.ex e12 thD (thT rb10.wo)⟩
    obtain ⟨dxB, hiB⟩ := wo2.ins
    refine ⟨_, rfl, p, dxB, _, rfl, hiB, rfl, p, L, S, F2, ol, ls2, lo2, h, 0 + 1 + 1, _, Fn2, rfl, wo2, by rw [es]; exact fx.inR hG h0 h8, fun b y e => by rw [es] at e; exact some_of_dom fi.dom e, e12.tb, fun D3 lt3 H13 e13 tr3 fD3 => ?_⟩
    have rb13 := rb12.ex e13
    rw [es] at tr3
    obtain ⟨s1, s2⟩ := TR.same (K := K) tr3 rb13.tr fi.dom
    exact ⟨_, rfl, D3, D1, _, _, rfl, rfl, tr3.out, rb13.tr.out, s1, s2, kk H13 rb13.e⟩
end
end WyP

set_option Elab.async false
set_option linter.all false
set_option maxRecDepth 100000
set_option maxHeartbeats 4000000
/-! law -/
namespace WyP
open PySem PySem.Spec PyProof.Rows L2 LamX Wy WyL WyH
theorem ix_tupK {X : Cx} {K' : PySem.W.Frag} (h : X.K = K') : IxR X (rIxT K') := by
  subst h
  exact ix_tup
theorem merge_new {α : Type} {f : α → V} : ∀ {cb sb : List (Int × α)}, (ks (sb ++ cb)).Nodup → mergeK (mkE f sb) (mkE f cb) = mkE f (sb ++ cb)
  | [], sb, _ => by rw [List.append_nil]; rfl
  | e :: r, sb, nd => by
    have nd1 : (ks sb ++ e.1 :: ks r).Nodup := by simpa [ks] using nd
    have h1 : e.1 ∉ ks sb := fun m => (List.nodup_append.mp nd1).2.2 _ m _ List.mem_cons_self rfl
    have h2 : (ks sb).Nodup := (List.nodup_append.mp nd1).1
    have e0 : sb ++ [(e.1, e.2)] ++ r = sb ++ e :: r := by simp
    show mergeK (putK (mkE f sb) (Sum.inl e.1 : Key) (f e.2)) (mkE f r) = _
    rw [putK_mk h2, pt_no h1, merge_new (by rw [e0]; exact nd), e0]
section
variable {P : Program} {w : World} {K : PySem.W.Frag} {mg : Str → Option Value} {base : Heap} {T : TT0}
def spLaw (K : PySem.W.Frag) (T : TT0) : Sp := fun vs H Q _ => ∃ (a : Addr) (ns : List Int), vs = [.ref a] ∧ SqL K H a (ns.map V.int) ∧ Tabs T H ∧ ∀ H', Q (.bl true) H'
abbrev NLw : List Str := ["_law_script", "_law_k", "_law_pool_here", "_law_many", "_law_seen", "_law_house", "_law_tables", "_law_road", "_law_some"]
theorem scLw : FnScope NLw ["_law_script"] (defScope (top 30)) := ⟨rfl, rfl, rfl, by decide +kernel, rfl, by decide +kernel, by decide +kernel⟩
theorem ok_law {f f1 f2 f3 f4 f5 : Addr} {fd fd1 fd2 fd3 fd4 fd5 : FuncData} (F : FnP K "law" "law" (top 30) f fd)
    (C1 : Cal P w K mg base CX0 "_law_pool" 2 f1 fd1 ["_law_script", "_law_k"] (spPool K T)) (C2 : Cal P w K mg base CX0 "_law_take" 1 f2 fd2 ["_law_pool_here", "_law_many"] (spTake T)) (C3 : Cal P w K mg base CX0 "_law_seen_drawn" 3 f3 fd3 ["_law_pool_here", "_law_many", "_law_most"] (spDrawn T))
    (C4 : Cal P w K mg base CX0 "table_of" 6 f4 fd4 ["house", "seen"] (spTabOf K T)) (C5 : Cal P w K mg base CX0 "_law_right" 7 f5 fd5 ["_law_tables", "_law_seen", "_law_house", "_law_many", "_law_road"] (spRight T))
    (gr : mg "range" = none) (gx : mg "max" = none) (gm : mg "min" = none) (gl : mg "len" = none) (gd : mg "dict" = none) : FnOk P w K mg base CX0 8 f fd ["_law_script"] (spLaw K T) := by
  refine F.ok scLw (fun vs H Q E h => ?_) (fun cdv A outer s H vs Q E hr h => ?_)
  · obtain ⟨a, ns, rfl, _⟩ := h
    rfl
  · obtain ⟨a, ns, rfl, hS, hT, kk⟩ := h
    have hu := hu_of hr
    refine ⟨_, PSs.nox (pss_cons (ps_for PassesOwn.never rfl (pi_range1 rfl gr (pa_cons (pe_callB (call_max2 rfl) (by rfl) gx boot_max (pa_cons pe_int (pa_cons (pe_callB (call_min2 rfl) (by rfl) gm boot_min (pa_cons (pe_callB call_len_seq (by rfl) gl boot_len (pa_cons (pv 0) pa_nil)) (pa_cons pe_int pa_nil))) pa_nil))) pa_nil)) (pg_name (i := 1) scLw.nd rfl (Or.inl rfl))
        (pss_cons (ps_set (i := 2) scLw.nd rfl (Or.inl rfl) (pe_call C1.ok (hr.mono (by decide)) (by rfl) C1.mg C1.kp C1.b .nil pass0 (pa_cons (pv 0) (pa_cons (pv 1) pa_nil))))
        (pss_cons (ps_set (i := 3) scLw.nd rfl (Or.inl rfl) (pe_op op_add pe_int (pe_call C2.ok (hr.mono (by decide)) (by rfl) C2.mg C2.kp C2.b .nil pass0 (pa_cons (pv 2) (pa_cons pe_int pa_nil)))))
        (pss_cons (ps_set (i := 4) scLw.nd rfl (Or.inr rfl) (pe_call C3.ok (hr.mono (by decide)) (by rfl) C3.mg C3.kp C3.b .nil pass0 (pa_cons (pv 2) (pa_cons (pv 3) (pa_cons pe_int pa_nil)))))
        (pss_cons (ps_set (i := 6) scLw.nd rfl (Or.inl rfl) (pe_callTy (call_dictP rfl) (by rfl) gd boot_dict (pa_cons
            (pe_lc (own := [("_law_house", 5)]) (g := gName 5) (tt := tYes) rfl scLw.nd (pi_range1 rfl gr (pa_cons (pv 3) pa_nil)) (blkOk_by (N := NLw) (sc := defScope (top 30)) (by decide +kernel)) (fun _ _ _ _ _ => pg_name (i := 5) scLw.nd rfl (Or.inl rfl))
              (fun _ _ _ _ _ => pts_nil)
              (fun _ _ _ _ _ => pe_tup (pa_cons (pv 5) (pa_cons (pe_call C4.ok (hr.mono (by decide)) (by rfl) C4.mg C4.kp C4.b .nil pass0 (pa_cons (pv 5) (pa_cons (pv 4) pa_nil))) pa_nil)))) pa_nil)))
        (pss_cons (ps_set (i := 5) scLw.nd rfl (Or.inr rfl) (pe_call C2.ok (hr.mono (by decide)) (by rfl) C2.mg C2.kp C2.b .nil pass0 (pa_cons (pv 2) (pa_cons (pv 3) pa_nil))))
        (pss_cons (ps_set (i := 8) scLw.nd rfl (Or.inl rfl) (pe_op op_cat
            (pe_lc (own := [("_law_road", 7)]) (g := gName 7) rfl scLw.nd (pi_list (pv 4)) (blkOk_by (N := NLw) (sc := defScope (top 30)) (by decide +kernel)) (fun _ _ _ _ _ => pg_name (i := 7) scLw.nd rfl (Or.inl rfl))
              (fun _ _ _ _ _ => pts_one (pt_cmpR op_eq (pe_ix (ix_tupK (K' := K) rfl) (pv 7) pe_int (fun _ _ => rfl)) (pv 5) (nomark _)))
              (fun _ _ _ _ _ => pv 7))
            (pe_slice sl_list (pv 4) po_none (po_some pe_int))))
        (pss_one (ps_for PassesOwn.never rfl (pi_list (pv 8)) (pg_name (i := 7) scLw.nd rfl (Or.inl rfl))
          (pss_one (ps_if (pt_not (pt_val (pe_call C5.ok hr (by rfl) C5.mg C5.kp C5.b .nil pass0 (pa_cons (pv 6) (pa_cons (pv 4) (pa_cons (pv 5) (pa_cons (pv 3) (pa_cons (pv 7) pa_nil)))))))) pss_never pss_nil)))))))))))
      (pss_one (ps_ret pe_bl))), ?_⟩
    refine ⟨_, rfl, a, _, rfl, .inl hS, _, _, rfl, _, _, rfl, _, rfl, ?_⟩
    have hm : ∀ x : Int, -(2 ^ 62) ≤ (if (if 4 < x then 4 else x) > 1 then (if 4 < x then 4 else x) else 1) ∧ (if (if 4 < x then 4 else x) > 1 then (if 4 < x then 4 else x) else 1) < 2 ^ 62 ∧ (if (if 4 < x then 4 else x) > 1 then (if 4 < x then 4 else x) else 1) ≤ 63 := fun x => by
      split <;> split <;> omega
    obtain ⟨hm1, hm2, hm3⟩ := hm ((ns.map V.int).length : Int)
    refine ⟨hm1, hm2, ?_⟩
    generalize (if (if 4 < ((ns.map V.int).length : Int) then 4 else ((ns.map V.int).length : Int)) > 1 then (if 4 < ((ns.map V.int).length : Int) then 4 else ((ns.map V.int).length : Int)) else 1) = mx at hm1 hm2 hm3
    refine for_range (lo := 0) (n := mx.toNat) (fun i σ H' => ∃ v1 v2 v3 v4 v5 v6 v7 v8, σ = [some (.ref a), v1, v2, v3, v4, v5, v6, v7, v8] ∧ Ex T no H H')
      ⟨none, none, none, none, none, none, none, none, rfl, Ex.refl hT⟩ ?_ ?_
    · rintro i σ H0 hi ⟨v1, v2, v3, v4, v5, v6, v7, v8, rfl, e0⟩
      have hk63 : i ≤ 63 := by omega
      -- pool
      refine ⟨_, rfl, _, rfl, a, ns, i, (by rw [Int.zero_add]; rfl), SeqL.ex hS e0 (fun z => z), hk63, e0.tb, fun pl H1 e01 p1 fpl => ?_⟩
      have e1 := e0.tr e01
      have fp : Fresh H pl := e0.fresh fpl (fun z => z)
      have onF : ∀ x, on pl x → no x ∨ Fresh H x := fun x z => .inr (z ▸ fp)
      -- many
      refine ⟨_, rfl, pl, 6, rfl, p1, by decide, by decide, e1.tb, fun r H2 e12 p2 r0 r6 => ?_⟩
      have e2 := e1.trans e12 onF
      refine ⟨_, _, rfl, rfl, ?_⟩
      have n3 : 3 ≤ 3 + r := by omega
      have n8 : 3 + r ≤ 8 := by omega
      dsimp only
      generalize (3 + r : Int) = n at n3 n8
      clear r0 r6 e12 e01 p1 fpl e0 e1
      -- seen
      refine ⟨_, rfl, _, rfl, pl, n, rfl, p2, n3, n8, e2.tb, fun sn ps ts H3 e23 p3 hsn hts hlen fsn => ?_⟩
      have e3 := e2.trans e23 onF
      have hG8 : GIn 8 (gOf ts) := hts.gin.mono n8
      have nsp : sn ≠ pl := fun z => by
        obtain ⟨c, s, h, _⟩ := p2
        rw [← z] at h
        obtain ⟨_, h'⟩ := fsn _ h
        cases h'
      clear e23 p2 fsn e2
      -- tables
      refine ⟨_, rfl, n, rfl, by omega, by omega, fun Dl hDl => ?_⟩
      refine lc_range (lo := 0) (n := n.toNat) (fun j H' => Ex T no H3 H' ∧ ∃ (qs : List Addr) (lt : List (Int × Addr)), H' Dl = some (.lst (qs.map V.ref)) ∧ Paired (fun p (e : Int × Addr) => H' p = some (.tup [.int e.1, .ref e.2])) qs lt ∧ ks lt = (upTo n).take j ∧ ∀ e ∈ lt, ∃ lq S Fn, TR H' e.2 lq S Fn ∧ Fix (gOf ts) e.1 S ∧ Firsts (gOf ts) e.1 S Fn)
        ⟨(Ex.refl e3.tb).new hDl, [], [], upd_same, .nil, by simp, fun e m => by cases m⟩ ?_ ?_
      · rintro j H4 hj ⟨e4, qs, lt, hD4, pr4, ks4, in4⟩
        have hej := upTo_at hj
        obtain ⟨j0, j8⟩ : (0 : Int) ≤ j ∧ (j : Int) < n := by omega
        refine ⟨rfl, ?_⟩
        refine ⟨_, rfl, _, rfl, _, rfl, 0 + j, sn, ts, rfl, (hsn.ex e4 (fun z => z) fun _ _ z => z.elim).at_, by omega, hG8, by omega, by omega, e4.tb, fun D lq S Fn H5 e45 tr5 fx fi fD => ?_⟩
        refine ⟨(by show 2 ≤ sizeLine; decide), fun t ht => ?_⟩
        have e5 := e4.tr e45
        have hD5 := e45.at_ hD4 trivial
        have nDt : Dl ≠ t := ne_of_none hD5 ht
        have hql : qs.length = lt.length := Paired.length pr4
        have hll : lt.length ≤ 8 := by
          have := congrArg List.length ks4
          rw [List.length_map, List.length_take, upTo_len] at this
          omega
        refine ⟨qs.map V.ref, by rw [upd_ne nDt]; exact hD5, lt_small (by rw [List.length_map]; omega), ?_⟩
        have et : Ex T no H5 (upd H5 t (.tup [.int (0 + j), .ref D])) := (Ex.refl e5.tb).new ht
        have hDt : (upd H5 t (.tup [.int (0 + j), .ref D])) Dl = some (.lst (qs.map V.ref)) := by rw [upd_ne nDt]; exact hD5
        have wD : Ex T (fun x => x = Dl) (upd H5 t (.tup [.int (0 + j), .ref D])) (upd (upd H5 t (.tup [.int (0 + j), .ref D])) Dl (.lst (qs.map V.ref ++ [V.ref t]))) := (Ex.refl et.tb).wr (.inl rfl) fun u e => by rw [hDt] at e; cases e; trivial
        have nT : ∀ b xs, (fun x => x = Dl) b → (upd H5 t (.tup [.int (0 + j), .ref D])) b ≠ some (.tup xs) := fun b xs z q => by
          have z : b = Dl := z
          rw [z, hDt] at q; cases q
        have keepTR : ∀ {D' lq' S' Fn'}, TR (upd H5 t (.tup [.int (0 + j), .ref D])) D' lq' S' Fn' → TR (upd (upd H5 t (.tup [.int (0 + j), .ref D])) Dl (.lst (qs.map V.ref ++ [V.ref t]))) D' lq' S' Fn' := fun tr => tr.ex wD (fun z => by
          have h := tr.out
          have z : _ = Dl := z
          rw [z, hDt] at h; cases h) nT
        refine ⟨(e5.tr et).wr (.inr (.of hDl)) (fun u e => by rw [hDt] at e; cases e; trivial), qs ++ [t], lt ++ [(0 + (j : Int), D)], ?_, ?_, ?_, fun e m => ?_⟩
        · rw [upd_same, List.map_append]; rfl
        · refine Paired.append (Paired.imp (fun (b : Addr) (e : Int × Addr) (z : H4 b = some (.tup [.int e.1, .ref e.2])) => ?_) pr4) (.cons ?_ .nil)
          · have h5 := et.at_ (e45.at_ z trivial) trivial
            exact wD.atD h5 (fun y => nT _ _ y h5) trivial
          · have h5 : (upd H5 t (.tup [.int (0 + j), .ref D])) t = some (.tup [.int (0 + j), .ref D]) := upd_same
            exact wD.atD h5 (fun y => nT _ _ y h5) trivial
        · rw [List.take_add_one, hej, ← ks4]
          simp [ks]
        · rcases List.mem_append.mp m with m | m
          · obtain ⟨lq', S', Fn', z1, z2⟩ := in4 e m
            exact ⟨lq', S', Fn', keepTR ((z1.ex e45 (fun z => z) fun _ _ z => z.elim).ex et (fun z => z) fun _ _ z => z.elim), z2⟩
          · rw [List.mem_singleton.mp m]
            exact ⟨lq, S, Fn, keepTR (tr5.ex et (fun z => z) fun _ _ z => z.elim), fx, fi⟩
      rintro H4 ⟨e4, qs, lt, hD4, pr4, ks4, in4⟩
      rw [← upTo_len, List.take_length] at ks4
      have ndl : (ks lt).Nodup := by
        rw [ks4]
        unfold upTo
        exact List.Pairwise.map _ (fun a b h z => h (Int.ofNat.inj z)) List.nodup_range
      refine ⟨Dl, qs, mkE V.ref lt, rfl, .inl (.inl hD4), ?_, fun D hD => ?_⟩
      · have : ∀ {qs : List Addr} {lt : List (Int × Addr)}, Paired (fun p (e : Int × Addr) => H4 p = some (.tup [.int e.1, .ref e.2])) qs lt → Paired (fun p kv => SqT K H4 p [kV kv.1, kv.2]) qs (mkE V.ref lt) := by
          intro qs lt h
          induction h with
          | nil => exact .nil
          | cons r _ ih => exact .cons (SqT.of r) ih
        exact this pr4
      have em : mergeK [] (mkE V.ref lt) = mkE V.ref lt := merge_new (f := V.ref) (sb := []) (cb := lt) (by simpa using ndl)
      rw [em]
      have e5 : Ex T no H3 (upd H4 D (.dK (mkE V.ref lt))) := e4.new hD
      have tb5 : TBS (upd H4 D (.dK (mkE V.ref lt))) D n (gOf ts) lt := ⟨upd_same, fun h h0 hn => by
        have m : h ∈ ks lt := by rw [ks4]; exact upTo_mem.mpr ⟨h0, hn⟩
        obtain ⟨⟨h', q⟩, hb, he⟩ := List.mem_map.mp m
        have he : h' = h := he
        subst he
        obtain ⟨lq, S, Fn, z1, z2⟩ := in4 _ hb
        exact ⟨q, lq, S, Fn, lk_of ndl hb, z1.ex ((Ex.refl e4.tb).new hD : Ex T no H4 _) (fun z => z) (fun _ _ z => z.elim), z2⟩⟩
      have e05 := e3.tr e5
      have p5 := p3.ex e5 (fun z => z)
      have hsn5 := hsn.ex e5 (fun z => z) fun _ _ z => z.elim
      clear e3 e4 e5 p3 hsn in4 pr4 hD4 em hD hDl
      generalize (upd H4 D (.dK (mkE V.ref lt))) = H5 at tb5 e05 p5 hsn5
      have noD1 : ∀ {Hx : Hp} b (kvs : List (Key × V)), no b → Hx b ≠ some (.dK kvs) := fun _ _ z => z.elim
      have noD2 : ∀ {Hx : Hp} b xs, no b → Hx b ≠ some (.tup xs) := fun _ _ z => z.elim
      -- house
      refine ⟨_, rfl, _, rfl, pl, n, rfl, p5, by omega, by omega, e05.tb, fun h H6 e56 p6 h0 hn => ?_⟩
      have onK : ∀ b (kvs : List (Key × V)), on pl b → H5 b ≠ some (.dK kvs) := fun b kvs z q => by
        obtain ⟨c, s, h, _⟩ := p5
        have z : b = pl := z
        rw [z, h] at q; cases q
      have onT : ∀ b xs, on pl b → H5 b ≠ some (.tup xs) := fun b xs z q => by
        obtain ⟨c, s, h, _⟩ := p5
        have z : b = pl := z
        rw [z, h] at q; cases q
      have tb6 := tb5.ex e56 onK onT
      have hsn6 := hsn5.ex e56 nsp onT
      have e6 := e05.trans e56 onF
      clear tb5 hsn5 e05 e56 p5 p6
      have hpl : ps.length = ts.length := Paired.length hsn6.inn
      -- some
      refine ⟨_, rfl, sn, rfl, ⟨_, .inl (.inl hsn6.out)⟩, fun R1 hR1 => ?_⟩
      refine lc_list (K := K) (a := sn) (xs := ps.map V.ref) (fun i H' => Ex T no H6 H' ∧ ∃ rs : List Addr, H' R1 = some (.lst (rs.map V.ref)) ∧ rs.length ≤ i ∧ ∀ r ∈ rs, r ∈ ps)
        ⟨(Ex.refl e6.tb).new hR1, [], upd_same, Nat.le_refl _, fun r m => by cases m⟩ (fun i H' _ z => .inl (.inl (z.1.at_ hsn6.out trivial))) ?_ ?_
      · rintro i y H7 hi ⟨e7, rs, hR7, hl7, in7⟩
        obtain ⟨p, hp, rfl⟩ := map_at hi
        obtain ⟨t, ht, htp⟩ := Paired.at_ hsn6.inn hp
        have hi' : i < ps.length := (List.getElem?_eq_some_iff.mp hp).1
        refine ⟨rfl, _, rfl, p, _, _, _, rfl, rfl, SqT.of (e7.at_ htp trivial), atI_nat (j := 0) rfl, _, rfl, rfl, _, rfl, ?_⟩
        by_cases hc : V.int t.1 = V.int h
        · refine iteTe (decide_eq_true hc) ?_
          refine ⟨_, rfl, _, hR7, lt_small (by rw [List.length_map]; omega), e7.wr (.inr (.of hR1)) (fun u e => by rw [hR7] at e; cases e; trivial), rs ++ [p], by rw [upd_same, List.map_append]; rfl, by rw [List.length_append]; show rs.length + 1 ≤ i + 1; omega, fun r m => ?_⟩
          rcases List.mem_append.mp m with m | m
          · exact in7 r m
          · rw [List.mem_singleton.mp m]; exact List.mem_of_getElem? hp
        · refine iteFe (decide_eq_false hc) ?_
          exact ⟨e7, rs, hR7, by omega, in7⟩
      rintro H7 ⟨e7, rs, hR7, hl7, in7⟩
      rw [List.length_map] at hl7
      refine ⟨_, rfl, _, rfl, sn, _, rfl, .inl (.inl (e7.at_ hsn6.out trivial)), fun R2 hR2 => ?_⟩
      obtain ⟨us, hus, husl, husm⟩ : ∃ us : List Addr, cutV (ps.map V.ref) none (some 6) = us.map V.ref ∧ us.length ≤ ps.length ∧ ∀ r ∈ us, r ∈ ps := by
        refine ⟨_, by unfold cutV; rw [← List.map_drop, ← List.map_take], ?_, fun r m => List.mem_of_mem_drop (List.mem_of_mem_take m)⟩
        have h1 := List.length_take_le (HT.sIx (ps.map V.ref).length (ps.map V.ref).length (some 6) - HT.sIx (ps.map V.ref).length 0 none) (ps.drop (HT.sIx (ps.map V.ref).length 0 none))
        rw [List.length_take, List.length_drop]
        omega
      rw [hus]
      have nR : R1 ≠ R2 := ne_of_none hR7 hR2
      refine ⟨R1, R2, _, _, rfl, rfl, by rw [upd_ne nR]; exact hR7, upd_same, le_small (by rw [List.length_map, List.length_map]; omega), fun R3 hR3 => ?_⟩
      have e8 : Ex T no H6 (upd (upd H7 R2 (.lst (us.map V.ref))) R3 (.lst (rs.map V.ref ++ us.map V.ref))) := (e7.new hR2).new hR3
      have hR8 : (upd (upd H7 R2 (.lst (us.map V.ref))) R3 (.lst (rs.map V.ref ++ us.map V.ref))) R3 = some (.lst ((rs ++ us).map V.ref)) := by rw [upd_same, List.map_append]
      have inA : ∀ r ∈ rs ++ us, r ∈ ps := fun r m => (List.mem_append.mp m).elim (in7 r) (husm r)
      clear hR2 hR3 hR7 e7 hR1
      generalize (upd (upd H7 R2 (.lst (us.map V.ref))) R3 (.lst (rs.map V.ref ++ us.map V.ref))) = H8 at e8 hR8
      refine ⟨_, rfl, R3, rfl, ⟨_, .inl (.inl hR8)⟩, for_list (K := K) (a := R3) (xs := (rs ++ us).map V.ref) (fun i' σ H' => ∃ v7, σ = [some (.ref a), some (.int (0 + i)), some (.ref pl), some (.int n), some (.ref sn), some (.int h), some (.ref D), v7, some (.ref R3)] ∧ Ex T no H8 H')
        ⟨_, rfl, Ex.refl e8.tb⟩ (fun i σ H' _ ⟨_, _, z⟩ => .inl (.inl (z.at_ hR8 trivial))) ?_ ?_⟩
      · rintro j y σ H9 hj ⟨w7, rfl, e9⟩
        obtain ⟨r, hr', rfl⟩ := map_at hj
        have hrp := inA r (List.mem_of_getElem? hr')
        obtain ⟨ir, hir⟩ := List.mem_iff_getElem?.mp hrp
        obtain ⟨⟨u, v, c⟩, ht, htp⟩ := Paired.at_ hsn6.inn hir
        have e69 := e8.tr e9
        refine ⟨_, rfl, _, rfl, _, rfl, _, rfl, _, rfl, D, sn, r, h, n, u, v, c, ps, ts, lt, rfl, tb6.ex e69 noD1 noD2, hsn6.ex e69 (fun z => z) noD2, hts, hlen, n3, n8, h0, hn, e69.at_ htp trivial, List.mem_of_getElem? ht, e69.tb, fun H10 e10 => ?_⟩
        refine ⟨_, rfl, ?_⟩
        refine iteF ?_
        exact ⟨_, rfl, e9.tr e10⟩
      · rintro σ H9 ⟨w7, rfl, e9⟩
        exact ⟨_, _, _, _, _, _, _, _, rfl, (e6.tr e8).tr e9⟩
    · rintro σ H0 ⟨v1, v2, v3, v4, v5, v6, v7, v8, rfl, e0⟩
      exact kk H0
end
end WyP

set_option Elab.async false
set_option linter.all false
set_option maxRecDepth 100000
set_option maxHeartbeats 0
/-! the facts, the end -/
namespace WyP
open PySem PySem.Spec PyProof.Rows L2 LamX Wy WyL WyH
def qOf : Str × Option Str → Str
  | (x, none) => x
  | (_, some m) => "Ways." ++ m
abbrev lamQ (q : Str) : Str := q ++ ".<locals>." ++ "<lambda>"
def TT (K : PySem.W.Frag) : TT0 := ts.map fun p => (pAd K p, lamQ (qOf p))
def csOf (K : PySem.W.Frag) : List (Addr × Addr) := ts.map fun p => (cAd K p, pAd K p)
theorem code_of {K : PySem.W.Frag} {x qual : Str} {params : Arguments} {body : List Stmt} {scope : Scope} {dvs : List V} {kws : List (Str × V)} {p : Str × Option Str} {fd : FuncData} (F : FunD K x qual params body scope dvs kws (He.fAd K p) fd) (h : cdB K p = true) : fd.code = .ref (cAd K p) := by
  obtain ⟨oc, od, dV, kV, doc, pm, an, cdv, ct, osl, e, lk, _⟩ := F.ex
  unfold cdB at h
  rw [lk] at h
  cases q : fd.code with
  | ref c =>
    simp only [q] at h
    rw [of_decide_eq_true h]
  | _ => simp only [q] at h; cases h
theorem nd_at {α β : Type} {f : α → β} : ∀ {l : List α}, (l.map f).Nodup → ∀ {a b : α}, a ∈ l → b ∈ l → f a = f b → a = b
  | x :: r, nd, a, b, ha, hb, e => by
    rw [List.map_cons, List.nodup_cons] at nd
    rcases List.mem_cons.mp ha with h1 | h1
    · rcases List.mem_cons.mp hb with h2 | h2
      · rw [h1, h2]
      · exact absurd (List.mem_map.mpr ⟨b, h2, by rw [← e, h1]⟩) nd.1
    · rcases List.mem_cons.mp hb with h2 | h2
      · exact absurd (List.mem_map.mpr ⟨a, h1, by rw [e, h2]⟩) nd.1
      · exact nd_at nd.2 h1 h2 e
theorem tb_of {K : PySem.W.Frag} {base : Heap} {mg : Str → Option Value} (nd : (ts.map fun p => pAd K p).Nodup) (B : ∀ p ∈ csOf K, TabB base mg p.1 p.2) {p : Str × Option Str} (hp : p ∈ ts) : Tb mg base (TT K) (cAd K p) (qOf p) :=
  ⟨pAd K p, B _ (List.mem_map.mpr ⟨p, hp, rfl⟩), List.mem_map.mpr ⟨p, hp, rfl⟩, fun z hz e => by
    obtain ⟨p', hp', rfl⟩ := List.mem_map.mp hz
    rw [nd_at nd hp' hp e]⟩
theorem tabs_of {K : PySem.W.Frag} {H : Hp} (h : ∀ p ∈ csOf K, H p.2 = some (.tbl #[])) : Tabs (TT K) H := fun z hz => by
  obtain ⟨p, hp, rfl⟩ := List.mem_map.mp hz
  exact TabS.nil (h _ (List.mem_map.mpr ⟨p, hp, rfl⟩))
theorem facts {P : Program} {w : World} {K : PySem.W.Frag} {h base : Heap} {mg : Str → Option Value} (S : SaysW fa fn ts K h) (G : h.Ns mainGlobals mg) (B : ∀ p ∈ csOf K, TabB base mg p.1 p.2) :
    ∀ fd, FnP K "law" "law" (top 30) (He.ga K "law") fd → FnOk P w K mg base CX0 8 (He.ga K "law") fd ["_law_script"] (spLaw K (TT K)) := by
  intro fdLaw FLaw
  have c := S.d
  have X := S.kin
  obtain ⟨d_ties, F_ties⟩ : ∃ fd, FnP K "ties_from" "ties_from" (top 2) (He.ga K "ties_from") fd := c.def_ 0 rfl
  obtain ⟨d_sums, F_sums⟩ : ∃ fd, FnP K "sums_from" "sums_from" (top 3) (He.ga K "sums_from") fd := c.def_ 1 rfl
  obtain ⟨d_firs, F_firs⟩ : ∃ fd, FnP K "firsts_by" "firsts_by" (top 4) (He.ga K "firsts_by") fd := c.def_ 2 rfl
  obtain ⟨d_tby, F_tby⟩ : ∃ fd, FnP K "table_by" "table_by" (top 5) (He.ga K "table_by") fd := c.def_ 3 rfl
  obtain ⟨d_tof, F_tof⟩ : ∃ fd, FnP K "table_of" "table_of" (top 6) (He.ga K "table_of") fd := c.def_ 4 rfl
  obtain ⟨d_over, F_over⟩ : ∃ fd, FnP K "goes_over" "goes_over" (top 7) (He.ga K "goes_over") fd := c.def_ 5 rfl
  obtain ⟨d_who, F_who⟩ : ∃ fd, FnP K "is_whole" "is_whole" (top 14) (He.ga K "is_whole") fd := c.def_ 6 rfl
  obtain ⟨d_hou, F_hou⟩ : ∃ fd, FnP K "is_house" "is_house" (top 15) (He.ga K "is_house") fd := c.def_ 7 rfl
  obtain ⟨d_pri, F_pri⟩ : ∃ fd, FnP K "is_price" "is_price" (top 16) (He.ga K "is_price") fd := c.def_ 8 rfl
  obtain ⟨d_roa, F_roa⟩ : ∃ fd, FnP K "is_road" "is_road" (top 18) (He.ga K "is_road") fd := c.def_ 9 rfl
  obtain ⟨d_loo, F_loo⟩ : ∃ fd, FnP K "look_at_seen" "look_at_seen" (top 19) (He.ga K "look_at_seen") fd := c.def_ 10 rfl
  obtain ⟨d_cel, F_cel⟩ : ∃ fd, FnP K "_law_cell_at" "_law_cell_at" (top 22) (He.ga K "_law_cell_at") fd := c.def_ 20 rfl
  obtain ⟨d_poo, F_poo⟩ : ∃ fd, FnP K "_law_pool" "_law_pool" (top 23) (He.ga K "_law_pool") fd := c.def_ 21 rfl
  obtain ⟨d_tak, F_tak⟩ : ∃ fd, FnP K "_law_take" "_law_take" (top 24) (He.ga K "_law_take") fd := c.def_ 22 rfl
  obtain ⟨d_lpr, F_lpr⟩ : ∃ fd, FnP K "_law_price" "_law_price" (top 25) (He.ga K "_law_price") fd := c.def_ 23 rfl
  obtain ⟨d_shu, F_shu⟩ : ∃ fd, FnP K "_law_shuffled" "_law_shuffled" (top 26) (He.ga K "_law_shuffled") fd := c.def_ 24 rfl
  obtain ⟨d_dra, F_dra⟩ : ∃ fd, FnP K "_law_seen_drawn" "_law_seen_drawn" (top 27) (He.ga K "_law_seen_drawn") fd := c.def_ 25 rfl
  obtain ⟨d_due, F_due⟩ : ∃ fd, FnP K "_law_over_due" "_law_over_due" (top 28) (He.ga K "_law_over_due") fd := c.def_ 26 rfl
  obtain ⟨d_rig, F_rig⟩ : ∃ fd, FnP K "_law_right" "_law_right" (top 29) (He.ga K "_law_right") fd := c.def_ 27 rfl
  obtain ⟨d_ini, F_ini⟩ : ∃ fd, FnP K "__init__" "Ways.__init__" (cW 0) (He.ma K (He.ga K "Ways") "__init__") fd := c.def_ 11 rfl
  obtain ⟨d_now, F_now⟩ : ∃ fd, FnP K "price_now" "Ways.price_now" (cW 1) (He.ma K (He.ga K "Ways") "price_now") fd := c.def_ 12 rfl
  obtain ⟨d_ste, F_ste⟩ : ∃ fd, FnP K "is_least_step" "Ways.is_least_step" (cW 2) (He.ma K (He.ga K "Ways") "is_least_step") fd := c.def_ 13 rfl
  obtain ⟨d_los, F_los⟩ : ∃ fd, FnP K "lost_behind" "Ways.lost_behind" (cW 3) (He.ma K (He.ga K "Ways") "lost_behind") fd := c.def_ 14 rfl
  obtain ⟨d_nea, F_nea⟩ : ∃ fd, FnP K "nearer" "Ways.nearer" (cW 4) (He.ma K (He.ga K "Ways") "nearer") fd := c.def_ 15 rfl
  obtain ⟨d_put, F_put⟩ : ∃ fd, FnP K "put" "Ways.put" (cW 5) (He.ma K (He.ga K "Ways") "put") fd := c.def_ 16 rfl
  obtain ⟨d_set, F_set⟩ : ∃ fd, FnP K "settle" "Ways.settle" (cW 6) (He.ma K (He.ga K "Ways") "settle") fd := c.def_ 17 rfl
  obtain ⟨d_tab, F_tab⟩ : ∃ fd, FnP K "table" "Ways.table" (cW 8) (He.ma K (He.ga K "Ways") "table") fd := c.def_ 19 rfl
  obtain ⟨d_sti, F_sti⟩ : ∃ fd, FunD K "set_tie" "Ways.set_tie" (defArgs (cW 7)) (defBody (cW 7)) (defScope (cW 7)) [] [("price", .non)] (He.ma K (He.ga K "Ways") "set_tie") fd := c.def_ 18 rfl
  have g_min := He.free_ok X G (c.fact 38 (f := .free "min") rfl)
  have g_max := He.free_ok X G (c.fact 39 (f := .free "max") rfl)
  have g_sorted := He.free_ok X G (c.fact 40 (f := .free "sorted") rfl)
  have g_tuple := He.free_ok X G (c.fact 41 (f := .free "tuple") rfl)
  have g_range := He.free_ok X G (c.fact 42 (f := .free "range") rfl)
  have g_len := He.free_ok X G (c.fact 43 (f := .free "len") rfl)
  have g_dict := He.free_ok X G (c.fact 44 (f := .free "dict") rfl)
  have g_isinstance := He.free_ok X G (c.fact 45 (f := .free "isinstance") rfl)
  have g_int := He.free_ok X G (c.fact 46 (f := .free "int") rfl)
  have g_bool := He.free_ok X G (c.fact 47 (f := .free "bool") rfl)
  have g_list := He.free_ok X G (c.fact 48 (f := .free "list") rfl)
  have wc : WC K (He.ga K "Ways") := ⟨He.cls_ok (c.fact 12 (f := .cls "Ways") rfl), He.noat_ok (c.fact 16 (f := .noat "Ways" "own_house") rfl), He.noat_ok (c.fact 17 (f := .noat "Ways" "own_lines") rfl), He.noat_ok (c.fact 18 (f := .noat "Ways" "own_sums") rfl), He.noat_ok (c.fact 19 (f := .noat "Ways" "own_firsts") rfl), He.noat_ok (c.fact 20 (f := .noat "Ways" "own_settings") rfl)⟩
  have mkW := He.mkr_ok (c.fact 13 (f := .mkr "Ways") rfl)
  have mgW := He.glo_ok X G (c.fact 11 (f := .glo "Ways") rfl)
  obtain ⟨t1, g_MH⟩ := He.int_ok X G (c.fact 14 (f := .int "MOST_HOUSES" 8) rfl)
  obtain ⟨t2, g_MP⟩ := He.int_ok X G (c.fact 15 (f := .int "MOST_PRICE" 99) rfl)
  have m_now := He.meth_ok (c.fact 21 (f := .meth "Ways" "price_now") rfl)
  have m_ste := He.meth_ok (c.fact 22 (f := .meth "Ways" "is_least_step") rfl)
  have m_los := He.meth_ok (c.fact 23 (f := .meth "Ways" "lost_behind") rfl)
  have m_nea := He.meth_ok (c.fact 24 (f := .meth "Ways" "nearer") rfl)
  have m_put := He.meth_ok (c.fact 25 (f := .meth "Ways" "put") rfl)
  have m_set := He.meth_ok (c.fact 26 (f := .meth "Ways" "settle") rfl)
  have m_tab := He.meth_ok (c.fact 28 (f := .meth "Ways" "table") rfl)
  have m_sti := He.meth_ok (c.fact 27 (f := .meth "Ways" "set_tie") rfl)
  have b_ties : L2.Binds K d_ties ["seen"] [] := F_ties.bindsN fun _ _ _ _ _ _ us hl => match us, hl with | [_], _ => rfl
  have b_sums : L2.Binds K d_sums ["house", "lines"] [] := F_sums.bindsN fun _ _ _ _ _ _ us hl => match us, hl with | [_, _], _ => rfl
  have b_firs : L2.Binds K d_firs ["house", "lines", "sums"] [] := F_firs.bindsN fun _ _ _ _ _ _ us hl => match us, hl with | [_, _, _], _ => rfl
  have b_tby : L2.Binds K d_tby ["house", "lines"] [] := F_tby.bindsN fun _ _ _ _ _ _ us hl => match us, hl with | [_, _], _ => rfl
  have b_tof : L2.Binds K d_tof ["house", "seen"] [] := F_tof.bindsN fun _ _ _ _ _ _ us hl => match us, hl with | [_, _], _ => rfl
  have b_who : L2.Binds K d_who ["thing"] [] := F_who.bindsN fun _ _ _ _ _ _ us hl => match us, hl with | [_], _ => rfl
  have b_hou : L2.Binds K d_hou ["many", "thing"] [] := F_hou.bindsN fun _ _ _ _ _ _ us hl => match us, hl with | [_, _], _ => rfl
  have b_pri : L2.Binds K d_pri ["thing"] [] := F_pri.bindsN fun _ _ _ _ _ _ us hl => match us, hl with | [_], _ => rfl
  have b_roa : L2.Binds K d_roa ["one", "other"] [] := F_roa.bindsN fun _ _ _ _ _ _ us hl => match us, hl with | [_, _], _ => rfl
  have b_loo : L2.Binds K d_loo ["thing"] [] := F_loo.bindsN fun _ _ _ _ _ _ us hl => match us, hl with | [_], _ => rfl
  have b_cel : L2.Binds K d_cel ["_law_script", "_law_k"] [] := F_cel.bindsN fun _ _ _ _ _ _ us hl => match us, hl with | [_, _], _ => rfl
  have b_poo : L2.Binds K d_poo ["_law_script", "_law_k"] [] := F_poo.bindsN fun _ _ _ _ _ _ us hl => match us, hl with | [_, _], _ => rfl
  have b_tak : L2.Binds K d_tak ["_law_pool_here", "_law_many"] [] := F_tak.bindsN fun _ _ _ _ _ _ us hl => match us, hl with | [_, _], _ => rfl
  have b_lpr : L2.Binds K d_lpr ["_law_pool_here"] [] := F_lpr.bindsN fun _ _ _ _ _ _ us hl => match us, hl with | [_], _ => rfl
  have b_shu : L2.Binds K d_shu ["_law_pool_here", "_law_rows"] [] := F_shu.bindsN fun _ _ _ _ _ _ us hl => match us, hl with | [_, _], _ => rfl
  have b_dra : L2.Binds K d_dra ["_law_pool_here", "_law_many", "_law_most"] [] := F_dra.bindsN fun _ _ _ _ _ _ us hl => match us, hl with | [_, _, _], _ => rfl
  have b_due : L2.Binds K d_due ["_law_tables", "_law_house", "_law_target", "_law_road"] [] := F_due.bindsN fun _ _ _ _ _ _ us hl => match us, hl with | [_, _, _, _], _ => rfl
  have b_rig : L2.Binds K d_rig ["_law_tables", "_law_seen", "_law_house", "_law_many", "_law_road"] [] := F_rig.bindsN fun _ _ _ _ _ _ us hl => match us, hl with | [_, _, _, _, _], _ => rfl
  have k_over := kbn_goes F_over
  have b_ini : L2.Binds K d_ini ["self", "house", "seen"] [] := F_ini.bindsN fun _ _ _ _ _ _ us hl => match us, hl with | [_, _, _], _ => rfl
  have b_now : L2.Binds K d_now ["self", "one", "other"] [] := F_now.bindsN fun _ _ _ _ _ _ us hl => match us, hl with | [_, _, _], _ => rfl
  have b_ste : L2.Binds K d_ste ["self", "one", "other"] [] := F_ste.bindsN fun _ _ _ _ _ _ us hl => match us, hl with | [_, _, _], _ => rfl
  have b_los : L2.Binds K d_los ["self", "first"] [] := F_los.bindsN fun _ _ _ _ _ _ us hl => match us, hl with | [_, _], _ => rfl
  have b_nea : L2.Binds K d_nea ["self", "waiting"] [] := F_nea.bindsN fun _ _ _ _ _ _ us hl => match us, hl with | [_, _], _ => rfl
  have b_put : L2.Binds K d_put ["self", "one", "other", "price"] [] := F_put.bindsN fun _ _ _ _ _ _ us hl => match us, hl with | [_, _, _, _], _ => rfl
  have b_set : L2.Binds K d_set ["self", "one", "other", "price"] [] := F_set.bindsN fun _ _ _ _ _ _ us hl => match us, hl with | [_, _, _, _], _ => rfl
  have b_tab : L2.Binds K d_tab ["self"] [] := F_tab.bindsN fun _ _ _ _ _ _ us hl => match us, hl with | [_], _ => rfl
  have k_sti := kbn_set F_sti
  obtain ⟨dsS, v_sti, b_sti⟩ := b0_set F_sti
  have ct1 : (("sums_from", none) : Str × Option Str) ∈ ts := by unfold ts; simp
  have ct2 : (("firsts_by", none) : Str × Option Str) ∈ ts := by unfold ts; simp
  have ct3 : (("Ways", some "nearer") : Str × Option Str) ∈ ts := by unfold ts; simp
  have C_ties := Cal.mk (ok_ties (P := P) (w := w) (mg := mg) (base := base) (T := TT K) F_ties) (He.glo_ok X G (c.fact 0 (f := .glo "ties_from") rfl)) F_ties.kp b_ties
  have T1 : Tb mg base (TT K) (cAd K ("sums_from", none)) "sums_from" := tb_of S.nd B ct1
  have T2 : Tb mg base (TT K) (cAd K ("firsts_by", none)) "firsts_by" := tb_of S.nd B ct2
  have T3 : Tb mg base (TT K) (cAd K ("Ways", some "nearer")) "Ways.nearer" := tb_of S.nd B ct3
  have h1 : d_sums.code = .ref (cAd K ("sums_from", none)) := code_of (p := ("sums_from", none)) F_sums (S.tb _ ct1).cd
  have h2 : d_firs.code = .ref (cAd K ("firsts_by", none)) := code_of (p := ("firsts_by", none)) F_firs (S.tb _ ct2).cd
  have h3 : d_nea.code = .ref (cAd K ("Ways", some "nearer")) := code_of (p := ("Ways", some "nearer")) F_nea (S.tb _ ct3).cd
  have C_sums := Cal.mk (ok_sums (P := P) (w := w) F_sums h1 T1 g_min) (He.glo_ok X G (c.fact 1 (f := .glo "sums_from") rfl)) F_sums.kp b_sums
  have C_firs := Cal.mk (ok_firsts (P := P) (w := w) F_firs h2 T2 g_sorted g_tuple) (He.glo_ok X G (c.fact 2 (f := .glo "firsts_by") rfl)) F_firs.kp b_firs
  have C_tby := Cal.mk (ok_tabBy F_tby C_sums C_firs g_sorted) (He.glo_ok X G (c.fact 3 (f := .glo "table_by") rfl)) F_tby.kp b_tby
  have C_tof := Cal.mk (ok_tabOf F_tof C_ties C_tby) (He.glo_ok X G (c.fact 4 (f := .glo "table_of") rfl)) F_tof.kp b_tof
  have C_who := Cal.mk (ok_whole (P := P) (w := w) (mg := mg) (base := base) F_who g_isinstance g_int g_bool) (He.glo_ok X G (c.fact 6 (f := .glo "is_whole") rfl)) F_who.kp b_who
  have C_hou := Cal.mk (ok_house F_hou C_who) (He.glo_ok X G (c.fact 7 (f := .glo "is_house") rfl)) F_hou.kp b_hou
  have C_pri := Cal.mk (ok_price F_pri C_who g_MP) (He.glo_ok X G (c.fact 8 (f := .glo "is_price") rfl)) F_pri.kp b_pri
  have C_roa := Cal.mk (ok_road F_roa C_hou g_MH) (He.glo_ok X G (c.fact 9 (f := .glo "is_road") rfl)) F_roa.kp b_roa
  have C_loo := Cal.mk (ok_look (T := TT K) F_loo C_roa C_pri g_isinstance g_list g_tuple g_len) (He.glo_ok X G (c.fact 10 (f := .glo "look_at_seen") rfl)) F_loo.kp b_loo
  have O_over := ok_over F_over C_ties C_sums
  have O_now := ok_now (P := P) (w := w) (mg := mg) (base := base) (T := TT K) F_now wc
  have O_ste := ok_step F_ste wc m_now O_now b_now
  have O_los := ok_lost F_los wc m_ste O_ste b_ste
  have O_nea := ok_near (P := P) (w := w) F_nea h3 T3 wc g_min
  have O_put := ok_put (P := P) (w := w) (mg := mg) (base := base) (T := TT K) F_put wc
  have O_set := ok_settle F_set wc m_now O_now b_now m_ste O_ste b_ste m_los O_los b_los m_nea O_nea b_nea m_put O_put b_put g_min
  have O_tab := ok_table (P := P) (w := w) (mg := mg) (base := base) (T := TT K) F_tab wc g_sorted
  have O_sti := ok_set F_sti wc C_roa C_pri m_tab O_tab b_tab C_firs m_set O_set b_set g_MH g_range
  have O_ini := ok_init F_ini wc C_hou C_loo C_ties C_sums C_firs g_MH
  have C_cel := Cal.mk (ok_cell (P := P) (w := w) (mg := mg) (base := base) F_cel g_len) (He.glo_ok X G (c.fact 29 (f := .glo "_law_cell_at") rfl)) F_cel.kp b_cel
  have C_poo := Cal.mk (ok_pool (T := TT K) F_poo C_cel) (He.glo_ok X G (c.fact 30 (f := .glo "_law_pool") rfl)) F_poo.kp b_poo
  have C_tak := Cal.mk (ok_take (P := P) (w := w) (mg := mg) (base := base) (T := TT K) F_tak) (He.glo_ok X G (c.fact 31 (f := .glo "_law_take") rfl)) F_tak.kp b_tak
  have C_lpr := Cal.mk (ok_lprice F_lpr C_tak) (He.glo_ok X G (c.fact 32 (f := .glo "_law_price") rfl)) F_lpr.kp b_lpr
  have C_shu := Cal.mk (ok_shuf F_shu C_tak g_len) (He.glo_ok X G (c.fact 33 (f := .glo "_law_shuffled") rfl)) F_shu.kp b_shu
  have C_dra := Cal.mk (ok_drawn F_dra C_tak C_lpr C_shu g_len g_range) (He.glo_ok X G (c.fact 34 (f := .glo "_law_seen_drawn") rfl)) F_dra.kp b_dra
  have C_due := Cal.mk (ok_due (P := P) (w := w) (mg := mg) (base := base) F_due) (He.glo_ok X G (c.fact 35 (f := .glo "_law_over_due") rfl)) F_due.kp b_due
  exact ok_law FLaw C_poo C_tak C_dra C_tof (Cal.mk (ok_right F_rig wc mgW mkW O_ini b_ini m_tab O_tab b_tab m_sti O_sti b_sti v_sti k_sti O_over (He.glo_ok X G (c.fact 5 (f := .glo "goes_over") rfl)) F_over.kp k_over C_due g_range) (He.glo_ok X G (c.fact 36 (f := .glo "_law_right") rfl)) F_rig.kp b_rig) g_range g_max g_min g_len g_dict
end WyP

set_option Elab.async false
set_option linter.all false
set_option maxRecDepth 100000
set_option maxHeartbeats 0
/-! the theorem -/
open PySem PySem.W PySem.Calls PyProof.Rows
theorem PySem.Challenge.cw_linkheralds_k89_whole_ties_that_no_least_holds : PySem.Challenge.rw_linkheralds_k89_whole_ties_that_no_least.Holds := by
  w_on; o_law
  refine HandSHeadRun.head_any (r := OpenLaw.row PySem.Challenge.rw_linkheralds_k89_whole_ties_that_no_least) (q := view (OpenLaw.row PySem.Challenge.rw_linkheralds_k89_whole_ties_that_no_least).prog [30]) (H := WyH.hk) (ob := WyH.ob) (M := 4000) (loose := WyH.names) (d := HandSHeadRun.topDef (OpenLaw.row PySem.Challenge.rw_linkheralds_k89_whole_ties_that_no_least).prog 30) (kwd := []) WyH.ob_eq
    (by kernel_rfl) (fun s => by kernel_rfl) WyH.run (by kernel_rfl) (by kernel_rfl) (by kernel_rfl) (by rfl) (by first | assumption | decide +kernel) (by decide +kernel) ⟨rfl, rfl, rfl, rfl, rfl, by decide +kernel⟩ ?hw ?hc
  case hw => w_witness2
  case hc =>
    refine LamX.walk_ofTsE (l := PySem.Challenge.rw_linkheralds_k89_whole_ties_that_no_least) (n := 63) (k := 8) (x := "_law_script") (CX := fun _ => L2.CX0) rfl (by decide) (by kernel_rfl) ⟨rfl, by decide, by decide⟩ ?F (fun _ _ _ _ _ z => z)
    intro w mg fa h Y G hmg0
    obtain ⟨K, S⟩ := Y
    have hmg : mg ("law" : PySem.Str) = some (.ref fa) := by
      have e : (HandSHeadRun.topDef (OpenLaw.row PySem.Challenge.rw_linkheralds_k89_whole_ties_that_no_least).prog 30).name = ("law" : PySem.Str) := by kernel_rfl
      rw [← e]
      exact hmg0
    have e := hmg.symm.trans (He.glo_ok S.kin G (S.d.fact 37 (f := .glo "law") rfl))
    cases e
    obtain ⟨fdLaw, FLaw⟩ : ∃ fd, WyP.FnP K "law" "law" (WyH.top 30) (He.ga K "law") fd := S.d.def_ 28 rfl
    have b := L2.FunD.bindsA (ps := ["_law_script"]) FLaw fun _ _ _ _ _ _ us hl => match us, hl with | [_], _ => rfl
    refine ⟨K, S.kin, fdLaw, WyP.csOf K, WyP.spLaw K (WyP.TT K), fun z hz => ?_, fun z hz => ?_, fun z hz => ?_, fun s v => b s [v] rfl, fun H a ns _ _ ht hS => ⟨a, ns, rfl, hS, WyP.tabs_of ht, fun _ => rfl⟩, fun base _ _ B => WyP.facts S G B fdLaw FLaw⟩
    · obtain ⟨p, hp, rfl⟩ := List.mem_map.mp hz
      exact (S.tb p hp).emp
    · obtain ⟨p, hp, rfl⟩ := List.mem_map.mp hz
      exact (S.tb p hp).out
    · obtain ⟨p, hp, rfl⟩ := List.mem_map.mp hz
      exact codeHd_of_K S.kin (S.tb p hp).hd

