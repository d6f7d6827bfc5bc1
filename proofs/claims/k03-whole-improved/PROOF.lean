import PyProof.Rows.All
import Wide.All
import OpenK.AllK
import Wide.FinOn
import HandS.ForMost
import HandS.IsInst
import HandS.TupLe
import HandS.TupAny
import HandS.Style
import HandS.Zip
import HandS.Walk
import KE.GoesEnum
import KE.DataMinMax
import KE.SortData
import HandS.Codes
import PySem.Challenge.RW_lotplans_k03_whole_improved
set_option Elab.async false
set_option linter.all false
set_option maxRecDepth 100000
set_option maxHeartbeats 4000000
/-! Lot sizes: the plain mathematics (no program in sight). Rows of numbers are functions Nat → Int, read below n. -/
namespace Lp

/-- the sum of the first k -/
def ps (f : Nat → Int) : Nat → Int
  | 0 => 0
  | k + 1 => ps f k + f k

/-- what it costs to make a unit at s and to keep it until t (s ≤ t) -/
def kp (U W : Nat → Int) (s t : Nat) : Int := U s + (ps W t - ps W s)

/-- the running best start behind k periods -/
def bst (U W X : Nat → Int) : Nat → Option Nat
  | 0 => none
  | k + 1 =>
    match bst U W X k with
    | none => if 0 < X k then some k else none
    | some b => if 0 < X k ∧ kp U W k k ≤ kp U W b k then some k else some b

/-- f with d more at b -/
def bump (f : Nat → Int) (b : Nat) (d : Int) : Nat → Int := fun i => if i = b then f b + d else f i

/-- the amounts behind k periods -/
def imp (D U W X : Nat → Int) : Nat → Nat → Int
  | 0 => fun _ => 0
  | k + 1 =>
    match bst U W X (k + 1) with
    | none => imp D U W X k
    | some b => bump (imp D U W X k) b (D k)

theorem imp_none {D U W X : Nat → Int} {k : Nat} (h : bst U W X (k + 1) = none) : imp D U W X (k + 1) = imp D U W X k := by
  show (match bst U W X (k + 1) with | none => imp D U W X k | some b => bump (imp D U W X k) b (D k)) = _
  rw [h]
theorem imp_some {D U W X : Nat → Int} {k b : Nat} (h : bst U W X (k + 1) = some b) : imp D U W X (k + 1) = bump (imp D U W X k) b (D k) := by
  show (match bst U W X (k + 1) with | none => imp D U W X k | some b => bump (imp D U W X k) b (D k)) = _
  rw [h]

/-! ### sums -/
theorem ps_nonneg {f : Nat → Int} : ∀ {k : Nat}, (∀ i, i < k → 0 ≤ f i) → 0 ≤ ps f k
  | 0, _ => Int.le_refl 0
  | k + 1, h => by
    have h1 := ps_nonneg (f := f) (k := k) fun i hi => h i (by omega)
    have h2 := h k (by omega)
    show 0 ≤ ps f k + f k
    omega
theorem ps_zero {f : Nat → Int} : ∀ {k : Nat}, (∀ i, i < k → f i = 0) → ps f k = 0
  | 0, _ => rfl
  | k + 1, h => by
    have h1 := ps_zero (f := f) (k := k) fun i hi => h i (by omega)
    have h2 := h k (by omega)
    show ps f k + f k = 0
    omega
theorem ps_congr {f g : Nat → Int} : ∀ {k : Nat}, (∀ i, i < k → f i = g i) → ps f k = ps g k
  | 0, _ => rfl
  | k + 1, h => by
    have h1 := ps_congr (f := f) (g := g) (k := k) fun i hi => h i (by omega)
    have h2 := h k (by omega)
    show ps f k + f k = ps g k + g k
    omega
theorem ps_le {f g : Nat → Int} : ∀ {k : Nat}, (∀ i, i < k → f i ≤ g i) → ps f k ≤ ps g k
  | 0, _ => Int.le_refl 0
  | k + 1, h => by
    have h1 := ps_le (f := f) (g := g) (k := k) fun i hi => h i (by omega)
    have h2 := h k (by omega)
    show ps f k + f k ≤ ps g k + g k
    omega
theorem ps_mono {f : Nat → Int} (h : ∀ i, 0 ≤ f i) : ∀ {j k : Nat}, j ≤ k → ps f j ≤ ps f k
  | j, 0, hj => by
    have e : j = 0 := by omega
    rw [e]; exact Int.le_refl _
  | j, k + 1, hj => by
    by_cases e : j = k + 1
    · rw [e]; exact Int.le_refl _
    · have h1 := ps_mono h (j := j) (k := k) (by omega)
      have h2 := h k
      show ps f j ≤ ps f k + f k
      omega
theorem ps_bump (f : Nat → Int) (b : Nat) (d : Int) : ∀ k : Nat, ps (bump f b d) k = ps f k + (if b < k then d else 0)
  | 0 => by
    show (0 : Int) = 0 + (if b < 0 then d else 0)
    rw [if_neg (Nat.not_lt_zero b)]; rfl
  | k + 1 => by
    have h1 := ps_bump f b d k
    show ps (bump f b d) k + bump f b d k = ps f k + f k + (if b < k + 1 then d else 0)
    rw [h1]
    unfold bump
    by_cases e : k = b
    · subst e
      rw [if_pos rfl, if_neg (Nat.lt_irrefl k), if_pos (Nat.lt_succ_self k)]
      omega
    · rw [if_neg e]
      by_cases hb : b < k
      · rw [if_pos hb, if_pos (show b < k + 1 by omega)]; omega
      · rw [if_neg hb, if_neg (show ¬ b < k + 1 by omega)]; omega

/-! ### the running best -/
theorem kp_self (U W : Nat → Int) (k : Nat) : kp U W k k = U k := by unfold kp; omega
theorem kp_succ (U W : Nat → Int) (s t : Nat) : kp U W s (t + 1) = kp U W s t + W t := by
  unfold kp
  show U s + (ps W t + W t - ps W s) = _
  omega
theorem kp_shift (U W : Nat → Int) (s s' t t' : Nat) : kp U W s t - kp U W s' t = kp U W s t' - kp U W s' t' := by unfold kp; omega

theorem bst_none {U W X : Nat → Int} : ∀ {k : Nat}, bst U W X k = none → ∀ s, s < k → ¬ 0 < X s
  | 0, _, s, hs => absurd hs (Nat.not_lt_zero s)
  | k + 1, h, s, hs => by
    have h' : (match bst U W X k with | none => if 0 < X k then some k else none | some b => if 0 < X k ∧ kp U W k k ≤ kp U W b k then some k else some b) = none := h
    cases e : bst U W X k with
    | none =>
      rw [e] at h'
      by_cases hx : 0 < X k
      · simp [hx] at h'
      · by_cases es : s = k
        · rw [es]; exact hx
        · exact bst_none e s (by omega)
    | some b =>
      rw [e] at h'
      by_cases hx : 0 < X k ∧ kp U W k k ≤ kp U W b k
      · simp [hx] at h'
      · simp [hx] at h'
theorem bst_prev_none {U W X : Nat → Int} {k : Nat} (h : bst U W X (k + 1) = none) : bst U W X k = none := by
  cases e : bst U W X k with
  | none => rfl
  | some b =>
    have h' : (match bst U W X k with | none => if 0 < X k then some k else none | some b => if 0 < X k ∧ kp U W k k ≤ kp U W b k then some k else some b) = none := h
    rw [e] at h'
    by_cases hx : 0 < X k ∧ kp U W k k ≤ kp U W b k
    · simp [hx] at h'
    · simp [hx] at h'
/-- how a step goes: the new start, or the one that was -/
theorem bst_step {U W X : Nat → Int} {k b : Nat} (h : bst U W X (k + 1) = some b) : (b = k ∧ 0 < X k) ∨ bst U W X k = some b := by
  have h' : (match bst U W X k with | none => if 0 < X k then some k else none | some b => if 0 < X k ∧ kp U W k k ≤ kp U W b k then some k else some b) = some b := h
  cases e : bst U W X k with
  | none =>
    rw [e] at h'
    by_cases hx : 0 < X k
    · simp [hx] at h'; exact .inl ⟨h'.symm, hx⟩
    · simp [hx] at h'
  | some c =>
    rw [e] at h'
    by_cases hx : 0 < X k ∧ kp U W k k ≤ kp U W c k
    · simp [hx] at h'; exact .inl ⟨h'.symm, hx.1⟩
    · simp [hx] at h'; exact .inr (by rw [h'])
/-- b is the best of the starts below k, as it costs until t -/
structure Best (U W X : Nat → Int) (k b t : Nat) : Prop where
  lt : b < k
  on : 0 < X b
  le : ∀ s, s < k → 0 < X s → kp U W b t < kp U W s t ∨ (kp U W b t = kp U W s t ∧ s ≤ b)
theorem Best.at {U W X : Nat → Int} {k b t : Nat} (h : Best U W X k b t) (t' : Nat) : Best U W X k b t' := by
  refine ⟨h.lt, h.on, fun s hs hx => ?_⟩
  have e := kp_shift U W b s t t'
  rcases h.le s hs hx with q | ⟨q, r⟩
  · exact .inl (by omega)
  · exact .inr ⟨by omega, r⟩
theorem Best.uniq {U W X : Nat → Int} {k b c t : Nat} (h : Best U W X k b t) (g : Best U W X k c t) : b = c := by
  rcases h.le c g.lt g.on with q | ⟨q, r⟩
  · rcases g.le b h.lt h.on with q' | ⟨q', r'⟩
    · omega
    · omega
  · rcases g.le b h.lt h.on with q' | ⟨q', r'⟩
    · omega
    · omega
theorem bst_best {U W X : Nat → Int} : ∀ {k b : Nat} (t : Nat), bst U W X k = some b → Best U W X k b t
  | 0, b, t, h => nomatch h
  | k + 1, b, t, h => by
    refine Best.at (t := k) ?_ t
    have h' : (match bst U W X k with | none => if 0 < X k then some k else none | some b => if 0 < X k ∧ kp U W k k ≤ kp U W b k then some k else some b) = some b := h
    cases e : bst U W X k with
    | none =>
      rw [e] at h'
      by_cases hx : 0 < X k
      · simp [hx] at h'
        subst h'
        refine ⟨Nat.lt_succ_self _, hx, fun s hs hxs => ?_⟩
        by_cases es : s = k
        · subst es; exact .inr ⟨rfl, Nat.le_refl _⟩
        · exact absurd hxs (bst_none e s (by omega))
      · simp [hx] at h'
    | some c =>
      rw [e] at h'
      have ih := bst_best k e
      by_cases hx : 0 < X k ∧ kp U W k k ≤ kp U W c k
      · simp [hx] at h'
        subst h'
        refine ⟨Nat.lt_succ_self _, hx.1, fun s hs hxs => ?_⟩
        by_cases es : s = k
        · subst es; exact .inr ⟨rfl, Nat.le_refl _⟩
        · rcases ih.le s (by omega) hxs with q | ⟨q, r⟩
          · exact .inl (by have := hx.2; omega)
          · by_cases eq : kp U W k k < kp U W s k
            · exact .inl eq
            · exact .inr ⟨by have := hx.2; omega, by omega⟩
      · simp [hx] at h'
        subst h'
        refine ⟨Nat.lt_succ_of_lt ih.lt, ih.on, fun s hs hxs => ?_⟩
        by_cases es : s = k
        · subst es
          have : ¬ kp U W s s ≤ kp U W c s := fun q => hx ⟨hxs, q⟩
          exact .inl (by omega)
        · exact ih.le s (by omega) hxs
theorem bst_of_best {U W X : Nat → Int} {k b t : Nat} (h : Best U W X k b t) : bst U W X k = some b := by
  cases e : bst U W X k with
  | none => exact absurd h.on (bst_none e b h.lt)
  | some c => rw [(bst_best t e).uniq h]

/-! ### a plan, and what comes of it -/
/-- X is a plan of n periods with the demands D -/
structure Plan (n : Nat) (D X : Nat → Int) : Prop where
  nn : ∀ i, i < n → 0 ≤ X i
  ge : ∀ k, k ≤ n → ps D k ≤ ps X k
  eq : ps X n = ps D n

section
variable {n : Nat} {D S U W X : Nat → Int}

theorem imp_nn (hD : ∀ i, i < n → 0 ≤ D i) : ∀ {k : Nat}, k ≤ n → ∀ i, 0 ≤ imp D U W X k i
  | 0, _, i => Int.le_refl 0
  | k + 1, hk, i => by
    have ih := imp_nn hD (k := k) (by omega)
    cases e : bst U W X (k + 1) with
    | none => rw [imp_none e]; exact ih i
    | some b =>
      rw [imp_some e]
      unfold bump
      have h1 := ih b
      have h2 := ih i
      have h3 := hD k (by omega)
      by_cases ei : i = b
      · rw [if_pos ei]; omega
      · rw [if_neg ei]; exact h2
/-- nothing is made behind -/
theorem imp_late : ∀ {k : Nat} {i : Nat}, k ≤ i → imp D U W X k i = 0
  | 0, i, _ => rfl
  | k + 1, i, hi => by
    have ih := imp_late (k := k) (i := i) (by omega)
    cases e : bst U W X (k + 1) with
    | none => rw [imp_none e]; exact ih
    | some b =>
      rw [imp_some e]
      have hb := (bst_best 0 e).lt
      unfold bump
      rw [if_neg (show ¬ i = b by omega)]
      exact ih
theorem imp_le (hD : ∀ i, i < n → 0 ≤ D i) : ∀ {j k : Nat}, j ≤ k → k ≤ n → ∀ i, imp D U W X j i ≤ imp D U W X k i
  | j, 0, hj, _, i => by
    have e : j = 0 := by omega
    rw [e]; exact Int.le_refl _
  | j, k + 1, hj, hk, i => by
    by_cases ej : j = k + 1
    · rw [ej]; exact Int.le_refl _
    · have ih := imp_le hD (j := j) (k := k) (by omega) (by omega) i
      refine Int.le_trans ih ?_
      cases e : bst U W X (k + 1) with
      | none => rw [imp_none e]; exact Int.le_refl _
      | some b =>
        rw [imp_some e]
        unfold bump
        have h3 := hD k (by omega)
        by_cases ei : i = b
        · rw [if_pos ei, ei]; omega
        · rw [if_neg ei]; exact Int.le_refl _
theorem ps_tail {f : Nat → Int} {k : Nat} (h : ∀ i, k ≤ i → f i = 0) : ∀ {m : Nat}, k ≤ m → ps f m = ps f k
  | 0, hm => by
    have e : k = 0 := by omega
    rw [e]
  | m + 1, hm => by
    by_cases e : k = m + 1
    · rw [e]
    · have ih := ps_tail h (m := m) (by omega)
      have h2 := h m (by omega)
      show ps f m + f m = ps f k
      omega
/-- with no start so far nothing was demanded -/
theorem none_dem (hP : Plan n D X) (hD : ∀ i, i < n → 0 ≤ D i) {k : Nat} (hk : k ≤ n) (h : bst U W X k = none) : ps X k = 0 ∧ ps D k = 0 := by
  have h1 : ps X k = 0 := ps_zero fun i hi => by
    have a := bst_none h i hi
    have b := hP.nn i (by omega)
    omega
  have h2 := hP.ge k hk
  have h3 : 0 ≤ ps D k := ps_nonneg fun i hi => hD i (by omega)
  exact ⟨h1, by omega⟩
/-- what is made behind k periods is what was demanded -/
theorem imp_sum (hP : Plan n D X) (hD : ∀ i, i < n → 0 ≤ D i) : ∀ {k : Nat}, k ≤ n → ps (imp D U W X k) k = ps D k
  | 0, _ => rfl
  | k + 1, hk => by
    have ih := imp_sum hP hD (k := k) (by omega)
    cases e : bst U W X (k + 1) with
    | none =>
      rw [imp_none e]
      have z := imp_late (D := D) (U := U) (W := W) (X := X) (k := k) (i := k) (Nat.le_refl _)
      have d1 := (none_dem hP hD hk e).2
      have d0 := (none_dem hP hD (by omega) (bst_prev_none e)).2
      show ps (imp D U W X k) k + imp D U W X k k = _
      omega
    | some b =>
      rw [imp_some e, ps_bump]
      have hb := (bst_best 0 e).lt
      rw [if_pos hb]
      have z := imp_late (D := D) (U := U) (W := W) (X := X) (k := k) (i := k) (Nat.le_refl _)
      show ps (imp D U W X k) k + imp D U W X k k + D k = ps D k + D k
      omega
theorem imp_plan (hP : Plan n D X) (hD : ∀ i, i < n → 0 ≤ D i) : Plan n D (imp D U W X n) := by
  refine ⟨fun i _ => imp_nn hD (Nat.le_refl n) i, fun k hk => ?_, imp_sum hP hD (Nat.le_refl n)⟩
  rw [← imp_sum (U := U) (W := W) hP hD hk]
  exact ps_le fun i _ => imp_le hD hk (Nat.le_refl n) i
/-- its starts are starts of the plan -/
theorem imp_on : ∀ {k i : Nat}, 0 < imp D U W X k i → 0 < X i
  | 0, i, h => absurd h (Int.lt_irrefl 0)
  | k + 1, i, h => by
    cases e : bst U W X (k + 1) with
    | none => rw [imp_none e] at h; exact imp_on h
    | some b =>
      rw [imp_some e] at h
      by_cases ei : i = b
      · rw [ei]; exact (bst_best 0 e).on
      · unfold bump at h
        rw [if_neg ei] at h
        exact imp_on h
/-- nothing is left ahead of a start -/
theorem imp_int_aux (hP : Plan n D X) (hD : ∀ i, i < n → 0 ≤ D i) : ∀ {k : Nat}, k ≤ n → ∀ s, (0 < imp D U W X k s ∨ bst U W X k = some s) → ps (imp D U W X k) s = ps D s ∧ ∃ b, bst U W X k = some b ∧ s ≤ b
  | 0, _, s, h => by
    rcases h with h | h
    · exact absurd h (Int.lt_irrefl 0)
    · cases h
  | k + 1, hk, s, h => by
    have ih := imp_int_aux hP hD (k := k) (by omega)
    cases e : bst U W X (k + 1) with
    | none =>
      rcases h with h | h
      · rw [imp_none e] at h
        obtain ⟨_, b, hb, _⟩ := ih s (.inl h)
        rw [bst_prev_none e] at hb
        cases hb
      · rw [e] at h; cases h
    | some b =>
      have key : s ≤ b → ps (imp D U W X k) s = ps D s → ps (imp D U W X (k + 1)) s = ps D s := fun hs q => by
        rw [imp_some e, ps_bump, if_neg (show ¬ b < s by omega)]; omega
      have hs : s = b ∨ 0 < imp D U W X k s := by
        rcases h with h | h
        · by_cases ei : s = b
          · exact .inl ei
          · rw [imp_some e] at h
            unfold bump at h
            rw [if_neg ei] at h
            exact .inr h
        · rw [e] at h; exact .inl (Option.some.inj h).symm
      rcases bst_step e with ⟨eb, hx⟩ | eb
      · rcases hs with hs | hs
        · refine ⟨key (by omega) ?_, b, rfl, by omega⟩
          rw [hs, eb]
          exact imp_sum hP hD (by omega)
        · obtain ⟨q, c, hc, hsc⟩ := ih s (.inl hs)
          have hck := (bst_best 0 hc).lt
          exact ⟨key (by omega) q, b, rfl, by omega⟩
      · rcases hs with hs | hs
        · obtain ⟨q, c, hc, hsc⟩ := ih s (.inr (by rw [hs]; exact eb))
          exact ⟨key (by omega) q, b, rfl, by omega⟩
        · obtain ⟨q, c, hc, hsc⟩ := ih s (.inl hs)
          rw [eb] at hc
          have ec := Option.some.inj hc
          exact ⟨key (by omega) q, b, rfl, by omega⟩
theorem imp_interval (hP : Plan n D X) (hD : ∀ i, i < n → 0 ≤ D i) {s : Nat} (h : 0 < imp D U W X n s) : ps (imp D U W X n) s - ps D s = 0 := by
  have := (imp_int_aux (U := U) (W := W) hP hD (Nat.le_refl n) s (.inl h)).1
  omega

/-! ### costs -/
/-- what is made costs, the first k -/
def us (U X : Nat → Int) : Nat → Int
  | 0 => 0
  | k + 1 => us U X k + U k * X k
/-- what is kept costs -/
def hs (W D X : Nat → Int) : Nat → Int
  | 0 => 0
  | k + 1 => hs W D X k + W k * (ps X (k + 1) - ps D (k + 1))
/-- the setups -/
def ss (S X : Nat → Int) : Nat → Int
  | 0 => 0
  | k + 1 => ss S X k + (if 0 < X k then S k else 0)
/-- each demand at its best start -/
def tot (D U W X : Nat → Int) : Nat → Int
  | 0 => 0
  | k + 1 => tot D U W X k + (match bst U W X (k + 1) with | none => 0 | some b => D k * kp U W b k)
/-- the cost of a plan -/
def cst (D S U W X : Nat → Int) (k : Nat) : Int := ss S X k + us U X k + hs W D X k

theorem tot_none {k : Nat} (h : bst U W X (k + 1) = none) : tot D U W X (k + 1) = tot D U W X k := by
  show tot D U W X k + (match bst U W X (k + 1) with | none => 0 | some b => D k * kp U W b k) = _
  rw [h]; exact Int.add_zero _
theorem tot_some {k b : Nat} (h : bst U W X (k + 1) = some b) : tot D U W X (k + 1) = tot D U W X k + D k * kp U W b k := by
  show tot D U W X k + (match bst U W X (k + 1) with | none => 0 | some b => D k * kp U W b k) = _
  rw [h]
theorem us_bump (f : Nat → Int) (b : Nat) (d : Int) : ∀ k : Nat, us U (bump f b d) k = us U f k + (if b < k then d * U b else 0)
  | 0 => by
    show (0 : Int) = 0 + (if b < 0 then d * U b else 0)
    rw [if_neg (Nat.not_lt_zero b)]; rfl
  | k + 1 => by
    have h1 := us_bump f b d k
    show us U (bump f b d) k + U k * bump f b d k = us U f k + U k * f k + (if b < k + 1 then d * U b else 0)
    rw [h1]
    unfold bump
    by_cases e : k = b
    · subst e
      rw [if_pos rfl, if_neg (Nat.lt_irrefl k), if_pos (Nat.lt_succ_self k), Int.mul_add, Int.mul_comm d (U k)]
      omega
    · rw [if_neg e]
      by_cases hb : b < k
      · rw [if_pos hb, if_pos (show b < k + 1 by omega)]; omega
      · rw [if_neg hb, if_neg (show ¬ b < k + 1 by omega)]; omega
theorem hs_bump (f : Nat → Int) (b : Nat) (d : Int) : ∀ k : Nat, hs W D (bump f b d) k = hs W D f k + (if b < k then d * (ps W k - ps W b) else 0)
  | 0 => by
    show (0 : Int) = 0 + (if b < 0 then d * (ps W 0 - ps W b) else 0)
    rw [if_neg (Nat.not_lt_zero b)]; rfl
  | k + 1 => by
    have h1 := hs_bump f b d k
    show hs W D (bump f b d) k + W k * (ps (bump f b d) (k + 1) - ps D (k + 1)) = hs W D f k + W k * (ps f (k + 1) - ps D (k + 1)) + (if b < k + 1 then d * (ps W k + W k - ps W b) else 0)
    rw [h1, ps_bump]
    by_cases hb : b < k + 1
    · rw [if_pos hb, if_pos hb]
      have e1 : W k * (ps f (k + 1) + d - ps D (k + 1)) = W k * (ps f (k + 1) - ps D (k + 1)) + W k * d := by
        rw [← Int.mul_add]; congr 1; omega
      rw [e1]
      by_cases hk : b < k
      · rw [if_pos hk]
        have e2 : d * (ps W k + W k - ps W b) = d * (ps W k - ps W b) + W k * d := by
          rw [Int.mul_comm (W k) d, ← Int.mul_add]; congr 1; omega
        rw [e2]; omega
      · have eb : b = k := by omega
        subst eb
        rw [if_neg hk]
        have e2 : d * (ps W b + W b - ps W b) = W b * d := by
          rw [Int.mul_comm (W b) d]; congr 1; omega
        rw [e2]; omega
    · rw [if_neg hb, if_neg hb, if_neg (show ¬ b < k by omega)]
      have e1 : W k * (ps f (k + 1) + 0 - ps D (k + 1)) = W k * (ps f (k + 1) - ps D (k + 1)) := by
        congr 1; omega
      rw [e1]; omega
theorem us_tail {f : Nat → Int} {k : Nat} (h : f k = 0) : us U f (k + 1) = us U f k := by
  show us U f k + U k * f k = us U f k
  rw [h, Int.mul_zero, Int.add_zero]
/-- what the improved plan costs, the setups apart -/
theorem imp_cost (hP : Plan n D X) (hD : ∀ i, i < n → 0 ≤ D i) : ∀ {k : Nat}, k ≤ n → us U (imp D U W X k) k + hs W D (imp D U W X k) k = tot D U W X k
  | 0, _ => rfl
  | k + 1, hk => by
    have ih := imp_cost hP hD (k := k) (by omega)
    have sm := imp_sum (U := U) (W := W) hP hD hk
    have z := imp_late (D := D) (U := U) (W := W) (X := X) (k := k) (i := k) (Nat.le_refl _)
    have e0 : hs W D (imp D U W X (k + 1)) (k + 1) = hs W D (imp D U W X (k + 1)) k := by
      show hs W D (imp D U W X (k + 1)) k + W k * (ps (imp D U W X (k + 1)) (k + 1) - ps D (k + 1)) = _
      rw [sm, Int.sub_self, Int.mul_zero, Int.add_zero]
    rw [e0]
    cases e : bst U W X (k + 1) with
    | none =>
      rw [imp_none e, tot_none e, us_tail z]
      exact ih
    | some b =>
      have hb := (bst_best 0 e).lt
      rw [imp_some e, tot_some e, us_bump, hs_bump, us_tail z, if_pos hb]
      have ek : D k * kp U W b k = D k * U b + D k * (ps W k - ps W b) := by
        unfold kp; rw [Int.mul_add]
      rw [ek]
      by_cases hbk : b < k
      · rw [if_pos hbk]; omega
      · have eb : b = k := by omega
        subst eb
        rw [if_neg hbk, Int.sub_self, Int.mul_zero]; omega
theorem mul_le {a b c : Int} (h : a ≤ b) (hc : 0 ≤ c) : a * c ≤ b * c := Int.mul_le_mul_of_nonneg_right h hc
/-- no plan with these starts costs less, the setups apart -/
theorem low_cost (hP : Plan n D X) (hD : ∀ i, i < n → 0 ≤ D i) : ∀ {k : Nat}, k ≤ n →
    tot D U W X k + (match bst U W X k with | none => 0 | some b => kp U W b k * (ps X k - ps D k)) ≤ us U X k + hs W D X k
  | 0, _ => Int.le_refl 0
  | k + 1, hk => by
    have ih := low_cost hP hD (k := k) (by omega)
    show _ ≤ us U X k + U k * X k + (hs W D X k + W k * (ps X (k + 1) - ps D (k + 1)))
    have st0 : 0 ≤ ps X k - ps D k := by have := hP.ge k (by omega); omega
    have xk := hP.nn k (by omega)
    cases e : bst U W X (k + 1) with
    | none =>
      rw [bst_prev_none e] at ih
      rw [tot_none e]
      have z : X k = 0 := by
        have := bst_none e k (Nat.lt_succ_self k)
        omega
      obtain ⟨z1, z2⟩ := none_dem hP hD hk e
      rw [z1, z2, z, Int.sub_self, Int.mul_zero, Int.mul_zero]
      simp only at ih ⊢
      omega
    | some b =>
      have B := bst_best k e
      rw [tot_some e]
      simp only
      have e1 : kp U W b (k + 1) * (ps X (k + 1) - ps D (k + 1)) = kp U W b k * (ps X (k + 1) - ps D (k + 1)) + W k * (ps X (k + 1) - ps D (k + 1)) := by
        rw [kp_succ, Int.add_mul]
      have e2 : D k * kp U W b k + kp U W b k * (ps X (k + 1) - ps D (k + 1)) = kp U W b k * (ps X k - ps D k) + kp U W b k * X k := by
        rw [Int.mul_comm (D k), ← Int.mul_add, ← Int.mul_add]
        congr 1
        show D k + (ps X k + X k - (ps D k + D k)) = ps X k - ps D k + X k
        omega
      have h1 : kp U W b k * X k ≤ U k * X k := by
        by_cases hx : 0 < X k
        · refine mul_le ?_ xk
          have q := B.le k (Nat.lt_succ_self k) hx
          rw [kp_self] at q
          rcases q with q | q <;> omega
        · have z : X k = 0 := by omega
          rw [z, Int.mul_zero, Int.mul_zero]; exact Int.le_refl 0
      have h2 : tot D U W X k + kp U W b k * (ps X k - ps D k) ≤ us U X k + hs W D X k := by
        cases e0 : bst U W X k with
        | none =>
          rw [e0] at ih
          simp only at ih
          obtain ⟨z1, z2⟩ := none_dem hP hD (by omega) e0
          rw [z1, z2, Int.sub_self, Int.mul_zero]
          omega
        | some c =>
          rw [e0] at ih
          simp only at ih
          have C := bst_best k e0
          have q := B.le c (Nat.lt_succ_of_lt C.lt) C.on
          have q2 : kp U W b k * (ps X k - ps D k) ≤ kp U W c k * (ps X k - ps D k) := mul_le (by rcases q with q | q <;> omega) st0
          omega
      rw [e1]
      omega
theorem ss_le (hS : ∀ i, i < n → 0 ≤ S i) {F : Nat → Int} (h : ∀ i, 0 < F i → 0 < X i) : ∀ {k : Nat}, k ≤ n → ss S F k ≤ ss S X k
  | 0, _ => Int.le_refl 0
  | k + 1, hk => by
    have ih := ss_le hS h (k := k) (by omega)
    have s0 := hS k (by omega)
    show ss S F k + (if 0 < F k then S k else 0) ≤ ss S X k + (if 0 < X k then S k else 0)
    by_cases hf : 0 < F k
    · rw [if_pos hf, if_pos (h k hf)]; omega
    · rw [if_neg hf]
      by_cases hx : 0 < X k
      · rw [if_pos hx]; omega
      · rw [if_neg hx]; omega
/-- the improved plan costs no more -/
theorem cst_imp (hP : Plan n D X) (hD : ∀ i, i < n → 0 ≤ D i) (hS : ∀ i, i < n → 0 ≤ S i) : cst D S U W (imp D U W X n) n ≤ cst D S U W X n := by
  have h1 := imp_cost (U := U) (W := W) hP hD (Nat.le_refl n)
  have h2 := low_cost (U := U) (W := W) hP hD (Nat.le_refl n)
  have h3 : ss S (imp D U W X n) n ≤ ss S X n := ss_le hS (fun i hi => imp_on hi) (Nat.le_refl n)
  have h4 : (match bst U W X n with | none => 0 | some b => kp U W b n * (ps X n - ps D n)) = 0 := by
    rw [hP.eq, Int.sub_self]
    cases bst U W X n with
    | none => rfl
    | some b => exact Int.mul_zero _
  rw [h4] at h2
  unfold cst
  omega
end
end Lp
/-! Rules that the layer lacked: enumerate of a tuple, sum of a tuple, min of a list of pairs, xs[i] op= e. -/
namespace Lp
open PySem PySem.Spec PyProof.Rows L2 PySem.W

/-! ### enumerate(tuple) -/
/-- the two cells of enumerate over a tuple: the counter, and behind it the tuple's own iterator -/
abbrev tIter (t : Addr) : Obj := { cls := .type "tuple_iterator", data := .fields #[.ref t, .int 0 0] }
abbrev tEnum (it : Addr) : Obj := { cls := .type "enumerate", data := .fields #[.none, .bool false, .ref it, rawInt 0, .none, .none] }
/-- the counter's making, over whatever iter gives -/
theorem meets_enum1 {v : Value} {ob : Obj} {G : Heap → Prop} (B : Begins v ob G) :
    Meets (Builtin.«enumerate.__new__» ⟨[.type "enumerate", v], []⟩)
      (fun _ R s => G s.heap ∧ R (.ok (.ret (.ref (s.heap.push ob).objs.size))) { s with heap := (s.heap.push ob).push (tEnum s.heap.objs.size) }) := by
  refine .of_wp fun pr wo ar res st both => ?_
  obtain ⟨hp, gn, dr, tk, os⟩ := st
  obtain ⟨here, fin⟩ := both
  have sub := sub_enumerate
  have made : ∀ {ar' : Around} {er qu : Value → Shared → Prop}, qu (.ref hp.objs.size) ⟨hp.push ob, gn, dr, tk, os⟩ → wpAny (model pr wo) ar' (pyIter v) qu er ⟨hp, gn, dr, tk, os⟩ :=
    fun q => B.iter pr wo _ _ ⟨hp, gn, dr, tk, os⟩ _ here q
  wp_walk using made
  refine wpAny_stack_any fun _ => wpAny_pure ?_
  split
  · rename_i cl _ _ _ _ _
    cases (cl == Value.type "enumerate") <;> (wp_walk using made; exact ⟨_, rfl, fin⟩)
  · wp_walk using made
    exact ⟨_, rfl, fin⟩
/-- enumerate(t) of a tuple, called -/
theorem call_enum1 {prog : Program} {w : World} {A : Around} {Er Qu : Value → Shared → Prop} {st : Shared} {t : Addr} {items : Array Value} (ht : st.heap.IsTuple t items)
    (fin : ∀ h', IsEnum h' (st.heap.objs.size + 1) st.heap.objs.size 0 .none → h'.IsTupleIter st.heap.objs.size t 0 →
      (∀ c ob, st.heap.get? c = some ob → h'.get? c = some ob) → Qu (.ref (st.heap.objs.size + 1)) { st with heap := h' }) :
    wpAny (model prog w) A (call (.type "enumerate") [.ref t]) Qu Er st := by
  have size1 : (st.heap.push (tIter t)).objs.size = st.heap.objs.size + 1 := Heap.size_push ..
  have stays : ∀ c ob, st.heap.get? c = some ob → ((st.heap.push (tIter t)).push (tEnum st.heap.objs.size)).get? c = some ob := fun c ob hc => Heap.get?_push_of_some _ (Heap.get?_push_of_some _ hc)
  have counter : IsEnum ((st.heap.push (tIter t)).push (tEnum st.heap.objs.size)) (st.heap.objs.size + 1) st.heap.objs.size 0 .none := by
    have q := Heap.get?_push_size (st.heap.push (tIter t)) (o := tEnum st.heap.objs.size) rfl
    rw [size1] at q
    exact q
  have its : ((st.heap.push (tIter t)).push (tEnum st.heap.objs.size)).IsTupleIter st.heap.objs.size t 0 :=
    ⟨_, Heap.get?_push_of_some _ (Heap.get?_push_size st.heap (o := tIter t) rfl), rfl, rfl⟩
  have all := fin _ counter its stays
  rw [← size1] at all
  have cls1 : ((st.heap.push (tIter t)).push (tEnum st.heap.objs.size)).get? (st.heap.push (tIter t)).objs.size = some (tEnum st.heap.objs.size) := by
    rw [size1]
    exact counter
  exact callType_new F.called_enumerate (by decide) (F.typeCall_enumerate_1 _) (F.newCall_enumerate_1 _) (fun ob => F.args_object_init_2 ob _) F.entry_enumerate_new (meets_enum1 (begins_tuple t items)) ⟨ht, ⟨_, cls1, rfl⟩, all⟩
/-- the tuple at a as it stands at each turn, each item in a new pair -/
def IteT (K : PySem.W.Frag) (a : Addr) : It where
  go := fun i H => ∃ (xs : List V) (x : V), SqT K H a xs ∧ xs[i]? = some x
  yld := fun i H v H' => ∃ T x, v = .ref T ∧ H T = none ∧ H' = upd H T (.tup [.int (i : Nat), x]) ∧ ∀ xs, SqT K H a xs → xs[i]? = some x
  stop := fun i H => ∃ xs : List V, SqT K H a xs ∧ xs.length = i
/-- where the counter and the iterator stand ahead of turn i -/
def EnAt (en it a : Addr) (i : Nat) (hp : Heap) : Prop := (∃ was, IsEnum hp en it ((i : Nat) : Int) was) ∧ hp.IsTupleIter it a i ∧ en ≠ it
theorem of_two {c en it : Addr} (hc : c ∈ [en, it]) : c = en ∨ c = it := by simpa using hc
theorem not_two {c en it : Addr} (hc : c ∉ [en, it]) : c ≠ en ∧ c ≠ it := by simpa using hc
/-- both cells lie below the heap's end -/
theorem EnAt.low {en it a : Addr} {i : Nat} {hp : Heap} (at_ : EnAt en it a i hp) {c : Addr} (hc : c ∈ [en, it]) : c < hp.objs.size := by
  obtain ⟨⟨_, he⟩, ⟨_, hi, _⟩, _⟩ := at_
  rcases of_two hc with rfl | rfl
  · exact Heap.lt_size he
  · exact Heap.lt_size hi
theorem turn_enumT {P : Program} {w : World} {K : PySem.W.Frag} {elts : List Expr} {kk : Nat} {tpos : Pos} (a en it : Addr) (apart : a ≠ it) (apart2 : en ≠ a) :
    Turn P w K (.Tuple elts kk tpos) (IteT K a) [en, it] en (EnAt en it a) := by
  constructor
  case mem => simp
  case obj =>
    rintro i hp ⟨⟨was, he⟩, ⟨ob, hi, _, hd⟩, _⟩ c hc
    rcases of_two hc with rfl | rfl
    · exact ⟨_, he, fun _ z => nomatch z⟩
    · refine ⟨ob, hi, fun _ z => ?_⟩
      rw [hd] at z
      cases z
  case keep =>
    rintro i hp hp' ⟨⟨was, he⟩, hi, ne⟩ stays
    exact ⟨⟨was, stays en (by simp) _ he⟩, hi.at fun ob z => stays it (by simp) ob z, ne⟩
  case self =>
    rintro A i st Qu Er ⟨⟨_, he⟩, _⟩ fin
    exact wpAny_pyIter_enum he fin
  case done =>
    rintro X rfl rfl rfl calm i pins st σ H Er I foot at_ ⟨xs, hq, hlen⟩
    obtain ⟨us, rel, tup, _⟩ := I.tuple hq
    obtain ⟨⟨was, he⟩, hi, _⟩ := at_
    have size : us.toArray.size = i := by rw [List.size_toArray, ← rel.length, hlen]
    subst size
    obtain ⟨p0, p1, _, p3, p4, p5⟩ := foot it (by simp)
    exact wpAny_pyNext_enum_endD (Draws.tuple (A := X.A.in1) (I.ok.hd calm) it a apart us.toArray) he ⟨hi, show st.heap.IsTuple a us.toArray from tup⟩
      fun hp' ext => ⟨rfl, I.turned (t' := st.toks) (fun c ob hc z => ext c ob hc z) p0 p1 p3 p4 p5⟩
  case item =>
    rintro X rfl rfl rfl calm i pins st σ H Er I foot at_ ⟨xs, x, hq, hx⟩
    obtain ⟨us, rel, tup, _⟩ := I.tuple hq
    obtain ⟨u, hu, ru⟩ := rel.get hx
    have low : ∀ {c : Addr}, c ∈ [en, it] → c < st.heap.objs.size := fun {c} hc => at_.low hc
    obtain ⟨⟨was, he⟩, hi, ne⟩ := at_
    have inside : i < us.toArray.size := by
      rw [List.size_toArray]
      exact (List.getElem?_eq_some_iff.mp hu).1
    refine wpAny_pyNext_enum_itemD (Draws.tuple (A := X.A.in1) (I.ok.hd calm) it a apart us.toArray) he ⟨hi, show st.heap.IsTuple a us.toArray from tup⟩ inside ne (by simp [ne, apart2]) fun y h1 tk hy out hi1 pair _ stays => ?_
    have same : y = u := by
      rw [List.getElem?_toArray, hu] at hy
      exact (Option.some.inj hy).symm
    subst same
    refine ⟨_, rfl, wpAny_letOwnedTupleGo_enum (s := { st with heap := h1, toks := tk + 1 }) out fun h2 he2 but => ?_⟩
    have pair2 := (but.2 _ (Nat.ne_of_gt (low (c := en) (by simp)))).trans pair
    have I2 : Inv X pins σ (upd H st.heap.objs.size (.tup [.int (i : Nat), x])) { st with heap := h2, toks := tk + 1 } := by
      refine I.turnedNew (ch := [en, it]) (fun c ob hc z => ?_) foot (Nat.le_refl _) ⟨by show 2 ≤ sizeLine; decide, [.int i tk, y], .cons ⟨_, rfl⟩ (.cons ru .nil), ⟨_, pair2, rfl, _, rfl⟩⟩
      obtain ⟨n1, n2⟩ := not_two hc
      exact (but.2 c n1).trans (stays c ob n1 n2 z)
    refine ⟨.ref st.heap.objs.size, _, I2, rfl, ⟨_, x, rfl, I.hok.fresh (Nat.le_refl _), rfl, fun ys hy => ?_⟩, ⟨⟨y, ?_⟩, hi1.1.at fun ob z => (but.2 it (Ne.symm ne)).trans z, ne⟩, fun c hc => ?_⟩
    · rw [I.tuple_inj hy hq]
      exact hx
    · rw [Int.natCast_add]
      exact he2
    · rw [upd_ne (Nat.ne_of_lt (low hc))]
      exact (foot c hc).1
def iEnumT (K : PySem.W.Frag) (ta : TA) : TI := fun σ H R => ta σ H fun vs H1 => ∃ a xs, vs = [.ref a] ∧ SqT K H1 a xs ∧ R (IteT K a) H1
theorem pi_enumT {X : Cx} {e : Expr} {ta : TA} {p pos tpos : Pos} {elts : List Expr} {kk : Nat} (hg : Gl X "enumerate") (hm : X.mg "enumerate" = none) (ha : PA X [e] ta) (hs : starEach [e] X.env = [(false, eval e X.env)] := by rfl) :
    PI X (.Tuple elts kk tpos) (.Call (.Name "enumerate" p) [e] [] pos) (iEnumT X.K ta) := by
  constructor
  intro pins st σ H R I asked
  refine Call_ (ld_blt I hg hm boot_enumerate (PyProof.Rows.callWith_type1 (thn (ha.run pos pins st σ H _ I asked) ?_) hs rfl))
  rintro us s1 ⟨_, H1, I1, rel, a, xs, rfl, hq, go⟩
  rw [Vals.ref1 rel]
  obtain ⟨its, _, tup, _⟩ := I1.tuple hq
  have below : a < s1.heap.objs.size := by
    obtain ⟨_, z, _⟩ := id tup
    exact Heap.lt_size z
  refine call_enum1 (show s1.heap.IsTuple a its.toArray from tup) fun hp' he hi stays => wpAny_pyIter_enum he ?_
  refine ⟨s1.heap.objs.size + 1, [s1.heap.objs.size + 1, s1.heap.objs.size], _, _, H1, rfl, I1.kept (t' := s1.toks) stays,
    turn_enumT a (s1.heap.objs.size + 1) s1.heap.objs.size (Nat.ne_of_lt below) (Nat.ne_of_gt (Nat.lt_succ_of_lt below)), ⟨⟨.none, he⟩, hi, Nat.succ_ne_self _⟩, fun c hc => ?_, go⟩
  have beyond : s1.heap.objs.size ≤ c := by
    rcases of_two hc with rfl | rfl
    · exact Nat.le_succ _
    · exact Nat.le_refl _
  exact I1.fpOk beyond (I1.hok.fresh beyond)
theorem walk_enumT {K : PySem.W.Frag} {a : Addr} {xs : List V} : Walk (IteT K a) xs.length (fun H => SqT K H a xs) (YPair (fun i => some (.int (i : Nat))) (fun i => xs[i]?)) where
  goes := fun i _ hi q => ⟨xs, xs[i], q, List.getElem?_eq_getElem hi⟩
  stops := fun _ q => ⟨xs, q, rfl⟩
  yields := fun i H v H' _ q ⟨t, x, e1, e2, e3, e4⟩ => ⟨t, .int (i : Nat), x, e1, e2, e3, rfl, e4 xs q⟩
theorem walk_zipT {K : PySem.W.Frag} {a b : Addr} {xs ys : List V} (hn : xs.length = ys.length) : Walk (RZ.ItzT K a b) xs.length (fun H => SqT K H a xs ∧ SqT K H b ys) (YPair (fun i => xs[i]?) (fun i => ys[i]?)) where
  goes := fun i _ hi q => ⟨xs, ys, xs[i], ys[i]'(hn ▸ hi), q.1, q.2, List.getElem?_eq_getElem hi, List.getElem?_eq_getElem (hn ▸ hi)⟩
  stops := fun _ q => ⟨xs, ys, q.1, q.2, .inl (Nat.le_refl _)⟩
  yields := fun i H v H' _ q ⟨t, x, y, e1, e2, e3, e4, e5⟩ => ⟨t, x, y, e1, e2, e3, e4 xs q.1, e5 ys q.2⟩

/-! ### sum(tuple of ints) -/
theorem intsAt : ∀ {us : List Value} {ns : List Int} {i : Nat} {v : Value}, IntsAre us ns → us[i]? = some v → ∃ t, v = .int (ns.getD i 0) t
  | _, _, i, v, .nil, h => by simp at h
  | _, _, 0, v, .cons n t r, h => by
    have e := Option.some.inj (show some _ = some v from h)
    subst e
    exact ⟨t, rfl⟩
  | _, _, i + 1, v, .cons n t r, h => by
    obtain ⟨t', e⟩ := intsAt r (show _ = some v from (by simpa using h))
    exact ⟨t', by rw [e]; rfl⟩
theorem preSum_getD : ∀ (ns : List Int), preSum (fun i => ns.getD i 0) ns.length = ns.sum := by
  intro ns
  have h : ∀ k, k ≤ ns.length → preSum (fun i => ns.getD i 0) k = (ns.take k).sum := by
    intro k
    induction k with
    | zero => intro _; rfl
    | succ k ih =>
      intro hk
      show preSum (fun i => ns.getD i 0) k + ns.getD k 0 = _
      rw [ih (by omega), sum_take (z := ns.getD k 0) (by rw [List.getD_eq_getElem?_getD, List.getElem?_eq_getElem (show k < ns.length by omega)]; rfl)]
  rw [h _ (Nat.le_refl _), List.take_length]
def rSumT (K : PySem.W.Frag) : List V → Hp → VK → Prop := fun vs H Q => ∃ (a : Addr) (ns : List Int), vs = [V.ref a] ∧ SqT K H a (ns.map V.int) ∧ Q (.int ns.sum) H
theorem cr_sumT {X : Cx} (hc : X.calm = true) : CallR X (.builtin "sum") (rSumT X.K) := by
  intro pins s σ H vs us Q I r h
  obtain ⟨a, ns, rfl, hs, q⟩ := h
  obtain ⟨its, rv, hl, _⟩ := I.tuple hs
  rw [Vals.ref1 r]
  have hal : a < s.heap.objs.size := by obtain ⟨_, q, _⟩ := id hl; exact Heap.lt_size q
  have hT : s.heap.IsTuple a its.toArray := hl
  have hlen : its.toArray.size = ns.length := by
    rw [List.size_toArray, ← rv.length, List.length_map]
  refine call_sum_walkG (wpAny_pyIter_tuple hT ?_)
  refine ⟨s.heap.objs.size, [s.heap.objs.size, a], [s.heap.objs.size], its.toArray.size, (fun i v => its.toArray[i]? = some v), (fun i h => h.IsTupleIter s.heap.objs.size a i ∧ h.IsTuple a its.toArray), (fun i => ns.getD i 0), rfl,
    Walks.tuple (A := X.A.in1) (I.ok.hd hc) _ a (Nat.ne_of_lt hal) its.toArray, ⟨⟨_, Heap.get?_push_size _ rfl, rfl, rfl⟩, hT.push _⟩, fun b hb => ?_, fun i v hv => ?_, fun h' tk t' hk => ?_⟩
  · show b < (s.heap.push _).objs.size
    rw [Heap.size_push]
    rcases List.mem_cons.mp hb with rfl | hb
    · exact Nat.lt_succ_self _
    · rw [List.mem_singleton.mp hb]; exact Nat.lt_succ_of_lt hal
  · exact intsAt rv.ints (by simpa using hv)
  · rw [hlen, preSum_getD]
    exact ⟨.int ns.sum, H, I.kept (t' := tk) fun b o e => hk b o (fun hb => absurd (Heap.lt_size e) ((List.mem_singleton.mp hb) ▸ Nat.lt_irrefl _)) (Heap.get?_push_of_some _ e), ⟨t', rfl⟩, q⟩

/-! ### xs[i] op= e of a list -/
theorem pget_list {X : Cx} : PGet X (rIxL X.K) := by
  rintro pins st σ H o i ov iv Qv I ro ri ⟨p, xs, k, z, rfl, rfl, hq, found, fin⟩
  rw [show ov = Value.ref p from ro]
  obtain ⟨t, rfl⟩ := ri
  obtain ⟨us, rel, plain, _⟩ := I.list hq
  obtain ⟨j, place, item, _, lo, hi⟩ := atI_get found
  obtain ⟨u, hu, ru⟩ := rel.get item
  have size := rel.length
  have line := line63
  have ends : EP X pins σ Qv u st := ⟨z, H, I, ru, fin⟩
  have back : ∀ {v : Value} {s' : Shared}, v = u ∧ EP X pins σ Qv v s' → EP X pins σ Qv v s' := fun q => q.2
  by_cases pos : 0 ≤ k
  · have ej : k.toNat = j := Option.some.inj ((seqIndex_of pos hi).symm.trans place)
    exact wpAny_mono (wpAny_getItem_list (Q := fun v s' => v = u ∧ EP X pins σ Qv v s') plain.isList pos (by omega) (by rw [ej, List.getElem?_toArray]; exact hu) ⟨rfl, ends⟩) (fun _ _ => back) fun _ _ z => z
  · have ej := Option.some.inj ((seqIndex_neg (Int.not_le.mp pos) lo).symm.trans place)
    have ej2 : (k + (us.toArray.size : Int)).toNat = j := by rw [List.size_toArray, ← size]; exact ej
    exact wpAny_mono (wpAny_getItem_list_neg (Q := fun v s' => v = u ∧ EP X pins σ Qv v s') plain.isList (Int.not_le.mp pos) (by rw [List.size_toArray]; omega) (by omega) (by rw [ej2, List.getElem?_toArray]; exact hu) ⟨rfl, ends⟩) (fun _ _ => back) fun _ _ z => z

/-! ### min(list of pairs of ints) -/
/-- the pair that stands at t -/
def prOf (H : Hp) (t : Addr) : Int × Int :=
  match H t with
  | some (.tup [.int i, .int j]) => (i, j)
  | _ => (0, 0)
theorem prOf_eq {H : Hp} {t : Addr} {i j : Int} (h : H t = some (.tup [.int i, .int j])) : prOf H t = (i, j) := by
  unfold prOf
  rw [h]
def prD (p : Int × Int) : PyData := .tuple [.int p.1, .int p.2]
theorem prD_inj {p q : Int × Int} (h : prD p = prD q) : p = q := by
  unfold prD at h
  injection h with h
  injection h with h1 h2
  injection h2 with h2 _
  injection h1 with h1
  injection h2 with h2
  exact Prod.ext h1 h2
theorem prD_alike : ∀ (ps : List (Int × Int)), AlikeAll (ps.map prD) := fun ps => by
  refine ⟨fun x hx y hy => ?_, fun x hx => ?_⟩
  · obtain ⟨p, _, rfl⟩ := List.mem_map.mp hx
    obtain ⟨q, _, rfl⟩ := List.mem_map.mp hy
    simp [prD, alike, alikeAll]
  · obtain ⟨p, _, rfl⟩ := List.mem_map.mp hx
    exact fun z => nomatch z
theorem prD_depth : ∀ (ps : List (Int × Int)), PyData.depthAll (ps.map prD) ≤ 1
  | [] => Nat.zero_le _
  | p :: r => by
    have h := prD_depth r
    show max (PyData.depth (prD p)) (PyData.depthAll (r.map prD)) ≤ 1
    have h1 : PyData.depth (prD p) = 1 := by simp [prD, PyData.depth, PyData.depthAll]
    rw [h1]
    omega
/-- the first of the least is one of them, and none is less -/
theorem minD_pairs : ∀ (l : List (Int × Int)) (p : Int × Int), ∃ q, q ∈ p :: l ∧ minD (prD p) (l.map prD) = prD q ∧ ∀ r ∈ p :: l, q.1 < r.1 ∨ (q.1 = r.1 ∧ q.2 ≤ r.2)
  | [], p => ⟨p, List.mem_cons_self, rfl, fun r hr => by
      rw [List.mem_singleton.mp hr]
      exact .inr ⟨rfl, Int.le_refl _⟩⟩
  | a :: l, p => by
    have hd : dataLt (prD a) (prD p) = decide (a.1 < p.1 ∨ (a.1 = p.1 ∧ a.2 < p.2)) := dataLt_ii a.1 a.2 p.1 p.2
    have e : minD (prD p) ((a :: l).map prD) = minD (if dataLt (prD a) (prD p) then prD a else prD p) (l.map prD) := rfl
    by_cases h : a.1 < p.1 ∨ (a.1 = p.1 ∧ a.2 < p.2)
    · rw [e, hd, if_pos (decide_eq_true h)]
      obtain ⟨q, hq, e2, hl⟩ := minD_pairs l a
      refine ⟨q, List.mem_cons_of_mem _ hq, e2, fun r hr => ?_⟩
      rcases List.mem_cons.mp hr with er | hr
      · have h2 := hl a List.mem_cons_self
        rw [er]
        rcases h with h | h <;> rcases h2 with h2 | h2 <;> omega
      · exact hl r hr
    · rw [e, hd, if_neg (by simpa using h)]
      obtain ⟨q, hq, e2, hl⟩ := minD_pairs l p
      refine ⟨q, ?_, e2, fun r hr => ?_⟩
      · rcases List.mem_cons.mp hq with eq | hq
        · rw [eq]; exact List.mem_cons_self
        · exact List.mem_cons_of_mem _ (List.mem_cons_of_mem _ hq)
      · have h2 := hl p List.mem_cons_self
        rcases List.mem_cons.mp hr with er | hr
        · rw [er]; exact h2
        · rcases List.mem_cons.mp hr with er | hr
          · rw [er]
            rcases h2 with h2 | h2 <;> omega
          · exact hl r (List.mem_cons_of_mem _ hr)
def rMinP (K : PySem.W.Frag) : List V → Hp → VK → Prop := fun vs H Q => ∃ (a : Addr) (ts : List Addr), vs = [V.ref a] ∧ SqL K H a (ts.map V.ref) ∧ ts ≠ [] ∧ (∀ t ∈ ts, ∃ i j, H t = some (.tup [.int i, .int j])) ∧
  ∀ t ∈ ts, (∀ u ∈ ts, (prOf H t).1 < (prOf H u).1 ∨ ((prOf H t).1 = (prOf H u).1 ∧ (prOf H t).2 ≤ (prOf H u).2)) → Q (.ref t) H
theorem dp_pair {K : PySem.W.Frag} {H : Hp} {t : Addr} (h : ∃ i j, H t = some (.tup [.int i, .int j])) : Dp K H (.ref t) (prD (prOf H t)) := by
  obtain ⟨i, j, e⟩ := h
  rw [prOf_eq e]
  exact .tup (.inl (.inl e)) (.cons (.int i) (.cons (.int j) .nil))
theorem dp_pairs {K : PySem.W.Frag} {H : Hp} : ∀ {ts : List Addr}, (∀ t ∈ ts, ∃ i j, H t = some (.tup [.int i, .int j])) → DpAll K H (ts.map V.ref) ((ts.map (prOf H)).map prD)
  | [], _ => .nil
  | t :: r, h => .cons (dp_pair (h t List.mem_cons_self)) (dp_pairs fun u hu => h u (List.mem_cons_of_mem _ hu))
theorem cr_minP {X : Cx} (hc : X.calm = true) (hu : X.A.units + 64 < cLine) : CallR X (.builtin "min") (rMinP X.K) := by
  intro pins s σ H vs us Q I r h
  obtain ⟨a, ts, rfl, hs, hne, hp, q⟩ := h
  obtain ⟨its, rv, hl, _⟩ := I.list hs
  rw [Vals.ref1 r]
  obtain ⟨as, hr⟩ := Dp.readsAll I _ _ _ (dp_pairs hp) rv
  cases ts with
  | nil => exact absurd rfl hne
  | cons t0 tl =>
    obtain ⟨m, hm, em, hmin⟩ := minD_pairs (tl.map (prOf H)) (prOf H t0)
    refine min_list_data (x := prD (prOf H t0)) (xs := (tl.map (prOf H)).map prD) (as := as) (I.ok.hd hc) hl.isList (by simpa using hr) (prD_alike ((t0 :: tl).map (prOf H))) ?_ fun i v h' tk bs hv hR hk => ?_
    · have hd := prD_depth ((t0 :: tl).map (prOf H))
      have hd2 : PyData.depthAll (prD (prOf H t0) :: (tl.map (prOf H)).map prD) ≤ 1 := hd
      show X.A.units + 1 + _ < _
      omega
    · have hv' : its[i]? = some v := by simpa using hv
      obtain ⟨t, ht, rt⟩ : ∃ t, (t0 :: tl)[i]? = some t ∧ v = .ref t := by
        have hlen := rv.length
        have hi := (List.getElem?_eq_some_iff.mp hv').1
        have hi2 : i < (t0 :: tl).length := by
          rw [List.length_map] at hlen
          omega
        have e1 : ((t0 :: tl).map V.ref)[i]? = some (.ref (t0 :: tl)[i]) := by
          rw [List.getElem?_map, List.getElem?_eq_getElem hi2]; rfl
        obtain ⟨u, hu1, ru⟩ := rv.get e1
        rw [hv'] at hu1
        have eu := Option.some.inj hu1
        subst eu
        exact ⟨_, List.getElem?_eq_getElem hi2, ru⟩
      subst rt
      have htm : t ∈ t0 :: tl := List.mem_of_getElem? ht
      obtain ⟨bs2, hR2⟩ := Dp.reads I _ _ _ (dp_pair (K := X.K) (hp t htm)) (show RelV (.ref t) (.ref t) from rfl)
      have hR3 := Reads.keeps hk hR2
      rw [em] at hR
      have eq1 := (Reads.unique hR3 _ _ hR).1
      have eq2 : prOf H t = m := prD_inj eq1
      refine ⟨.ref t, H, I.kept (t' := tk) hk, rfl, q t htm fun u hu => ?_⟩
      rw [eq2]
      exact hmin (prOf H u) (by
        rcases List.mem_cons.mp hu with e | e
        · rw [e]; exact List.mem_cons_self
        · exact List.mem_cons_of_mem _ (List.mem_map_of_mem e))
end Lp
/-! Rows of numbers as they lie in lists and tuples; heaps that stay but for one cell; the problem and the plan as they lie. -/
namespace Lp
open PySem PySem.Spec PyProof.Rows L2

/-- the row f below n, as values -/
def TI (n : Nat) (f : Nat → Int) : List V := (List.range n).map fun i => V.int (f i)
theorem TI_len (n : Nat) (f : Nat → Int) : (TI n f).length = n := by unfold TI; rw [List.length_map, List.length_range]
theorem TI_get {n : Nat} {f : Nat → Int} {i : Nat} (h : i < n) : (TI n f)[i]? = some (.int (f i)) := by
  unfold TI
  rw [List.getElem?_map, List.getElem?_range h]; rfl
theorem TI_out {n : Nat} {f : Nat → Int} {i : Nat} (h : ¬ i < n) : (TI n f)[i]? = none := by
  rw [List.getElem?_eq_none_iff, TI_len]; omega
theorem TI_some {n : Nat} {f : Nat → Int} {i : Nat} {x : V} (h : (TI n f)[i]? = some x) : i < n ∧ x = .int (f i) := by
  by_cases hi : i < n
  · rw [TI_get hi] at h; exact ⟨hi, (Option.some.inj h).symm⟩
  · rw [TI_out hi] at h; cases h
theorem TI_ints (n : Nat) (f : Nat → Int) : TI n f = ((List.range n).map f).map V.int := by
  unfold TI; rw [List.map_map]; rfl
theorem range_sum (f : Nat → Int) : ∀ n : Nat, ((List.range n).map f).sum = ps f n
  | 0 => rfl
  | n + 1 => by
    rw [List.range_succ, List.map_append, List.sum_append, range_sum f n]
    show ps f n + (f n + 0) = ps f n + f n
    rw [Int.add_zero]
theorem TI_congr {n : Nat} {f g : Nat → Int} (h : ∀ i, i < n → f i = g i) : TI n f = TI n g := by
  unfold TI
  exact List.map_congr_left fun i hi => by rw [h i (List.mem_range.mp hi)]
theorem TI_nil (f : Nat → Int) : TI 0 f = [] := rfl
theorem TI_snoc (k : Nat) (f : Nat → Int) : TI k f ++ [.int (f k)] = TI (k + 1) f := by
  unfold TI
  rw [List.range_succ, List.map_append]; rfl
theorem TI_app (k : Nat) (f : Nat → Int) (v : Int) : TI k f ++ [.int v] = TI (k + 1) (fun i => if i = k then v else f i) := by
  have e : TI k f = TI k (fun i => if i = k then v else f i) := TI_congr fun i hi => by rw [if_neg (show ¬ i = k by omega)]
  have h := TI_snoc k (fun i => if i = k then v else f i)
  rw [← e] at h
  simp only [if_true] at h
  exact h
theorem TI_set (n : Nat) (f : Nat → Int) (b : Nat) (v : Int) : (TI n f).set b (.int v) = TI n (fun i => if i = b then v else f i) := by
  refine List.ext_getElem? fun i => ?_
  by_cases hi : i < n
  · rw [TI_get hi]
    by_cases e : b = i
    · subst e
      rw [List.getElem?_set_self (by rw [TI_len]; exact hi), if_pos rfl]
    · rw [List.getElem?_set_ne e, TI_get hi, if_neg (fun z => e z.symm)]
  · rw [TI_out hi, List.getElem?_eq_none_iff, List.length_set, TI_len]; omega
theorem TI_rep (n : Nat) : (List.replicate n [V.int 0]).flatten = TI n (fun _ => 0) := by
  induction n with
  | zero => rfl
  | succ n ih =>
    rw [List.replicate_succ', List.flatten_append, ih, ← TI_snoc n (fun _ => 0)]
    rfl
theorem TI_cut {n s t : Nat} (f : Nat → Int) (hs : s ≤ t) (ht : t ≤ n) : cutV (TI n f) (some (s : Int)) (some (t : Int)) = TI (t - s) (fun i => f (s + i)) := by
  unfold cutV
  rw [TI_len, HT.sIx_nat, HT.sIx_nat, Nat.min_eq_left (Nat.le_trans hs ht), Nat.min_eq_left ht]
  refine List.ext_getElem? fun i => ?_
  rw [List.getElem?_take]
  by_cases hi : i < t - s
  · rw [if_pos hi, List.getElem?_drop, TI_get (show s + i < n by omega), TI_get hi]
  · rw [if_neg hi, TI_out hi]
theorem ps_shift (f : Nat → Int) (s : Nat) : ∀ m : Nat, ps (fun i => f (s + i)) m = ps f (s + m) - ps f s
  | 0 => by show (0 : Int) = ps f s - ps f s; omega
  | m + 1 => by
    have ih := ps_shift f s m
    show ps (fun i => f (s + i)) m + f (s + m) = ps f (s + m) + f (s + m) - ps f s
    omega
theorem at_TI {n : Nat} {f : Nat → Int} {i : Nat} (h : i < n) : atI (TI n f) (i : Int) = some (.int (f i)) := atI_nat (TI_get h)
theorem ixN_nat {n j : Nat} (h : j < n) : ixN n (j : Int) = some j := by
  unfold ixN
  rw [if_pos (Int.natCast_nonneg j), if_pos (by omega)]; rfl
theorem tuple_sum {K : PySem.W.Frag} {H : Hp} {a : Addr} {n : Nat} {f : Nat → Int} (h : H a = some (.tup (TI n f))) : SqT K H a (((List.range n).map f).map V.int) := by
  rw [← TI_ints]; exact .inl (.inl h)
theorem small_TI {n : Nat} (f : Nat → Int) (h : n ≤ 1000) : (TI n f).length < sizeLine := by rw [TI_len]; exact small1000 h
theorem DpAll_TI {K : PySem.W.Frag} {H : Hp} : ∀ (l : List Nat) (f : Nat → Int), DpAll K H (l.map fun i => V.int (f i)) (l.map fun i => PyData.int (f i))
  | [], _ => .nil
  | a :: l, f => .cons (.int _) (DpAll_TI l f)

/-! ### heaps -/
/-- all that was tracked is as it was, but for r -/
def SameX (r : Addr) (H H' : Hp) : Prop := ∀ b o, b ≠ r → H b = some o → H' b = some o
theorem SameX.refl (r : Addr) (H : Hp) : SameX r H H := fun _ _ _ h => h
theorem SameX.trans {r : Addr} {H H1 H2 : Hp} (a : SameX r H H1) (b : SameX r H1 H2) : SameX r H H2 := fun c o hc h => b c o hc (a c o hc h)
theorem same_upd {H : Hp} {p : Addr} (o : HO) (h : H p = none) : Same H (upd H p o) := fun b x e => by
  rw [upd_ne (ne_of_none e h)]; exact e
theorem _root_.L2.Same.lpNew {H H' : Hp} {p : Addr} (s : Same H H') (o : HO) (h : H' p = none) : Same H (upd H' p o) := fun b x e => by
  rw [upd_ne (ne_of_none (s b x e) h)]; exact s b x e
theorem _root_.L2.Same.lpAt {H H' : Hp} {p : Addr} (s : Same H H') (o : HO) (h : H p = none) : Same H (upd H' p o) := fun b x e => by
  rw [upd_ne (ne_of_none e h)]; exact s b x e
theorem SameX.lpNew {r : Addr} {H H' : Hp} {p : Addr} (s : SameX r H H') (o : HO) (h : H' p = none) : SameX r H (upd H' p o) := fun b x hb e => by
  rw [upd_ne (ne_of_none (s b x hb e) h)]; exact s b x hb e
theorem SameX.lpAt {r : Addr} {H H' : Hp} {p : Addr} (s : SameX r H H') (o : HO) (h : H p = none) : SameX r H (upd H' p o) := fun b x hb e => by
  rw [upd_ne (ne_of_none e h)]; exact s b x hb e
theorem SameX.set {r : Addr} {H H' : Hp} (s : SameX r H H') (o : HO) : SameX r H (upd H' r o) := fun b x hb e => by
  rw [upd_ne hb]; exact s b x hb e
theorem SameX.free {r : Addr} {H H' : Hp} (s : SameX r H H') {p : Addr} (hr : p ≠ r) (h : H' p = none) : H p = none := by
  cases q : H p with
  | none => rfl
  | some o => rw [s p o hr q] at h; cases h

/-- the row of draws lies at r, the script at a -/
structure RowAt (H : Hp) (r a : Addr) : Prop where
  ex : ∃ i s z : Int, 0 ≤ i ∧ H r = some (.lst [.ref a, .int i, .int s, .int z])
/-- the script, a list of ints -/
def Scr (K : PySem.W.Frag) (H : Hp) (a : Addr) (ns : List Int) : Prop := SqL K H a (ns.map V.int)
theorem RowAt.upd {H : Hp} {r a p : Addr} (R : RowAt H r a) (o : HO) (h : H p = none) : RowAt (upd H p o) r a := by
  obtain ⟨i, s, z, hi, e⟩ := R.ex
  exact ⟨i, s, z, hi, by rw [upd_ne (ne_of_none e h)]; exact e⟩
theorem RowAt.ne {H : Hp} {r a p : Addr} (R : RowAt H r a) (h : H p = none) : r ≠ p := by
  obtain ⟨i, s, z, hi, e⟩ := R.ex
  exact ne_of_none e h
theorem RowAt.neT {H : Hp} {r a p : Addr} {xs : List V} (R : RowAt H r a) (h : H p = some (.tup xs)) : p ≠ r := by
  obtain ⟨i, s, z, hi, e⟩ := R.ex
  exact ne_of h e (fun q => nomatch q)
theorem Scr.at {K : PySem.W.Frag} {H H' : Hp} {r a a' : Addr} {ns : List Int} (S : Scr K H a ns) (R : RowAt H r a') (s : SameX r H H') : Scr K H' a ns := by
  obtain ⟨i, sd, z, hi, e⟩ := R.ex
  rcases S with (h | ⟨o, h⟩) | h
  · refine .inl (.inl (s a _ (fun q => ?_) h))
    rw [q, e] at h
    have h2 := Option.some.inj h
    injection h2 with h2
    cases ns with
    | nil => simp at h2
    | cons n r => simp at h2
  · exact .inl (.inr ⟨o, s a _ (ne_of h e (fun q => nomatch q)) h⟩)
  · exact .inr h

/-- a row of numbers as a tuple, a tuple of four of them: a problem of n periods -/
structure Pb (H : Hp) (p : Addr) (n : Nat) (D S U W : Nat → Int) : Prop where
  ex : ∃ d s u w : Addr, H p = some (.tup [.ref d, .ref s, .ref u, .ref w]) ∧ H d = some (.tup (TI n D)) ∧ H s = some (.tup (TI n S)) ∧ H u = some (.tup (TI n U)) ∧ H w = some (.tup (TI n W))
/-- all entries lie in 0 .. 999 -/
structure Ent (n : Nat) (D S U W : Nat → Int) : Prop where
  n1 : 1 ≤ n
  n2 : n ≤ 12
  d : ∀ i, i < n → 0 ≤ D i ∧ D i ≤ 999
  s : ∀ i, i < n → 0 ≤ S i ∧ S i ≤ 999
  u : ∀ i, i < n → 0 ≤ U i ∧ U i ≤ 999
  w : ∀ i, i < n → 0 ≤ W i ∧ W i ≤ 999
theorem Pb.same {H H' : Hp} {p : Addr} {n : Nat} {D S U W : Nat → Int} (b : Pb H p n D S U W) (s : Same H H') : Pb H' p n D S U W := by
  obtain ⟨d, st, u, w, h0, h1, h2, h3, h4⟩ := b.ex
  exact ⟨d, st, u, w, s _ _ h0, s _ _ h1, s _ _ h2, s _ _ h3, s _ _ h4⟩
theorem Pb.samex {H H' : Hp} {r a p : Addr} {n : Nat} {D S U W : Nat → Int} (b : Pb H p n D S U W) (R : RowAt H r a) (s : SameX r H H') : Pb H' p n D S U W := by
  obtain ⟨d, st, u, w, h0, h1, h2, h3, h4⟩ := b.ex
  exact ⟨d, st, u, w, s _ _ (R.neT h0) h0, s _ _ (R.neT h1) h1, s _ _ (R.neT h2) h2, s _ _ (R.neT h3) h3, s _ _ (R.neT h4) h4⟩
end Lp
/-! The text by places, and the layer's rules with the written part K named apart. -/
namespace Lp
open PySem PySem.Spec PyProof.Rows L2
def top (i : Nat) : Stmt := PySem.Challenge.pw_lotplans_k03_whole_improved.main.body.getD i (.Pass ⟨0, 0, 0, 0⟩)
/-- a def of the text as it stands behind the top, by its name -/
structure Df (K : PySem.W.Frag) (mg : Str → Option Value) (x : Str) (st : Stmt) (ps : List Str) (f : Addr) (fd : FuncData) : Prop where
  F : Fun K x x st f fd
  g : mg x = some (.ref f)
  b : Binds K fd ps []
abbrev s_is_int : Stmt := top 5
theorem sc_is_int : FnScope ["value"] ["value"] (defScope s_is_int) := ⟨rfl, rfl, rfl, by decide +kernel, rfl, by decide +kernel, by decide +kernel⟩
abbrev s_is_in : Stmt := top 6
theorem sc_is_in : FnScope ["value", "least", "most"] ["value", "least", "most"] (defScope s_is_in) := ⟨rfl, rfl, rfl, by decide +kernel, rfl, by decide +kernel, by decide +kernel⟩
abbrev s_need_problem : Stmt := top 10
theorem sc_need_problem : FnScope ["value", "part", "number", "index", "entry"] ["value"] (defScope s_need_problem) := ⟨rfl, rfl, rfl, by decide +kernel, rfl, by decide +kernel, by decide +kernel⟩
abbrev s_periods_of : Stmt := top 11
theorem sc_periods_of : FnScope ["problem"] ["problem"] (defScope s_periods_of) := ⟨rfl, rfl, rfl, by decide +kernel, rfl, by decide +kernel, by decide +kernel⟩
abbrev s_kept : Stmt := top 12
theorem sc_kept : FnScope ["problem", "start", "goal"] ["problem", "start", "goal"] (defScope s_kept) := ⟨rfl, rfl, rfl, by decide +kernel, rfl, by decide +kernel, by decide +kernel⟩
abbrev s_stock_row : Stmt := top 13
theorem sc_stock_row : FnScope ["demands", "amounts", "found", "stock", "amount", "demand"] ["demands", "amounts"] (defScope s_stock_row) := ⟨rfl, rfl, rfl, by decide +kernel, rfl, by decide +kernel, by decide +kernel⟩
abbrev s_need_plan : Stmt := top 14
theorem sc_need_plan : FnScope ["problem", "value", "many", "part", "index", "stock"] ["problem", "value"] (defScope s_need_plan) := ⟨rfl, rfl, rfl, by decide +kernel, rfl, by decide +kernel, by decide +kernel⟩
abbrev s_need_both : Stmt := top 15
theorem sc_need_both : FnScope ["problem", "plan"] ["problem", "plan"] (defScope s_need_both) := ⟨rfl, rfl, rfl, by decide +kernel, rfl, by decide +kernel, by decide +kernel⟩
abbrev s_cost_of : Stmt := top 16
theorem sc_cost_of : FnScope ["problem", "plan", "found", "at", "stock"] ["problem", "plan"] (defScope s_cost_of) := ⟨rfl, rfl, rfl, by decide +kernel, rfl, by decide +kernel, by decide +kernel⟩
abbrev s_cost : Stmt := top 17
theorem sc_cost : FnScope ["problem", "plan"] ["problem", "plan"] (defScope s_cost) := ⟨rfl, rfl, rfl, by decide +kernel, rfl, by decide +kernel, by decide +kernel⟩
abbrev s_starts_in : Stmt := top 18
theorem sc_starts_in : FnScope ["plan", "at", "amount"] ["plan"] (defScope s_starts_in) := ⟨rfl, rfl, rfl, by decide +kernel, rfl, by decide +kernel, by decide +kernel⟩
abbrev s_is_interval : Stmt := top 19
theorem sc_is_interval : FnScope ["problem", "plan", "row", "at"] ["problem", "plan"] (defScope s_is_interval) := ⟨rfl, rfl, rfl, by decide +kernel, rfl, by decide +kernel, by decide +kernel⟩
abbrev s_improved : Stmt := top 20
theorem sc_improved : FnScope ["problem", "plan", "told", "found", "best", "at", "demand"] ["problem", "plan"] (defScope s_improved) := ⟨rfl, rfl, rfl, by decide +kernel, rfl, by decide +kernel, by decide +kernel⟩
abbrev s_law_taken : Stmt := top 22
theorem sc_law_taken : FnScope ["_law_row_here", "_law_many", "_law_found", "_law_cell"] ["_law_row_here", "_law_many"] (defScope s_law_taken) := ⟨rfl, rfl, rfl, by decide +kernel, rfl, by decide +kernel, by decide +kernel⟩
abbrev s_law_pick : Stmt := top 23
theorem sc_law_pick : FnScope ["_law_row_here", "_law_things"] ["_law_row_here", "_law_things"] (defScope s_law_pick) := ⟨rfl, rfl, rfl, by decide +kernel, rfl, by decide +kernel, by decide +kernel⟩
abbrev s_law_alike : Stmt := top 24
theorem sc_law_alike : FnScope ["_law_found", "_law_due", "_law_k"] ["_law_found", "_law_due"] (defScope s_law_alike) := ⟨rfl, rfl, rfl, by decide +kernel, rfl, by decide +kernel, by decide +kernel⟩
abbrev s_law_entries : Stmt := top 25
theorem sc_law_entries : FnScope ["_law_row_here", "_law_many", "_law_most", "_law_at"] ["_law_row_here", "_law_many", "_law_most"] (defScope s_law_entries) := ⟨rfl, rfl, rfl, by decide +kernel, rfl, by decide +kernel, by decide +kernel⟩
abbrev s_law_steps : Stmt := top 26
theorem sc_law_steps : FnScope ["_law_row_here", "_law_many", "_law_most", "_law_base", "_law_at"] ["_law_row_here", "_law_many", "_law_most"] (defScope s_law_steps) := ⟨rfl, rfl, rfl, by decide +kernel, rfl, by decide +kernel, by decide +kernel⟩
abbrev s_law_problem : Stmt := top 27
theorem sc_law_problem : FnScope ["_law_row_here", "_law_many", "_law_way", "_law_at", "_law_demands", "_law_setups", "_law_units"] ["_law_row_here", "_law_many"] (defScope s_law_problem) := ⟨rfl, rfl, rfl, by decide +kernel, rfl, by decide +kernel, by decide +kernel⟩
abbrev s_law_row : Stmt := top 28
theorem sc_law_row : FnScope ["_law_demands", "_law_plan", "_law_found", "_law_left", "_law_at"] ["_law_demands", "_law_plan"] (defScope s_law_row) := ⟨rfl, rfl, rfl, by decide +kernel, rfl, by decide +kernel, by decide +kernel⟩
abbrev s_law_cost : Stmt := top 29
theorem sc_law_cost : FnScope ["_law_problem_here", "_law_plan", "_law_left", "_law_found", "_law_at"] ["_law_problem_here", "_law_plan"] (defScope s_law_cost) := ⟨rfl, rfl, rfl, by decide +kernel, rfl, by decide +kernel, by decide +kernel⟩
abbrev s_law_any_plan : Stmt := top 30
theorem sc_law_any_plan : FnScope ["_law_row_here", "_law_demands", "_law_found", "_law_at", "_law_left", "_law_turn", "_law_part", "_law_start"] ["_law_row_here", "_law_demands"] (defScope s_law_any_plan) := ⟨rfl, rfl, rfl, by decide +kernel, rfl, by decide +kernel, by decide +kernel⟩
abbrev s_law_kept : Stmt := top 31
theorem sc_law_kept : FnScope ["_law_problem_here", "_law_start", "_law_goal"] ["_law_problem_here", "_law_start", "_law_goal"] (defScope s_law_kept) := ⟨rfl, rfl, rfl, by decide +kernel, rfl, by decide +kernel, by decide +kernel⟩
abbrev s_law : Stmt := top 32
theorem sc_law : FnScope ["_law_script", "_law_row_here", "_law_many", "_law_problem_here", "_law_plan", "_law_due", "_law_at", "_law_some", "_law_start", "_law_found"] ["_law_script"] (defScope s_law) := ⟨rfl, rfl, rfl, by decide +kernel, rfl, by decide +kernel, by decide +kernel⟩
/-- what the walks ask of the text as the top has left it -/
structure Txt (K : PySem.W.Frag) (mg : Str → Option Value) (f : Nat → Addr) (fd : Nat → FuncData) : Prop where
  d_is_int : Df K mg "is_int" s_is_int ["value"] (f 0) (fd 0)
  d_is_in : Df K mg "is_in" s_is_in ["value", "least", "most"] (f 1) (fd 1)
  d_need_problem : Df K mg "need_problem" s_need_problem ["value"] (f 2) (fd 2)
  d_periods_of : Df K mg "periods_of" s_periods_of ["problem"] (f 3) (fd 3)
  d_kept : Df K mg "kept" s_kept ["problem", "start", "goal"] (f 4) (fd 4)
  d_stock_row : Df K mg "stock_row" s_stock_row ["demands", "amounts"] (f 5) (fd 5)
  d_need_plan : Df K mg "need_plan" s_need_plan ["problem", "value"] (f 6) (fd 6)
  d_need_both : Df K mg "need_both" s_need_both ["problem", "plan"] (f 7) (fd 7)
  d_cost_of : Df K mg "cost_of" s_cost_of ["problem", "plan"] (f 8) (fd 8)
  d_cost : Df K mg "cost" s_cost ["problem", "plan"] (f 9) (fd 9)
  d_starts_in : Df K mg "starts_in" s_starts_in ["plan"] (f 10) (fd 10)
  d_is_interval : Df K mg "is_interval" s_is_interval ["problem", "plan"] (f 11) (fd 11)
  d_improved : Df K mg "improved" s_improved ["problem", "plan"] (f 12) (fd 12)
  d_law_taken : Df K mg "_law_taken" s_law_taken ["_law_row_here", "_law_many"] (f 13) (fd 13)
  d_law_pick : Df K mg "_law_pick" s_law_pick ["_law_row_here", "_law_things"] (f 14) (fd 14)
  d_law_alike : Df K mg "_law_alike" s_law_alike ["_law_found", "_law_due"] (f 15) (fd 15)
  d_law_entries : Df K mg "_law_entries" s_law_entries ["_law_row_here", "_law_many", "_law_most"] (f 16) (fd 16)
  d_law_steps : Df K mg "_law_steps" s_law_steps ["_law_row_here", "_law_many", "_law_most"] (f 17) (fd 17)
  d_law_problem : Df K mg "_law_problem" s_law_problem ["_law_row_here", "_law_many"] (f 18) (fd 18)
  d_law_row : Df K mg "_law_row" s_law_row ["_law_demands", "_law_plan"] (f 19) (fd 19)
  d_law_cost : Df K mg "_law_cost" s_law_cost ["_law_problem_here", "_law_plan"] (f 20) (fd 20)
  d_law_any_plan : Df K mg "_law_any_plan" s_law_any_plan ["_law_row_here", "_law_demands"] (f 21) (fd 21)
  d_law_kept : Df K mg "_law_kept" s_law_kept ["_law_problem_here", "_law_start", "_law_goal"] (f 22) (fd 22)
  z_len : mg "len" = none
  z_isinstance : mg "isinstance" = none
  z_all : mg "all" = none
  z_any : mg "any" = none
  z_sum : mg "sum" = none
  z_min : mg "min" = none
  z_enumerate : mg "enumerate" = none
  z_zip : mg "zip" = none
  z_range : mg "range" = none
  z_tuple : mg "tuple" = none
  z_int : mg "int" = none
  z_bool : mg "bool" = none
  z_list : mg "list" = none
  z_str : mg "str" = none
  m_MOST_PERIODS : ∃ t, mg "MOST_PERIODS" = some (.int 12 t)
  m_MOST_ENTRY : ∃ t, mg "MOST_ENTRY" = some (.int 999 t)

/-! ### rules -/
section
variable {X : Cx} {K : PySem.W.Frag}
theorem dcall {x : Str} {st : Stmt} {ps : List Str} {f : Addr} {fd : FuncData} {j k : Nat} {sp : Sp} {e : Expr} {es : List Expr} {t : TA} {p pos : Pos} (d : Df X.K X.mg x st ps f fd) (G : FnOk X.prog X.w X.K X.mg X.base CX0 j f fd ps sp) (hr : Room k X.A) (ha : PA X (e :: es) t)
    (hg : Gl X x := by rfl) (hjk : j ≤ k := by decide) (hdb : (x == ("__debug__" : Str)) = false := by decide) (he : starEach (e :: es) X.env = (false, eval e X.env) :: starEach es X.env := by rfl) (hpl : (backTo pos (starEach es X.env)).any (·.1) = false := by rfl) :
    PE X (.Call (.Name x p) (e :: es) [] pos) (tCall sp [] E0 t) := pe_call G (hr.mono hjk) hg d.g d.F.kp d.b .nil pass0 ha hdb he hpl
theorem pe_globI {x : Str} {i : Int} {pos : Pos} (hm : ∃ t, X.mg x = some (.int i t)) (hg : Gl X x := by rfl) (hd : (x == ("__debug__" : Str)) = false := by decide) : PE X (.Name x pos) (tC (.int i)) := by
  obtain ⟨t, e⟩ := hm
  exact pe_glob hg e ⟨t, rfl⟩ hd
theorem ix_listK (h : X.K = K) : IxR X (rIxL K) := h ▸ ix_list
theorem ix_tupK (h : X.K = K) : IxR X (rIxT K) := h ▸ ix_tup
theorem op_inK (h : X.K = K) : OpR X (compareOp .In) (rIn K false) := h ▸ op_in_seq
theorem op_eqDK {k : Nat} (hr : Room k X.A) (h : X.K = K) : OpR X (compareOp .Eq) (rEqD K) := h ▸ op_eqD hr.units
theorem op_neDK {k : Nat} (hr : Room k X.A) (h : X.K = K) : OpR X (compareOp .NotEq) (rNeD K) := h ▸ op_neD hr.units
theorem sl_tupK (h : X.K = K) : SlR X (rSlT K) := h ▸ sl_tup
def rLenK (K : PySem.W.Frag) : List V → Hp → VK → Prop := fun xs H Q => ∃ p ys, xs = [.ref p] ∧ (SqL K H p ys ∨ SqT K H p ys) ∧ Q (.int ys.length) H
theorem call_lenK (h : X.K = K) : CallR X (.builtin "len") (rLenK K) := h ▸ call_len_seq
theorem call_isiK1 (h : X.K = K) : CallR X (.builtin "isinstance") (rIsi K) := h ▸ call_isi
theorem call_isiTK (h : X.K = K) : CallR X (.builtin "isinstance") (rIsiT K) := h ▸ call_isiT
theorem cr_allK (hc : X.calm = true) (h : X.K = K) : CallR X (.builtin "all") (rAll K) := h ▸ cr_all hc
theorem cr_anyK (hc : X.calm = true) (h : X.K = K) : CallR X (.builtin "any") (rAny K) := h ▸ cr_any hc
theorem cr_sumTK (hc : X.calm = true) (h : X.K = K) : CallR X (.builtin "sum") (rSumT K) := h ▸ cr_sumT hc
theorem cr_minPK {k : Nat} (hc : X.calm = true) (hr : Room k X.A) (h : X.K = K) : CallR X (.builtin "min") (rMinP K) := h ▸ cr_minP hc hr.units
def rTupK (K : PySem.W.Frag) : List V → Hp → VK → Prop := fun xs H Q => ∃ p ys, xs = [.ref p] ∧ ((SqL K H p ys ∧ ∀ l, H l = none → Q (.ref l) (upd H l (.tup ys))) ∨ (SqT K H p ys ∧ Q (.ref p) H))
theorem call_tupleK (h : X.K = K) : CallR X (.type "tuple") (rTupK K) := h ▸ call_tuple_of
theorem pget_listK (h : X.K = K) : PGet X (rIxL K) := h ▸ pget_list
theorem pi_enumTK {e : Expr} {ta : TA} {p pos tpos : Pos} {elts : List Expr} {kk : Nat} (h : X.K = K) (hg : Gl X "enumerate") (hm : X.mg "enumerate" = none) (ha : PA X [e] ta) (hs : starEach [e] X.env = [(false, eval e X.env)] := by rfl) :
    PI X (.Tuple elts kk tpos) (.Call (.Name "enumerate" p) [e] [] pos) (iEnumT K ta) := h ▸ pi_enumT hg hm ha hs
theorem pi_enumK {e : Expr} {ta : TA} {p pos tpos : Pos} {elts : List Expr} {kk : Nat} (h : X.K = K) (hg : Gl X "enumerate") (hm : X.mg "enumerate" = none) (ha : PA X [e] ta) (hs : starEach [e] X.env = [(false, eval e X.env)] := by rfl) :
    PI X (.Tuple elts kk tpos) (.Call (.Name "enumerate" p) [e] [] pos) (iEnum K ta) := h ▸ pi_enum hg hm ha hs
theorem pi_zipK {e e2 : Expr} {ta : TA} {p pos tpos : Pos} {elts : List Expr} {kk : Nat} (h : X.K = K) (hg : Gl X "zip") (hm : X.mg "zip" = none) (ha : PA X [e, e2] ta)
    (hs : starEach [e, e2] X.env = (false, eval e X.env) :: starEach [e2] X.env := by rfl) (hpl : (backTo pos (starEach [e2] X.env)).any (·.1) = false := by rfl) :
    PI X (.Tuple elts kk tpos) (.Call (.Name "zip" p) [e, e2] [] pos) (RZ.iZipA K ta) := h ▸ RZ.pi_zipA hg hm ha hs hpl
theorem pi_tupK {tg l : Expr} {tl : TE} (h : X.K = K) (hl : PE X l tl) : PI X tg l (iTup K tl) := h ▸ pi_tup hl
theorem pi_listK {tg l : Expr} {tl : TE} (h : X.K = K) (hl : PE X l tl) : PI X tg l (iList K tl) := h ▸ pi_list hl
/-- a comprehension without an if -/
theorem tYesI {σ : L2.St} {H : Hp} {A B : Hp → Prop} (h : A H) : tYes σ H (fun b H3 => if b = true then A H3 else B H3) := by
  show if true = true then A H else B H
  rw [if_pos rfl]
  exact h
/-- two built-in types -/
theorem kitT {K : PySem.W.Frag} {a b : String} (r : Bool) (h : kitB a b = some r) : PySem.W.kitOne K (.type a) (.type b) = some r := h
end
end Lp
/-! The small defs of the program. -/
namespace Lp
open PySem PySem.Spec PyProof.Rows L2
section
variable {P : Program} {w : World} {K : PySem.W.Frag} {mg : Str → Option Value} {base : Heap} {f : Nat → Addr} {fd : Nat → FuncData}

def spIsInt : Sp := fun vs H Q _ => ∃ i : Int, vs = [.int i] ∧ Q (.bl true) H
theorem ok_is_int (T : Txt K mg f fd) : FnOk P w K mg base CX0 1 (f 0) (fd 0) ["value"] spIsInt := by
  refine T.d_is_int.F.ok sc_is_int (fun vs H Q E h => ?_) (fun cdv A outer s H vs Q E hr h => ?_)
  · obtain ⟨i, rfl, _⟩ := h
    rfl
  · obtain ⟨i, rfl, q⟩ := h
    refine ⟨_, (pss_one (ps_ret (pe_and (pe_callB (call_isiK1 rfl) (by rfl) T.z_isinstance (by decide +kernel) (pa_cons (pv 0) (pa_cons (pe_bltn (v := .ty "int") (by rfl) T.z_int (by decide +kernel) rfl) pa_nil))) (pe_one (pe_not (pe_callB (call_isiK1 rfl) (by rfl) T.z_isinstance (by decide +kernel) (pa_cons (pv 0) (pa_cons (pe_bltn (v := .ty "bool") (by rfl) T.z_bool (by decide +kernel) rfl) pa_nil)))))))), ?_⟩
    refine ⟨_, rfl, _, _, _, _, true, rfl, .ty "int", .base (.int i), kitT true (by decide +kernel), true, rfl, iteT ?_⟩
    exact ⟨_, rfl, _, _, _, _, false, rfl, .ty "bool", .base (.int i), kitT false (by decide +kernel), false, rfl, q⟩

def spIsIn : Sp := fun vs H Q _ => ∃ v a b : Int, vs = [.int v, .int a, .int b] ∧ a ≤ v ∧ v ≤ b ∧ Q (.bl true) H
theorem ok_is_in (T : Txt K mg f fd) : FnOk P w K mg base CX0 2 (f 1) (fd 1) ["value", "least", "most"] spIsIn := by
  have G_is_int := ok_is_int (P := P) (w := w) (base := base) T
  refine T.d_is_in.F.ok sc_is_in (fun vs H Q E h => ?_) (fun cdv A outer s H vs Q E hr h => ?_)
  · obtain ⟨v, a, b, rfl, _⟩ := h
    rfl
  · obtain ⟨v, a, b, rfl, h1, h2, q⟩ := h
    refine ⟨_, (pss_one (ps_ret (pe_and (dcall T.d_is_int G_is_int hr (pa_cons (pv 0) pa_nil)) (pe_one (pe_chain op_le op_le (pv 1) (pv 0) (pv 2)))))), ?_⟩
    refine ⟨_, rfl, v, rfl, true, rfl, iteT ?_⟩
    refine ⟨_, rfl, _, rfl, _, _, rfl, rfl, true, congrArg V.bl (decide_eq_true h1), iteT ⟨_, rfl, _, _, rfl, rfl, ?_⟩⟩
    show Q (.bl (decide (v ≤ b))) H
    rw [decide_eq_true h2]
    exact q

def spPeriods : Sp := fun vs H Q _ => ∃ (p : Addr) (n : Nat) (D S U W : Nat → Int), vs = [.ref p] ∧ Pb H p n D S U W ∧ Q (.int n) H
theorem ok_periods_of (T : Txt K mg f fd) : FnOk P w K mg base CX0 1 (f 3) (fd 3) ["problem"] spPeriods := by
  refine T.d_periods_of.F.ok sc_periods_of (fun vs H Q E h => ?_) (fun cdv A outer s H vs Q E hr h => ?_)
  · obtain ⟨p, n, D, S, U, W, rfl, _⟩ := h
    rfl
  · obtain ⟨p, n, D, S, U, W, rfl, hb, q⟩ := h
    obtain ⟨d, st, u, v, h0, h1, h2, h3, h4⟩ := hb.ex
    refine ⟨_, (pss_one (ps_ret (pe_callB (call_lenK rfl) (by rfl) T.z_len PySem.boot_len (pa_cons (pe_ix (ix_tupK rfl) (pv 0) pe_int (fun _ _ => rfl)) pa_nil)))), ?_⟩
    refine ⟨_, rfl, p, _, _, _, rfl, rfl, .inl (.inl h0), atI_nat (j := 0) rfl, d, _, rfl, .inr (.inl (.inl h1)), ?_⟩
    rw [TI_len]
    exact q

def spKept : Sp := fun vs H Q _ => ∃ (p : Addr) (n : Nat) (D S U W : Nat → Int) (s t : Nat), vs = [.ref p, .int s, .int t] ∧ Pb H p n D S U W ∧ s ≤ t ∧ t < n ∧ ∀ H', Same H H' → Q (.int (kp U W s t)) H'
theorem ok_kept (T : Txt K mg f fd) : FnOk P w K mg base CX0 1 (f 4) (fd 4) ["problem", "start", "goal"] spKept := by
  refine T.d_kept.F.ok sc_kept (fun vs H Q E h => ?_) (fun cdv A outer s H vs Q E hr h => ?_)
  · obtain ⟨p, n, D, S, U, W, s, t, rfl, _⟩ := h
    rfl
  · obtain ⟨p, n, D, S, U, W, s, t, rfl, hb, hst, htn, q⟩ := h
    obtain ⟨d, st, u, v, h0, h1, h2, h3, h4⟩ := hb.ex
    refine ⟨_, (pss_one (ps_ret (pe_op op_add (pe_ix (ix_tupK rfl) (pe_ix (ix_tupK rfl) (pv 0) pe_int (fun _ _ => rfl)) (pv 1) (fun _ _ => rfl)) (pe_callB (cr_sumTK rfl rfl) (by rfl) T.z_sum (by decide +kernel) (pa_cons (pe_slice (sl_tupK rfl) (pe_ix (ix_tupK rfl) (pv 0) pe_int (fun _ _ => rfl)) (po_some (pv 1)) (po_some (pv 2))) pa_nil))))), ?_⟩
    refine ⟨_, rfl, p, _, _, _, rfl, rfl, .inl (.inl h0), atI_nat (j := 2) rfl, _, rfl, u, _, _, _, rfl, rfl, .inl (.inl h3), at_TI (show s < n by omega), ?_⟩
    refine ⟨_, rfl, p, _, _, _, rfl, rfl, .inl (.inl h0), atI_nat (j := 3) rfl, _, rfl, _, rfl, _, rfl, _, rfl, v, _, rfl, .inl (.inl h4), ?_, fun c nc => ?_⟩
    · rw [TI_len, HT.sIx_nat, HT.sIx_nat]; omega
    · rw [TI_cut W hst (Nat.le_of_lt htn)]
      refine ⟨c, (List.range (t - s)).map (fun i => W (s + i)), rfl, tuple_sum upd_same, _, _, rfl, rfl, ?_⟩
      rw [range_sum, ps_shift, show s + (t - s) = t by omega]
      exact q _ (same_upd _ nc)

def stk (D X : Nat → Int) : Nat → Int := fun k => ps X (k + 1) - ps D (k + 1)
def spStock : Sp := fun vs H Q _ => ∃ (d x : Addr) (n : Nat) (D X : Nat → Int), vs = [.ref d, .ref x] ∧ H d = some (.tup (TI n D)) ∧ H x = some (.tup (TI n X)) ∧ n ≤ 12 ∧
  ∀ H' l, Same H H' → H l = none → H' l = some (.lst (TI n (stk D X))) → Q (.ref l) H'
theorem ok_stock_row (T : Txt K mg f fd) : FnOk P w K mg base CX0 1 (f 5) (fd 5) ["demands", "amounts"] spStock := by
  refine T.d_stock_row.F.ok sc_stock_row (fun vs H Q E h => ?_) (fun cdv A outer s H vs Q E hr h => ?_)
  · obtain ⟨d, x, n, D, X, rfl, _⟩ := h
    rfl
  · obtain ⟨d, x, n, D, X, rfl, hd, hx, hn, q⟩ := h
    refine ⟨_, (pss_cons (ps_par (i := 2) (j := 3) rfl sc_stock_row.nd rfl rfl (by decide) rfl rfl (pa_cons (pe_lst pa_nil) (pa_cons pe_int pa_nil)) rfl)
      (pss_cons (ps_for PassesOwn.never rfl (pi_zipK rfl (by rfl) T.z_zip (pa_cons (pv 1) (pa_cons (pv 0) pa_nil))) (pg_tup rfl (pgs_cons (pg_name (i := 4) sc_stock_row.nd rfl (Or.inl rfl)) (pgs_cons (pg_name (i := 5) sc_stock_row.nd rfl (Or.inl rfl)) pgs_nil))) (pss_cons (ps_aug (i := 3) sc_stock_row.nd rfl (Or.inl rfl) (pe_op op_sub (pv 4) (pv 5)) ip_add)
      (pss_one (ps_expr (pe_bm PySem.F.plainAttrs_list PySem.F.slot_list_append PySem.F.type_list_append mt_append (pv 2) (pa_cons (pv 3) pa_nil))))))
      (pss_one (ps_ret (pv 2))))), ?_⟩
    refine ⟨Nat.zero_le _, fun l nl => ⟨_, _, rfl, ?_⟩⟩
    refine ⟨_, rfl, _, rfl, x, d, _, _, rfl, .inr ⟨.inl (.inl ((same_upd _ nl) _ _ hx)), .inl (.inl ((same_upd _ nl) _ _ hd)), ?_⟩⟩
    refine for_it (walk_zipT (xs := TI n X) (ys := TI n D) (by rw [TI_len, TI_len])) (fun i σ H1 => ∃ y4 y5, σ = [some (.ref d), some (.ref x), some (.ref l), some (.int (ps X i - ps D i)), y4, y5] ∧ Same H H1 ∧ H1 l = some (.lst (TI i (stk D X))))
      ⟨none, none, rfl, same_upd _ nl, upd_same⟩ (fun i σ H1 _ ⟨_, _, _, s1, _⟩ => ⟨.inl (.inl (s1 _ _ hx)), .inl (.inl (s1 _ _ hd))⟩) ?_ ?_
    · rintro i v σ H1 H2 hi ⟨y4, y5, rfl, s1, e1⟩ ⟨t, a, b, rfl, nt, rfl, ea, eb⟩
      obtain ⟨hin, rfl⟩ := TI_some ea
      obtain ⟨_, rfl⟩ := TI_some eb
      have e2 : (upd H1 t (.tup [.int (X i), .int (D i)])) l = some (.lst (TI i (stk D X))) := by rw [upd_ne (ne_of_none e1 nt)]; exact e1
      have s2 : Same H (upd H1 t (.tup [.int (X i), .int (D i)])) := s1.lpNew _ nt
      refine ⟨t, _, rfl, .inl (.inl upd_same), rfl, _, _, rfl, _, _, rfl, rfl, ?_⟩
      refine ⟨_, rfl, _, rfl, _, rfl, _, _, rfl, rfl, _, _, rfl, rfl, ?_⟩
      refine ⟨_, rfl, .inl ⟨rfl, _, .inl (.inl e2)⟩, _, rfl, l, _, _, rfl, rfl, e2, small_TI _ (by omega), ?_⟩
      refine ⟨some (.int (X i)), some (.int (D i)), ?_, fun b o e => ?_, ?_⟩
      · show _ = [some (V.ref d), some (.ref x), some (.ref l), some (.int (ps X i + X i - (ps D i + D i))), some (.int (X i)), some (.int (D i))]
        rw [show ps X i + X i - (ps D i + D i) = ps X i - ps D i + (X i - D i) by omega]
        rfl
      · rw [upd_ne (ne_of_none e nl)]
        exact s2 _ _ e
      · rw [upd_same, ← TI_snoc]
        have e : ps X i - ps D i + (X i - D i) = stk D X i := by
          show _ = ps X i + X i - (ps D i + D i)
          omega
        exact congrArg (fun z => some (HO.lst (TI i (stk D X) ++ [V.int z]))) e
    · rintro σ H1 ⟨y4, y5, rfl, s1, e1⟩
      rw [TI_len] at e1
      exact ⟨_, rfl, q H1 l s1 nl e1⟩

def stN (n : Nat) (X : Nat → Int) : List Nat := (List.range n).filter fun s => decide (0 < X s)
theorem stN_mem {n s : Nat} {X : Nat → Int} : s ∈ stN n X ↔ s < n ∧ 0 < X s := by
  unfold stN
  rw [List.mem_filter, List.mem_range, decide_eq_true_eq]
theorem stN_len (n : Nat) (X : Nat → Int) : (stN n X).length ≤ n := by
  have := List.length_filter_le (fun s => decide (0 < X s)) (List.range n)
  rw [List.length_range] at this
  exact this
theorem stN_succ (k : Nat) (X : Nat → Int) : stN (k + 1) X = if 0 < X k then stN k X ++ [k] else stN k X := by
  unfold stN
  rw [List.range_succ, List.filter_append]
  by_cases h : 0 < X k
  · rw [if_pos h]; simp [h]
  · rw [if_neg h]; simp [h]
def NV (l : List Nat) : List V := l.map fun s => V.int (s : Nat)
def spStarts : Sp := fun vs H Q _ => ∃ (x : Addr) (n : Nat) (X : Nat → Int), vs = [.ref x] ∧ H x = some (.tup (TI n X)) ∧ n ≤ 12 ∧
  ∀ H' l, Same H H' → H l = none → H' l = some (.tup (NV (stN n X))) → Q (.ref l) H'
theorem ok_starts_in (T : Txt K mg f fd) : FnOk P w K mg base CX0 1 (f 10) (fd 10) ["plan"] spStarts := by
  refine T.d_starts_in.F.ok sc_starts_in (fun vs H Q E h => ?_) (fun cdv A outer s H vs Q E hr h => ?_)
  · obtain ⟨x, n, X, rfl, _⟩ := h
    rfl
  · obtain ⟨x, n, X, rfl, hx, hn, q⟩ := h
    refine ⟨_, (pss_one (ps_ret (pe_callTy (call_tupleK rfl) (by rfl) T.z_tuple (by decide +kernel) (pa_cons (pe_lc (own := [("at", 1), ("amount", 2)]) (g := gTup K 2 (gCons (gName 1) (gCons (gName 2) gNil))) rfl sc_starts_in.nd (pi_enumTK rfl (by rfl) T.z_enumerate (pa_cons (pv 0) pa_nil)) (blkOk_by (N := ["plan", "at", "amount"]) (sc := defScope s_starts_in) (by decide +kernel)) (fun _ _ _ _ _ => (pg_tup rfl (pgs_cons (pg_name (i := 1) sc_starts_in.nd rfl (Or.inl rfl)) (pgs_cons (pg_name (i := 2) sc_starts_in.nd rfl (Or.inl rfl)) pgs_nil)))) (fun _ _ _ _ _ => (pts_one (pt_cmpR op_gt (pv 2) pe_int (nomark _)))) (fun _ _ _ _ _ => (pv 1))) pa_nil)))), ?_⟩
    refine ⟨_, rfl, x, _, rfl, .inl (.inl hx), fun l nl => ?_⟩
    refine lc_it (walk_enumT (K := K) (a := x) (xs := TI n X)) (fun i H1 => Same H H1 ∧ H1 l = some (.lst (NV (stN i X)))) ⟨same_upd _ nl, upd_same⟩
      (fun i H1 _ ⟨s1, _⟩ => .inl (.inl (s1 _ _ hx))) ?_ ?_
    · rintro i v H1 H2 hi ⟨s1, e1⟩ ⟨t, a, b, rfl, nt, rfl, ea, eb⟩
      cases Option.some.inj ea
      obtain ⟨hin, rfl⟩ := TI_some eb
      have e2 : (upd H1 t (.tup [.int (i : Nat), .int (X i)])) l = some (.lst (NV (stN i X))) := by rw [upd_ne (ne_of_none e1 nt)]; exact e1
      have s2 : Same H (upd H1 t (.tup [.int (i : Nat), .int (X i)])) := s1.lpNew _ nt
      refine ⟨t, _, rfl, .inl (.inl upd_same), rfl, _, _, rfl, _, _, rfl, rfl, rfl, ?_⟩
      refine ⟨_, rfl, _, _, rfl, rfl, _, rfl, ite2 (fun e => ?_) (fun e => ?_)⟩
      · have e0 : 0 < X i := of_decide_eq_true e
        refine ⟨_, rfl, _, e2, ?_, fun b o h => ?_, ?_⟩
        · show ((stN i X).map fun s => V.int ((s : Nat) : Int)).length < sizeLine
          rw [List.length_map]
          exact small1000 (Nat.le_trans (stN_len i X) (by omega))
        · rw [upd_ne (ne_of_none h nl)]
          exact s2 _ _ h
        · rw [upd_same, stN_succ, if_pos e0]
          unfold NV
          rw [List.map_append]
          rfl
      · have e0 : ¬ 0 < X i := fun z => e (decide_eq_true z)
        refine ⟨s2, ?_⟩
        rw [stN_succ, if_neg e0]
        exact e2
    · rintro H1 ⟨s1, e1⟩
      rw [TI_len] at e1
      refine ⟨l, _, rfl, .inl ⟨.inl (.inl e1), fun p np => ?_⟩⟩
      exact q _ p (s1.lpNew _ np) (s1.free np) upd_same
end
end Lp
/-! The checks of a problem and of a plan. -/
namespace Lp
open PySem PySem.Spec PyProof.Rows L2
theorem four {α : Type} {a b c d x : α} : ∀ {i : Nat}, [a, b, c, d][i]? = some x → x = a ∨ x = b ∨ x = c ∨ x = d
  | 0, h => .inl (Option.some.inj h).symm
  | 1, h => .inr (.inl (Option.some.inj h).symm)
  | 2, h => .inr (.inr (.inl (Option.some.inj h).symm))
  | 3, h => .inr (.inr (.inr (Option.some.inj h).symm))
  | i + 4, h => by simp at h
def BB (b : Bool) (i : Nat) : List V := (List.replicate i b).map V.bl
theorem BB_len (b : Bool) (i : Nat) : (BB b i).length = i := by unfold BB; rw [List.length_map, List.length_replicate]
theorem BB_succ (b : Bool) (i : Nat) : BB b i ++ [.bl b] = BB b (i + 1) := by
  unfold BB
  rw [List.replicate_succ', List.map_append]; rfl
theorem all_rep : ∀ i : Nat, (List.replicate i true).all id = true
  | 0 => rfl
  | i + 1 => by rw [List.replicate_succ, List.all_cons, all_rep i]; rfl
theorem any_rep : ∀ i : Nat, (List.replicate i false).any id = false
  | 0 => rfl
  | i + 1 => by rw [List.replicate_succ, List.any_cons, any_rep i]; rfl
section
variable {P : Program} {w : World} {K : PySem.W.Frag} {mg : Str → Option Value} {base : Heap} {f : Nat → Addr} {fd : Nat → FuncData}

def spNeedP : Sp := fun vs H Q _ => ∃ (p : Addr) (n : Nat) (D S U W : Nat → Int), vs = [.ref p] ∧ Pb H p n D S U W ∧ Ent n D S U W ∧ ∀ H', Same H H' → Q .non H'
theorem ok_need_problem (T : Txt K mg f fd) : FnOk P w K mg base CX0 3 (f 2) (fd 2) ["value"] spNeedP := by
  have G_is_in := ok_is_in (P := P) (w := w) (base := base) T
  refine T.d_need_problem.F.ok sc_need_problem (fun vs H Q E h => ?_) (fun cdv A outer s H vs Q E hr h => ?_)
  · obtain ⟨p, n, D, S, U, W, rfl, _⟩ := h
    rfl
  · obtain ⟨p, n, D, S, U, W, rfl, hb, he, q⟩ := h
    obtain ⟨d, st, u, v, h0, h1, h2, h3, h4⟩ := hb.ex
    have part : ∀ {H1 : Hp} {i : Nat} {x : V}, Same H H1 → [V.ref d, .ref st, .ref u, .ref v][i]? = some x → ∃ (a : Addr) (g : Nat → Int), x = .ref a ∧ H1 a = some (.tup (TI n g)) ∧ ∀ j, j < n → 0 ≤ g j ∧ g j ≤ 999 := by
      intro H1 i x s1 e
      rcases four e with e | e | e | e
      · exact ⟨d, D, e, s1 _ _ h1, he.d⟩
      · exact ⟨st, S, e, s1 _ _ h2, he.s⟩
      · exact ⟨u, U, e, s1 _ _ h3, he.u⟩
      · exact ⟨v, W, e, s1 _ _ h4, he.w⟩
    refine ⟨_, (pss_cons (ps_if ((pw_or (pt_not (pt_val (pe_callB (call_isiK1 rfl) (by rfl) T.z_isinstance (by decide +kernel) (pa_cons (pv 0) (pa_cons (pe_bltn (v := .ty "tuple") (by rfl) T.z_tuple (by decide +kernel) rfl) pa_nil))))) (pw_or (pt_cmpR op_ne (pe_callB (call_lenK rfl) (by rfl) T.z_len PySem.boot_len (pa_cons (pv 0) pa_nil)) pe_int (nomark _)) (pw_or1 (pt_not (pt_val (pe_callB (cr_allK rfl rfl) (by rfl) T.z_all (by decide +kernel) (pa_cons (pe_lc (own := [("part", 1)]) (g := gName 1) (tt := tYes) rfl sc_need_problem.nd (pi_tupK rfl (pv 0)) (blkOk_by (N := ["value", "part", "number", "index", "entry"]) (sc := defScope s_need_problem) (by decide +kernel)) (fun _ _ _ _ _ => (pg_name (i := 1) sc_need_problem.nd rfl (Or.inl rfl))) (fun _ _ _ _ _ => pts_nil) (fun _ _ _ _ _ => (pe_callB (call_isiK1 rfl) (by rfl) T.z_isinstance (by decide +kernel) (pa_cons (pv 1) (pa_cons (pe_bltn (v := .ty "tuple") (by rfl) T.z_tuple (by decide +kernel) rfl) pa_nil))))) pa_nil)))))))).pt (pss_one ps_never) pss_nil)
      (pss_cons (ps_if ((pw_or (pt_not (pt_chain op_le op_le pe_int (pe_callB (call_lenK rfl) (by rfl) T.z_len PySem.boot_len (pa_cons (pe_ix (ix_tupK rfl) (pv 0) pe_int (fun _ _ => rfl)) pa_nil)) (pe_globI T.m_MOST_PERIODS))) (pw_or1 (pt_val (pe_callB (cr_anyK rfl rfl) (by rfl) T.z_any (by decide +kernel) (pa_cons (pe_lc (own := [("part", 1)]) (g := gName 1) (tt := tYes) rfl sc_need_problem.nd (pi_tupK rfl (pv 0)) (blkOk_by (N := ["value", "part", "number", "index", "entry"]) (sc := defScope s_need_problem) (by decide +kernel)) (fun _ _ _ _ _ => (pg_name (i := 1) sc_need_problem.nd rfl (Or.inl rfl))) (fun _ _ _ _ _ => pts_nil) (fun _ _ _ _ _ => (pe_cmpR op_ne (pe_callB (call_lenK rfl) (by rfl) T.z_len PySem.boot_len (pa_cons (pv 1) pa_nil)) (pe_callB (call_lenK rfl) (by rfl) T.z_len PySem.boot_len (pa_cons (pe_ix (ix_tupK rfl) (pv 0) pe_int (fun _ _ => rfl)) pa_nil)) (nomark _)))) pa_nil)))))).pt (pss_one ps_never) pss_nil)
      (pss_one (ps_for PassesOwn.never rfl (pi_enumTK rfl (by rfl) T.z_enumerate (pa_cons (pv 0) pa_nil)) (pg_tup rfl (pgs_cons (pg_name (i := 2) sc_need_problem.nd rfl (Or.inl rfl)) (pgs_cons (pg_name (i := 1) sc_need_problem.nd rfl (Or.inl rfl)) pgs_nil))) (pss_one (ps_for PassesOwn.never rfl (pi_enumTK rfl (by rfl) T.z_enumerate (pa_cons (pv 1) pa_nil)) (pg_tup rfl (pgs_cons (pg_name (i := 3) sc_need_problem.nd rfl (Or.inl rfl)) (pgs_cons (pg_name (i := 4) sc_need_problem.nd rfl (Or.inl rfl)) pgs_nil))) (pss_one (ps_if (pt_not (pt_val (dcall T.d_is_in G_is_in hr (pa_cons (pv 4) (pa_cons pe_int (pa_cons (pe_globI T.m_MOST_ENTRY) pa_nil)))))) (pss_one ps_never) pss_nil)))))))), ?_⟩
    refine ⟨_, rfl, _, _, _, _, true, rfl, .ty "tuple", .base (.tup h0), kitT true (by decide +kernel), true, rfl, iteF ?_⟩
    refine ⟨_, rfl, p, _, rfl, .inr (.inl (.inl h0)), rfl, _, rfl, iteNS rfl ?_⟩
    refine ⟨_, rfl, p, rfl, ⟨_, .inl (.inl h0)⟩, fun l nl => ?_⟩
    refine lc_it (walk_tup (K := K) (a := p) (xs := [V.ref d, .ref st, .ref u, .ref v])) (fun i H1 => Same H H1 ∧ H1 l = some (.lst (BB true i))) ⟨same_upd _ nl, upd_same⟩ (fun i H1 _ ⟨s1, _⟩ => .inl (.inl (s1 _ _ h0))) ?_ ?_
    · rintro i x H1 H2 hi ⟨s1, e1⟩ ⟨rfl, ex⟩
      obtain ⟨a, g, rfl, ha, _⟩ := part s1 ex
      refine ⟨rfl, tYesI ?_⟩
      refine ⟨_, rfl, _, _, _, _, true, rfl, .ty "tuple", .base (.tup ha), kitT true (by decide +kernel), _, e1, ?_, fun b o h => ?_, ?_⟩
      · rw [BB_len]; exact small1000 (Nat.le_trans (Nat.le_of_lt hi) (show 4 ≤ 1000 by decide))
      · rw [upd_ne (ne_of_none h nl)]; exact s1 _ _ h
      · rw [upd_same, BB_succ]
    · rintro H1 ⟨s1, e1⟩
      refine ⟨l, List.replicate 4 true, rfl, .inl (.inl e1), _, rfl, iteF ?_⟩
      have h01 := s1 _ _ h0
      have h11 := s1 _ _ h1
      refine ⟨_, rfl, p, _, _, _, rfl, rfl, .inl (.inl h01), atI_nat (j := 0) rfl, d, _, rfl, .inr (.inl (.inl h11)), ?_⟩
      rw [TI_len]
      have n1 := he.n1
      have n2 := he.n2
      refine ⟨_, _, rfl, rfl, true, congrArg V.bl (decide_eq_true (by omega)), iteT ⟨_, _, rfl, rfl, true, congrArg V.bl (decide_eq_true (by omega)), iteF ?_⟩⟩
      refine ⟨_, rfl, p, rfl, ⟨_, .inl (.inl h01)⟩, fun l2 nl2 => ?_⟩
      refine lc_it (walk_tup (K := K) (a := p) (xs := [V.ref d, .ref st, .ref u, .ref v])) (fun i H2 => Same H1 H2 ∧ H2 l2 = some (.lst (BB false i))) ⟨same_upd _ nl2, upd_same⟩ (fun i H2 _ ⟨s2, _⟩ => .inl (.inl (s2 _ _ h01))) ?_ ?_
      · rintro i x H2 H3 hi ⟨s2, e2⟩ ⟨rfl, ex⟩
        obtain ⟨a, g, rfl, ha, _⟩ := part (s1.trans s2) ex
        refine ⟨rfl, tYesI ?_⟩
        refine ⟨_, rfl, a, _, rfl, .inr (.inl (.inl ha)), _, rfl, p, _, _, _, rfl, rfl, .inl (.inl (s2 _ _ h01)), atI_nat (j := 0) rfl, d, _, rfl, .inr (.inl (.inl (s2 _ _ h11))), rfl, _, e2, ?_, fun b o h => ?_, ?_⟩
        · rw [BB_len]; exact small1000 (Nat.le_trans (Nat.le_of_lt hi) (show 4 ≤ 1000 by decide))
        · rw [upd_ne (ne_of_none h nl2)]; exact s2 _ _ h
        · rw [upd_same, TI_len, TI_len, decide_eq_true rfl]
          exact congrArg (fun z => some (HO.lst z)) (BB_succ false i)
      · rintro H2 ⟨s2, e2⟩
        have s02 := s1.trans s2
        refine ⟨l2, List.replicate 4 false, rfl, .inl (.inl e2), _, rfl, iteF ?_⟩
        refine ⟨_, rfl, p, _, rfl, .inl (.inl (s02 _ _ h0)), ?_⟩
        refine for_it (walk_enumT (K := K) (a := p) (xs := [V.ref d, .ref st, .ref u, .ref v])) (fun i σ H3 => ∃ y1 y2 y3 y4, σ = [some (.ref p), y1, y2, y3, y4] ∧ Same H H3) ⟨none, none, none, none, rfl, s02⟩
          (fun i σ H3 _ ⟨_, _, _, _, _, s3⟩ => .inl (.inl (s3 _ _ h0))) ?_ ?_
        · rintro i x σ H3 H4 hi ⟨y1, y2, y3, y4, rfl, s3⟩ ⟨t, a, b, rfl, nt, rfl, ea, eb⟩
          cases Option.some.inj ea
          obtain ⟨a, g, rfl, ha, hg⟩ := part s3 eb
          have s4 := s3.lpNew (.tup [.int (i : Nat), .ref a]) nt
          have ha4 := (same_upd (.tup [.int (i : Nat), .ref a]) nt) _ _ ha
          refine ⟨t, _, rfl, .inl (.inl upd_same), rfl, _, _, rfl, _, _, rfl, rfl, ?_⟩
          refine ⟨_, rfl, a, _, rfl, .inl (.inl ha4), ?_⟩
          refine for_it (walk_enumT (K := K) (a := a) (xs := TI n g)) (fun j σ H5 => ∃ y3 y4, σ = [some (.ref p), some (.ref a), some (.int (i : Nat)), y3, y4] ∧ Same (upd H3 t (.tup [.int (i : Nat), .ref a])) H5) ⟨y3, y4, rfl, Same.refl _⟩
            (fun j σ H5 _ ⟨_, _, _, s5⟩ => .inl (.inl (s5 _ _ ha4))) ?_ ?_
          · rintro j x σ H5 H6 hj ⟨y3, y4, rfl, s5⟩ ⟨t2, a2, b2, rfl, nt2, rfl, ea2, eb2⟩
            cases Option.some.inj ea2
            obtain ⟨hjn, rfl⟩ := TI_some eb2
            obtain ⟨g0, g9⟩ := hg j hjn
            refine ⟨t2, _, rfl, .inl (.inl upd_same), rfl, _, _, rfl, _, _, rfl, rfl, ?_⟩
            refine ⟨_, rfl, _, _, _, rfl, g0, g9, true, rfl, iteF ?_⟩
            exact ⟨some (.int (j : Nat)), some (.int (g j)), rfl, s5.lpNew _ nt2⟩
          · rintro σ H5 ⟨y3, y4, rfl, s5⟩
            exact ⟨some (.ref a), some (.int (i : Nat)), y3, y4, rfl, s4.trans s5⟩
        · rintro σ H3 ⟨y1, y2, y3, y4, rfl, s3⟩
          exact q _ s3

def spNeedPl : Sp := fun vs H Q _ => ∃ (p x : Addr) (n : Nat) (D S U W X : Nat → Int), vs = [.ref p, .ref x] ∧ Pb H p n D S U W ∧ H x = some (.tup (TI n X)) ∧ n ≤ 12 ∧ Plan n D X ∧ ∀ H', Same H H' → Q .non H'
theorem ok_need_plan (T : Txt K mg f fd) : FnOk P w K mg base CX0 2 (f 6) (fd 6) ["problem", "value"] spNeedPl := by
  have G_is_int := ok_is_int (P := P) (w := w) (base := base) T
  have G_periods_of := ok_periods_of (P := P) (w := w) (base := base) T
  have G_stock_row := ok_stock_row (P := P) (w := w) (base := base) T
  refine T.d_need_plan.F.ok sc_need_plan (fun vs H Q E h => ?_) (fun cdv A outer s H vs Q E hr h => ?_)
  · obtain ⟨p, x, n, D, S, U, W, X, rfl, _⟩ := h
    rfl
  · obtain ⟨p, x, n, D, S, U, W, X, rfl, hb, hx, hn, hp, q⟩ := h
    obtain ⟨d, st, u, v, h0, h1, h2, h3, h4⟩ := hb.ex
    refine ⟨_, (pss_cons (ps_set (i := 2) sc_need_plan.nd rfl (Or.inl rfl) (dcall T.d_periods_of G_periods_of hr (pa_cons (pv 0) pa_nil)))
      (pss_cons (ps_if ((pw_or (pt_not (pt_val (pe_callB (call_isiK1 rfl) (by rfl) T.z_isinstance (by decide +kernel) (pa_cons (pv 1) (pa_cons (pe_bltn (v := .ty "tuple") (by rfl) T.z_tuple (by decide +kernel) rfl) pa_nil))))) (pw_or (pt_cmpR op_ne (pe_callB (call_lenK rfl) (by rfl) T.z_len PySem.boot_len (pa_cons (pv 1) pa_nil)) (pv 2) (nomark _)) (pw_or1 (pt_not (pt_val (pe_callB (cr_allK rfl rfl) (by rfl) T.z_all (by decide +kernel) (pa_cons (pe_lc (own := [("part", 3)]) (g := gName 3) (tt := tYes) rfl sc_need_plan.nd (pi_tupK rfl (pv 1)) (blkOk_by (N := ["problem", "value", "many", "part", "index", "stock"]) (sc := defScope s_need_plan) (by decide +kernel)) (fun _ _ _ _ _ => (pg_name (i := 3) sc_need_plan.nd rfl (Or.inl rfl))) (fun _ _ _ _ _ => pts_nil) (fun _ _ _ _ _ => (pe_and (dcall T.d_is_int G_is_int hr (pa_cons (pv 3) pa_nil)) (pe_one (pe_cmpR op_ge (pv 3) pe_int (nomark _)))))) pa_nil)))))))).pt (pss_one ps_never) pss_nil)
      (pss_cons (ps_for PassesOwn.never rfl (pi_enumK rfl (by rfl) T.z_enumerate (pa_cons (dcall T.d_stock_row G_stock_row hr (pa_cons (pe_ix (ix_tupK rfl) (pv 0) pe_int (fun _ _ => rfl)) (pa_cons (pv 1) pa_nil))) pa_nil)) (pg_tup rfl (pgs_cons (pg_name (i := 4) sc_need_plan.nd rfl (Or.inl rfl)) (pgs_cons (pg_name (i := 5) sc_need_plan.nd rfl (Or.inl rfl)) pgs_nil))) (pss_one (ps_if (pt_cmpR op_lt (pv 5) pe_int (nomark _)) (pss_one ps_never) pss_nil)))
      (pss_one (ps_if (pt_cmpR op_ne (pe_callB (cr_sumTK rfl rfl) (by rfl) T.z_sum (by decide +kernel) (pa_cons (pv 1) pa_nil)) (pe_callB (cr_sumTK rfl rfl) (by rfl) T.z_sum (by decide +kernel) (pa_cons (pe_ix (ix_tupK rfl) (pv 0) pe_int (fun _ _ => rfl)) pa_nil)) (nomark _)) (pss_one ps_never) pss_nil))))), ?_⟩
    refine ⟨_, rfl, p, n, D, S, U, W, rfl, hb, ?_⟩
    refine ⟨_, rfl, _, _, _, _, true, rfl, .ty "tuple", .base (.tup hx), kitT true (by decide +kernel), true, rfl, iteF ?_⟩
    refine ⟨_, rfl, x, _, rfl, .inr (.inl (.inl hx)), _, rfl, rfl, _, rfl, iteNS (by rw [TI_len]) ?_⟩
    refine ⟨_, rfl, x, rfl, ⟨_, .inl (.inl hx)⟩, fun l nl => ?_⟩
    refine lc_it (walk_tup (K := K) (a := x) (xs := TI n X)) (fun i H1 => Same H H1 ∧ H1 l = some (.lst (BB true i))) ⟨same_upd _ nl, upd_same⟩ (fun i H1 _ ⟨s1, _⟩ => .inl (.inl (s1 _ _ hx))) ?_ ?_
    · rintro i y H1 H2 hi ⟨s1, e1⟩ ⟨rfl, ex⟩
      obtain ⟨hin, rfl⟩ := TI_some ex
      refine ⟨rfl, tYesI ?_⟩
      refine ⟨_, rfl, X i, rfl, true, rfl, iteT ⟨_, rfl, _, _, rfl, rfl, _, e1, ?_, fun b o h => ?_, ?_⟩⟩
      · rw [BB_len]; exact small1000 (by omega)
      · rw [upd_ne (ne_of_none h nl)]; exact s1 _ _ h
      · have e2 : decide ((0 : Int) ≤ X i) = true := decide_eq_true (hp.nn i hin)
        rw [upd_same, ← BB_succ]
        exact congrArg (fun z => some (HO.lst (BB true i ++ [V.bl z]))) e2
    · rintro H1 ⟨s1, e1⟩
      refine ⟨l, List.replicate n true, rfl, .inl (.inl (by rw [TI_len] at e1; exact e1)), _, rfl, ?_⟩
      rw [all_rep]
      refine iteF ?_
      refine ⟨_, rfl, p, _, _, _, rfl, rfl, .inl (.inl (s1 _ _ h0)), atI_nat (j := 0) rfl, _, rfl, d, x, n, D, X, rfl, s1 _ _ h1, s1 _ _ hx, hn, fun H2 l2 s2 nl2 e2 => ?_⟩
      refine ⟨l2, _, rfl, .inl (.inl e2), ?_⟩
      refine for_it (walk_enum (K := K) (a := l2) (xs := TI n (stk D X))) (fun i σ H3 => ∃ y3 y4 y5, σ = [some (.ref p), some (.ref x), some (.int n), y3, y4, y5] ∧ Same H2 H3) ⟨none, none, none, rfl, Same.refl _⟩
        (fun i σ H3 _ ⟨_, _, _, _, s3⟩ => .inl (.inl (s3 _ _ e2))) ?_ ?_
      · rintro i y σ H3 H4 hi ⟨y3, y4, y5, rfl, s3⟩ ⟨t, a, b, rfl, nt, rfl, ea, eb⟩
        cases Option.some.inj ea
        obtain ⟨hin, rfl⟩ := TI_some eb
        refine ⟨t, _, rfl, .inl (.inl upd_same), rfl, _, _, rfl, _, _, rfl, rfl, ?_⟩
        refine ⟨_, rfl, _, _, rfl, rfl, _, rfl, ite2 (fun e => ?_) (fun _ => ?_)⟩
        · have e0 : stk D X i < 0 := of_decide_eq_true e
          have := hp.ge (i + 1) (by omega)
          unfold stk at e0
          omega
        · exact ⟨y3, some (.int (i : Nat)), some (.int (stk D X i)), rfl, s3.lpNew _ nt⟩
      · rintro σ H3 ⟨y3, y4, y5, rfl, s3⟩
        have s03 := (s1.trans s2).trans s3
        refine ⟨_, rfl, x, (List.range n).map X, rfl, tuple_sum (s03 _ _ hx), ?_⟩
        refine ⟨_, rfl, p, _, _, _, rfl, rfl, .inl (.inl (s03 _ _ h0)), atI_nat (j := 0) rfl, d, (List.range n).map D, rfl, tuple_sum (s03 _ _ h1), rfl, _, rfl, iteNS ?_ ?_⟩
        · rw [range_sum, range_sum, hp.eq]
        · exact q _ s03

def spNeedB : Sp := fun vs H Q _ => ∃ (p x : Addr) (n : Nat) (D S U W X : Nat → Int), vs = [.ref p, .ref x] ∧ Pb H p n D S U W ∧ Ent n D S U W ∧ H x = some (.tup (TI n X)) ∧ Plan n D X ∧ ∀ H', Same H H' → Q .non H'
theorem ok_need_both (T : Txt K mg f fd) : FnOk P w K mg base CX0 4 (f 7) (fd 7) ["problem", "plan"] spNeedB := by
  have G_need_problem := ok_need_problem (P := P) (w := w) (base := base) T
  have G_need_plan := ok_need_plan (P := P) (w := w) (base := base) T
  refine T.d_need_both.F.ok sc_need_both (fun vs H Q E h => ?_) (fun cdv A outer s H vs Q E hr h => ?_)
  · obtain ⟨p, x, n, D, S, U, W, X, rfl, _⟩ := h
    rfl
  · obtain ⟨p, x, n, D, S, U, W, X, rfl, hb, he, hx, hp, q⟩ := h
    refine ⟨_, (pss_cons (ps_expr (dcall T.d_need_problem G_need_problem hr (pa_cons (pv 0) pa_nil)))
      (pss_one (ps_expr (dcall T.d_need_plan G_need_plan hr (pa_cons (pv 0) (pa_cons (pv 1) pa_nil)))))), ?_⟩
    refine ⟨_, rfl, p, n, D, S, U, W, rfl, hb, he, fun H1 s1 => ?_⟩
    refine ⟨_, rfl, _, rfl, p, x, n, D, S, U, W, X, rfl, hb.same s1, s1 _ _ hx, he.n2, hp, fun H2 s2 => ?_⟩
    exact q _ (s1.trans s2)
end
end Lp
/-! Costs, intervals, the improved plan. -/
namespace Lp
open PySem PySem.Spec PyProof.Rows L2
theorem small64b {z : Int} (h : 0 ≤ z ∧ z ≤ 999) : -(2 ^ 64) < z ∧ z < 2 ^ 64 := by
  have e : (2 : Int) ^ 64 = 18446744073709551616 := by decide
  rw [e]; omega
theorem cst_succ (D S U W X : Nat → Int) (i : Nat) : cst D S U W X (i + 1) = cst D S U W X i + (W i * stk D X i + U i * X i) + (if 0 < X i then S i else 0) := by
  unfold cst
  show ss S X i + (if 0 < X i then S i else 0) + (us U X i + U i * X i) + (hs W D X i + W i * stk D X i) = _
  generalize (if 0 < X i then S i else 0) = a
  generalize W i * stk D X i = b
  generalize U i * X i = c
  omega
theorem inV_stN {n k : Nat} {X : Nat → Int} (hk : k < n) : inV (.int (k : Nat)) (NV (stN n X)) = decide (0 < X k) := by
  unfold inV NV
  rw [List.any_map]
  by_cases h : 0 < X k
  · rw [decide_eq_true h, List.any_eq_true]
    exact ⟨k, stN_mem.mpr ⟨hk, h⟩, by simp [eqV]⟩
  · rw [decide_eq_false h, List.any_eq_false]
    intro s hs
    have h2 := (stN_mem.mp hs).2
    have e : ((s : Nat) : Int) ≠ (k : Nat) := fun z => h (by
      have z2 : s = k := by omega
      rw [← z2]; exact h2)
    simpa [eqV] using e
theorem NV_flat (l : List Nat) : (NV l).all flatV = true := by
  unfold NV
  rw [List.all_map, List.all_eq_true]
  intro s _
  rfl
theorem NV_get {l : List Nat} {i : Nat} {x : V} (h : (NV l)[i]? = some x) : ∃ s, s ∈ l ∧ x = .int (s : Nat) := by
  unfold NV at h
  rw [List.getElem?_map] at h
  cases e : l[i]? with
  | none => rw [e] at h; cases h
  | some s =>
    rw [e] at h
    exact ⟨s, List.mem_of_getElem? e, (Option.some.inj h).symm⟩
def bV : Option Nat → V
  | none => .non
  | some b => .int (b : Nat)
section
variable {P : Program} {w : World} {K : PySem.W.Frag} {mg : Str → Option Value} {base : Heap} {f : Nat → Addr} {fd : Nat → FuncData}

def spCostOf : Sp := fun vs H Q _ => ∃ (p x : Addr) (n : Nat) (D S U W X : Nat → Int), vs = [.ref p, .ref x] ∧ Pb H p n D S U W ∧ Ent n D S U W ∧ H x = some (.tup (TI n X)) ∧ ∀ H', Same H H' → Q (.int (cst D S U W X n)) H'
theorem ok_cost_of (T : Txt K mg f fd) : FnOk P w K mg base CX0 2 (f 8) (fd 8) ["problem", "plan"] spCostOf := by
  have G_stock_row := ok_stock_row (P := P) (w := w) (base := base) T
  refine T.d_cost_of.F.ok sc_cost_of (fun vs H Q E h => ?_) (fun cdv A outer s H vs Q E hr h => ?_)
  · obtain ⟨p, x, n, D, S, U, W, X, rfl, _⟩ := h
    rfl
  · obtain ⟨p, x, n, D, S, U, W, X, rfl, hb, he, hx, q⟩ := h
    obtain ⟨d, st, u, v, h0, h1, h2, h3, h4⟩ := hb.ex
    have hn := he.n2
    refine ⟨_, (pss_cons (ps_set (i := 2) sc_cost_of.nd rfl (Or.inl rfl) pe_int)
      (pss_cons (ps_for PassesOwn.never rfl (pi_enumK rfl (by rfl) T.z_enumerate (pa_cons (dcall T.d_stock_row G_stock_row hr (pa_cons (pe_ix (ix_tupK rfl) (pv 0) pe_int (fun _ _ => rfl)) (pa_cons (pv 1) pa_nil))) pa_nil)) (pg_tup rfl (pgs_cons (pg_name (i := 3) sc_cost_of.nd rfl (Or.inl rfl)) (pgs_cons (pg_name (i := 4) sc_cost_of.nd rfl (Or.inl rfl)) pgs_nil))) (pss_cons (ps_aug (i := 2) sc_cost_of.nd rfl (Or.inl rfl) (pe_op op_add (pe_op op_mul (pe_ix (ix_tupK rfl) (pe_ix (ix_tupK rfl) (pv 0) pe_int (fun _ _ => rfl)) (pv 3) (fun _ _ => rfl)) (pv 4)) (pe_op op_mul (pe_ix (ix_tupK rfl) (pe_ix (ix_tupK rfl) (pv 0) pe_int (fun _ _ => rfl)) (pv 3) (fun _ _ => rfl)) (pe_ix (ix_tupK rfl) (pv 1) (pv 3) (fun _ _ => rfl)))) ip_add)
      (pss_one (ps_aug (i := 2) sc_cost_of.nd rfl (Or.inl rfl) (pe_ifExp (pt_cmpR op_gt (pe_ix (ix_tupK rfl) (pv 1) (pv 3) (fun _ _ => rfl)) pe_int (nomark _)) (pe_ix (ix_tupK rfl) (pe_ix (ix_tupK rfl) (pv 0) pe_int (fun _ _ => rfl)) (pv 3) (fun _ _ => rfl)) pe_int) ip_add))))
      (pss_one (ps_ret (pv 2))))), ?_⟩
    refine ⟨_, rfl, p, _, _, _, rfl, rfl, .inl (.inl h0), atI_nat (j := 0) rfl, _, rfl, d, x, n, D, X, rfl, h1, hx, hn, fun H2 l2 s2 nl2 e2 => ?_⟩
    refine ⟨l2, _, rfl, .inl (.inl e2), ?_⟩
    refine for_it (walk_enum (K := K) (a := l2) (xs := TI n (stk D X))) (fun i σ H3 => ∃ y3 y4, σ = [some (.ref p), some (.ref x), some (.int (cst D S U W X i)), y3, y4] ∧ Same H2 H3) ⟨none, none, rfl, Same.refl _⟩
      (fun i σ H3 _ ⟨_, _, _, s3⟩ => .inl (.inl (s3 _ _ e2))) ?_ ?_
    · rintro i y σ H3 H4 hi ⟨y3, y4, rfl, s3⟩ ⟨t, a, b, rfl, nt, rfl, ea, eb⟩
      cases Option.some.inj ea
      obtain ⟨hin, rfl⟩ := TI_some eb
      have s4 := (s2.trans s3).lpNew (.tup [.int (i : Nat), .int (stk D X i)]) nt
      have g0 := s4 _ _ h0
      have gx := s4 _ _ hx
      refine ⟨t, _, rfl, .inl (.inl upd_same), rfl, _, _, rfl, _, _, rfl, rfl, ?_⟩
      refine ⟨_, rfl, _, rfl, p, _, _, _, rfl, rfl, .inl (.inl g0), atI_nat (j := 3) rfl, _, rfl, v, _, _, _, rfl, rfl, .inl (.inl (s4 _ _ h4)), at_TI hin, _, rfl, _, _, rfl, rfl, .inl (small64b (he.w i hin)), ?_⟩
      refine ⟨_, rfl, p, _, _, _, rfl, rfl, .inl (.inl g0), atI_nat (j := 2) rfl, _, rfl, u, _, _, _, rfl, rfl, .inl (.inl (s4 _ _ h3)), at_TI hin, _, rfl, _, rfl, x, _, _, _, rfl, rfl, .inl (.inl gx), at_TI hin, _, _, rfl, rfl, .inl (small64b (he.u i hin)), _, _, rfl, rfl, _, _, rfl, rfl, ?_⟩
      refine ⟨_, rfl, _, rfl, _, rfl, x, _, _, _, rfl, rfl, .inl (.inl gx), at_TI hin, _, _, rfl, rfl, _, rfl, ite2 (fun e => ?_) (fun e => ?_)⟩
      · have e0 : 0 < X i := of_decide_eq_true e
        refine ⟨_, rfl, p, _, _, _, rfl, rfl, .inl (.inl g0), atI_nat (j := 1) rfl, _, rfl, st, _, _, _, rfl, rfl, .inl (.inl (s4 _ _ h2)), at_TI hin, _, _, rfl, rfl, ?_⟩
        refine ⟨some (.int (i : Nat)), some (.int (stk D X i)), ?_, s3.lpNew _ nt⟩
        rw [cst_succ, if_pos e0]
        rfl
      · have e0 : ¬ 0 < X i := fun z => e (decide_eq_true z)
        refine ⟨_, _, rfl, rfl, ?_⟩
        refine ⟨some (.int (i : Nat)), some (.int (stk D X i)), ?_, s3.lpNew _ nt⟩
        rw [cst_succ, if_neg e0]
        rfl
    · rintro σ H3 ⟨y3, y4, rfl, s3⟩
      rw [TI_len]
      exact ⟨_, rfl, q _ (s2.trans s3)⟩

def spCost : Sp := fun vs H Q _ => ∃ (p x : Addr) (n : Nat) (D S U W X : Nat → Int), vs = [.ref p, .ref x] ∧ Pb H p n D S U W ∧ Ent n D S U W ∧ H x = some (.tup (TI n X)) ∧ Plan n D X ∧ ∀ H', Same H H' → Q (.int (cst D S U W X n)) H'
theorem ok_cost (T : Txt K mg f fd) : FnOk P w K mg base CX0 5 (f 9) (fd 9) ["problem", "plan"] spCost := by
  have G_need_both := ok_need_both (P := P) (w := w) (base := base) T
  have G_cost_of := ok_cost_of (P := P) (w := w) (base := base) T
  refine T.d_cost.F.ok sc_cost (fun vs H Q E h => ?_) (fun cdv A outer s H vs Q E hr h => ?_)
  · obtain ⟨p, x, n, D, S, U, W, X, rfl, _⟩ := h
    rfl
  · obtain ⟨p, x, n, D, S, U, W, X, rfl, hb, he, hx, hp, q⟩ := h
    refine ⟨_, (pss_cons (ps_expr (dcall T.d_need_both G_need_both hr (pa_cons (pv 0) (pa_cons (pv 1) pa_nil))))
      (pss_one (ps_ret (dcall T.d_cost_of G_cost_of hr (pa_cons (pv 0) (pa_cons (pv 1) pa_nil)))))), ?_⟩
    refine ⟨_, rfl, _, rfl, p, x, n, D, S, U, W, X, rfl, hb, he, hx, hp, fun H1 s1 => ?_⟩
    exact ⟨_, rfl, _, rfl, p, x, n, D, S, U, W, X, rfl, hb.same s1, he, s1 _ _ hx, fun H2 s2 => q _ (s1.trans s2)⟩

def spInter : Sp := fun vs H Q _ => ∃ (p x : Addr) (n : Nat) (D S U W X : Nat → Int), vs = [.ref p, .ref x] ∧ Pb H p n D S U W ∧ Ent n D S U W ∧ H x = some (.tup (TI n X)) ∧ Plan n D X ∧ (∀ s, s < n → 0 < X s → ps X s - ps D s = 0) ∧ ∀ H', Same H H' → Q (.bl true) H'
theorem ok_is_interval (T : Txt K mg f fd) : FnOk P w K mg base CX0 5 (f 11) (fd 11) ["problem", "plan"] spInter := by
  have G_need_both := ok_need_both (P := P) (w := w) (base := base) T
  have G_stock_row := ok_stock_row (P := P) (w := w) (base := base) T
  have G_starts_in := ok_starts_in (P := P) (w := w) (base := base) T
  refine T.d_is_interval.F.ok sc_is_interval (fun vs H Q E h => ?_) (fun cdv A outer s H vs Q E hr h => ?_)
  · obtain ⟨p, x, n, D, S, U, W, X, rfl, _⟩ := h
    rfl
  · obtain ⟨p, x, n, D, S, U, W, X, rfl, hb, he, hx, hp, hi, q⟩ := h
    obtain ⟨d, st, u, v, h0, h1, h2, h3, h4⟩ := hb.ex
    have hn := he.n2
    refine ⟨_, (pss_cons (ps_expr (dcall T.d_need_both G_need_both hr (pa_cons (pv 0) (pa_cons (pv 1) pa_nil))))
      (pss_cons (ps_set (i := 2) sc_is_interval.nd rfl (Or.inr rfl) (dcall T.d_stock_row G_stock_row hr (pa_cons (pe_ix (ix_tupK rfl) (pv 0) pe_int (fun _ _ => rfl)) (pa_cons (pv 1) pa_nil))))
      (pss_one (ps_ret (pe_callB (cr_allK rfl rfl) (by rfl) T.z_all (by decide +kernel) (pa_cons (pe_lc (own := [("at", 3)]) (g := gName 3) (tt := tYes) rfl sc_is_interval.nd (pi_tupK rfl (dcall T.d_starts_in G_starts_in hr (pa_cons (pv 1) pa_nil))) (blkOk_by (N := ["problem", "plan", "row", "at"]) (sc := defScope s_is_interval) (by decide +kernel)) (fun _ _ _ _ _ => (pg_name (i := 3) sc_is_interval.nd rfl (Or.inl rfl))) (fun _ _ _ _ _ => pts_nil) (fun _ _ _ _ _ => (pe_or (pe_cmpR op_eq (pv 3) pe_int (nomark _)) (pe_one (pe_cmpR op_eq (pe_ix (ix_listK rfl) (pv 2) (pe_op op_sub (pv 3) pe_int) (fun _ _ => rfl)) pe_int (nomark _)))))) pa_nil)))))), ?_⟩
    refine ⟨_, rfl, _, rfl, p, x, n, D, S, U, W, X, rfl, hb, he, hx, hp, fun H1 s1 => ?_⟩
    refine ⟨_, rfl, p, _, _, _, rfl, rfl, .inl (.inl (s1 _ _ h0)), atI_nat (j := 0) rfl, _, rfl, d, x, n, D, X, rfl, s1 _ _ h1, s1 _ _ hx, hn, fun H2 l2 s2 nl2 e2 => ?_⟩
    refine ⟨_, rfl, x, n, X, rfl, (s1.trans s2) _ _ hx, hn, fun H3 l3 s3 nl3 e3 => ?_⟩
    refine ⟨l3, rfl, ⟨_, .inl (.inl e3)⟩, fun l4 nl4 => ?_⟩
    refine lc_it (walk_tup (K := K) (a := l3) (xs := NV (stN n X))) (fun i H5 => Same H3 H5 ∧ H5 l4 = some (.lst (BB true i))) ⟨same_upd _ nl4, upd_same⟩ (fun i H5 _ ⟨s5, _⟩ => .inl (.inl (s5 _ _ e3))) ?_ ?_
    · rintro i y H5 H6 hi6 ⟨s5, e5⟩ ⟨rfl, ex⟩
      obtain ⟨k, hk, rfl⟩ := NV_get ex
      obtain ⟨hkn, hxk⟩ := stN_mem.mp hk
      have hlen : i ≤ 1000 := by
        have a1 := stN_len n X
        unfold NV at hi6
        rw [List.length_map] at hi6
        omega
      have fin : ∃ acc, H6 l4 = some (HO.lst acc) ∧ acc.length < sizeLine ∧ Same H3 (upd H6 l4 (.lst (acc ++ [.bl true]))) ∧ (upd H6 l4 (.lst (acc ++ [.bl true]))) l4 = some (HO.lst (BB true (i + 1))) := by
        refine ⟨_, e5, by rw [BB_len]; exact small1000 hlen, fun b o h => ?_, by rw [upd_same, BB_succ]⟩
        rw [upd_ne (ne_of_none h nl4)]; exact s5 _ _ h
      refine ⟨rfl, tYesI ?_⟩
      refine ⟨_, rfl, rfl, _, rfl, ite2 (fun _ => fin) (fun e => ?_)⟩
      have ek : k ≠ 0 := fun z => e (by rw [z]; exact decide_eq_true rfl)
      refine ⟨_, rfl, _, rfl, _, _, rfl, rfl, l2, _, _, _, rfl, rfl, .inl (.inl (s5 _ _ (s3 _ _ e2))), at_of (j := k - 1) (by omega) (TI_get (show k - 1 < n by omega)), rfl, ?_⟩
      have e7 : stk D X (k - 1) = 0 := by
        have := hi k hkn hxk
        unfold stk
        rw [show k - 1 + 1 = k by omega]
        exact this
      rw [e7, decide_eq_true rfl]
      exact fin
    · rintro H5 ⟨s5, e5⟩
      refine ⟨l4, List.replicate (NV (stN n X)).length true, rfl, .inl (.inl e5), ?_⟩
      rw [all_rep]
      exact q _ (((s1.trans s2).trans s3).trans s5)

def spImp : Sp := fun vs H Q _ => ∃ (p x : Addr) (n : Nat) (D S U W X : Nat → Int), vs = [.ref p, .ref x] ∧ Pb H p n D S U W ∧ Ent n D S U W ∧ H x = some (.tup (TI n X)) ∧ Plan n D X ∧ ∀ H' l, Same H H' → H l = none → H' l = some (.tup (TI n (imp D U W X n))) → Q (.ref l) H'
theorem ok_improved (T : Txt K mg f fd) : FnOk P w K mg base CX0 5 (f 12) (fd 12) ["problem", "plan"] spImp := by
  have G_need_both := ok_need_both (P := P) (w := w) (base := base) T
  have G_starts_in := ok_starts_in (P := P) (w := w) (base := base) T
  have G_periods_of := ok_periods_of (P := P) (w := w) (base := base) T
  have G_kept := ok_kept (P := P) (w := w) (base := base) T
  refine T.d_improved.F.ok sc_improved (fun vs H Q E h => ?_) (fun cdv A outer s H vs Q E hr h => ?_)
  · obtain ⟨p, x, n, D, S, U, W, X, rfl, _⟩ := h
    rfl
  · obtain ⟨p, x, n, D, S, U, W, X, rfl, hb, he, hx, hp, q⟩ := h
    obtain ⟨d, st, u, v, h0, h1, h2, h3, h4⟩ := hb.ex
    have hn := he.n2
    refine ⟨_, (pss_cons (ps_expr (dcall T.d_need_both G_need_both hr (pa_cons (pv 0) (pa_cons (pv 1) pa_nil))))
      (pss_cons (ps_par3 (i := 2) (j := 3) (l := 4) rfl sc_improved.nd rfl rfl rfl (by decide) (by decide) (by decide) rfl rfl rfl (pa_cons (dcall T.d_starts_in G_starts_in hr (pa_cons (pv 1) pa_nil)) (pa_cons (pe_op op_rep (pe_lst (pa_cons pe_int pa_nil)) (dcall T.d_periods_of G_periods_of hr (pa_cons (pv 0) pa_nil))) (pa_cons pe_non pa_nil))) rfl)
      (pss_cons (ps_for PassesOwn.never rfl (pi_enumTK rfl (by rfl) T.z_enumerate (pa_cons (pe_ix (ix_tupK rfl) (pv 0) pe_int (fun _ _ => rfl)) pa_nil)) (pg_tup rfl (pgs_cons (pg_name (i := 5) sc_improved.nd rfl (Or.inl rfl)) (pgs_cons (pg_name (i := 6) sc_improved.nd rfl (Or.inl rfl)) pgs_nil))) (C8.pss_cut (ps_if ((pw_and (pt_cmpR (op_inK rfl) (pv 5) (pv 2) (by with_unfolding_all rfl)) (pw_and1 ((pw_or (pt_cmpR op_isN (pv 4) pe_non (nomark _)) (pw_or1 (pt_cmpR op_le (dcall T.d_kept G_kept hr (pa_cons (pv 0) (pa_cons (pv 5) (pa_cons (pv 5) pa_nil)))) (dcall T.d_kept G_kept hr (pa_cons (pv 0) (pa_cons (pv 4) (pa_cons (pv 5) pa_nil)))) (nomark _))))).pt))).pt (pss_one (ps_set (i := 4) sc_improved.nd rfl (Or.inl rfl) (pv 5))) pss_nil)
      (pss_one (ps_if (pt_cmpR op_notN (pv 4) pe_non (nomark _)) (pss_one (ps_augS (pv 3) (pv 4) (pget_listK rfl) (pv 6) ip_add set_list)) pss_nil))))
      (pss_one (ps_ret (pe_callTy (call_tupleK rfl) (by rfl) T.z_tuple (by decide +kernel) (pa_cons (pv 3) pa_nil))))))), ?_⟩
    refine ⟨_, rfl, _, rfl, p, x, n, D, S, U, W, X, rfl, hb, he, hx, hp, fun H1 s1 => ?_⟩
    refine ⟨_, rfl, x, n, X, rfl, s1 _ _ hx, hn, fun H2 tl s2 ntl e2 => ?_⟩
    have s02 := s1.trans s2
    refine ⟨by show 1 ≤ sizeLine; decide, fun z nz => ?_⟩
    refine ⟨_, rfl, p, n, D, S, U, W, rfl, (hb.same s02).same (same_upd _ nz), ?_⟩
    refine ⟨z, n, _, rfl, rfl, upd_same, by omega, by omega, ?_, fun fl nfl => ?_⟩
    · have h5 : [V.int 0].length * (n : Int).toNat = n := by
        show 1 * n = n
        omega
      rw [h5]
      exact Nat.le_of_lt (small1000 (by omega))
    have hrep : (List.replicate (n : Int).toNat [V.int 0]).flatten = TI n (fun _ => 0) := TI_rep n
    rw [hrep]
    have s2z : Same H2 (upd H2 z (.lst [.int 0])) := same_upd _ nz
    have s04 : Same H (upd (upd H2 z (.lst [.int 0])) fl (.lst (TI n (fun _ => 0)))) := (s02.trans s2z).lpNew _ nfl
    have nfl0 : H fl = none := (s02.trans s2z).free nfl
    have ne_tl : tl ≠ fl := ne_of_none (s2z _ _ e2) nfl
    refine ⟨_, _, _, rfl, ?_⟩
    refine ⟨_, rfl, p, _, _, _, rfl, rfl, .inl (.inl (s04 _ _ h0)), atI_nat (j := 0) rfl, d, _, rfl, .inl (.inl (s04 _ _ h1)), ?_⟩
    refine for_it (walk_enumT (K := K) (a := d) (xs := TI n D)) (fun k σ H3 => ∃ y5 y6, σ = [some (.ref p), some (.ref x), some (.ref tl), some (.ref fl), some (bV (bst U W X k)), y5, y6] ∧ Same H H3 ∧ H3 tl = some (.tup (NV (stN n X))) ∧ H3 fl = some (.lst (TI n (imp D U W X k))))
      ⟨none, none, rfl, s04, by rw [upd_ne ne_tl]; exact s2z _ _ e2, upd_same⟩ (fun i σ H3 _ ⟨_, _, _, s3, _⟩ => .inl (.inl (s3 _ _ h1))) ?_ ?_
    · rintro k y σ H3 H4 hi ⟨y5, y6, rfl, s3, et, ef⟩ ⟨t, a, b, rfl, nt, rfl, ea, eb⟩
      cases Option.some.inj ea
      obtain ⟨hkn, rfl⟩ := TI_some eb
      have s34 := same_upd (H := H3) (.tup [.int (k : Nat), .int (D k)]) nt
      have s4 := s3.trans s34
      have et4 := s34 _ _ et
      have ef4 := s34 _ _ ef
      refine ⟨t, _, rfl, .inl (.inl upd_same), rfl, _, _, rfl, _, _, rfl, rfl, ?_⟩
      refine ⟨fun σ' H' => σ' = [some (.ref p), some (.ref x), some (.ref tl), some (.ref fl), some (bV (bst U W X (k + 1))), some (.int (k : Nat)), some (.int (D k))] ∧ Same H H' ∧ H' tl = some (.tup (NV (stN n X))) ∧ H' fl = some (.lst (TI n (imp D U W X k))), ?_, ?_⟩
      · refine ⟨_, rfl, _, rfl, tl, _, rfl, .inr (.inl (.inl et4)), rfl, NV_flat _, ?_⟩
        refine ⟨_, (congrArg V.bl (inV_stN hkn)), ite2 (fun e => ?_) (fun e => ?_)⟩
        · have hxk : 0 < X k := of_decide_eq_true e
          cases eb0 : bst U W X k with
          | none =>
            have eb1 : bst U W X (k + 1) = some k := by
              show (match bst U W X k with | none => if 0 < X k then some k else none | some b => if 0 < X k ∧ kp U W k k ≤ kp U W b k then some k else some b) = some k
              rw [eb0]
              exact if_pos hxk
            refine ⟨_, rfl, rfl, true, rfl, iteT (iteT ?_)⟩
            refine ⟨_, rfl, ?_, s4, et4, ef4⟩
            rw [eb1]
            rfl
          | some b =>
            have hbk := (bst_best 0 eb0).lt
            refine ⟨_, rfl, rfl, false, rfl, iteF ?_⟩
            refine ⟨_, rfl, _, rfl, _, rfl, p, n, D, S, U, W, k, k, rfl, hb.same s4, Nat.le_refl _, hkn, fun H5 s5 => ?_⟩
            refine ⟨_, rfl, _, rfl, _, rfl, p, n, D, S, U, W, b, k, rfl, (hb.same s4).same s5, Nat.le_of_lt hbk, hkn, fun H6 s6 => ?_⟩
            have s56 := s5.trans s6
            refine ⟨_, _, rfl, rfl, _, rfl, ite2 (fun e2 => ?_) (fun e2 => ?_)⟩
            · have h7 : kp U W k k ≤ kp U W b k := of_decide_eq_true e2
              have eb1 : bst U W X (k + 1) = some k := by
                show (match bst U W X k with | none => if 0 < X k then some k else none | some b => if 0 < X k ∧ kp U W k k ≤ kp U W b k then some k else some b) = some k
                rw [eb0]
                exact if_pos ⟨hxk, h7⟩
              refine ⟨_, rfl, ?_, s4.trans s56, s56 _ _ et4, s56 _ _ ef4⟩
              rw [eb1]
              rfl
            · have h7 : ¬ kp U W k k ≤ kp U W b k := fun z => e2 (decide_eq_true z)
              have eb1 : bst U W X (k + 1) = some b := by
                show (match bst U W X k with | none => if 0 < X k then some k else none | some b => if 0 < X k ∧ kp U W k k ≤ kp U W b k then some k else some b) = some b
                rw [eb0]
                exact if_neg fun z => h7 z.2
              refine ⟨?_, s4.trans s56, s56 _ _ et4, s56 _ _ ef4⟩
              rw [eb1]
              rfl
        · have hxk : ¬ 0 < X k := fun z => e (decide_eq_true z)
          have eb1 : bst U W X (k + 1) = bst U W X k := by
            show (match bst U W X k with | none => if 0 < X k then some k else none | some b => if 0 < X k ∧ kp U W k k ≤ kp U W b k then some k else some b) = bst U W X k
            cases bst U W X k with
            | none => exact if_neg hxk
            | some b => exact if_neg fun z => hxk z.1
          refine iteF ⟨?_, s4, et4, ef4⟩
          rw [eb1]
          rfl
      · rintro σ' H5 ⟨rfl, s5, et5, ef5⟩
        cases eb1 : bst U W X (k + 1) with
        | none =>
          refine ⟨_, rfl, rfl, false, rfl, iteF ?_⟩
          refine ⟨some (.int (k : Nat)), some (.int (D k)), rfl, s5, et5, ?_⟩
          rw [imp_none eb1]
          exact ef5
        | some b =>
          have hbk := (bst_best 0 eb1).lt
          refine ⟨_, rfl, rfl, true, rfl, iteT ?_⟩
          refine ⟨_, rfl, _, rfl, fl, _, _, _, rfl, rfl, .inl (.inl ef5), at_TI (show b < n by omega), _, rfl, _, _, rfl, rfl, fl, _, _, b, rfl, rfl, ef5, ixN_nat (by rw [TI_len]; omega), ?_⟩
          refine ⟨some (.int (k : Nat)), some (.int (D k)), rfl, fun c o h => ?_, ?_, ?_⟩
          · rw [upd_ne (ne_of_none h nfl0)]
            exact s5 _ _ h
          · rw [upd_ne ne_tl]
            exact et5
          · rw [upd_same, imp_some eb1]
            exact congrArg (fun z => some (HO.lst z)) (TI_set n _ b _)
    · rintro σ H3 ⟨y5, y6, rfl, s3, et, ef⟩
      rw [TI_len] at ef
      refine ⟨_, rfl, fl, _, rfl, .inl ⟨.inl (.inl ef), fun r nr => ?_⟩⟩
      exact q _ r (s3.lpNew _ nr) (s3.free nr) upd_same
end
end Lp
/-! The law's draws. -/
namespace Lp
open PySem PySem.Spec PyProof.Rows L2
/-- a row of n entries was drawn -/
def Drawn (r a : Addr) (n : Nat) (m : Int) (H : Hp) (Q : VK) : Prop := ∀ (p : Addr) (g : Nat → Int) (H' : Hp), SameX r H H' → RowAt H' r a → H' p = some (.tup (TI n g)) → (∀ j, j < n → 0 ≤ g j ∧ g j ≤ m) → Q (.ref p) H'
theorem if_drawn {r a : Addr} {n : Nat} {m : Int} {H : Hp} {Q : VK} {c A B : Prop} [Decidable c] (hA : Drawn r a n m H Q → A) (hB : Drawn r a n m H Q → B) (h : Drawn r a n m H Q) : if c then A else B := ite2 (fun _ => hA h) fun _ => hB h
section
variable {P : Program} {w : World} {K : PySem.W.Frag} {mg : Str → Option Value} {base : Heap} {f : Nat → Addr} {fd : Nat → FuncData}

def spTaken (K : PySem.W.Frag) : Sp := fun vs H Q _ => ∃ (r a : Addr) (ns : List Int) (m : Int), vs = [.ref r, .int m] ∧ RowAt H r a ∧ Scr K H a ns ∧ 1 ≤ m ∧ m ≤ 1000 ∧
  ∀ (v : Int) (H' : Hp), 0 ≤ v → v < m → SameX r H H' → RowAt H' r a → Q (.int v) H'
theorem ok_law_taken (T : Txt K mg f fd) : FnOk P w K mg base CX0 1 (f 13) (fd 13) ["_law_row_here", "_law_many"] (spTaken K) := by
  refine T.d_law_taken.F.ok sc_law_taken (fun vs H Q E h => ?_) (fun cdv A outer s H vs Q E hr h => ?_)
  · obtain ⟨r, a, ns, m, rfl, _⟩ := h
    rfl
  · obtain ⟨r, a, ns, m, rfl, R, S, m1, m2, q⟩ := h
    obtain ⟨i, sd, z, hi, e⟩ := R.ex
    have hm0 : 0 < m := by omega
    have hdiv : 0 < m ∧ m < 1073741824 := ⟨hm0, by omega⟩
    have nn : ∀ y : Int, 0 ≤ y % m := fun y => Int.emod_nonneg y (by omega)
    have lt : ∀ y : Int, y % m < m := fun y => Int.emod_lt_of_pos y hm0
    refine ⟨_, (pss_cons (ps_if (pt_cmpR op_gt (pe_ix (ix_listK rfl) (pv 0) pe_int (fun _ _ => rfl)) pe_int (nomark _)) (pss_cons (ps_set (i := 2) sc_law_taken.nd rfl (Or.inl rfl) (pe_op op_mod (pe_callTy call_int1 (by rfl) T.z_int (by decide +kernel) (pa_cons (pe_ix (ix_listK rfl) (pv 0) pe_int (fun _ _ => rfl)) pa_nil)) (pv 1)))
      (pss_cons (ps_asg (pe_op op_fdiv (pe_ix (ix_listK rfl) (pv 0) pe_int (fun _ _ => rfl)) (pv 1)) (pg_sub (pv 0) pe_int set_list))
      (pss_one (ps_ret (pv 2))))) pss_nil)
      (pss_cons (ps_asg (pe_op op_add (pe_ix (ix_listK rfl) (pv 0) pe_int (fun _ _ => rfl)) pe_int) (pg_sub (pv 0) pe_int set_list))
      (pss_cons (ps_if (pt_cmpR op_gt (pe_ix (ix_listK rfl) (pv 0) pe_int (fun _ _ => rfl)) (pe_callB (call_lenK rfl) (by rfl) T.z_len PySem.boot_len (pa_cons (pe_ix (ix_listK rfl) (pv 0) pe_int (fun _ _ => rfl)) pa_nil)) (nomark _)) (pss_cons (ps_asg (pe_op op_mod (pe_callTy call_int1 (by rfl) T.z_int (by decide +kernel) (pa_cons (pe_op op_add (pe_op op_mul (pe_ix (ix_listK rfl) (pv 0) pe_int (fun _ _ => rfl)) pe_int) pe_int) pa_nil)) pe_int) (pg_sub (pv 0) pe_int set_list))
      (pss_one (ps_ret (pe_op op_mod (pe_callTy call_int1 (by rfl) T.z_int (by decide +kernel) (pa_cons (pe_op op_fdiv (pe_ix (ix_listK rfl) (pv 0) pe_int (fun _ _ => rfl)) pe_int) pa_nil)) (pv 1))))) pss_nil)
      (pss_cons (ps_set (i := 3) sc_law_taken.nd rfl (Or.inl rfl) (pe_ix (ix_listK rfl) (pe_ix (ix_listK rfl) (pv 0) pe_int (fun _ _ => rfl)) (pe_op op_sub (pe_ix (ix_listK rfl) (pv 0) pe_int (fun _ _ => rfl)) pe_int) (fun _ _ => rfl)))
      (pss_cons (ps_asg (pe_op op_mod (pe_callTy call_int1 (by rfl) T.z_int (by decide +kernel) (pa_cons (pe_op op_add (pe_op op_add (pe_op op_mul (pe_ix (ix_listK rfl) (pv 0) pe_int (fun _ _ => rfl)) pe_int) (pv 3)) pe_int) pa_nil)) pe_int) (pg_sub (pv 0) pe_int set_list))
      (pss_cons (ps_if (pt_cmpR op_ge (pv 3) (pe_op op_pow pe_int pe_int) (nomark _)) (pss_one (ps_asg (pe_op op_fdiv (pv 3) (pv 1)) (pg_sub (pv 0) pe_int set_list))) pss_nil)
      (pss_one (ps_ret (pe_op op_mod (pe_callTy call_int1 (by rfl) T.z_int (by decide +kernel) (pa_cons (pv 3) pa_nil)) (pv 1)))))))))), ?_⟩
    refine ⟨_, rfl, r, _, _, _, rfl, rfl, .inl (.inl e), atI_nat (j := 3) rfl, _, _, rfl, rfl, _, rfl, ite2 (fun _ => ?_) (fun _ => ?_)⟩
    · refine ⟨_, rfl, r, _, _, _, rfl, rfl, .inl (.inl e), atI_nat (j := 3) rfl, .inl ⟨_, rfl, _, rfl, _, _, rfl, rfl, hm0, ?_⟩⟩
      refine ⟨_, rfl, r, _, _, _, rfl, rfl, .inl (.inl e), atI_nat (j := 3) rfl, _, rfl, _, _, rfl, rfl, hdiv, ?_⟩
      refine ⟨_, rfl, r, _, _, 3, rfl, rfl, e, rfl, ?_⟩
      exact ⟨_, rfl, q _ _ (nn _) (lt _) ((SameX.refl r H).set _) ⟨i, sd, _, hi, upd_same⟩⟩
    · refine ⟨_, rfl, r, _, _, _, rfl, rfl, .inl (.inl e), atI_nat (j := 1) rfl, _, _, rfl, rfl, ?_⟩
      refine ⟨_, rfl, r, _, _, 1, rfl, rfl, e, rfl, ?_⟩
      have s1 : SameX r H (upd H r (.lst [.ref a, .int (i + 1), .int sd, .int z])) := (SameX.refl r H).set _
      have e1 : (upd H r (.lst [.ref a, .int (i + 1), .int sd, .int z])) r = some (.lst [.ref a, .int (i + 1), .int sd, .int z]) := upd_same
      have S1 := S.at R s1
      refine ⟨_, rfl, r, _, _, _, rfl, rfl, .inl (.inl e1), atI_nat (j := 1) rfl, _, rfl, r, _, _, _, rfl, rfl, .inl (.inl e1), atI_nat (j := 0) rfl, a, _, rfl, .inl S1, _, _, rfl, rfl, _, rfl, ite2 (fun _ => ?_) (fun ge => ?_)⟩
      · refine ⟨_, rfl, r, _, _, _, rfl, rfl, .inl (.inl e1), atI_nat (j := 2) rfl, _, _, rfl, rfl, .inr ⟨by decide, by decide⟩, _, _, rfl, rfl, .inl ⟨_, rfl, _, _, rfl, rfl, (show (0 : Int) < 2147483647 by decide), ?_⟩⟩
        refine ⟨_, rfl, r, _, _, 2, rfl, rfl, e1, rfl, ?_⟩
        refine ⟨_, rfl, r, _, _, _, rfl, rfl, .inl (.inl upd_same), atI_nat (j := 2) rfl, _, _, rfl, rfl, ⟨by decide, by decide⟩, .inl ⟨_, rfl, _, rfl, _, _, rfl, rfl, hm0, ?_⟩⟩
        exact q _ _ (nn _) (lt _) (s1.set _) ⟨i + 1, _, z, by omega, upd_same⟩
      · have hge : ¬ ((ns.map V.int).length : Int) < i + 1 := fun y => ge (decide_eq_true y)
        rw [List.length_map] at hge
        obtain ⟨j, rfl⟩ : ∃ j : Nat, i = (j : Int) := ⟨i.toNat, by omega⟩
        have hj : j < ns.length := by omega
        have gj : (ns.map V.int)[j]? = some (.int ns[j]) := by
          rw [List.getElem?_map, List.getElem?_eq_getElem hj]; rfl
        refine ⟨_, rfl, r, _, _, _, rfl, rfl, .inl (.inl e1), atI_nat (j := 0) rfl, _, rfl, r, _, _, _, rfl, rfl, .inl (.inl e1), atI_nat (j := 1) rfl, _, _, rfl, rfl, a, _, _, _, rfl, rfl, S1, at_of (j := j) (by omega) gj, ?_⟩
        refine ⟨_, rfl, r, _, _, _, rfl, rfl, .inl (.inl e1), atI_nat (j := 2) rfl, _, _, rfl, rfl, .inr ⟨by decide, by decide⟩, _, rfl, _, _, rfl, rfl, _, _, rfl, rfl, .inl ⟨_, rfl, _, _, rfl, rfl, (show (0 : Int) < 2147483647 by decide), ?_⟩⟩
        refine ⟨_, rfl, r, _, _, 2, rfl, rfl, e1, rfl, ?_⟩
        refine ⟨_, rfl, _, _, rfl, rfl, ⟨by decide, by decide, by decide⟩, _, _, rfl, rfl, _, rfl, ite2 (fun _ => ?_) (fun _ => ?_)⟩
        · refine ⟨_, rfl, _, rfl, _, _, rfl, rfl, hdiv, ?_⟩
          refine ⟨_, rfl, r, _, _, 3, rfl, rfl, upd_same, rfl, ?_⟩
          refine ⟨_, rfl, .inl ⟨_, rfl, _, rfl, _, _, rfl, rfl, hm0, ?_⟩⟩
          exact q _ _ (nn _) (lt _) ((s1.set _).set _) ⟨(j : Int) + 1, _, _, by omega, upd_same⟩
        · refine ⟨_, rfl, .inl ⟨_, rfl, _, rfl, _, _, rfl, rfl, hm0, ?_⟩⟩
          exact q _ _ (nn _) (lt _) (s1.set _) ⟨(j : Int) + 1, _, z, by omega, upd_same⟩

def spPick (K : PySem.W.Frag) : Sp := fun vs H Q _ => ∃ (r a t : Addr) (ns zs : List Int), vs = [.ref r, .ref t] ∧ RowAt H r a ∧ Scr K H a ns ∧ H t = some (.lst (zs.map V.int)) ∧ t ≠ r ∧ 1 ≤ zs.length ∧ zs.length ≤ 1000 ∧
  ∀ (v : Int) (H' : Hp), v ∈ zs → SameX r H H' → RowAt H' r a → Q (.int v) H'
theorem ok_law_pick (T : Txt K mg f fd) : FnOk P w K mg base CX0 2 (f 14) (fd 14) ["_law_row_here", "_law_things"] (spPick K) := by
  have G_law_taken := ok_law_taken (P := P) (w := w) (base := base) T
  refine T.d_law_pick.F.ok sc_law_pick (fun vs H Q E h => ?_) (fun cdv A outer s H vs Q E hr h => ?_)
  · obtain ⟨r, a, t, ns, zs, rfl, _⟩ := h
    rfl
  · obtain ⟨r, a, t, ns, zs, rfl, R, S, et, ntr, l1, l2, q⟩ := h
    refine ⟨_, (pss_one (ps_ret (pe_ix (ix_listK rfl) (pv 1) (dcall T.d_law_taken G_law_taken hr (pa_cons (pv 0) (pa_cons (pe_callB (call_lenK rfl) (by rfl) T.z_len PySem.boot_len (pa_cons (pv 1) pa_nil)) pa_nil))) (fun _ _ => rfl)))), ?_⟩
    refine ⟨_, rfl, _, rfl, _, rfl, t, _, rfl, .inl (.inl (.inl et)), r, a, ns, _, rfl, R, S, by rw [List.length_map]; omega, by rw [List.length_map]; omega, fun v H1 v0 v1 s1 R1 => ?_⟩
    rw [List.length_map] at v1
    obtain ⟨j, rfl⟩ : ∃ j : Nat, v = (j : Int) := ⟨v.toNat, by omega⟩
    have hj : j < zs.length := by omega
    have gj : (zs.map V.int)[j]? = some (.int zs[j]) := by
      rw [List.getElem?_map, List.getElem?_eq_getElem hj]; rfl
    exact ⟨t, _, _, _, rfl, rfl, .inl (.inl (s1 t _ ntr et)), atI_nat gj, q _ _ (List.getElem_mem hj) s1 R1⟩

def spEnt (K : PySem.W.Frag) : Sp := fun vs H Q _ => ∃ (r a : Addr) (ns : List Int) (n : Nat) (m k : Int), vs = [.ref r, .int n, .int m] ∧ RowAt H r a ∧ Scr K H a ns ∧ n ≤ 12 ∧ 1 ≤ m ∧ m ≤ 1000 ∧ m ≤ k + 1 ∧ Drawn r a n k H Q
theorem ok_law_entries (T : Txt K mg f fd) : FnOk P w K mg base CX0 2 (f 16) (fd 16) ["_law_row_here", "_law_many", "_law_most"] (spEnt K) := by
  have G_law_taken := ok_law_taken (P := P) (w := w) (base := base) T
  refine T.d_law_entries.F.ok sc_law_entries (fun vs H Q E h => ?_) (fun cdv A outer s H vs Q E hr h => ?_)
  · obtain ⟨r, a, ns, n, m, k, rfl, _⟩ := h
    rfl
  · obtain ⟨r, a, ns, n, m, k, rfl, R, S, hn, m1, m2, hmk, q⟩ := h
    refine ⟨_, (pss_one (ps_ret (pe_callTy (call_tupleK rfl) (by rfl) T.z_tuple (by decide +kernel) (pa_cons (pe_lc (own := [("_law_at", 3)]) (g := gName 3) (tt := tYes) rfl sc_law_entries.nd (pi_range1 (by rfl) T.z_range (pa_cons (pv 1) pa_nil)) (blkOk_by (N := ["_law_row_here", "_law_many", "_law_most", "_law_at"]) (sc := defScope s_law_entries) (by decide +kernel)) (fun _ _ _ _ _ => (pg_name (i := 3) sc_law_entries.nd rfl (Or.inl rfl))) (fun _ _ _ _ _ => pts_nil) (fun _ _ _ _ _ => (dcall T.d_law_taken G_law_taken hr (pa_cons (pv 0) (pa_cons (pv 2) pa_nil))))) pa_nil)))), ?_⟩
    refine ⟨_, rfl, n, rfl, by omega, by omega, fun l nl => ?_⟩
    refine lc_range (n := n) (fun i H1 => SameX r H H1 ∧ RowAt H1 r a ∧ ∃ g, H1 l = some (.lst (TI i g)) ∧ ∀ j, j < i → 0 ≤ g j ∧ g j ≤ k) ⟨(SameX.refl r H).lpAt _ nl, R.upd _ nl, fun _ => 0, upd_same, fun j hj => absurd hj (Nat.not_lt_zero j)⟩ ?_ ?_
    · rintro i H1 hi ⟨s1, R1, g, e1, hg⟩
      refine ⟨rfl, tYesI ?_⟩
      refine ⟨_, rfl, _, rfl, r, a, ns, m, rfl, R1, S.at R s1, m1, m2, fun v H2 v0 v1 s2 R2 => ?_⟩
      have nlr : l ≠ r := (R.ne nl).symm
      refine ⟨_, s2 l _ nlr e1, small_TI _ (by omega), (s1.trans s2).lpAt _ nl, ?_, fun j => if j = i then v else g j, ?_, fun j hj => ?_⟩
      · obtain ⟨i', sd', z', h1', h2'⟩ := R2.ex
        exact ⟨i', sd', z', h1', by rw [upd_ne nlr.symm]; exact h2'⟩
      · rw [upd_same, TI_app]
      · by_cases ej : j = i
        · simp only [if_pos ej]; omega
        · simp only [if_neg ej]; exact hg j (by omega)
    · rintro H1 ⟨s1, R1, g, e1, hg⟩
      refine ⟨l, _, rfl, .inl ⟨.inl (.inl e1), fun p np => ?_⟩⟩
      exact q p g _ (s1.lpNew _ np) (R1.upd _ np) upd_same hg

def spSteps (K : PySem.W.Frag) : Sp := fun vs H Q _ => ∃ (r a : Addr) (ns : List Int) (n : Nat) (m k : Int), vs = [.ref r, .int n, .int m] ∧ RowAt H r a ∧ Scr K H a ns ∧ n ≤ 12 ∧ 1 ≤ m ∧ m ≤ 1000 ∧ m + 1 ≤ k ∧ Drawn r a n k H Q
theorem ok_law_steps (T : Txt K mg f fd) : FnOk P w K mg base CX0 2 (f 17) (fd 17) ["_law_row_here", "_law_many", "_law_most"] (spSteps K) := by
  have G_law_taken := ok_law_taken (P := P) (w := w) (base := base) T
  refine T.d_law_steps.F.ok sc_law_steps (fun vs H Q E h => ?_) (fun cdv A outer s H vs Q E hr h => ?_)
  · obtain ⟨r, a, ns, n, m, k, rfl, _⟩ := h
    rfl
  · obtain ⟨r, a, ns, n, m, k, rfl, R, S, hn, m1, m2, hmk, q⟩ := h
    refine ⟨_, (pss_cons (ps_set (i := 3) sc_law_steps.nd rfl (Or.inr rfl) (dcall T.d_law_taken G_law_taken hr (pa_cons (pv 0) (pa_cons (pv 2) pa_nil))))
      (pss_one (ps_ret (pe_callTy (call_tupleK rfl) (by rfl) T.z_tuple (by decide +kernel) (pa_cons (pe_lc (own := [("_law_at", 4)]) (g := gName 4) (tt := tYes) rfl sc_law_steps.nd (pi_range1 (by rfl) T.z_range (pa_cons (pv 1) pa_nil)) (blkOk_by (N := ["_law_row_here", "_law_many", "_law_most", "_law_base", "_law_at"]) (sc := defScope s_law_steps) (by decide +kernel)) (fun _ _ _ _ _ => (pg_name (i := 4) sc_law_steps.nd rfl (Or.inl rfl))) (fun _ _ _ _ _ => pts_nil) (fun _ _ _ _ _ => (pe_op op_add (pv 3) (pe_ifExp (pt_cmpR op_eq (dcall T.d_law_taken G_law_taken hr (pa_cons (pv 0) (pa_cons pe_int pa_nil))) pe_int (nomark _)) (dcall T.d_law_taken G_law_taken hr (pa_cons (pv 0) (pa_cons pe_int pa_nil))) pe_int)))) pa_nil))))), ?_⟩
    refine ⟨_, rfl, _, rfl, r, a, ns, m, rfl, R, S, m1, m2, fun b H0 b0 b1 s0 R0 => ?_⟩
    have S0 := S.at R s0
    refine ⟨_, rfl, n, rfl, by omega, by omega, fun l nl => ?_⟩
    have nlr : l ≠ r := (R0.ne nl).symm
    refine lc_range (n := n) (fun i H1 => SameX r H0 H1 ∧ RowAt H1 r a ∧ ∃ g, H1 l = some (.lst (TI i g)) ∧ ∀ j, j < i → 0 ≤ g j ∧ g j ≤ k) ⟨(SameX.refl r H0).lpAt _ nl, R0.upd _ nl, fun _ => 0, upd_same, fun j hj => absurd hj (Nat.not_lt_zero j)⟩ ?_ ?_
    · rintro i H1 hi ⟨s1, R1, g, e1, hg⟩
      have fin : ∀ (v : Int) (H2 : Hp), 0 ≤ v → v ≤ k → SameX r H1 H2 → RowAt H2 r a → ∃ acc, H2 l = some (HO.lst acc) ∧ acc.length < sizeLine ∧ SameX r H0 (upd H2 l (.lst (acc ++ [.int v]))) ∧ RowAt (upd H2 l (.lst (acc ++ [.int v]))) r a ∧ ∃ g, (upd H2 l (.lst (acc ++ [.int v]))) l = some (HO.lst (TI (i + 1) g)) ∧ ∀ j, j < i + 1 → 0 ≤ g j ∧ g j ≤ k := by
        intro v H2 v0 v1 s2 R2
        refine ⟨_, s2 l _ nlr e1, small_TI _ (by omega), (s1.trans s2).lpAt _ nl, ?_, fun j => if j = i then v else g j, ?_, fun j hj => ?_⟩
        · obtain ⟨i', sd', z', h1', h2'⟩ := R2.ex
          exact ⟨i', sd', z', h1', by rw [upd_ne nlr.symm]; exact h2'⟩
        · rw [upd_same, TI_app]
        · by_cases ej : j = i
          · simp only [if_pos ej]; omega
          · simp only [if_neg ej]; exact hg j (by omega)
      refine ⟨rfl, tYesI ?_⟩
      refine ⟨_, rfl, _, rfl, r, a, ns, 3, rfl, R1, S0.at R0 s1, by decide, by decide, fun v H2 v0 v1 s2 R2 => ?_⟩
      refine ⟨rfl, _, rfl, ite2 (fun _ => ?_) (fun _ => ?_)⟩
      · refine ⟨_, rfl, r, a, ns, 3, rfl, R2, S0.at R0 (s1.trans s2), by decide, by decide, fun v' H3 v0' v1' s3 R3 => ?_⟩
        exact ⟨_, _, rfl, rfl, fin _ H3 (by omega) (by omega) (s2.trans s3) R3⟩
      · exact ⟨_, _, rfl, rfl, fin _ H2 (by omega) (by omega) s2 R2⟩
    · rintro H1 ⟨s1, R1, g, e1, hg⟩
      refine ⟨l, _, rfl, .inl ⟨.inl (.inl e1), fun p np => ?_⟩⟩
      exact q p g _ ((s0.trans s1).lpNew _ np) (R1.upd _ np) upd_same hg
end
end Lp
/-! The law's problem, its costs, its comparison. -/
namespace Lp
open PySem PySem.Spec PyProof.Rows L2
section
variable {P : Program} {w : World} {K : PySem.W.Frag} {mg : Str → Option Value} {base : Heap} {f : Nat → Addr} {fd : Nat → FuncData}

def spProb (K : PySem.W.Frag) : Sp := fun vs H Q _ => ∃ (r a : Addr) (ns : List Int) (n : Nat), vs = [.ref r, .int n] ∧ RowAt H r a ∧ Scr K H a ns ∧ 1 ≤ n ∧ n ≤ 12 ∧
  ∀ (p : Addr) (D S U W : Nat → Int) (H' : Hp), SameX r H H' → RowAt H' r a → Pb H' p n D S U W → Ent n D S U W → Q (.ref p) H'
theorem ok_law_problem (T : Txt K mg f fd) : FnOk P w K mg base CX0 3 (f 18) (fd 18) ["_law_row_here", "_law_many"] (spProb K) := by
  have G_law_taken := ok_law_taken (P := P) (w := w) (base := base) T
  have G_law_pick := ok_law_pick (P := P) (w := w) (base := base) T
  have G_law_entries := ok_law_entries (P := P) (w := w) (base := base) T
  have G_law_steps := ok_law_steps (P := P) (w := w) (base := base) T
  refine T.d_law_problem.F.ok sc_law_problem (fun vs H Q E h => ?_) (fun cdv A outer s H vs Q E hr h => ?_)
  · obtain ⟨r, a, ns, n, rfl, _⟩ := h
    rfl
  · obtain ⟨r, a, ns, n, rfl, R, S, n1, n2, q⟩ := h
    refine ⟨_, (pss_cons (ps_set (i := 2) sc_law_problem.nd rfl (Or.inl rfl) (dcall T.d_law_taken G_law_taken hr (pa_cons (pv 0) (pa_cons pe_int pa_nil))))
      (pss_cons (ps_if (pt_cmpR op_eq (pv 2) pe_int (nomark _)) (pss_one (ps_ret (pe_callTy (call_tupleK rfl) (by rfl) T.z_tuple (by decide +kernel) (pa_cons (pe_lc (own := [("_law_at", 3)]) (g := gName 3) (tt := tYes) rfl sc_law_problem.nd (pi_range1 (by rfl) T.z_range (pa_cons pe_int pa_nil)) (blkOk_by (N := ["_law_row_here", "_law_many", "_law_way", "_law_at", "_law_demands", "_law_setups", "_law_units"]) (sc := defScope s_law_problem) (by decide +kernel)) (fun _ _ _ _ _ => (pg_name (i := 3) sc_law_problem.nd rfl (Or.inl rfl))) (fun _ _ _ _ _ => pts_nil) (fun _ _ _ _ _ => (dcall T.d_law_entries G_law_entries hr (pa_cons (pv 0) (pa_cons (pv 1) (pa_cons (dcall T.d_law_pick G_law_pick hr (pa_cons (pv 0) (pa_cons (pe_lst (pa_cons pe_int (pa_cons pe_int pa_nil))) pa_nil))) pa_nil)))))) pa_nil)))) pss_nil)
      (pss_cons (ps_set (i := 4) sc_law_problem.nd rfl (Or.inl rfl) (dcall T.d_law_entries G_law_entries hr (pa_cons (pv 0) (pa_cons (pv 1) (pa_cons (dcall T.d_law_pick G_law_pick hr (pa_cons (pv 0) (pa_cons (pe_lst (pa_cons pe_int (pa_cons pe_int (pa_cons pe_int pa_nil)))) pa_nil))) pa_nil)))))
      (pss_cons (ps_set (i := 5) sc_law_problem.nd rfl (Or.inl rfl) (pe_ifExp (pt_cmpR op_lt (pv 2) pe_int (nomark _)) (dcall T.d_law_steps G_law_steps hr (pa_cons (pv 0) (pa_cons (pv 1) (pa_cons pe_int pa_nil)))) (dcall T.d_law_entries G_law_entries hr (pa_cons (pv 0) (pa_cons (pv 1) (pa_cons pe_int pa_nil))))))
      (pss_cons (ps_set (i := 6) sc_law_problem.nd rfl (Or.inl rfl) (pe_ifExp (pt_cmpR op_lt (pv 2) pe_int (nomark _)) (dcall T.d_law_steps G_law_steps hr (pa_cons (pv 0) (pa_cons (pv 1) (pa_cons pe_int pa_nil)))) (dcall T.d_law_entries G_law_entries hr (pa_cons (pv 0) (pa_cons (pv 1) (pa_cons pe_int pa_nil))))))
      (pss_one (ps_ret (pe_tup (pa_cons (pv 4) (pa_cons (pv 5) (pa_cons (pv 6) (pa_cons (pe_ifExp (pt_cmpR op_eq (pv 2) pe_int (nomark _)) (dcall T.d_law_steps G_law_steps hr (pa_cons (pv 0) (pa_cons (pv 1) (pa_cons pe_int pa_nil)))) (dcall T.d_law_entries G_law_entries hr (pa_cons (pv 0) (pa_cons (pv 1) (pa_cons pe_int pa_nil))))) pa_nil)))))))))))), ?_⟩
    refine ⟨_, rfl, r, a, ns, 5, rfl, R, S, by decide, by decide, fun way H1 w0 w1 s1 R1 => ?_⟩
    have S1 := S.at R s1
    refine ⟨_, rfl, rfl, _, rfl, ite2 (fun _ => ?_) (fun _ => ?_)⟩
    · -- way 4: great entries
      refine ⟨4, rfl, by decide, by decide, fun l nl => ?_⟩
      have nlr : l ≠ r := (R1.ne nl).symm
      refine lc_range (n := 4) (fun i H2 => SameX r H1 H2 ∧ RowAt H2 r a ∧ ∃ as : List Addr, as.length = i ∧ H2 l = some (.lst (as.map V.ref)) ∧ ∀ b, b ∈ as → ∃ g, H2 b = some (.tup (TI n g)) ∧ ∀ j, j < n → 0 ≤ g j ∧ g j ≤ 999)
        ⟨(SameX.refl r H1).lpAt _ nl, R1.upd _ nl, [], rfl, upd_same, fun b hb => nomatch hb⟩ ?_ ?_
      · rintro i H2 hi ⟨s2, R2, as, hlen, e2, hg⟩
        refine ⟨rfl, tYesI ?_⟩
        refine ⟨_, rfl, _, rfl, _, rfl, by show 2 ≤ sizeLine; decide, fun t nt => ?_⟩
        have s3 : SameX r H2 (upd H2 t (.lst [.int 2, .int 1000])) := (SameX.refl r H2).lpAt _ nt
        have R3 := R2.upd (.lst [.int 2, .int 1000]) nt
        refine ⟨r, a, t, ns, [2, 1000], rfl, R3, (S1.at R1 (s2.trans s3)), upd_same, (R2.ne nt).symm, by decide, by decide, fun m H4 hm s4 R4 => ?_⟩
        have hm2 : m = 2 ∨ m = 1000 := by simpa using hm
        refine ⟨r, a, ns, n, m, 999, rfl, R4, S1.at R1 ((s2.trans s3).trans s4), n2, by omega, by omega, by omega, fun p g H5 s5 R5 ep hgp => ?_⟩
        have s25 : SameX r H2 H5 := (s3.trans s4).trans s5
        have nlp : ∀ b, b ∈ as → b ≠ l := fun b hb => by
          obtain ⟨g', eb, _⟩ := hg b hb
          exact ne_of eb e2 (fun z => nomatch z)
        have npl : p ≠ l := ne_of ep (s25 l _ nlr e2) (fun z => nomatch z)
        refine ⟨_, s25 l _ nlr e2, by rw [List.length_map]; exact small1000 (by omega), (s2.trans s25).lpAt _ nl, ?_, as ++ [p], by rw [List.length_append, hlen]; rfl, ?_, fun b hb => ?_⟩
        · obtain ⟨i', sd', z', h1', h2'⟩ := R5.ex
          exact ⟨i', sd', z', h1', by rw [upd_ne nlr.symm]; exact h2'⟩
        · rw [upd_same, List.map_append]; rfl
        · rcases List.mem_append.mp hb with hb | hb
          · obtain ⟨g', eb, hg'⟩ := hg b hb
            exact ⟨g', by rw [upd_ne (nlp b hb)]; exact s25 b _ (R2.neT eb) eb, hg'⟩
          · rw [List.mem_singleton.mp hb]
            exact ⟨g, by rw [upd_ne npl]; exact ep, hgp⟩
      · rintro H2 ⟨s2, R2, as, hlen, e2, hg⟩
        refine ⟨l, _, rfl, .inl ⟨.inl (.inl e2), fun p np => ?_⟩⟩
        match as, hlen, e2, hg with
        | [b0, b1, b2, b3], _, e2, hg =>
          obtain ⟨g0, f0, k0⟩ := hg b0 (by simp)
          obtain ⟨g1, f1, k1⟩ := hg b1 (by simp)
          obtain ⟨g2, f2, k2⟩ := hg b2 (by simp)
          obtain ⟨g3, f3, k3⟩ := hg b3 (by simp)
          have sp := same_upd (.tup [V.ref b0, .ref b1, .ref b2, .ref b3]) np
          exact q p g0 g1 g2 g3 _ ((s1.trans s2).lpNew _ np) (R2.upd _ np) ⟨b0, b1, b2, b3, upd_same, sp _ _ f0, sp _ _ f1, sp _ _ f2, sp _ _ f3⟩ ⟨n1, n2, k0, k1, k2, k3⟩
    · -- the demands
      refine ⟨_, rfl, _, rfl, _, rfl, by show 3 ≤ sizeLine; decide, fun t nt => ?_⟩
      have s2 : SameX r H1 (upd H1 t (.lst [.int 3, .int 10, .int 30])) := (SameX.refl r H1).lpAt _ nt
      have R2 := R1.upd (.lst [.int 3, .int 10, .int 30]) nt
      refine ⟨r, a, t, ns, [3, 10, 30], rfl, R2, S1.at R1 s2, upd_same, (R1.ne nt).symm, by decide, by decide, fun m H3 hm s3 R3 => ?_⟩
      have hm2 : m = 3 ∨ m = 10 ∨ m = 30 := by simpa using hm
      have s13 := s2.trans s3
      refine ⟨r, a, ns, n, m, 999, rfl, R3, S1.at R1 s13, n2, by omega, by omega, by omega, fun b0 g0 H4 s4 R4 f0 k0 => ?_⟩
      have s14 := s13.trans s4
      have S4 := S1.at R1 s14
      -- the setups
      refine ⟨_, rfl, _, _, rfl, rfl, _, rfl, if_drawn (r := r) (a := a) (n := n) (m := 999) (fun d => ⟨_, rfl, _, rfl, r, a, ns, n, 60, 999, rfl, R4, S4, n2, by decide, by decide, by decide, d⟩) (fun d => ⟨_, rfl, _, rfl, r, a, ns, n, 40, 999, rfl, R4, S4, n2, by decide, by decide, by decide, d⟩) ?_⟩
      intro b1 g1 H5 s5 R5 f1 k1
      have S5 := S4.at R4 s5
      have f05 := s5 _ _ (R4.neT f0) f0
      -- the units
      refine ⟨_, rfl, _, _, rfl, rfl, _, rfl, if_drawn (r := r) (a := a) (n := n) (m := 999) (fun d => ⟨_, rfl, _, rfl, r, a, ns, n, 4, 999, rfl, R5, S5, n2, by decide, by decide, by decide, d⟩) (fun d => ⟨_, rfl, _, rfl, r, a, ns, n, 6, 999, rfl, R5, S5, n2, by decide, by decide, by decide, d⟩) ?_⟩
      intro b2 g2 H6 s6 R6 f2 k2
      have S6 := S5.at R5 s6
      have f06 := s6 _ _ (R5.neT f05) f05
      have f16 := s6 _ _ (R5.neT f1) f1
      -- the holdings, the tuple
      refine ⟨_, rfl, _, rfl, _, rfl, _, rfl, rfl, _, rfl, if_drawn (r := r) (a := a) (n := n) (m := 999) (fun d => ⟨_, rfl, _, rfl, r, a, ns, n, 3, 999, rfl, R6, S6, n2, by decide, by decide, by decide, d⟩) (fun d => ⟨_, rfl, _, rfl, r, a, ns, n, 4, 999, rfl, R6, S6, n2, by decide, by decide, by decide, d⟩) ?_⟩
      intro b3 g3 H7 s7 R7 f3 k3
      have f07 := s7 _ _ (R6.neT f06) f06
      have f17 := s7 _ _ (R6.neT f16) f16
      have f27 := s7 _ _ (R6.neT f2) f2
      refine ⟨by show 4 ≤ sizeLine; decide, fun p np => ?_⟩
      have sp := same_upd (.tup [V.ref b0, .ref b1, .ref b2, .ref b3]) np
      exact q p g0 g1 g2 g3 _ (((((s1.trans s14).trans s5).trans s6).trans s7).lpNew _ np) (R7.upd _ np) ⟨b0, b1, b2, b3, upd_same, sp _ _ f07, sp _ _ f17, sp _ _ f27, sp _ _ f3⟩ ⟨n1, n2, k0, k1, k2, k3⟩

theorem ok_law_row (T : Txt K mg f fd) : FnOk P w K mg base CX0 1 (f 19) (fd 19) ["_law_demands", "_law_plan"] spStock := by
  refine T.d_law_row.F.ok sc_law_row (fun vs H Q E h => ?_) (fun cdv A outer s H vs Q E hr h => ?_)
  · obtain ⟨d, x, n, D, X, rfl, _⟩ := h
    rfl
  · obtain ⟨d, x, n, D, X, rfl, hd, hx, hn, q⟩ := h
    refine ⟨_, (pss_cons (ps_par (i := 2) (j := 3) rfl sc_law_row.nd rfl rfl (by decide) rfl rfl (pa_cons (pe_lst pa_nil) (pa_cons pe_int pa_nil)) rfl)
      (pss_cons (ps_for PassesOwn.never rfl (pi_range1 (by rfl) T.z_range (pa_cons (pe_callB (call_lenK rfl) (by rfl) T.z_len PySem.boot_len (pa_cons (pv 0) pa_nil)) pa_nil)) (pg_name (i := 4) sc_law_row.nd rfl (Or.inl rfl)) (pss_cons (ps_set (i := 3) sc_law_row.nd rfl (Or.inl rfl) (pe_op op_sub (pe_op op_add (pv 3) (pe_ix (ix_tupK rfl) (pv 1) (pv 4) (fun _ _ => rfl))) (pe_ix (ix_tupK rfl) (pv 0) (pv 4) (fun _ _ => rfl))))
      (pss_one (ps_expr (pe_bm PySem.F.plainAttrs_list PySem.F.slot_list_append PySem.F.type_list_append mt_append (pv 2) (pa_cons (pv 3) pa_nil))))))
      (pss_one (ps_ret (pv 2))))), ?_⟩
    refine ⟨Nat.zero_le _, fun l nl => ⟨_, _, rfl, ?_⟩⟩
    have s0 := same_upd (.lst []) nl
    refine ⟨_, rfl, d, _, rfl, .inr (.inl (.inl (s0 _ _ hd))), ?_⟩
    rw [TI_len]
    refine ⟨n, rfl, by omega, by omega, ?_⟩
    refine for_range (n := n) (fun i σ H1 => ∃ y4, σ = [some (.ref d), some (.ref x), some (.ref l), some (.int (ps X i - ps D i)), y4] ∧ Same H H1 ∧ H1 l = some (.lst (TI i (stk D X))))
      ⟨none, rfl, s0, upd_same⟩ ?_ ?_
    · rintro i σ H1 hi ⟨y4, rfl, s1, e1⟩
      refine ⟨_, rfl, _, rfl, _, rfl, x, _, _, _, rfl, rfl, .inl (.inl (s1 _ _ hx)), at_of (j := i) (Int.zero_add _) (TI_get hi), _, _, rfl, rfl, _, rfl, _, rfl, d, _, _, _, rfl, rfl, .inl (.inl (s1 _ _ hd)), at_of (j := i) (Int.zero_add _) (TI_get hi), _, _, rfl, rfl, ?_⟩
      refine ⟨_, rfl, .inl ⟨rfl, _, .inl (.inl e1)⟩, _, rfl, l, _, _, rfl, rfl, e1, small_TI _ (by omega), ?_⟩
      have e : ps X i - ps D i + X i - D i = stk D X i := by
        show _ = ps X i + X i - (ps D i + D i)
        omega
      refine ⟨some (.int (0 + (i : Nat))), ?_, fun b o h => ?_, ?_⟩
      · show _ = [some (V.ref d), some (.ref x), some (.ref l), some (.int (stk D X i)), some (.int (0 + (i : Nat)))]
        rw [← e]
        rfl
      · rw [upd_ne (ne_of_none h nl)]
        exact s1 _ _ h
      · rw [upd_same, ← TI_snoc]
        exact congrArg (fun z => some (HO.lst (TI i (stk D X) ++ [V.int z]))) e
    · rintro σ H1 ⟨y4, rfl, s1, e1⟩
      exact ⟨_, rfl, q H1 l s1 nl e1⟩

theorem ok_law_cost (T : Txt K mg f fd) : FnOk P w K mg base CX0 2 (f 20) (fd 20) ["_law_problem_here", "_law_plan"] spCostOf := by
  have G_law_row := ok_law_row (P := P) (w := w) (base := base) T
  refine T.d_law_cost.F.ok sc_law_cost (fun vs H Q E h => ?_) (fun cdv A outer s H vs Q E hr h => ?_)
  · obtain ⟨p, x, n, D, S, U, W, X, rfl, _⟩ := h
    rfl
  · obtain ⟨p, x, n, D, S, U, W, X, rfl, hb, he, hx, q⟩ := h
    obtain ⟨d, st, u, v, h0, h1, h2, h3, h4⟩ := hb.ex
    have hn := he.n2
    refine ⟨_, (pss_cons (ps_par (i := 2) (j := 3) rfl sc_law_cost.nd rfl rfl (by decide) rfl rfl (pa_cons (dcall T.d_law_row G_law_row hr (pa_cons (pe_ix (ix_tupK rfl) (pv 0) pe_int (fun _ _ => rfl)) (pa_cons (pv 1) pa_nil))) (pa_cons pe_int pa_nil)) rfl)
      (pss_cons (ps_for PassesOwn.never rfl (pi_range1 (by rfl) T.z_range (pa_cons (pe_callB (call_lenK rfl) (by rfl) T.z_len PySem.boot_len (pa_cons (pv 1) pa_nil)) pa_nil)) (pg_name (i := 4) sc_law_cost.nd rfl (Or.inl rfl)) (pss_one (ps_set (i := 3) sc_law_cost.nd rfl (Or.inl rfl) (pe_op op_add (pe_op op_add (pe_op op_add (pv 3) (pe_ifExp (pt_cmpR op_gt (pe_ix (ix_tupK rfl) (pv 1) (pv 4) (fun _ _ => rfl)) pe_int (nomark _)) (pe_ix (ix_tupK rfl) (pe_ix (ix_tupK rfl) (pv 0) pe_int (fun _ _ => rfl)) (pv 4) (fun _ _ => rfl)) pe_int)) (pe_op op_mul (pe_ix (ix_tupK rfl) (pe_ix (ix_tupK rfl) (pv 0) pe_int (fun _ _ => rfl)) (pv 4) (fun _ _ => rfl)) (pe_ix (ix_tupK rfl) (pv 1) (pv 4) (fun _ _ => rfl)))) (pe_op op_mul (pe_ix (ix_tupK rfl) (pe_ix (ix_tupK rfl) (pv 0) pe_int (fun _ _ => rfl)) (pv 4) (fun _ _ => rfl)) (pe_ix (ix_listK rfl) (pv 2) (pv 4) (fun _ _ => rfl)))))))
      (pss_one (ps_ret (pv 3))))), ?_⟩
    refine ⟨_, rfl, p, _, _, _, rfl, rfl, .inl (.inl h0), atI_nat (j := 0) rfl, _, rfl, d, x, n, D, X, rfl, h1, hx, hn, fun H2 l2 s2 nl2 e2 => ⟨_, _, rfl, ?_⟩⟩
    refine ⟨_, rfl, x, _, rfl, .inr (.inl (.inl (s2 _ _ hx))), ?_⟩
    rw [TI_len]
    refine ⟨n, rfl, by omega, by omega, ?_⟩
    have g0 := s2 _ _ h0
    have gx := s2 _ _ hx
    refine for_range (n := n) (fun i σ H3 => ∃ y4, σ = [some (.ref p), some (.ref x), some (.ref l2), some (.int (cst D S U W X i)), y4] ∧ H3 = H2) ⟨none, rfl, rfl⟩ ?_ ?_
    · rintro i σ H3 hin ⟨y4, rfl, rfl⟩
      have ai : ∀ {g : Nat → Int}, atI (TI n g) (0 + (i : Nat)) = some (.int (g i)) := fun {g} => at_of (j := i) (Int.zero_add _) (TI_get hin)
      have eq1 : ∀ c : Int, cst D S U W X i + c + U i * X i + W i * stk D X i = cst D S U W X i + (W i * stk D X i + U i * X i) + c := fun c => by
        generalize W i * stk D X i = b
        generalize U i * X i = c
        omega
      have fin : ∀ c : Int, c = (if 0 < X i then S i else 0) → ∃ y4, ([some (V.ref p), some (.ref x), some (.ref l2), some (.int (cst D S U W X i + c + U i * X i + W i * stk D X i)), some (.int (0 + (i : Nat)))] : List (Option V)) = [some (.ref p), some (.ref x), some (.ref l2), some (.int (cst D S U W X (i + 1))), y4] ∧ H3 = H3 := fun c hc => by
        refine ⟨some (.int (0 + (i : Nat))), ?_, rfl⟩
        rw [eq1, cst_succ, hc]
      refine ⟨_, rfl, _, rfl, _, rfl, x, _, _, _, rfl, rfl, .inl (.inl gx), ai, _, _, rfl, rfl, _, rfl, ite2 (fun e => ?_) (fun e => ?_)⟩
      · have e0 : 0 < X i := of_decide_eq_true e
        refine ⟨_, rfl, p, _, _, _, rfl, rfl, .inl (.inl g0), atI_nat (j := 1) rfl, _, rfl, st, _, _, _, rfl, rfl, .inl (.inl (s2 _ _ h2)), ai, _, _, rfl, rfl, ?_⟩
        refine ⟨_, rfl, p, _, _, _, rfl, rfl, .inl (.inl g0), atI_nat (j := 2) rfl, _, rfl, u, _, _, _, rfl, rfl, .inl (.inl (s2 _ _ h3)), ai, _, rfl, _, rfl, x, _, _, _, rfl, rfl, .inl (.inl gx), ai, _, _, rfl, rfl, .inl (small64b (he.u i hin)), _, _, rfl, rfl, ?_⟩
        refine ⟨_, rfl, p, _, _, _, rfl, rfl, .inl (.inl g0), atI_nat (j := 3) rfl, _, rfl, v, _, _, _, rfl, rfl, .inl (.inl (s2 _ _ h4)), ai, _, rfl, _, rfl, l2, _, _, _, rfl, rfl, .inl (.inl e2), ai, _, _, rfl, rfl, .inl (small64b (he.w i hin)), _, _, rfl, rfl, ?_⟩
        exact fin (S i) (by rw [if_pos e0])
      · have e0 : ¬ 0 < X i := fun z => e (decide_eq_true z)
        refine ⟨_, _, rfl, rfl, ?_⟩
        refine ⟨_, rfl, p, _, _, _, rfl, rfl, .inl (.inl g0), atI_nat (j := 2) rfl, _, rfl, u, _, _, _, rfl, rfl, .inl (.inl (s2 _ _ h3)), ai, _, rfl, _, rfl, x, _, _, _, rfl, rfl, .inl (.inl gx), ai, _, _, rfl, rfl, .inl (small64b (he.u i hin)), _, _, rfl, rfl, ?_⟩
        refine ⟨_, rfl, p, _, _, _, rfl, rfl, .inl (.inl g0), atI_nat (j := 3) rfl, _, rfl, v, _, _, _, rfl, rfl, .inl (.inl (s2 _ _ h4)), ai, _, rfl, _, rfl, l2, _, _, _, rfl, rfl, .inl (.inl e2), ai, _, _, rfl, rfl, .inl (small64b (he.w i hin)), _, _, rfl, rfl, ?_⟩
        exact fin 0 (by rw [if_neg e0])
    · rintro σ H3 ⟨y4, rfl, rfl⟩
      exact ⟨_, rfl, q _ s2⟩

theorem ok_law_kept (T : Txt K mg f fd) : FnOk P w K mg base CX0 1 (f 22) (fd 22) ["_law_problem_here", "_law_start", "_law_goal"] spKept := by
  refine T.d_law_kept.F.ok sc_law_kept (fun vs H Q E h => ?_) (fun cdv A outer s H vs Q E hr h => ?_)
  · obtain ⟨p, n, D, S, U, W, s, t, rfl, _⟩ := h
    rfl
  · obtain ⟨p, n, D, S, U, W, s, t, rfl, hb, hst, htn, q⟩ := h
    obtain ⟨d, st, u, v, h0, h1, h2, h3, h4⟩ := hb.ex
    refine ⟨_, (pss_one (ps_ret (pe_op op_add (pe_ix (ix_tupK rfl) (pe_ix (ix_tupK rfl) (pv 0) pe_int (fun _ _ => rfl)) (pv 1) (fun _ _ => rfl)) (pe_callB (cr_sumTK rfl rfl) (by rfl) T.z_sum (by decide +kernel) (pa_cons (pe_slice (sl_tupK rfl) (pe_ix (ix_tupK rfl) (pv 0) pe_int (fun _ _ => rfl)) (po_some (pv 1)) (po_some (pv 2))) pa_nil))))), ?_⟩
    refine ⟨_, rfl, p, _, _, _, rfl, rfl, .inl (.inl h0), atI_nat (j := 2) rfl, _, rfl, u, _, _, _, rfl, rfl, .inl (.inl h3), at_TI (show s < n by omega), ?_⟩
    refine ⟨_, rfl, p, _, _, _, rfl, rfl, .inl (.inl h0), atI_nat (j := 3) rfl, _, rfl, _, rfl, _, rfl, _, rfl, v, _, rfl, .inl (.inl h4), ?_, fun c nc => ?_⟩
    · rw [TI_len, HT.sIx_nat, HT.sIx_nat]; omega
    · rw [TI_cut W hst (Nat.le_of_lt htn)]
      refine ⟨c, (List.range (t - s)).map (fun i => W (s + i)), rfl, tuple_sum upd_same, _, _, rfl, rfl, ?_⟩
      rw [range_sum, ps_shift, show s + (t - s) = t by omega]
      exact q _ (same_upd _ nc)

def spAlike1 : Sp := fun vs H Q _ => ∃ i : Int, vs = [.int i, .int i] ∧ ∀ H', Same H H' → Q (.bl true) H'
theorem clsTL : Paired ClsV [V.ty "tuple", V.ty "list"] [Value.type "tuple", Value.type "list"] := .cons (.ty _) (.cons (.ty _) .nil)
theorem ok_alike1 (T : Txt K mg f fd) : FnOk P w K mg base CX0 1 (f 15) (fd 15) ["_law_found", "_law_due"] spAlike1 := by
  refine T.d_law_alike.F.ok sc_law_alike (fun vs H Q E h => ?_) (fun cdv A outer s H vs Q E hr h => ?_)
  · obtain ⟨i, rfl, _⟩ := h
    rfl
  · obtain ⟨i, rfl, q⟩ := h
    refine ⟨_, (pss_cons (ps_if (pt_val (pe_callB (call_isiTK rfl) (by rfl) T.z_isinstance (by decide +kernel) (pa_cons (pv 1) (pa_cons (pe_tup (pa_cons (pe_bltn (v := .ty "tuple") (by rfl) T.z_tuple (by decide +kernel) rfl) (pa_cons (pe_bltn (v := .ty "list") (by rfl) T.z_list (by decide +kernel) rfl) pa_nil))) pa_nil)))) pss_never pss_nil)
      (pss_cons (ps_if ((pw_or (pt_cmpR op_isN (pv 1) pe_non (nomark _)) (pw_or1 (pt_val (pe_callB (call_isiK1 rfl) (by rfl) T.z_isinstance (by decide +kernel) (pa_cons (pv 1) (pa_cons (pe_bltn (v := .ty "str") (by rfl) T.z_str (by decide +kernel) rfl) pa_nil))))))).pt (pss_one (ps_ret (pe_and (pe_cmpR op_eq (pv 0) (pv 1) (nomark _)) (pe_one (pe_cmpR op_eq (pe_callB (call_isiK1 rfl) (by rfl) T.z_isinstance (by decide +kernel) (pa_cons (pv 0) (pa_cons (pe_bltn (v := .ty "str") (by rfl) T.z_str (by decide +kernel) rfl) pa_nil))) (pe_callB (call_isiK1 rfl) (by rfl) T.z_isinstance (by decide +kernel) (pa_cons (pv 1) (pa_cons (pe_bltn (v := .ty "str") (by rfl) T.z_str (by decide +kernel) rfl) pa_nil))) (nomark _)))))) pss_nil)
      (pss_one (ps_ret (pe_and (pe_callB (call_isiK1 rfl) (by rfl) T.z_isinstance (by decide +kernel) (pa_cons (pv 0) (pa_cons (pe_bltn (v := .ty "int") (by rfl) T.z_int (by decide +kernel) rfl) pa_nil))) (pe_and (pe_cmpR op_eq (pe_callB (call_isiK1 rfl) (by rfl) T.z_isinstance (by decide +kernel) (pa_cons (pv 0) (pa_cons (pe_bltn (v := .ty "bool") (by rfl) T.z_bool (by decide +kernel) rfl) pa_nil))) (pe_callB (call_isiK1 rfl) (by rfl) T.z_isinstance (by decide +kernel) (pa_cons (pv 1) (pa_cons (pe_bltn (v := .ty "bool") (by rfl) T.z_bool (by decide +kernel) rfl) pa_nil))) (nomark _)) (pe_one (pe_cmpR op_eq (pv 0) (pv 1) (nomark _))))))))), ?_⟩
    refine ⟨_, rfl, by show 2 ≤ sizeLine; decide, fun t nt => ?_⟩
    refine ⟨_, t, _, _, _, false, rfl, upd_same, clsTL, .base (.int i), kitAny_cons (kitT false (by decide +kernel)) (fun _ => kitAny_cons (kitT false (by decide +kernel)) (fun _ => kitAny_nil) (fun z => nomatch z)) (fun z => nomatch z), false, rfl, iteF ?_⟩
    refine ⟨_, rfl, rfl, false, rfl, iteF ?_⟩
    refine ⟨_, rfl, _, _, _, _, false, rfl, .ty "str", .base (.int i), kitT false (by decide +kernel), false, rfl, iteF ?_⟩
    refine ⟨_, rfl, _, _, _, _, true, rfl, .ty "int", .base (.int i), kitT true (by decide +kernel), true, rfl, iteT ?_⟩
    refine ⟨_, rfl, _, _, _, _, false, rfl, .ty "bool", .base (.int i), kitT false (by decide +kernel), ?_⟩
    refine ⟨_, rfl, _, _, _, _, false, rfl, .ty "bool", .base (.int i), kitT false (by decide +kernel), rfl, true, rfl, iteT ?_⟩
    refine ⟨_, rfl, _, rfl, rfl, ?_⟩
    rw [decide_eq_true rfl]
    exact q _ (same_upd _ nt)

def spAlike : Sp := fun vs H Q _ => ∃ (x y : Addr) (n : Nat) (g : Nat → Int), vs = [.ref x, .ref y] ∧ H x = some (.tup (TI n g)) ∧ H y = some (.tup (TI n g)) ∧ n ≤ 12 ∧ ∀ H', Same H H' → Q (.bl true) H'
theorem ok_law_alike (T : Txt K mg f fd) : FnOk P w K mg base CX0 2 (f 15) (fd 15) ["_law_found", "_law_due"] spAlike := by
  have G_law_alike := ok_alike1 (P := P) (w := w) (base := base) T
  refine T.d_law_alike.F.ok sc_law_alike (fun vs H Q E h => ?_) (fun cdv A outer s H vs Q E hr h => ?_)
  · obtain ⟨x, y, n, g, rfl, _⟩ := h
    rfl
  · obtain ⟨x, y, n, g, rfl, hx, hy, hn, q⟩ := h
    refine ⟨_, (pss_cons (ps_if (pt_val (pe_callB (call_isiTK rfl) (by rfl) T.z_isinstance (by decide +kernel) (pa_cons (pv 1) (pa_cons (pe_tup (pa_cons (pe_bltn (v := .ty "tuple") (by rfl) T.z_tuple (by decide +kernel) rfl) (pa_cons (pe_bltn (v := .ty "list") (by rfl) T.z_list (by decide +kernel) rfl) pa_nil))) pa_nil)))) (pss_cons (ps_if ((pw_or (pt_not (pt_val (pe_callB (call_isiTK rfl) (by rfl) T.z_isinstance (by decide +kernel) (pa_cons (pv 0) (pa_cons (pe_tup (pa_cons (pe_bltn (v := .ty "tuple") (by rfl) T.z_tuple (by decide +kernel) rfl) (pa_cons (pe_bltn (v := .ty "list") (by rfl) T.z_list (by decide +kernel) rfl) pa_nil))) pa_nil))))) (pw_or1 (pt_cmpR op_ne (pe_callB (call_isiK1 rfl) (by rfl) T.z_isinstance (by decide +kernel) (pa_cons (pv 0) (pa_cons (pe_bltn (v := .ty "list") (by rfl) T.z_list (by decide +kernel) rfl) pa_nil))) (pe_callB (call_isiK1 rfl) (by rfl) T.z_isinstance (by decide +kernel) (pa_cons (pv 1) (pa_cons (pe_bltn (v := .ty "list") (by rfl) T.z_list (by decide +kernel) rfl) pa_nil))) (nomark _))))).pt (pss_one (ps_ret pe_bl)) pss_nil)
      (pss_cons (ps_if (pt_cmpR op_ne (pe_callB (call_lenK rfl) (by rfl) T.z_len PySem.boot_len (pa_cons (pv 0) pa_nil)) (pe_callB (call_lenK rfl) (by rfl) T.z_len PySem.boot_len (pa_cons (pv 1) pa_nil)) (nomark _)) (pss_one (ps_ret pe_bl)) pss_nil)
      (pss_one (ps_ret (pe_cmpR (op_eqDK hr rfl) (pe_lc (own := [("_law_k", 2)]) (g := gName 2) rfl sc_law_alike.nd (pi_range1 (by rfl) T.z_range (pa_cons (pe_callB (call_lenK rfl) (by rfl) T.z_len PySem.boot_len (pa_cons (pv 1) pa_nil)) pa_nil)) (blkOk_by (N := ["_law_found", "_law_due", "_law_k"]) (sc := defScope s_law_alike) (by decide +kernel)) (fun _ _ _ _ _ => (pg_name (i := 2) sc_law_alike.nd rfl (Or.inl rfl))) (fun _ _ _ _ _ => (pts_one (pt_not (pt_val (dcall T.d_law_alike G_law_alike hr (pa_cons (pe_ix (ix_tupK rfl) (pv 0) (pv 2) (fun _ _ => rfl)) (pa_cons (pe_ix (ix_tupK rfl) (pv 1) (pv 2) (fun _ _ => rfl)) pa_nil))))))) (fun _ _ _ _ _ => (pv 2))) (pe_lst pa_nil) (nomark _)))))) pss_nil)
      (pss_cons (ps_if ((pw_or (pt_cmpR op_isN (pv 1) pe_non (nomark _)) (pw_or1 (pt_val (pe_callB (call_isiK1 rfl) (by rfl) T.z_isinstance (by decide +kernel) (pa_cons (pv 1) (pa_cons (pe_bltn (v := .ty "str") (by rfl) T.z_str (by decide +kernel) rfl) pa_nil))))))).pt (pss_one (ps_ret (pe_and (pe_cmpR op_eq (pv 0) (pv 1) (nomark _)) (pe_one (pe_cmpR op_eq (pe_callB (call_isiK1 rfl) (by rfl) T.z_isinstance (by decide +kernel) (pa_cons (pv 0) (pa_cons (pe_bltn (v := .ty "str") (by rfl) T.z_str (by decide +kernel) rfl) pa_nil))) (pe_callB (call_isiK1 rfl) (by rfl) T.z_isinstance (by decide +kernel) (pa_cons (pv 1) (pa_cons (pe_bltn (v := .ty "str") (by rfl) T.z_str (by decide +kernel) rfl) pa_nil))) (nomark _)))))) pss_nil)
      (pss_one (ps_ret (pe_and (pe_callB (call_isiK1 rfl) (by rfl) T.z_isinstance (by decide +kernel) (pa_cons (pv 0) (pa_cons (pe_bltn (v := .ty "int") (by rfl) T.z_int (by decide +kernel) rfl) pa_nil))) (pe_and (pe_cmpR op_eq (pe_callB (call_isiK1 rfl) (by rfl) T.z_isinstance (by decide +kernel) (pa_cons (pv 0) (pa_cons (pe_bltn (v := .ty "bool") (by rfl) T.z_bool (by decide +kernel) rfl) pa_nil))) (pe_callB (call_isiK1 rfl) (by rfl) T.z_isinstance (by decide +kernel) (pa_cons (pv 1) (pa_cons (pe_bltn (v := .ty "bool") (by rfl) T.z_bool (by decide +kernel) rfl) pa_nil))) (nomark _)) (pe_one (pe_cmpR op_eq (pv 0) (pv 1) (nomark _))))))))), ?_⟩
    refine ⟨_, rfl, by show 2 ≤ sizeLine; decide, fun t nt => ?_⟩
    have s1 := same_upd (.tup [V.ty "tuple", .ty "list"]) nt
    refine ⟨_, t, _, _, _, true, rfl, upd_same, clsTL, .base (.tup (s1 _ _ hy)), kitAny_cons (kitT true (by decide +kernel)) (fun z => nomatch z) (fun _ => rfl), true, rfl, iteT ?_⟩
    refine ⟨_, rfl, by show 2 ≤ sizeLine; decide, fun t2 nt2 => ?_⟩
    have s2 := s1.lpNew (.tup [V.ty "tuple", .ty "list"]) nt2
    refine ⟨_, t2, _, _, _, true, rfl, upd_same, clsTL, .base (.tup (s2 _ _ hx)), kitAny_cons (kitT true (by decide +kernel)) (fun z => nomatch z) (fun _ => rfl), true, rfl, iteF ?_⟩
    refine ⟨_, rfl, _, _, _, _, false, rfl, .ty "list", .base (.tup (s2 _ _ hx)), kitT false (by decide +kernel), ?_⟩
    refine ⟨_, rfl, _, _, _, _, false, rfl, .ty "list", .base (.tup (s2 _ _ hy)), kitT false (by decide +kernel), rfl, _, rfl, iteNS rfl ?_⟩
    refine ⟨_, rfl, x, _, rfl, .inr (.inl (.inl (s2 _ _ hx))), _, rfl, y, _, rfl, .inr (.inl (.inl (s2 _ _ hy))), rfl, _, rfl, iteNS rfl ?_⟩
    refine ⟨_, rfl, y, _, rfl, .inr (.inl (.inl (s2 _ _ hy))), ?_⟩
    rw [TI_len]
    refine ⟨n, rfl, by omega, by omega, fun l nl => ?_⟩
    have s3 := s2.lpNew (.lst []) nl
    refine lc_range (n := n) (fun i H1 => Same (upd (upd (upd H t (.tup [V.ty "tuple", .ty "list"])) t2 (.tup [V.ty "tuple", .ty "list"])) l (.lst [])) H1) (Same.refl _) ?_ ?_
    · intro i H1 hin s4
      have s5 := s3.trans s4
      have ai : atI (TI n g) (0 + (i : Nat)) = some (.int (g i)) := at_of (j := i) (Int.zero_add _) (TI_get hin)
      refine ⟨rfl, ?_⟩
      refine ⟨_, rfl, _, rfl, x, _, _, _, rfl, rfl, .inl (.inl (s5 _ _ hx)), ai, _, rfl, _, rfl, y, _, _, _, rfl, rfl, .inl (.inl (s5 _ _ hy)), ai, g i, rfl, fun H2 s6 => ⟨true, rfl, iteF ?_⟩⟩
      exact s4.trans s6
    · intro H1 s4
      refine ⟨Nat.zero_le _, fun l2 nl2 => ?_⟩
      have s7 := same_upd (.lst []) nl2
      refine ⟨.list [], .list [], .lst (.inl (.inl (s7 _ _ (s4 _ _ upd_same)))) .nil, .lst (.inl (.inl upd_same)) .nil, rfl, rfl, ?_⟩
      exact q _ ((s3.trans s4).trans s7)

/-- a plan so far: k periods are served -/
structure Some' (k : Nat) (D X : Nat → Int) : Prop where
  nn : ∀ i, 0 ≤ X i
  late : ∀ i, k ≤ i → X i = 0
  ge : ∀ j, j ≤ k → ps D j ≤ ps X j
  eq : ps X k = ps D k
/-- within period k: left is still to be served -/
structure Part (k : Nat) (D X : Nat → Int) (left : Int) : Prop where
  nn : ∀ i, 0 ≤ X i
  late : ∀ i, k + 1 ≤ i → X i = 0
  ge : ∀ j, j ≤ k → ps D j ≤ ps X j
  eq : ps X (k + 1) + left = ps D (k + 1)
theorem Part.start {k : Nat} {D X : Nat → Int} (h : Some' k D X) : Part k D X (D k) := by
  refine ⟨h.nn, fun i hi => h.late i (by omega), h.ge, ?_⟩
  have := h.eq
  have := h.late k (Nat.le_refl k)
  show ps X k + X k + D k = ps D k + D k
  omega
theorem Part.put {k b : Nat} {D X : Nat → Int} {left part : Int} (h : Part k D X left) (hb : b ≤ k) (h0 : 0 ≤ part) : Part k D (bump X b part) (left - part) := by
  refine ⟨fun i => ?_, fun i hi => ?_, fun j hj => ?_, ?_⟩
  · unfold bump
    have h1 := h.nn b
    have h2 := h.nn i
    by_cases e : i = b
    · rw [if_pos e]; omega
    · rw [if_neg e]; exact h2
  · unfold bump
    rw [if_neg (show ¬ i = b by omega)]
    exact h.late i hi
  · rw [ps_bump]
    have := h.ge j hj
    by_cases e : b < j
    · rw [if_pos e]; omega
    · rw [if_neg e]; omega
  · rw [ps_bump, if_pos (show b < k + 1 by omega)]
    have := h.eq
    omega
theorem Part.done {k : Nat} {D X : Nat → Int} (h : Part k D X 0) : Some' (k + 1) D X := by
  refine ⟨h.nn, h.late, fun j hj => ?_, ?_⟩
  · by_cases e : j = k + 1
    · rw [e]
      have := h.eq
      omega
    · exact h.ge j (by omega)
  · have := h.eq
    omega
theorem Some'.plan {n : Nat} {D X : Nat → Int} (h : Some' n D X) : Plan n D X := ⟨fun i _ => h.nn i, h.ge, h.eq⟩

def spAny (K : PySem.W.Frag) : Sp := fun vs H Q _ => ∃ (r a d : Addr) (ns : List Int) (n : Nat) (D : Nat → Int), vs = [.ref r, .ref d] ∧ RowAt H r a ∧ Scr K H a ns ∧ H d = some (.tup (TI n D)) ∧ n ≤ 12 ∧ (∀ i, i < n → 0 ≤ D i ∧ D i ≤ 999) ∧
  ∀ (p : Addr) (X : Nat → Int) (H' : Hp), SameX r H H' → RowAt H' r a → H' p = some (.tup (TI n X)) → Plan n D X → Q (.ref p) H'
theorem ok_law_any_plan (T : Txt K mg f fd) : FnOk P w K mg base CX0 2 (f 21) (fd 21) ["_law_row_here", "_law_demands"] (spAny K) := by
  have G_law_taken := ok_law_taken (P := P) (w := w) (base := base) T
  refine T.d_law_any_plan.F.ok sc_law_any_plan (fun vs H Q E h => ?_) (fun cdv A outer s H vs Q E hr h => ?_)
  · obtain ⟨r, a, d, ns, n, D, rfl, _⟩ := h
    rfl
  · obtain ⟨r, a, d, ns, n, D, rfl, R, S, hd, hn, hD, q⟩ := h
    have ndr : d ≠ r := R.neT hd
    refine ⟨_, (pss_cons (ps_set (i := 2) sc_law_any_plan.nd rfl (Or.inl rfl) (pe_op op_rep (pe_lst (pa_cons pe_int pa_nil)) (pe_callB (call_lenK rfl) (by rfl) T.z_len PySem.boot_len (pa_cons (pv 1) pa_nil))))
      (pss_cons (ps_for PassesOwn.never rfl (pi_range1 (by rfl) T.z_range (pa_cons (pe_callB (call_lenK rfl) (by rfl) T.z_len PySem.boot_len (pa_cons (pv 1) pa_nil)) pa_nil)) (pg_name (i := 3) sc_law_any_plan.nd rfl (Or.inl rfl)) (pss_cons (ps_set (i := 4) sc_law_any_plan.nd rfl (Or.inl rfl) (pe_ix (ix_tupK rfl) (pv 1) (pv 3) (fun _ _ => rfl)))
      (pss_one (ps_for PassesOwn.never rfl (pi_range1 (by rfl) T.z_range (pa_cons pe_int pa_nil)) (pg_name (i := 5) sc_law_any_plan.nd rfl (Or.inl rfl)) (C8.pss_cut (ps_set (i := 6) sc_law_any_plan.nd rfl (Or.inl rfl) (pe_ifExp (pt_cmpR op_eq (pv 5) pe_int (nomark _)) (pv 4) (dcall T.d_law_taken G_law_taken hr (pa_cons (pv 0) (pa_cons (pe_op op_add (pv 4) pe_int) pa_nil)))))
      (C8.pss_cut (ps_set (i := 7) sc_law_any_plan.nd rfl (Or.inl rfl) (pe_ifExp (pt_cmpR op_eq (dcall T.d_law_taken G_law_taken hr (pa_cons (pv 0) (pa_cons pe_int pa_nil))) pe_int (nomark _)) (dcall T.d_law_taken G_law_taken hr (pa_cons (pv 0) (pa_cons (pe_op op_add (pv 3) pe_int) pa_nil))) (pv 3)))
      (pss_cons (ps_asg (pe_op op_add (pe_ix (ix_listK rfl) (pv 2) (pv 7) (fun _ _ => rfl)) (pv 6)) (pg_sub (pv 2) (pv 7) set_list))
      (pss_one (ps_set (i := 4) sc_law_any_plan.nd rfl (Or.inl rfl) (pe_op op_sub (pv 4) (pv 6)))))))))))
      (pss_one (ps_ret (pe_callTy (call_tupleK rfl) (by rfl) T.z_tuple (by decide +kernel) (pa_cons (pv 2) pa_nil)))))), ?_⟩
    refine ⟨by show 1 ≤ sizeLine; decide, fun z nz => ?_⟩
    refine ⟨_, rfl, d, _, rfl, .inr (.inl (.inl ((same_upd _ nz) _ _ hd))), ?_⟩
    rw [TI_len]
    refine ⟨z, n, _, rfl, rfl, upd_same, by omega, by omega, ?_, fun l nl => ?_⟩
    · have h5 : [V.int 0].length * (n : Int).toNat = n := by
        show 1 * n = n
        omega
      rw [h5]
      exact Nat.le_of_lt (small1000 (by omega))
    have hrep : (List.replicate (n : Int).toNat [V.int 0]).flatten = TI n (fun _ => 0) := TI_rep n
    rw [hrep]
    have s0 : SameX r H (upd (upd H z (.lst [.int 0])) l (.lst (TI n (fun _ => 0)))) := ((SameX.refl r H).lpNew _ nz).lpNew _ nl
    have R0 := (R.upd (.lst [.int 0]) nz).upd (.lst (TI n (fun _ => 0))) nl
    have nl0 : H l = none := (same_upd (.lst [.int 0]) nz).free nl
    have nlr : l ≠ r := (R.ne nl0).symm
    refine ⟨_, rfl, d, _, rfl, .inr (.inl (.inl (s0 d _ ndr hd))), ?_⟩
    rw [TI_len]
    refine ⟨n, rfl, by omega, by omega, ?_⟩
    refine for_range (n := n) (fun k σ H1 => ∃ y3 y4 y5 y6 y7 X, σ = [some (.ref r), some (.ref d), some (.ref l), y3, y4, y5, y6, y7] ∧ SameX r H H1 ∧ RowAt H1 r a ∧ H1 l = some (.lst (TI n X)) ∧ Some' k D X)
      ⟨none, none, none, none, none, fun _ => 0, rfl, s0, R0, upd_same, ⟨fun _ => Int.le_refl 0, fun _ _ => rfl, fun j hj => by
        have e : j = 0 := by omega
        rw [e]; exact Int.le_refl 0, rfl⟩⟩ ?_ ?_
    · rintro k σ H1 hk ⟨y3, y4, y5, y6, y7, X, rfl, s1, R1, e1, hX⟩
      have ai : atI (TI n D) (0 + (k : Nat)) = some (.int (D k)) := at_of (j := k) (Int.zero_add _) (TI_get hk)
      refine ⟨_, rfl, _, rfl, d, _, _, _, rfl, rfl, .inl (.inl (s1 d _ ndr hd)), ai, ?_⟩
      refine ⟨2, rfl, by decide, by decide, ?_⟩
      refine for_range (n := 2) (fun j σ H2 => ∃ y5 y6 y7 left X, σ = [some (.ref r), some (.ref d), some (.ref l), some (.int (0 + (k : Nat))), some (.int left), y5, y6, y7] ∧ SameX r H H2 ∧ RowAt H2 r a ∧ H2 l = some (.lst (TI n X)) ∧ Part k D X left ∧ 0 ≤ left ∧ left ≤ 999 ∧ (j = 2 → left = 0))
        ⟨y5, y6, y7, D k, X, rfl, s1, R1, e1, Part.start hX, (hD k hk).1, (hD k hk).2, fun z => nomatch z⟩ ?_ ?_
      · rintro j σ H2 hj ⟨y5, y6, y7, left, X, rfl, s2, R2, e2, hP, l0, l9, _⟩
        have S2 := S.at R s2
        -- the part
        refine ⟨fun σ' H3 => ∃ (part : Int) (y7 : Option V), σ' = [some (.ref r), some (.ref d), some (.ref l), some (.int (0 + (k : Nat))), some (.int left), some (.int (0 + (j : Nat))), some (.int part), y7] ∧ 0 ≤ part ∧ part ≤ left ∧ (j + 1 = 2 → part = left) ∧ SameX r H2 H3 ∧ RowAt H3 r a, ?_, ?_⟩
        · refine ⟨_, rfl, rfl, _, rfl, ite2 (fun _ => ?_) (fun e => ?_)⟩
          · exact ⟨_, rfl, left, y7, rfl, l0, Int.le_refl _, fun _ => rfl, SameX.refl r H2, R2⟩
          · have ej : j ≠ 1 := fun z => e (by rw [z]; exact decide_eq_true rfl)
            refine ⟨_, rfl, _, rfl, _, _, rfl, rfl, r, a, ns, _, rfl, R2, S2, by omega, by omega, fun v H3 v0 v1 s3 R3 => ?_⟩
            exact ⟨v, y7, rfl, v0, by omega, fun z => absurd z (by omega), s3, R3⟩
        rintro σ' H3 ⟨part, y7, rfl, p0, p1, hl, s3, R3⟩
        -- the start
        refine ⟨fun σ' H5 => ∃ b : Nat, σ' = [some (.ref r), some (.ref d), some (.ref l), some (.int (0 + (k : Nat))), some (.int left), some (.int (0 + (j : Nat))), some (.int part), some (.int (b : Nat))] ∧ b ≤ k ∧ SameX r H2 H5 ∧ RowAt H5 r a, ?_, ?_⟩
        · refine ⟨_, rfl, r, a, ns, 2, rfl, R3, S2.at R2 s3, by decide, by decide, fun v H4 v0 v1 s4 R4 => ?_⟩
          refine ⟨rfl, _, rfl, ite2 (fun _ => ?_) (fun _ => ?_)⟩
          · refine ⟨_, rfl, _, rfl, _, _, rfl, rfl, r, a, ns, _, rfl, R4, S2.at R2 (s3.trans s4), by omega, by omega, fun v' H5 v0' v1' s5 R5 => ?_⟩
            obtain ⟨b, rfl⟩ : ∃ b : Nat, v' = (b : Int) := ⟨v'.toNat, by omega⟩
            exact ⟨b, rfl, by omega, (s3.trans s4).trans s5, R5⟩
          · refine ⟨_, rfl, k, ?_, Nat.le_refl k, s3.trans s4, R4⟩
            rw [Int.zero_add]
            rfl
        rintro σ' H5 ⟨b, rfl, hb, s5, R5⟩
        have e5 := s5 l _ nlr e2
        refine ⟨_, rfl, _, rfl, l, _, _, _, rfl, rfl, .inl (.inl e5), at_TI (show b < n by omega), _, rfl, _, _, rfl, rfl, ?_⟩
        refine ⟨_, rfl, _, rfl, l, _, _, b, rfl, rfl, e5, ixN_nat (by rw [TI_len]; omega), ?_⟩
        refine ⟨_, rfl, _, rfl, _, _, rfl, rfl, ?_⟩
        refine ⟨some (.int (0 + (j : Nat))), some (.int part), some (.int (b : Nat)), left - part, bump X b part, rfl, (s2.trans s5).lpAt _ nl0, ?_, ?_, hP.put hb p0, by omega, by omega, fun z => by have := hl z; omega⟩
        · obtain ⟨i', sd', z', h1', h2'⟩ := R5.ex
          exact ⟨i', sd', z', h1', by rw [upd_ne nlr.symm]; exact h2'⟩
        · rw [upd_same]
          exact congrArg (fun z => some (HO.lst z)) (TI_set n X b _)
      · rintro σ H2 ⟨y5, y6, y7, left, X, rfl, s2, R2, e2, hP, _, _, hl⟩
        rw [hl rfl] at hP
        exact ⟨some (.int (0 + (k : Nat))), some (.int left), y5, y6, y7, X, rfl, s2, R2, e2, hP.done⟩
    · rintro σ H1 ⟨y3, y4, y5, y6, y7, X, rfl, s1, R1, e1, hX⟩
      refine ⟨_, rfl, l, _, rfl, .inl ⟨.inl (.inl e1), fun p np => ?_⟩⟩
      exact q p X _ (s1.lpNew _ np) (R1.upd _ np) upd_same hX.plan
end
end Lp
/-! The law. -/
namespace Lp
open PySem PySem.Spec PyProof.Rows L2
theorem prD_can : ∀ ps : List (Int × Int), PyData.canLayAll0 (ps.map prD) = true
  | [] => rfl
  | p :: r => by
    have h := prD_can r
    simp [prD, PyData.canLayAll0, PyData.canLay0] at h ⊢
    exact h
theorem prD_shaped (ps : List (Int × Int)) : SeqAt.shaped (.list (ps.map prD)) = true := by
  have h1 := prD_can ps
  have h2 := prD_depth ps
  have h3 : (PyData.list (ps.map prD)).depth ≤ 64 := by
    show PyData.depthAll (ps.map prD) + 1 ≤ 64
    omega
  unfold SeqAt.shaped
  rw [decide_eq_true h3, Bool.and_true]
  simpa [PyData.canLay0] using h1
theorem bst_of_none {U W X : Nat → Int} {k : Nat} (h : ∀ s, s < k → ¬ 0 < X s) : bst U W X k = none := by
  cases e : bst U W X k with
  | none => rfl
  | some b =>
    have B := bst_best 0 e
    exact absurd B.on (h b B.lt)
/-- what stands in a pair: the start, turned round -/
def sg (s : Nat) : Int := 0 - (0 + (s : Int))
/-- the pairs of the starts below i: what it costs to keep until k, the start turned round -/
structure Pairs (U W X : Nat → Int) (k i : Nat) (H : Hp) (ts : List Addr) : Prop where
  len : ts.length ≤ i
  of : ∀ t, t ∈ ts → ∃ s, s < i ∧ 0 < X s ∧ H t = some (.tup [.int (kp U W s k), .int (sg s)])
  all : ∀ s, s < i → 0 < X s → ∃ t, t ∈ ts ∧ H t = some (.tup [.int (kp U W s k), .int (sg s)])
theorem Pairs.nil {U W X : Nat → Int} {k : Nat} {H : Hp} : Pairs U W X k 0 H [] := ⟨Nat.le_refl 0, (fun t ht => nomatch ht), fun s hs => absurd hs (Nat.not_lt_zero s)⟩
theorem Pairs.skip {U W X : Nat → Int} {k i : Nat} {H : Hp} {ts : List Addr} (p : Pairs U W X k i H ts) (hx : ¬ 0 < X i) : Pairs U W X k (i + 1) H ts := by
  refine ⟨Nat.le_succ_of_le p.len, fun t ht => ?_, fun s hs hxs => ?_⟩
  · obtain ⟨s, h1, h2, h3⟩ := p.of t ht
    exact ⟨s, by omega, h2, h3⟩
  · by_cases e : s = i
    · rw [e] at hxs; exact absurd hxs hx
    · exact p.all s (by omega) hxs
theorem Pairs.put {U W X : Nat → Int} {k i : Nat} {H H' : Hp} {ts : List Addr} {t : Addr} (p : Pairs U W X k i H ts) (hx : 0 < X i) (s : ∀ b xs, H b = some (.tup xs) → H' b = some (.tup xs)) (ht : H' t = some (.tup [.int (kp U W i k), .int (sg i)])) : Pairs U W X k (i + 1) H' (ts ++ [t]) := by
  refine ⟨by rw [List.length_append]; exact Nat.succ_le_succ p.len, fun u hu => ?_, fun j hj hxj => ?_⟩
  · rcases List.mem_append.mp hu with hu | hu
    · obtain ⟨j, h1, h2, h3⟩ := p.of u hu
      exact ⟨j, by omega, h2, s _ _ h3⟩
    · rw [List.mem_singleton.mp hu]
      exact ⟨i, by omega, hx, ht⟩
  · by_cases e : j = i
    · rw [e]
      exact ⟨t, List.mem_append.mpr (.inr (List.mem_singleton.mpr rfl)), ht⟩
    · obtain ⟨u, h1, h2⟩ := p.all j (by omega) hxj
      exact ⟨u, List.mem_append.mpr (.inl h1), s _ _ h2⟩
theorem Pairs.two {U W X : Nat → Int} {k i : Nat} {H : Hp} {ts : List Addr} (p : Pairs U W X k i H ts) : ∀ t ∈ ts, ∃ a b, H t = some (.tup [.int a, .int b]) := fun t ht => by
  obtain ⟨s, _, _, h⟩ := p.of t ht
  exact ⟨_, _, h⟩
/-- the least pair is the best start -/
theorem Pairs.least {U W X : Nat → Int} {k : Nat} {H : Hp} {ts : List Addr} (p : Pairs U W X k (k + 1) H ts) {t : Addr} (ht : t ∈ ts)
    (hm : ∀ u ∈ ts, (prOf H t).1 < (prOf H u).1 ∨ ((prOf H t).1 = (prOf H u).1 ∧ (prOf H t).2 ≤ (prOf H u).2)) : ∃ b, bst U W X (k + 1) = some b ∧ H t = some (.tup [.int (kp U W b k), .int (sg b)]) := by
  obtain ⟨b, h1, h2, h3⟩ := p.of t ht
  refine ⟨b, bst_of_best (t := k) ⟨h1, h2, fun s hs hxs => ?_⟩, h3⟩
  obtain ⟨u, hu, eu⟩ := p.all s hs hxs
  have q := hm u hu
  rw [prOf_eq h3, prOf_eq eu] at q
  unfold sg at q
  rcases q with q | ⟨q1, q2⟩
  · exact .inl q
  · exact .inr ⟨q1, by simp only at q2; omega⟩
section
variable {P : Program} {w : World} {K : PySem.W.Frag} {mg : Str → Option Value} {base : Heap} {f : Nat → Addr} {fd : Nat → FuncData}

def spLaw (K : PySem.W.Frag) : Sp := fun vs H Q _ => ∃ (a : Addr) (ns : List Int), vs = [.ref a] ∧ SqL K H a (ns.map V.int) ∧ ns.length ≤ 63 ∧ ∀ H', Q (.bl true) H'
theorem ok_law {fl : Addr} {fdl : FuncData} (F : Fun K "law" "law" s_law fl fdl) (T : Txt K mg f fd) : FnOk P w K mg base CX0 6 fl fdl ["_law_script"] (spLaw K) := by
  have G_law_taken := ok_law_taken (P := P) (w := w) (base := base) T
  have G_law_problem := ok_law_problem (P := P) (w := w) (base := base) T
  have G_law_any_plan := ok_law_any_plan (P := P) (w := w) (base := base) T
  have G_law_kept := ok_law_kept (P := P) (w := w) (base := base) T
  have G_improved := ok_improved (P := P) (w := w) (base := base) T
  have G_law_alike := ok_law_alike (P := P) (w := w) (base := base) T
  have G_is_interval := ok_is_interval (P := P) (w := w) (base := base) T
  have G_law_cost := ok_law_cost (P := P) (w := w) (base := base) T
  have G_cost := ok_cost (P := P) (w := w) (base := base) T
  refine F.ok sc_law (fun vs H Q E h => ?_) (fun cdv A outer s H vs Q E hr h => ?_)
  · obtain ⟨a, ns, rfl, _⟩ := h
    rfl
  · obtain ⟨a, ns, rfl, hS, hlen, q⟩ := h
    refine ⟨_, (pss_cons (ps_set (i := 1) sc_law.nd rfl (Or.inl rfl) (pe_lst (pa_cons (pv 0) (pa_cons pe_int (pa_cons pe_int (pa_cons pe_int pa_nil))))))
      (pss_cons (ps_set (i := 2) sc_law.nd rfl (Or.inl rfl) (pe_op op_add pe_int (dcall T.d_law_taken G_law_taken hr (pa_cons (pv 1) (pa_cons pe_int pa_nil)))))
      (pss_cons (ps_set (i := 3) sc_law.nd rfl (Or.inr rfl) (dcall T.d_law_problem G_law_problem hr (pa_cons (pv 1) (pa_cons (pv 2) pa_nil))))
      (pss_cons (ps_set (i := 4) sc_law.nd rfl (Or.inr rfl) (dcall T.d_law_any_plan G_law_any_plan hr (pa_cons (pv 1) (pa_cons (pe_ix (ix_tupK rfl) (pv 3) pe_int (fun _ _ => rfl)) pa_nil))))
      (pss_cons (ps_set (i := 5) sc_law.nd rfl (Or.inl rfl) (pe_op op_rep (pe_lst (pa_cons pe_int pa_nil)) (pv 2)))
      (pss_cons (ps_for PassesOwn.never rfl (pi_range1 (by rfl) T.z_range (pa_cons (pv 2) pa_nil)) (pg_name (i := 6) sc_law.nd rfl (Or.inr rfl)) (pss_cons (ps_setLc (i := 7) (own := [("_law_start", 8)]) (g := gName 8) rfl sc_law.nd rfl rfl (sw_true rfl rfl rfl (by decide +kernel)) (pi_range1 (by rfl) T.z_range (pa_cons (pe_op op_add (pv 6) pe_int) pa_nil)) (blkOk_by (N := ["_law_script", "_law_row_here", "_law_many", "_law_problem_here", "_law_plan", "_law_due", "_law_at", "_law_some", "_law_start", "_law_found"]) (sc := defScope s_law) (by decide +kernel)) (fun _ _ _ _ _ => (pg_name (i := 8) sc_law.nd rfl (Or.inl rfl))) (fun _ _ _ _ _ => (pts_one (pt_cmpR op_gt (pe_ix (ix_tupK rfl) (pv 4) (pv 8) (fun _ _ => rfl)) pe_int (nomark _)))) (fun _ _ _ _ _ => (pe_tup (pa_cons (dcall T.d_law_kept G_law_kept hr (pa_cons (pv 3) (pa_cons (pv 8) (pa_cons (pv 6) pa_nil)))) (pa_cons (pe_op op_sub pe_int (pv 8)) pa_nil)))))
      (pss_one (ps_if (pt_cmpR (op_neDK hr rfl) (pv 7) (pe_lst pa_nil) (nomark _)) (pss_one (ps_asg (pe_op op_add (pe_ix (ix_listK rfl) (pv 5) (pe_op op_sub pe_int (pe_ix (ix_tupK rfl) (pe_callB (cr_minPK rfl hr rfl) (by rfl) T.z_min (by decide +kernel) (pa_cons (pv 7) pa_nil)) pe_int (fun _ _ => rfl))) (fun _ _ => rfl)) (pe_ix (ix_tupK rfl) (pe_ix (ix_tupK rfl) (pv 3) pe_int (fun _ _ => rfl)) (pv 6) (fun _ _ => rfl))) (pg_sub (pv 5) (pe_op op_sub pe_int (pe_ix (ix_tupK rfl) (pe_callB (cr_minPK rfl hr rfl) (by rfl) T.z_min (by decide +kernel) (pa_cons (pv 7) pa_nil)) pe_int (fun _ _ => rfl))) set_list))) pss_nil))))
      (pss_cons (ps_set (i := 9) sc_law.nd rfl (Or.inl rfl) (dcall T.d_improved G_improved hr (pa_cons (pv 3) (pa_cons (pv 4) pa_nil))))
      (pss_cons (ps_if ((pw_or (pt_not (pt_val (dcall T.d_law_alike G_law_alike hr (pa_cons (pv 9) (pa_cons (pe_callTy (call_tupleK rfl) (by rfl) T.z_tuple (by decide +kernel) (pa_cons (pv 5) pa_nil)) pa_nil))))) (pw_or1 (pt_cmpR op_isnot_bl (dcall T.d_is_interval G_is_interval hr (pa_cons (pv 3) (pa_cons (pv 9) pa_nil))) pe_bl (nomark _))))).pt (pss_one (ps_ret pe_bl)) pss_nil)
      (pss_one (ps_ret (pe_and (pe_cmpR op_le (dcall T.d_law_cost G_law_cost hr (pa_cons (pv 3) (pa_cons (pv 9) pa_nil))) (dcall T.d_law_cost G_law_cost hr (pa_cons (pv 3) (pa_cons (pv 4) pa_nil))) (nomark _)) (pe_one (pe_cmpR op_le (dcall T.d_cost G_cost hr (pa_cons (pv 3) (pa_cons (pv 9) pa_nil))) (dcall T.d_cost G_cost hr (pa_cons (pv 3) (pa_cons (pv 4) pa_nil))) (nomark _)))))))))))))), ?_⟩
    -- the row of draws, the number of periods
    refine ⟨_, rfl, by show 4 ≤ sizeLine; decide, fun r nr => ?_⟩
    have R1 : RowAt (upd H r (.lst [.ref a, .int 0, .int 3303, .int 0])) r a := ⟨0, 3303, 0, by decide, upd_same⟩
    have S1 : Scr K (upd H r (.lst [.ref a, .int 0, .int 3303, .int 0])) a ns := (same_upd _ nr).seq hS
    refine ⟨_, rfl, r, a, ns, 10, rfl, R1, S1, by decide, by decide, fun v H2 v0 v1 s2 R2 => ⟨_, _, rfl, rfl, ?_⟩⟩
    obtain ⟨n, en, n1, n10⟩ : ∃ n : Nat, 1 + v = (n : Int) ∧ 1 ≤ n ∧ n ≤ 10 := ⟨(1 + v).toNat, by omega, by omega, by omega⟩
    have S2 := S1.at R1 s2
    show gName 2 (V.int (1 + v)) _ _ _
    rw [en]
    -- the problem, the plan
    refine ⟨_, rfl, _, rfl, r, a, ns, n, rfl, R2, S2, n1, by omega, fun p D S U W H3 s3 R3 hb3 he => ?_⟩
    obtain ⟨d3, st3, u3, v3, g0, g1, g2, g3, g4⟩ := id hb3.ex
    refine ⟨_, rfl, _, rfl, p, _, _, _, rfl, rfl, .inl (.inl g0), atI_nat (j := 0) rfl, r, a, d3, ns, n, D, rfl, R3, S2.at R2 s3, g1, by omega, he.d, fun x X H4 s4 R4 hx hp => ?_⟩
    have hb := hb3.samex R3 s4
    have hD : ∀ i, i < n → 0 ≤ D i := fun i hi => (he.d i hi).1
    obtain ⟨d, st, u, v', h0, h1, h2, h3, h4⟩ := id hb.ex
    -- due
    refine ⟨by show 1 ≤ sizeLine; decide, fun z nz => ?_⟩
    refine ⟨_, rfl, z, n, _, rfl, rfl, upd_same, by omega, by omega, ?_, fun dl ndl => ?_⟩
    · have h5 : [V.int 0].length * (n : Int).toNat = n := by
        show 1 * n = n
        omega
      rw [h5]
      exact Nat.le_of_lt (small1000 (by omega))
    have hrep : (List.replicate (n : Int).toNat [V.int 0]).flatten = TI n (fun _ => 0) := TI_rep n
    rw [hrep]
    have s5 : Same H4 (upd (upd H4 z (.lst [.int 0])) dl (.lst (TI n (fun _ => 0)))) := (same_upd _ nz).lpNew _ ndl
    have ndl4 : H4 dl = none := (same_upd (.lst [.int 0]) nz).free ndl
    refine ⟨_, rfl, n, rfl, by omega, by omega, ?_⟩
    refine for_range (n := n) (fun k σ H6 => ∃ y6 y7 y8, σ = [some (.ref a), some (.ref r), some (.int n), some (.ref p), some (.ref x), some (.ref dl), y6, y7, y8, none] ∧ Same H4 H6 ∧ H6 dl = some (.lst (TI n (imp D U W X k))))
      ⟨none, none, none, rfl, s5, upd_same⟩ ?_ ?_
    · rintro k σ H6 hk ⟨y6, y7, y8, rfl, s6, e6⟩
      -- the pairs
      refine ⟨_, rfl, _, _, rfl, rfl, 0 + (k : Int) + 1, rfl, by omega, by omega, fun l nl => ?_⟩
      have ek : (0 + (k : Int) + 1).toNat = k + 1 := by omega
      rw [ek]
      refine lc_range (n := k + 1) (fun i H7 => Same H6 H7 ∧ ∃ ts : List Addr, H7 l = some (.lst (ts.map V.ref)) ∧ Pairs U W X k i H7 ts) ⟨same_upd _ nl, [], upd_same, .nil⟩ ?_ ?_
      · rintro i H7 hi ⟨s7, ts, e7, hts⟩
        have s47 := s6.trans s7
        have ai : ∀ {g : Nat → Int}, atI (TI n g) (0 + (i : Nat)) = some (.int (g i)) := fun {g} => at_of (j := i) (Int.zero_add _) (TI_get (by omega))
        refine ⟨rfl, ?_⟩
        refine ⟨_, rfl, _, rfl, x, _, _, _, rfl, rfl, .inl (.inl (s47 _ _ hx)), ai, _, _, rfl, rfl, _, rfl, ite2 (fun e => ?_) (fun e => ?_)⟩
        · have hxi : 0 < X i := of_decide_eq_true e
          refine ⟨_, rfl, _, rfl, _, rfl, p, n, D, S, U, W, i, k, by rw [Int.zero_add, Int.zero_add]; rfl, hb.same s47, by omega, hk, fun H8 s8 => ?_⟩
          refine ⟨_, rfl, _, _, rfl, rfl, by show 2 ≤ sizeLine; decide, fun t nt => ?_⟩
          have s9 := s8.lpNew (.tup [.int (kp U W i k), .int (0 - (0 + (i : Nat)))]) nt
          have e9 := s9 _ _ e7
          have ntl : t ≠ l := fun q => by
            have h9 := s8 _ _ e7
            rw [← q, nt] at h9
            cases h9
          refine ⟨_, e9, by rw [List.length_map]; exact small1000 (by have := hts.len; omega), fun b o hbo => ?_, ts ++ [t], by rw [upd_same, List.map_append]; rfl, hts.put hxi (fun b xs hbx => ?_) ?_⟩
          · rw [upd_ne (ne_of_none hbo nl)]
            exact s9 _ _ (s7 _ _ hbo)
          · rw [upd_ne (ne_of hbx e7 (fun z => nomatch z))]
            exact s9 _ _ hbx
          · rw [upd_ne ntl]
            exact upd_same
        · have hxi : ¬ 0 < X i := fun z => e (decide_eq_true z)
          exact ⟨s7, ts, e7, hts.skip hxi⟩
      · rintro H7 ⟨s7, ts, e7, hts⟩
        have s47 := s6.trans s7
        have ai : atI (TI n D) (0 + (k : Nat)) = some (.int (D k)) := at_of (j := k) (Int.zero_add _) (TI_get hk)
        refine ⟨_, rfl, Nat.zero_le _, fun l2 nl2 => ?_⟩
        have s8 := same_upd (.lst []) nl2
        have e8 := s8 _ _ e7
        have hts8 : Pairs U W X k (k + 1) (upd H7 l2 (.lst [])) ts := ⟨hts.len, fun t ht => by
          obtain ⟨s, a1, a2, a3⟩ := hts.of t ht
          exact ⟨s, a1, a2, s8 _ _ a3⟩, fun s hs hxs => by
          obtain ⟨t, a1, a2⟩ := hts.all s hs hxs
          exact ⟨t, a1, s8 _ _ a2⟩⟩
        have f8 := s8 _ _ (s7 _ _ e6)
        refine ⟨.list ((ts.map (prOf (upd H7 l2 (.lst [])))).map prD), .list [], .lst (.inl (.inl e8)) (dp_pairs hts8.two), .lst (.inl (.inl upd_same)) .nil, prD_shaped _, rfl, _, rfl, ?_⟩
        cases ts with
        | nil =>
          refine iteF ?_
          have eb : bst U W X (k + 1) = none := bst_of_none fun s hs hxs => by
            obtain ⟨t, ht, _⟩ := hts.all s hs hxs
            cases ht
          refine ⟨some (.int (0 + (k : Nat))), some (.ref l), y8, rfl, s47.trans s8, ?_⟩
          rw [imp_none eb]
          exact f8
        | cons t0 tl =>
          refine iteT ?_
          refine ⟨_, rfl, _, rfl, l, t0 :: tl, rfl, .inl (.inl e8), (fun z => nomatch z), hts8.two, fun t ht hm => ?_⟩
          obtain ⟨b, eb, et⟩ := hts8.least ht hm
          have hbk := (bst_best 0 eb).lt
          refine ⟨t, _, _, _, rfl, rfl, .inl (.inl et), atI_nat (j := 1) rfl, _, _, rfl, rfl, dl, _, _, _, rfl, rfl, .inl (.inl f8), at_of (j := b) (by unfold sg; omega) (TI_get (show b < n by omega)), ?_⟩
          refine ⟨_, rfl, p, _, _, _, rfl, rfl, .inl (.inl ((s47.trans s8) _ _ h0)), atI_nat (j := 0) rfl, _, rfl, d, _, _, _, rfl, rfl, .inl (.inl ((s47.trans s8) _ _ h1)), ai, _, _, rfl, rfl, ?_⟩
          refine ⟨_, rfl, _, rfl, l, t0 :: tl, rfl, .inl (.inl e8), (fun z => nomatch z), hts8.two, fun t' ht' hm' => ?_⟩
          obtain ⟨b', eb', et'⟩ := hts8.least ht' hm'
          have ebb : b' = b := by
            rw [eb] at eb'
            exact (Option.some.inj eb').symm
          rw [ebb] at et'
          refine ⟨t', _, _, _, rfl, rfl, .inl (.inl et'), atI_nat (j := 1) rfl, _, _, rfl, rfl, dl, _, _, b, rfl, rfl, f8, ?_, ?_⟩
          · have esg : (0 : Int) - sg b = (b : Nat) := by unfold sg; omega
            rw [esg]
            exact ixN_nat (by rw [TI_len]; omega)
          · refine ⟨some (.int (0 + (k : Nat))), some (.ref l), y8, rfl, fun c o hc => ?_, ?_⟩
            · rw [upd_ne (ne_of_none hc ndl4)]
              exact (s47.trans s8) _ _ hc
            · rw [upd_same, imp_some eb]
              exact congrArg (fun z => some (HO.lst z)) (TI_set n _ b _)
    · rintro σ H6 ⟨y6, y7, y8, rfl, s6, e6⟩
      have hb6 := hb.same s6
      have hx6 := s6 _ _ hx
      -- the improved plan
      refine ⟨_, rfl, _, rfl, p, x, n, D, S, U, W, X, rfl, hb6, he, hx6, hp, fun H7 fa s7 nfa e7 => ?_⟩
      have hI := imp_plan (U := U) (W := W) hp hD
      refine ⟨_, rfl, _, rfl, dl, _, rfl, .inl ⟨.inl (.inl (s7 _ _ e6)), fun qa nqa => ?_⟩⟩
      have s8 := same_upd (.tup (TI n (imp D U W X n))) nqa
      refine ⟨fa, qa, n, imp D U W X n, rfl, s8 _ _ e7, upd_same, by omega, fun H9 s9 => ⟨true, rfl, iteF ?_⟩⟩
      have s79 := s8.trans s9
      have s69 := s7.trans s79
      refine ⟨_, rfl, _, rfl, p, fa, n, D, S, U, W, imp D U W X n, rfl, hb6.same s69, he, s79 _ _ e7, hI, fun s hs hxs => imp_interval hp hD hxs, fun H10 s10 => ⟨true, true, rfl, rfl, _, rfl, iteNS rfl ?_⟩⟩
      have s6a := s69.trans s10
      have s7a := s79.trans s10
      have hc : cst D S U W (imp D U W X n) n ≤ cst D S U W X n := cst_imp hp hD fun i hi => (he.s i hi).1
      -- the costs
      refine ⟨_, rfl, _, rfl, p, fa, n, D, S, U, W, imp D U W X n, rfl, hb6.same s6a, he, s7a _ _ e7, fun H11 s11 => ?_⟩
      refine ⟨_, rfl, _, rfl, p, x, n, D, S, U, W, X, rfl, (hb6.same s6a).same s11, he, s11 _ _ (s6a _ _ hx6), fun H12 s12 => ?_⟩
      refine ⟨_, _, rfl, rfl, true, congrArg V.bl (decide_eq_true hc), iteT ?_⟩
      have s7c := (s7a.trans s11).trans s12
      have s6c := (s6a.trans s11).trans s12
      refine ⟨_, rfl, _, rfl, p, fa, n, D, S, U, W, imp D U W X n, rfl, hb6.same s6c, he, s7c _ _ e7, hI, fun H13 s13 => ?_⟩
      refine ⟨_, rfl, _, rfl, p, x, n, D, S, U, W, X, rfl, (hb6.same s6c).same s13, he, s13 _ _ (s6c _ _ hx6), hp, fun H14 s14 => ?_⟩
      refine ⟨_, _, rfl, rfl, ?_⟩
      show Q (V.bl (decide (cst D S U W (imp D U W X n) n ≤ cst D S U W X n))) _
      rw [decide_eq_true hc]
      exact q _
end
end Lp
/-! The end: what the top has left, and the law's own head. -/
namespace Lp
open PySem PySem.Spec PyProof.Rows L2
theorem all_mk {l : PySem.W.OpenLaw} {w : World} {K : PySem.W.Frag} {h : Heap} {mg : Str → Option Value} {fa f0 f1 f2 f3 f4 f5 f6 f7 f8 f9 f10 f11 f12 f13 f14 f15 f16 f17 f18 f19 f20 f21 f22 f23 : Addr} (X : K.In h) (G : h.Ns mainGlobals mg) (hfa : mg "law" = some (.ref fa))
    {od0 an0 : Option Addr} {sl0 : Array (Option Value)} {oc0 kV0 dc0 pm0 cd0 ct0 : Value}
    (a0 : PySem.W.nsIn K mainGlobals "is_int" = some (some (.ref f0))) (l0 : K.lookup f0 = some ⟨oc0, od0, .func (PySem.W.fnOf "is_int" "is_int" (defArgs s_is_int) (defBody s_is_int) (defScope s_is_int) .none kV0 dc0 pm0 an0 cd0 ct0), sl0⟩) (c0 : PySem.W.codeIn K cd0 "is_int" = true) (k0 : PySem.W.keepIn K (.ref f0) = true)
    {od1 an1 : Option Addr} {sl1 : Array (Option Value)} {oc1 kV1 dc1 pm1 cd1 ct1 : Value}
    (a1 : PySem.W.nsIn K mainGlobals "is_in" = some (some (.ref f1))) (l1 : K.lookup f1 = some ⟨oc1, od1, .func (PySem.W.fnOf "is_in" "is_in" (defArgs s_is_in) (defBody s_is_in) (defScope s_is_in) .none kV1 dc1 pm1 an1 cd1 ct1), sl1⟩) (c1 : PySem.W.codeIn K cd1 "is_in" = true) (k1 : PySem.W.keepIn K (.ref f1) = true)
    {od2 an2 : Option Addr} {sl2 : Array (Option Value)} {oc2 kV2 dc2 pm2 cd2 ct2 : Value}
    (a2 : PySem.W.nsIn K mainGlobals "need_problem" = some (some (.ref f2))) (l2 : K.lookup f2 = some ⟨oc2, od2, .func (PySem.W.fnOf "need_problem" "need_problem" (defArgs s_need_problem) (defBody s_need_problem) (defScope s_need_problem) .none kV2 dc2 pm2 an2 cd2 ct2), sl2⟩) (c2 : PySem.W.codeIn K cd2 "need_problem" = true) (k2 : PySem.W.keepIn K (.ref f2) = true)
    {od3 an3 : Option Addr} {sl3 : Array (Option Value)} {oc3 kV3 dc3 pm3 cd3 ct3 : Value}
    (a3 : PySem.W.nsIn K mainGlobals "periods_of" = some (some (.ref f3))) (l3 : K.lookup f3 = some ⟨oc3, od3, .func (PySem.W.fnOf "periods_of" "periods_of" (defArgs s_periods_of) (defBody s_periods_of) (defScope s_periods_of) .none kV3 dc3 pm3 an3 cd3 ct3), sl3⟩) (c3 : PySem.W.codeIn K cd3 "periods_of" = true) (k3 : PySem.W.keepIn K (.ref f3) = true)
    {od4 an4 : Option Addr} {sl4 : Array (Option Value)} {oc4 kV4 dc4 pm4 cd4 ct4 : Value}
    (a4 : PySem.W.nsIn K mainGlobals "kept" = some (some (.ref f4))) (l4 : K.lookup f4 = some ⟨oc4, od4, .func (PySem.W.fnOf "kept" "kept" (defArgs s_kept) (defBody s_kept) (defScope s_kept) .none kV4 dc4 pm4 an4 cd4 ct4), sl4⟩) (c4 : PySem.W.codeIn K cd4 "kept" = true) (k4 : PySem.W.keepIn K (.ref f4) = true)
    {od5 an5 : Option Addr} {sl5 : Array (Option Value)} {oc5 kV5 dc5 pm5 cd5 ct5 : Value}
    (a5 : PySem.W.nsIn K mainGlobals "stock_row" = some (some (.ref f5))) (l5 : K.lookup f5 = some ⟨oc5, od5, .func (PySem.W.fnOf "stock_row" "stock_row" (defArgs s_stock_row) (defBody s_stock_row) (defScope s_stock_row) .none kV5 dc5 pm5 an5 cd5 ct5), sl5⟩) (c5 : PySem.W.codeIn K cd5 "stock_row" = true) (k5 : PySem.W.keepIn K (.ref f5) = true)
    {od6 an6 : Option Addr} {sl6 : Array (Option Value)} {oc6 kV6 dc6 pm6 cd6 ct6 : Value}
    (a6 : PySem.W.nsIn K mainGlobals "need_plan" = some (some (.ref f6))) (l6 : K.lookup f6 = some ⟨oc6, od6, .func (PySem.W.fnOf "need_plan" "need_plan" (defArgs s_need_plan) (defBody s_need_plan) (defScope s_need_plan) .none kV6 dc6 pm6 an6 cd6 ct6), sl6⟩) (c6 : PySem.W.codeIn K cd6 "need_plan" = true) (k6 : PySem.W.keepIn K (.ref f6) = true)
    {od7 an7 : Option Addr} {sl7 : Array (Option Value)} {oc7 kV7 dc7 pm7 cd7 ct7 : Value}
    (a7 : PySem.W.nsIn K mainGlobals "need_both" = some (some (.ref f7))) (l7 : K.lookup f7 = some ⟨oc7, od7, .func (PySem.W.fnOf "need_both" "need_both" (defArgs s_need_both) (defBody s_need_both) (defScope s_need_both) .none kV7 dc7 pm7 an7 cd7 ct7), sl7⟩) (c7 : PySem.W.codeIn K cd7 "need_both" = true) (k7 : PySem.W.keepIn K (.ref f7) = true)
    {od8 an8 : Option Addr} {sl8 : Array (Option Value)} {oc8 kV8 dc8 pm8 cd8 ct8 : Value}
    (a8 : PySem.W.nsIn K mainGlobals "cost_of" = some (some (.ref f8))) (l8 : K.lookup f8 = some ⟨oc8, od8, .func (PySem.W.fnOf "cost_of" "cost_of" (defArgs s_cost_of) (defBody s_cost_of) (defScope s_cost_of) .none kV8 dc8 pm8 an8 cd8 ct8), sl8⟩) (c8 : PySem.W.codeIn K cd8 "cost_of" = true) (k8 : PySem.W.keepIn K (.ref f8) = true)
    {od9 an9 : Option Addr} {sl9 : Array (Option Value)} {oc9 kV9 dc9 pm9 cd9 ct9 : Value}
    (a9 : PySem.W.nsIn K mainGlobals "cost" = some (some (.ref f9))) (l9 : K.lookup f9 = some ⟨oc9, od9, .func (PySem.W.fnOf "cost" "cost" (defArgs s_cost) (defBody s_cost) (defScope s_cost) .none kV9 dc9 pm9 an9 cd9 ct9), sl9⟩) (c9 : PySem.W.codeIn K cd9 "cost" = true) (k9 : PySem.W.keepIn K (.ref f9) = true)
    {od10 an10 : Option Addr} {sl10 : Array (Option Value)} {oc10 kV10 dc10 pm10 cd10 ct10 : Value}
    (a10 : PySem.W.nsIn K mainGlobals "starts_in" = some (some (.ref f10))) (l10 : K.lookup f10 = some ⟨oc10, od10, .func (PySem.W.fnOf "starts_in" "starts_in" (defArgs s_starts_in) (defBody s_starts_in) (defScope s_starts_in) .none kV10 dc10 pm10 an10 cd10 ct10), sl10⟩) (c10 : PySem.W.codeIn K cd10 "starts_in" = true) (k10 : PySem.W.keepIn K (.ref f10) = true)
    {od11 an11 : Option Addr} {sl11 : Array (Option Value)} {oc11 kV11 dc11 pm11 cd11 ct11 : Value}
    (a11 : PySem.W.nsIn K mainGlobals "is_interval" = some (some (.ref f11))) (l11 : K.lookup f11 = some ⟨oc11, od11, .func (PySem.W.fnOf "is_interval" "is_interval" (defArgs s_is_interval) (defBody s_is_interval) (defScope s_is_interval) .none kV11 dc11 pm11 an11 cd11 ct11), sl11⟩) (c11 : PySem.W.codeIn K cd11 "is_interval" = true) (k11 : PySem.W.keepIn K (.ref f11) = true)
    {od12 an12 : Option Addr} {sl12 : Array (Option Value)} {oc12 kV12 dc12 pm12 cd12 ct12 : Value}
    (a12 : PySem.W.nsIn K mainGlobals "improved" = some (some (.ref f12))) (l12 : K.lookup f12 = some ⟨oc12, od12, .func (PySem.W.fnOf "improved" "improved" (defArgs s_improved) (defBody s_improved) (defScope s_improved) .none kV12 dc12 pm12 an12 cd12 ct12), sl12⟩) (c12 : PySem.W.codeIn K cd12 "improved" = true) (k12 : PySem.W.keepIn K (.ref f12) = true)
    {od13 an13 : Option Addr} {sl13 : Array (Option Value)} {oc13 kV13 dc13 pm13 cd13 ct13 : Value}
    (a13 : PySem.W.nsIn K mainGlobals "_law_taken" = some (some (.ref f13))) (l13 : K.lookup f13 = some ⟨oc13, od13, .func (PySem.W.fnOf "_law_taken" "_law_taken" (defArgs s_law_taken) (defBody s_law_taken) (defScope s_law_taken) .none kV13 dc13 pm13 an13 cd13 ct13), sl13⟩) (c13 : PySem.W.codeIn K cd13 "_law_taken" = true) (k13 : PySem.W.keepIn K (.ref f13) = true)
    {od14 an14 : Option Addr} {sl14 : Array (Option Value)} {oc14 kV14 dc14 pm14 cd14 ct14 : Value}
    (a14 : PySem.W.nsIn K mainGlobals "_law_pick" = some (some (.ref f14))) (l14 : K.lookup f14 = some ⟨oc14, od14, .func (PySem.W.fnOf "_law_pick" "_law_pick" (defArgs s_law_pick) (defBody s_law_pick) (defScope s_law_pick) .none kV14 dc14 pm14 an14 cd14 ct14), sl14⟩) (c14 : PySem.W.codeIn K cd14 "_law_pick" = true) (k14 : PySem.W.keepIn K (.ref f14) = true)
    {od15 an15 : Option Addr} {sl15 : Array (Option Value)} {oc15 kV15 dc15 pm15 cd15 ct15 : Value}
    (a15 : PySem.W.nsIn K mainGlobals "_law_alike" = some (some (.ref f15))) (l15 : K.lookup f15 = some ⟨oc15, od15, .func (PySem.W.fnOf "_law_alike" "_law_alike" (defArgs s_law_alike) (defBody s_law_alike) (defScope s_law_alike) .none kV15 dc15 pm15 an15 cd15 ct15), sl15⟩) (c15 : PySem.W.codeIn K cd15 "_law_alike" = true) (k15 : PySem.W.keepIn K (.ref f15) = true)
    {od16 an16 : Option Addr} {sl16 : Array (Option Value)} {oc16 kV16 dc16 pm16 cd16 ct16 : Value}
    (a16 : PySem.W.nsIn K mainGlobals "_law_entries" = some (some (.ref f16))) (l16 : K.lookup f16 = some ⟨oc16, od16, .func (PySem.W.fnOf "_law_entries" "_law_entries" (defArgs s_law_entries) (defBody s_law_entries) (defScope s_law_entries) .none kV16 dc16 pm16 an16 cd16 ct16), sl16⟩) (c16 : PySem.W.codeIn K cd16 "_law_entries" = true) (k16 : PySem.W.keepIn K (.ref f16) = true)
    {od17 an17 : Option Addr} {sl17 : Array (Option Value)} {oc17 kV17 dc17 pm17 cd17 ct17 : Value}
    (a17 : PySem.W.nsIn K mainGlobals "_law_steps" = some (some (.ref f17))) (l17 : K.lookup f17 = some ⟨oc17, od17, .func (PySem.W.fnOf "_law_steps" "_law_steps" (defArgs s_law_steps) (defBody s_law_steps) (defScope s_law_steps) .none kV17 dc17 pm17 an17 cd17 ct17), sl17⟩) (c17 : PySem.W.codeIn K cd17 "_law_steps" = true) (k17 : PySem.W.keepIn K (.ref f17) = true)
    {od18 an18 : Option Addr} {sl18 : Array (Option Value)} {oc18 kV18 dc18 pm18 cd18 ct18 : Value}
    (a18 : PySem.W.nsIn K mainGlobals "_law_problem" = some (some (.ref f18))) (l18 : K.lookup f18 = some ⟨oc18, od18, .func (PySem.W.fnOf "_law_problem" "_law_problem" (defArgs s_law_problem) (defBody s_law_problem) (defScope s_law_problem) .none kV18 dc18 pm18 an18 cd18 ct18), sl18⟩) (c18 : PySem.W.codeIn K cd18 "_law_problem" = true) (k18 : PySem.W.keepIn K (.ref f18) = true)
    {od19 an19 : Option Addr} {sl19 : Array (Option Value)} {oc19 kV19 dc19 pm19 cd19 ct19 : Value}
    (a19 : PySem.W.nsIn K mainGlobals "_law_row" = some (some (.ref f19))) (l19 : K.lookup f19 = some ⟨oc19, od19, .func (PySem.W.fnOf "_law_row" "_law_row" (defArgs s_law_row) (defBody s_law_row) (defScope s_law_row) .none kV19 dc19 pm19 an19 cd19 ct19), sl19⟩) (c19 : PySem.W.codeIn K cd19 "_law_row" = true) (k19 : PySem.W.keepIn K (.ref f19) = true)
    {od20 an20 : Option Addr} {sl20 : Array (Option Value)} {oc20 kV20 dc20 pm20 cd20 ct20 : Value}
    (a20 : PySem.W.nsIn K mainGlobals "_law_cost" = some (some (.ref f20))) (l20 : K.lookup f20 = some ⟨oc20, od20, .func (PySem.W.fnOf "_law_cost" "_law_cost" (defArgs s_law_cost) (defBody s_law_cost) (defScope s_law_cost) .none kV20 dc20 pm20 an20 cd20 ct20), sl20⟩) (c20 : PySem.W.codeIn K cd20 "_law_cost" = true) (k20 : PySem.W.keepIn K (.ref f20) = true)
    {od21 an21 : Option Addr} {sl21 : Array (Option Value)} {oc21 kV21 dc21 pm21 cd21 ct21 : Value}
    (a21 : PySem.W.nsIn K mainGlobals "_law_any_plan" = some (some (.ref f21))) (l21 : K.lookup f21 = some ⟨oc21, od21, .func (PySem.W.fnOf "_law_any_plan" "_law_any_plan" (defArgs s_law_any_plan) (defBody s_law_any_plan) (defScope s_law_any_plan) .none kV21 dc21 pm21 an21 cd21 ct21), sl21⟩) (c21 : PySem.W.codeIn K cd21 "_law_any_plan" = true) (k21 : PySem.W.keepIn K (.ref f21) = true)
    {od22 an22 : Option Addr} {sl22 : Array (Option Value)} {oc22 kV22 dc22 pm22 cd22 ct22 : Value}
    (a22 : PySem.W.nsIn K mainGlobals "_law_kept" = some (some (.ref f22))) (l22 : K.lookup f22 = some ⟨oc22, od22, .func (PySem.W.fnOf "_law_kept" "_law_kept" (defArgs s_law_kept) (defBody s_law_kept) (defScope s_law_kept) .none kV22 dc22 pm22 an22 cd22 ct22), sl22⟩) (c22 : PySem.W.codeIn K cd22 "_law_kept" = true) (k22 : PySem.W.keepIn K (.ref f22) = true)
    {od23 an23 : Option Addr} {sl23 : Array (Option Value)} {oc23 kV23 dc23 pm23 cd23 ct23 : Value}
    (a23 : PySem.W.nsIn K mainGlobals "law" = some (some (.ref f23))) (l23 : K.lookup f23 = some ⟨oc23, od23, .func (PySem.W.fnOf "law" "law" (defArgs s_law) (defBody s_law) (defScope s_law) .none kV23 dc23 pm23 an23 cd23 ct23), sl23⟩) (c23 : PySem.W.codeIn K cd23 "law" = true) (k23 : PySem.W.keepIn K (.ref f23) = true)
    (z_len : PySem.W.nsIn K mainGlobals "len" = some none)
    (z_isinstance : PySem.W.nsIn K mainGlobals "isinstance" = some none)
    (z_all : PySem.W.nsIn K mainGlobals "all" = some none)
    (z_any : PySem.W.nsIn K mainGlobals "any" = some none)
    (z_sum : PySem.W.nsIn K mainGlobals "sum" = some none)
    (z_min : PySem.W.nsIn K mainGlobals "min" = some none)
    (z_enumerate : PySem.W.nsIn K mainGlobals "enumerate" = some none)
    (z_zip : PySem.W.nsIn K mainGlobals "zip" = some none)
    (z_range : PySem.W.nsIn K mainGlobals "range" = some none)
    (z_tuple : PySem.W.nsIn K mainGlobals "tuple" = some none)
    (z_int : PySem.W.nsIn K mainGlobals "int" = some none)
    (z_bool : PySem.W.nsIn K mainGlobals "bool" = some none)
    (z_list : PySem.W.nsIn K mainGlobals "list" = some none)
    (z_str : PySem.W.nsIn K mainGlobals "str" = some none)
    {t_MOST_PERIODS : Tok} (m_MOST_PERIODS : PySem.W.nsIn K mainGlobals "MOST_PERIODS" = some (some (.int 12 t_MOST_PERIODS)))
    {t_MOST_ENTRY : Tok} (m_MOST_ENTRY : PySem.W.nsIn K mainGlobals "MOST_ENTRY" = some (some (.int 999 t_MOST_ENTRY))) :
    ∃ fd : FuncData, (∀ (s : Shared) (v : Value), BindsTo s fd ⟨[v], []⟩ [("_law_script", v)]) ∧ ∀ base : Heap, K.In base → base.Ns mainGlobals mg → FnOk l.prog w K mg base CX0 6 fa fd ["_law_script"] (spLaw K) := by
  have e := hfa.symm.trans (PySem.W.mg_of X G a23)
  cases e
  have F0 := fun_mk (st := s_is_int) l0 c0 k0
  have b0 := F0.binds (ps := ["value"]) fun _ _ _ _ _ _ us hl => match us, hl with | [_], _ => rfl
  have F1 := fun_mk (st := s_is_in) l1 c1 k1
  have b1 := F1.binds (ps := ["value", "least", "most"]) fun _ _ _ _ _ _ us hl => match us, hl with | [_, _, _], _ => rfl
  have F2 := fun_mk (st := s_need_problem) l2 c2 k2
  have b2 := F2.binds (ps := ["value"]) fun _ _ _ _ _ _ us hl => match us, hl with | [_], _ => rfl
  have F3 := fun_mk (st := s_periods_of) l3 c3 k3
  have b3 := F3.binds (ps := ["problem"]) fun _ _ _ _ _ _ us hl => match us, hl with | [_], _ => rfl
  have F4 := fun_mk (st := s_kept) l4 c4 k4
  have b4 := F4.binds (ps := ["problem", "start", "goal"]) fun _ _ _ _ _ _ us hl => match us, hl with | [_, _, _], _ => rfl
  have F5 := fun_mk (st := s_stock_row) l5 c5 k5
  have b5 := F5.binds (ps := ["demands", "amounts"]) fun _ _ _ _ _ _ us hl => match us, hl with | [_, _], _ => rfl
  have F6 := fun_mk (st := s_need_plan) l6 c6 k6
  have b6 := F6.binds (ps := ["problem", "value"]) fun _ _ _ _ _ _ us hl => match us, hl with | [_, _], _ => rfl
  have F7 := fun_mk (st := s_need_both) l7 c7 k7
  have b7 := F7.binds (ps := ["problem", "plan"]) fun _ _ _ _ _ _ us hl => match us, hl with | [_, _], _ => rfl
  have F8 := fun_mk (st := s_cost_of) l8 c8 k8
  have b8 := F8.binds (ps := ["problem", "plan"]) fun _ _ _ _ _ _ us hl => match us, hl with | [_, _], _ => rfl
  have F9 := fun_mk (st := s_cost) l9 c9 k9
  have b9 := F9.binds (ps := ["problem", "plan"]) fun _ _ _ _ _ _ us hl => match us, hl with | [_, _], _ => rfl
  have F10 := fun_mk (st := s_starts_in) l10 c10 k10
  have b10 := F10.binds (ps := ["plan"]) fun _ _ _ _ _ _ us hl => match us, hl with | [_], _ => rfl
  have F11 := fun_mk (st := s_is_interval) l11 c11 k11
  have b11 := F11.binds (ps := ["problem", "plan"]) fun _ _ _ _ _ _ us hl => match us, hl with | [_, _], _ => rfl
  have F12 := fun_mk (st := s_improved) l12 c12 k12
  have b12 := F12.binds (ps := ["problem", "plan"]) fun _ _ _ _ _ _ us hl => match us, hl with | [_, _], _ => rfl
  have F13 := fun_mk (st := s_law_taken) l13 c13 k13
  have b13 := F13.binds (ps := ["_law_row_here", "_law_many"]) fun _ _ _ _ _ _ us hl => match us, hl with | [_, _], _ => rfl
  have F14 := fun_mk (st := s_law_pick) l14 c14 k14
  have b14 := F14.binds (ps := ["_law_row_here", "_law_things"]) fun _ _ _ _ _ _ us hl => match us, hl with | [_, _], _ => rfl
  have F15 := fun_mk (st := s_law_alike) l15 c15 k15
  have b15 := F15.binds (ps := ["_law_found", "_law_due"]) fun _ _ _ _ _ _ us hl => match us, hl with | [_, _], _ => rfl
  have F16 := fun_mk (st := s_law_entries) l16 c16 k16
  have b16 := F16.binds (ps := ["_law_row_here", "_law_many", "_law_most"]) fun _ _ _ _ _ _ us hl => match us, hl with | [_, _, _], _ => rfl
  have F17 := fun_mk (st := s_law_steps) l17 c17 k17
  have b17 := F17.binds (ps := ["_law_row_here", "_law_many", "_law_most"]) fun _ _ _ _ _ _ us hl => match us, hl with | [_, _, _], _ => rfl
  have F18 := fun_mk (st := s_law_problem) l18 c18 k18
  have b18 := F18.binds (ps := ["_law_row_here", "_law_many"]) fun _ _ _ _ _ _ us hl => match us, hl with | [_, _], _ => rfl
  have F19 := fun_mk (st := s_law_row) l19 c19 k19
  have b19 := F19.binds (ps := ["_law_demands", "_law_plan"]) fun _ _ _ _ _ _ us hl => match us, hl with | [_, _], _ => rfl
  have F20 := fun_mk (st := s_law_cost) l20 c20 k20
  have b20 := F20.binds (ps := ["_law_problem_here", "_law_plan"]) fun _ _ _ _ _ _ us hl => match us, hl with | [_, _], _ => rfl
  have F21 := fun_mk (st := s_law_any_plan) l21 c21 k21
  have b21 := F21.binds (ps := ["_law_row_here", "_law_demands"]) fun _ _ _ _ _ _ us hl => match us, hl with | [_, _], _ => rfl
  have F22 := fun_mk (st := s_law_kept) l22 c22 k22
  have b22 := F22.binds (ps := ["_law_problem_here", "_law_start", "_law_goal"]) fun _ _ _ _ _ _ us hl => match us, hl with | [_, _, _], _ => rfl
  have F23 := fun_mk (st := s_law) l23 c23 k23
  have T : Txt K mg (fun j => [f0, f1, f2, f3, f4, f5, f6, f7, f8, f9, f10, f11, f12, f13, f14, f15, f16, f17, f18, f19, f20, f21, f22].getD j f0) (fun j => [PySem.W.fnOf "is_int" "is_int" (defArgs s_is_int) (defBody s_is_int) (defScope s_is_int) .none kV0 dc0 pm0 an0 cd0 ct0, PySem.W.fnOf "is_in" "is_in" (defArgs s_is_in) (defBody s_is_in) (defScope s_is_in) .none kV1 dc1 pm1 an1 cd1 ct1, PySem.W.fnOf "need_problem" "need_problem" (defArgs s_need_problem) (defBody s_need_problem) (defScope s_need_problem) .none kV2 dc2 pm2 an2 cd2 ct2, PySem.W.fnOf "periods_of" "periods_of" (defArgs s_periods_of) (defBody s_periods_of) (defScope s_periods_of) .none kV3 dc3 pm3 an3 cd3 ct3, PySem.W.fnOf "kept" "kept" (defArgs s_kept) (defBody s_kept) (defScope s_kept) .none kV4 dc4 pm4 an4 cd4 ct4, PySem.W.fnOf "stock_row" "stock_row" (defArgs s_stock_row) (defBody s_stock_row) (defScope s_stock_row) .none kV5 dc5 pm5 an5 cd5 ct5, PySem.W.fnOf "need_plan" "need_plan" (defArgs s_need_plan) (defBody s_need_plan) (defScope s_need_plan) .none kV6 dc6 pm6 an6 cd6 ct6, PySem.W.fnOf "need_both" "need_both" (defArgs s_need_both) (defBody s_need_both) (defScope s_need_both) .none kV7 dc7 pm7 an7 cd7 ct7, PySem.W.fnOf "cost_of" "cost_of" (defArgs s_cost_of) (defBody s_cost_of) (defScope s_cost_of) .none kV8 dc8 pm8 an8 cd8 ct8, PySem.W.fnOf "cost" "cost" (defArgs s_cost) (defBody s_cost) (defScope s_cost) .none kV9 dc9 pm9 an9 cd9 ct9, PySem.W.fnOf "starts_in" "starts_in" (defArgs s_starts_in) (defBody s_starts_in) (defScope s_starts_in) .none kV10 dc10 pm10 an10 cd10 ct10, PySem.W.fnOf "is_interval" "is_interval" (defArgs s_is_interval) (defBody s_is_interval) (defScope s_is_interval) .none kV11 dc11 pm11 an11 cd11 ct11, PySem.W.fnOf "improved" "improved" (defArgs s_improved) (defBody s_improved) (defScope s_improved) .none kV12 dc12 pm12 an12 cd12 ct12, PySem.W.fnOf "_law_taken" "_law_taken" (defArgs s_law_taken) (defBody s_law_taken) (defScope s_law_taken) .none kV13 dc13 pm13 an13 cd13 ct13, PySem.W.fnOf "_law_pick" "_law_pick" (defArgs s_law_pick) (defBody s_law_pick) (defScope s_law_pick) .none kV14 dc14 pm14 an14 cd14 ct14, PySem.W.fnOf "_law_alike" "_law_alike" (defArgs s_law_alike) (defBody s_law_alike) (defScope s_law_alike) .none kV15 dc15 pm15 an15 cd15 ct15, PySem.W.fnOf "_law_entries" "_law_entries" (defArgs s_law_entries) (defBody s_law_entries) (defScope s_law_entries) .none kV16 dc16 pm16 an16 cd16 ct16, PySem.W.fnOf "_law_steps" "_law_steps" (defArgs s_law_steps) (defBody s_law_steps) (defScope s_law_steps) .none kV17 dc17 pm17 an17 cd17 ct17, PySem.W.fnOf "_law_problem" "_law_problem" (defArgs s_law_problem) (defBody s_law_problem) (defScope s_law_problem) .none kV18 dc18 pm18 an18 cd18 ct18, PySem.W.fnOf "_law_row" "_law_row" (defArgs s_law_row) (defBody s_law_row) (defScope s_law_row) .none kV19 dc19 pm19 an19 cd19 ct19, PySem.W.fnOf "_law_cost" "_law_cost" (defArgs s_law_cost) (defBody s_law_cost) (defScope s_law_cost) .none kV20 dc20 pm20 an20 cd20 ct20, PySem.W.fnOf "_law_any_plan" "_law_any_plan" (defArgs s_law_any_plan) (defBody s_law_any_plan) (defScope s_law_any_plan) .none kV21 dc21 pm21 an21 cd21 ct21, PySem.W.fnOf "_law_kept" "_law_kept" (defArgs s_law_kept) (defBody s_law_kept) (defScope s_law_kept) .none kV22 dc22 pm22 an22 cd22 ct22].getD j (PySem.W.fnOf "is_int" "is_int" (defArgs s_is_int) (defBody s_is_int) (defScope s_is_int) .none kV0 dc0 pm0 an0 cd0 ct0)) :=
    ⟨⟨F0, PySem.W.mg_of X G a0, b0⟩, ⟨F1, PySem.W.mg_of X G a1, b1⟩, ⟨F2, PySem.W.mg_of X G a2, b2⟩, ⟨F3, PySem.W.mg_of X G a3, b3⟩, ⟨F4, PySem.W.mg_of X G a4, b4⟩, ⟨F5, PySem.W.mg_of X G a5, b5⟩, ⟨F6, PySem.W.mg_of X G a6, b6⟩, ⟨F7, PySem.W.mg_of X G a7, b7⟩, ⟨F8, PySem.W.mg_of X G a8, b8⟩, ⟨F9, PySem.W.mg_of X G a9, b9⟩, ⟨F10, PySem.W.mg_of X G a10, b10⟩, ⟨F11, PySem.W.mg_of X G a11, b11⟩, ⟨F12, PySem.W.mg_of X G a12, b12⟩, ⟨F13, PySem.W.mg_of X G a13, b13⟩, ⟨F14, PySem.W.mg_of X G a14, b14⟩, ⟨F15, PySem.W.mg_of X G a15, b15⟩, ⟨F16, PySem.W.mg_of X G a16, b16⟩, ⟨F17, PySem.W.mg_of X G a17, b17⟩, ⟨F18, PySem.W.mg_of X G a18, b18⟩, ⟨F19, PySem.W.mg_of X G a19, b19⟩, ⟨F20, PySem.W.mg_of X G a20, b20⟩, ⟨F21, PySem.W.mg_of X G a21, b21⟩, ⟨F22, PySem.W.mg_of X G a22, b22⟩, PySem.W.mg_none_of X G z_len, PySem.W.mg_none_of X G z_isinstance, PySem.W.mg_none_of X G z_all, PySem.W.mg_none_of X G z_any, PySem.W.mg_none_of X G z_sum, PySem.W.mg_none_of X G z_min, PySem.W.mg_none_of X G z_enumerate, PySem.W.mg_none_of X G z_zip, PySem.W.mg_none_of X G z_range, PySem.W.mg_none_of X G z_tuple, PySem.W.mg_none_of X G z_int, PySem.W.mg_none_of X G z_bool, PySem.W.mg_none_of X G z_list, PySem.W.mg_none_of X G z_str, ⟨_, PySem.W.mg_of X G m_MOST_PERIODS⟩, ⟨_, PySem.W.mg_of X G m_MOST_ENTRY⟩⟩
  exact ⟨PySem.W.fnOf "law" "law" (defArgs s_law) (defBody s_law) (defScope s_law) .none kV23 dc23 pm23 an23 cd23 ct23, fun s v => .of_eq rfl, fun base _ _ => ok_law F23 T⟩
theorem walk {l : PySem.W.OpenLaw} {q : Program} {loose : List Str} {XP : (Str → Option Value) → Heap → Prop} {YP : World → Heap → Prop} {d : DefRec} {K : Params → PySem.W.Frag} (hn : l.most = some 63) (hdf : d.params.defaults = [])
    (hY : ∀ (w : World) (h : Heap), YP w h → (K w.params).In h)
    (F : ∀ (w : World) (mg : Str → Option Value) (fa : Addr) (h : Heap), (K w.params).In h → h.Ns mainGlobals mg → mg d.name = some (.ref fa) →
      ∃ fd : FuncData, (∀ (s : Shared) (u : Value), BindsTo s fd ⟨[u], []⟩ [("_law_script", u)]) ∧ ∀ base : Heap, (K w.params).In base → base.Ns mainGlobals mg → FnOk l.prog w (K w.params) mg base CX0 6 fa fd ["_law_script"] (spLaw (K w.params))) :
    PySem.W.WalkO q loose XP YP l.row.toRowW d [] (fun f vs => PySem.call f vs) :=
  L2.walk_of (n := 63) (k := 6) (x := "_law_script") (CX := fun _ => CX0) (sp := fun w => spLaw (K w.params)) hn (by decide) hdf ⟨rfl, by decide, by decide⟩ hY F (fun _ _ a ns hl _ hS => ⟨a, ns, rfl, hS, hl, fun _ => rfl⟩) fun _ _ _ _ _ z => z
end Lp
open PySem PySem.W PyProof.Rows
set_option maxRecDepth 100000 in
set_option maxHeartbeats 0 in
theorem PySem.Challenge.cw_lotplans_k03_whole_improved_holds : PySem.Challenge.rw_lotplans_k03_whole_improved.Holds := by
  w_on; o_law; k_head; (case hw => w_witness2)
  k_fill
  refine Lp.walk (l := PySem.Challenge.rw_lotplans_k03_whole_improved) rfl rfl (fun w h Y => PySem.W.kIn_of Y) ?F
  case F =>
    intro w mg fa h KX G hmg
    refine' Lp.all_mk KX G hmg ?a0 ?l0 ?c0 ?k0 ?a1 ?l1 ?c1 ?k1 ?a2 ?l2 ?c2 ?k2 ?a3 ?l3 ?c3 ?k3 ?a4 ?l4 ?c4 ?k4 ?a5 ?l5 ?c5 ?k5 ?a6 ?l6 ?c6 ?k6 ?a7 ?l7 ?c7 ?k7 ?a8 ?l8 ?c8 ?k8 ?a9 ?l9 ?c9 ?k9 ?a10 ?l10 ?c10 ?k10 ?a11 ?l11 ?c11 ?k11 ?a12 ?l12 ?c12 ?k12 ?a13 ?l13 ?c13 ?k13 ?a14 ?l14 ?c14 ?k14 ?a15 ?l15 ?c15 ?k15 ?a16 ?l16 ?c16 ?k16 ?a17 ?l17 ?c17 ?k17 ?a18 ?l18 ?c18 ?k18 ?a19 ?l19 ?c19 ?k19 ?a20 ?l20 ?c20 ?k20 ?a21 ?l21 ?c21 ?k21 ?a22 ?l22 ?c22 ?k22 ?a23 ?l23 ?c23 ?k23 ?z_len ?z_isinstance ?z_all ?z_any ?z_sum ?z_min ?z_enumerate ?z_zip ?z_range ?z_tuple ?z_int ?z_bool ?z_list ?z_str ?m_MOST_PERIODS ?m_MOST_ENTRY
    (case a0 => k_is)
    (case l0 => k_is)
    (case c0 => k_is)
    (case k0 => k_is)
    (case a1 => k_is)
    (case l1 => k_is)
    (case c1 => k_is)
    (case k1 => k_is)
    (case a2 => k_is)
    (case l2 => k_is)
    (case c2 => k_is)
    (case k2 => k_is)
    (case a3 => k_is)
    (case l3 => k_is)
    (case c3 => k_is)
    (case k3 => k_is)
    (case a4 => k_is)
    (case l4 => k_is)
    (case c4 => k_is)
    (case k4 => k_is)
    (case a5 => k_is)
    (case l5 => k_is)
    (case c5 => k_is)
    (case k5 => k_is)
    (case a6 => k_is)
    (case l6 => k_is)
    (case c6 => k_is)
    (case k6 => k_is)
    (case a7 => k_is)
    (case l7 => k_is)
    (case c7 => k_is)
    (case k7 => k_is)
    (case a8 => k_is)
    (case l8 => k_is)
    (case c8 => k_is)
    (case k8 => k_is)
    (case a9 => k_is)
    (case l9 => k_is)
    (case c9 => k_is)
    (case k9 => k_is)
    (case a10 => k_is)
    (case l10 => k_is)
    (case c10 => k_is)
    (case k10 => k_is)
    (case a11 => k_is)
    (case l11 => k_is)
    (case c11 => k_is)
    (case k11 => k_is)
    (case a12 => k_is)
    (case l12 => k_is)
    (case c12 => k_is)
    (case k12 => k_is)
    (case a13 => k_is)
    (case l13 => k_is)
    (case c13 => k_is)
    (case k13 => k_is)
    (case a14 => k_is)
    (case l14 => k_is)
    (case c14 => k_is)
    (case k14 => k_is)
    (case a15 => k_is)
    (case l15 => k_is)
    (case c15 => k_is)
    (case k15 => k_is)
    (case a16 => k_is)
    (case l16 => k_is)
    (case c16 => k_is)
    (case k16 => k_is)
    (case a17 => k_is)
    (case l17 => k_is)
    (case c17 => k_is)
    (case k17 => k_is)
    (case a18 => k_is)
    (case l18 => k_is)
    (case c18 => k_is)
    (case k18 => k_is)
    (case a19 => k_is)
    (case l19 => k_is)
    (case c19 => k_is)
    (case k19 => k_is)
    (case a20 => k_is)
    (case l20 => k_is)
    (case c20 => k_is)
    (case k20 => k_is)
    (case a21 => k_is)
    (case l21 => k_is)
    (case c21 => k_is)
    (case k21 => k_is)
    (case a22 => k_is)
    (case l22 => k_is)
    (case c22 => k_is)
    (case k22 => k_is)
    (case a23 => k_is)
    (case l23 => k_is)
    (case c23 => k_is)
    (case k23 => k_is)
    (case z_len => k_is)
    (case z_isinstance => k_is)
    (case z_all => k_is)
    (case z_any => k_is)
    (case z_sum => k_is)
    (case z_min => k_is)
    (case z_enumerate => k_is)
    (case z_zip => k_is)
    (case z_range => k_is)
    (case z_tuple => k_is)
    (case z_int => k_is)
    (case z_bool => k_is)
    (case z_list => k_is)
    (case z_str => k_is)
    (case m_MOST_PERIODS => k_is)
    (case m_MOST_ENTRY => k_is)
