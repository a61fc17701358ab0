import PyProof.Rows.All
import Wide.All
import OpenK.AllK
import Wide.FinOn
import HandS.ForMost
import HandS.MakeKwOnly
import HandS.IsInst
import HandS.OwnEq
import HandS.Wide
import HandS.ForExc
import HandS.ExcInit
import HandS.ExcIs
import HandS.ExcField
import KE.KExcIs
import HandS.Steps
import PySem.Challenge.RW_askford_k02_dates_that_are_none
set_option linter.all false
namespace Cal
/-- leap -/
def leap (y : Int) : Bool := decide (y % 4 = 0) && (decide (¬ y % 100 = 0) || decide (y % 400 = 0))
def b2 (b : Bool) : Int := if b then 1 else 0
def lens : List Int := [31, 28, 31, 30, 31, 30, 31, 31, 30, 31, 30, 31]
def lastOf (y m : Int) : Int := lens.getD (m - 1).toNat 0 + b2 (decide (m = 2) && leap y)
def since (y m : Int) : Int := y - b2 (decide (m < 3))
def aheadOf (m d : Int) : Int := (153 * ((m + 9) % 12) + 2) / 5 + d - 1
def num (y m d : Int) : Int := 365 * since y m + since y m / 4 - since y m / 100 + since y m / 400 + aheadOf m d
def pCyc (n : Int) : Int := n / 146097
def pLeft (n : Int) : Int := n % 146097
def pYear (l : Int) : Int := (l - l / 1460 + l / 36524 - l / 146096) / 365
def pAhead (l : Int) : Int := l - (365 * pYear l + pYear l / 4 - pYear l / 100)
def pTurn (l : Int) : Int := (5 * pAhead l + 2) / 153
def pMonth (l : Int) : Int := if pTurn l < 10 then pTurn l + 3 else pTurn l - 9
def partY (n : Int) : Int := pYear (pLeft n) + 400 * pCyc n + b2 (decide (pMonth (pLeft n) < 3))
def partM (n : Int) : Int := pMonth (pLeft n)
def partD (n : Int) : Int := pAhead (pLeft n) - (153 * pTurn (pLeft n) + 2) / 5 + 1
def valid (y m d : Int) : Prop := 1 ≤ m ∧ m ≤ 12 ∧ 1 ≤ d ∧ d ≤ lastOf y m

/-- the year within the four hundred -/
theorem year_lo {l : Int} (h0 : 0 ≤ l) (h1 : l < 146097) : 0 ≤ pYear l ∧ pYear l ≤ 399 := by
  unfold pYear; omega
/-- days ahead of the year Y of the four hundred -/
def S (Y : Nat) : Nat := if Y = 400 then 146097 else 365 * Y + Y / 4 - Y / 100
def fN (l : Nat) : Nat := l - l / 1460 + l / 36524 - l / 146096
theorem fN_mono {a b : Nat} (h : a ≤ b) (hb : b < 146097) : fN a ≤ fN b := by
  unfold fN; omega
theorem S_lo : ∀ Y : Nat, Y < 400 → 365 * Y ≤ fN (S Y) := by decide +kernel
theorem S_hi : ∀ Y : Nat, Y < 400 → fN (S (Y + 1) - 1) < 365 * (Y + 1) := by decide +kernel
theorem S_le : ∀ Y : Nat, Y < 401 → S Y ≤ 146097 := by decide +kernel
theorem S_step : ∀ Y : Nat, Y < 400 → S Y < S (Y + 1) := by decide +kernel
theorem fN_of {l : Nat} {Y : Nat} (hY : Y < 400) (h0 : S Y ≤ l) (h1 : l < S (Y + 1)) : fN l / 365 = Y := by
  have a := S_lo Y hY
  have b := S_hi Y hY
  have c := S_le (Y + 1) (by omega)
  have m1 := fN_mono h0 (by omega)
  have m2 := fN_mono (show l ≤ S (Y + 1) - 1 by omega) (by omega)
  omega
theorem ex_year (l : Nat) : ∀ N : Nat, N ≤ 400 → l < S N → ∃ Y, Y < N ∧ S Y ≤ l ∧ l < S (Y + 1)
  | 0, _, h => by
    have : S 0 = 0 := by decide
    omega
  | N + 1, hN, h => by
    by_cases g : S N ≤ l
    · exact ⟨N, by omega, g, h⟩
    · obtain ⟨Y, a, b, c⟩ := ex_year l N (by omega) (by omega)
      exact ⟨Y, by omega, b, c⟩
theorem pYear_nat (l : Nat) (h : l < 146097) : pYear (l : Int) = ((fN l / 365 : Nat) : Int) := by
  unfold pYear fN; omega
/-- a place in the four hundred years: its year and its day in the year -/
theorem year_at {l : Int} (h0 : 0 ≤ l) (h1 : l < 146097) : ∃ Y : Nat, Y < 400 ∧ pYear l = Y ∧ (S Y : Int) ≤ l ∧ l < (S (Y + 1) : Int) := by
  obtain ⟨k, rfl⟩ : ∃ k : Nat, l = k := ⟨l.toNat, by omega⟩
  obtain ⟨Y, a, b, c⟩ := ex_year k 400 (by omega) (by show k < 146097; omega)
  refine ⟨Y, a, ?_, by omega, by omega⟩
  rw [pYear_nat k (by omega), fN_of a b c]
theorem year_of {l : Int} {Y : Nat} (hY : Y < 400) (h0 : (S Y : Int) ≤ l) (h1 : l < (S (Y + 1) : Int)) : pYear l = Y := by
  obtain ⟨k, rfl⟩ : ∃ k : Nat, l = k := ⟨l.toNat, by omega⟩
  have c := S_le (Y + 1) (by omega)
  rw [pYear_nat k (by omega), fN_of hY (by omega) (by omega)]
theorem S_eq (Y : Nat) (h : Y < 400) : (S Y : Int) = 365 * (Y : Int) + (Y : Int) / 4 - (Y : Int) / 100 := by
  unfold S; rw [if_neg (by omega)]; omega
/-- the length of the year Y, from March on -/
theorem S_len (Y : Nat) (h : Y < 400) : (S (Y + 1) : Int) = S Y + 365 + b2 (leap ((Y : Int) + 1)) := by
  have : ∀ Y : Nat, Y < 400 → (S (Y + 1) : Int) = S Y + 365 + b2 (leap ((Y : Int) + 1)) := by decide +kernel
  exact this Y h
theorem month_cases {m : Int} (h1 : 1 ≤ m) (h2 : m ≤ 12) : m = 1 ∨ m = 2 ∨ m = 3 ∨ m = 4 ∨ m = 5 ∨ m = 6 ∨ m = 7 ∨ m = 8 ∨ m = 9 ∨ m = 10 ∨ m = 11 ∨ m = 12 := by omega
theorem b2_le (b : Bool) : 0 ≤ b2 b ∧ b2 b ≤ 1 := by cases b <;> decide
theorem leap_cyc (y c : Int) : leap (y + 400 * c) = leap y := by
  unfold leap
  rw [show (y + 400 * c) % 4 = y % 4 by omega, show (y + 400 * c) % 100 = y % 100 by omega, show (y + 400 * c) % 400 = y % 400 by omega]
theorem last_2 (y : Int) : lastOf y 2 = 28 + b2 (leap y) := rfl
theorem last_n {y m : Int} (h1 : 1 ≤ m) (h2 : m ≤ 12) (h : m ≠ 2) : lastOf y m = lens.getD (m - 1).toNat 0 := by
  unfold lastOf
  rw [decide_eq_false h]
  show lens.getD (m - 1).toNat 0 + 0 = _
  omega
/-- the turn of a day in a year from March on, and of a month -/
theorem ahead_of {y m d : Int} (h : valid y m d) : 0 ≤ aheadOf m d ∧ aheadOf m d < 365 + (if m = 2 then b2 (leap y) else 0) ∧ (5 * aheadOf m d + 2) / 153 = (m + 9) % 12 := by
  obtain ⟨h1, h2, h3, h4⟩ := h
  unfold aheadOf
  rcases month_cases h1 h2 with rfl | rfl | rfl | rfl | rfl | rfl | rfl | rfl | rfl | rfl | rfl | rfl
  case inr.inl =>
    rw [last_2] at h4
    rw [if_pos rfl]
    have := b2_le (leap y)
    omega
  all_goals
    rw [last_n (by decide) (by decide) (by decide)] at h4
    rw [if_neg (by decide)]
    simp only [lens, Int.reduceSub, Int.reduceToNat, List.getD_cons_zero, List.getD_cons_succ, show (1 : Int).toNat = 1 from rfl, show (0 : Int).toNat = 0 from rfl, show (2 : Int).toNat = 2 from rfl] at h4
    omega
theorem since_eq {y m : Int} : since y m = if m < 3 then y - 1 else y := by
  unfold since b2
  by_cases h : m < 3 <;> simp [h]
theorem num_eq (y m d : Int) : ∃ (Y : Nat) (c : Int), Y < 400 ∧ since y m = Y + 400 * c ∧ num y m d = 146097 * c + S Y + aheadOf m d := by
  refine ⟨(since y m % 400).toNat, since y m / 400, by omega, by omega, ?_⟩
  have e := S_eq (since y m % 400).toNat (by omega)
  rw [e]
  unfold num
  omega
theorem num_parts {y m d : Int} (h : valid y m d) : partY (num y m d) = y ∧ partM (num y m d) = m ∧ partD (num y m d) = d := by
  obtain ⟨Y, c, hY, es, en⟩ := num_eq y m d
  obtain ⟨a0, a1, at'⟩ := ahead_of h
  have hl := S_len Y hY
  have hle := S_le (Y + 1) (by omega)
  have hb := b2_le (leap ((Y : Int) + 1))
  have lo : (S Y : Int) ≤ S Y + aheadOf m d := by omega
  have hi : (S Y : Int) + aheadOf m d < S (Y + 1) := by
    by_cases hm : m = 2
    · subst hm
      rw [if_pos rfl] at a1
      have ey : y = (Y + 1) + 400 * c := by rw [since_eq, if_pos (by decide)] at es; omega
      rw [ey, leap_cyc] at a1
      omega
    · rw [if_neg hm] at a1
      omega
  have eL : pLeft (num y m d) = S Y + aheadOf m d := by unfold pLeft; omega
  have eC : pCyc (num y m d) = c := by unfold pCyc; omega
  have eY : pYear (S Y + aheadOf m d) = Y := year_of hY lo hi
  have eA : pAhead (S Y + aheadOf m d) = aheadOf m d := by
    unfold pAhead; rw [eY]; have := S_eq Y hY; omega
  have eT : pTurn (S Y + aheadOf m d) = (m + 9) % 12 := by unfold pTurn; rw [eA, at']
  obtain ⟨h1, h2, h3, h4⟩ := h
  have eM : pMonth (S Y + aheadOf m d) = m := by
    unfold pMonth; rw [eT]; split <;> omega
  refine ⟨?_, ?_, ?_⟩
  · unfold partY
    rw [eL, eC, eY, eM]
    unfold since at es
    omega
  · unfold partM; rw [eL, eM]
  · unfold partD; rw [eL, eA, eT]; unfold aheadOf; omega
theorem parts_valid (n : Int) : valid (partY n) (partM n) (partD n) ∧ num (partY n) (partM n) (partD n) = n := by
  have l0 : 0 ≤ pLeft n := by unfold pLeft; omega
  have l1 : pLeft n < 146097 := by unfold pLeft; omega
  obtain ⟨Y, hY, eY, lo, hi⟩ := year_at l0 l1
  have hl := S_len Y hY
  have hb := b2_le (leap ((Y : Int) + 1))
  have eS := S_eq Y hY
  have eA : pAhead (pLeft n) = pLeft n - S Y := by unfold pAhead; rw [eY]; omega
  have a0 : 0 ≤ pAhead (pLeft n) := by omega
  have a1 : pAhead (pLeft n) < 365 + b2 (leap ((Y : Int) + 1)) := by omega
  have eT : pTurn (pLeft n) = (5 * pAhead (pLeft n) + 2) / 153 := rfl
  have t0 : 0 ≤ pTurn (pLeft n) := by omega
  have t1 : pTurn (pLeft n) ≤ 11 := by omega
  have eM : pMonth (pLeft n) = if pTurn (pLeft n) < 10 then pTurn (pLeft n) + 3 else pTurn (pLeft n) - 9 := rfl
  have ec : n = 146097 * pCyc n + pLeft n := by unfold pCyc pLeft; omega
  have eMM : partM n = pMonth (pLeft n) := rfl
  have eD : partD n = pAhead (pLeft n) - (153 * pTurn (pLeft n) + 2) / 5 + 1 := rfl
  have m1 : 1 ≤ partM n ∧ partM n ≤ 12 ∧ (partM n + 9) % 12 = pTurn (pLeft n) := by
    rw [eMM, eM]; split <;> omega
  have eYY : partY n = Y + 400 * pCyc n + b2 (decide (partM n < 3)) := by
    show pYear (pLeft n) + 400 * pCyc n + b2 (decide (pMonth (pLeft n) < 3)) = _
    rw [eY, eMM]
  have es : since (partY n) (partM n) = Y + 400 * pCyc n := by unfold since; omega
  have ea : aheadOf (partM n) (partD n) = pAhead (pLeft n) := by
    unfold aheadOf; rw [m1.2.2, eD]; omega
  refine ⟨⟨m1.1, m1.2.1, ?_, ?_⟩, ?_⟩
  · rw [eD]; omega
  · by_cases h2 : partM n = 2
    · rw [h2, last_2]
      have : partY n = (Y + 1 : Int) + 400 * pCyc n := by
        rw [h2, show b2 (decide ((2 : Int) < 3)) = 1 from rfl] at eYY; omega
      rw [this, leap_cyc]
      have t : pTurn (pLeft n) = 11 := by omega
      rw [eD]; omega
    · rw [last_n m1.1 m1.2.1 h2]
      rw [eD]
      have m3 := m1.2.2
      generalize partM n = m at *
      rcases month_cases m1.1 m1.2.1 with rfl | rfl | rfl | rfl | rfl | rfl | rfl | rfl | rfl | rfl | rfl | rfl
      case inr.inl => exact absurd rfl h2
      all_goals
        simp only [lens, Int.reduceSub, Int.reduceToNat, List.getD_cons_zero, List.getD_cons_succ, show (1 : Int).toNat = 1 from rfl, show (0 : Int).toNat = 0 from rfl, show (2 : Int).toNat = 2 from rfl]
        omega
  · unfold num
    rw [es, ea]
    have q4 : ((Y : Int) + 400 * pCyc n) / 4 = Y / 4 + 100 * pCyc n := by omega
    have q100 : ((Y : Int) + 400 * pCyc n) / 100 = Y / 100 + 4 * pCyc n := by omega
    have q400 : ((Y : Int) + 400 * pCyc n) / 400 = pCyc n := by omega
    rw [q4, q100, q400]
    omega
/-- the next date -/
def aftY (y m d : Int) : Int := if d < lastOf y m then y else if m < 12 then y else y + 1
def aftM (y m d : Int) : Int := if d < lastOf y m then m else if m < 12 then m + 1 else 1
def aftD (y m d : Int) : Int := if d < lastOf y m then d + 1 else 1
theorem last_pos {y m : Int} (h1 : 1 ≤ m) (h2 : m ≤ 12) : 28 ≤ lastOf y m ∧ lastOf y m ≤ 31 := by
  rcases month_cases h1 h2 with rfl | rfl | rfl | rfl | rfl | rfl | rfl | rfl | rfl | rfl | rfl | rfl
  case inr.inl =>
    rw [last_2]
    have := b2_le (leap y)
    omega
  all_goals
    rw [last_n (by decide) (by decide) (by decide)]
    decide
theorem leap_num (y : Int) : b2 (leap y) = (y / 4 - y / 100 + y / 400) - ((y - 1) / 4 - (y - 1) / 100 + (y - 1) / 400) := by
  unfold leap b2
  by_cases h4 : y % 4 = 0
  · by_cases h1 : y % 100 = 0
    · by_cases h400 : y % 400 = 0
      · simp [h4, h1, h400]; omega
      · simp [h4, h1, h400]; omega
    · simp [h4, h1]; omega
  · simp [h4]; omega
theorem after_num {y m d : Int} (h : valid y m d) : valid (aftY y m d) (aftM y m d) (aftD y m d) ∧ num (aftY y m d) (aftM y m d) (aftD y m d) = num y m d + 1 := by
  obtain ⟨h1, h2, h3, h4⟩ := h
  unfold aftY aftM aftD
  by_cases hd : d < lastOf y m
  · rw [if_pos hd, if_pos hd, if_pos hd]
    refine ⟨⟨h1, h2, by omega, by omega⟩, ?_⟩
    unfold num aheadOf; omega
  · rw [if_neg hd, if_neg hd, if_neg hd]
    have ed : d = lastOf y m := by omega
    by_cases hm : m < 12
    · rw [if_pos hm, if_pos hm]
      refine ⟨⟨by omega, by omega, by omega, by have := (@last_pos y (m + 1) (by omega) (by omega)).1; omega⟩, ?_⟩
      rcases month_cases h1 h2 with rfl | rfl | rfl | rfl | rfl | rfl | rfl | rfl | rfl | rfl | rfl | rfl
      case inr.inl =>
        rw [ed, last_2]
        have := leap_num y
        unfold num aheadOf
        rw [since_eq, since_eq, if_neg (by decide), if_pos (by decide)]
        omega
      case inr.inr.inr.inr.inr.inr.inr.inr.inr.inr.inr => omega
      all_goals
        rw [ed, last_n (by decide) (by decide) (by decide)]
        unfold num aheadOf
        rw [since_eq, since_eq]
        simp [lens]
        try omega
    · have : m = 12 := by omega
      subst this
      rw [if_neg (by decide), if_neg (by decide)]
      refine ⟨⟨by decide, by decide, by decide, by have := (@last_pos (y + 1) 1 (by decide) (by decide)).1; omega⟩, ?_⟩
      rw [ed, last_n (by decide) (by decide) (by decide)]
      unfold num aheadOf
      rw [since_eq, since_eq]
      simp [lens]
      omega
theorem after_parts {y m d : Int} (h : valid y m d) : partY (num y m d + 1) = aftY y m d ∧ partM (num y m d + 1) = aftM y m d ∧ partD (num y m d + 1) = aftD y m d := by
  obtain ⟨a, b⟩ := after_num h
  rw [← b]
  exact num_parts a
/-! ### months on -/
def there (y m k : Int) : Int := 12 * y + m - 1 + k
def onY (y m k : Int) : Int := there y m k / 12
def onM (y m k : Int) : Int := there y m k % 12 + 1
def least (a b : Int) : Int := if b < a then b else a
def onD (y m d k : Int) : Int := least d (lastOf (onY y m k) (onM y m k))
/-- the number of the Day so many months on -/
def monN (n k : Int) : Int := num (onY (partY n) (partM n) k) (onM (partY n) (partM n) k) (onD (partY n) (partM n) (partD n) k)
theorem onM_in (y m k : Int) : 1 ≤ onM y m k ∧ onM y m k ≤ 12 := by unfold onM; omega
theorem on_valid {y m d : Int} (k : Int) (h : 1 ≤ d) : valid (onY y m k) (onM y m k) (onD y m d k) := by
  have h1 := onM_in y m k
  have h2 := last_pos (y := onY y m k) h1.1 h1.2
  refine ⟨h1.1, h1.2, ?_, ?_⟩
  · unfold onD least; split <;> omega
  · unfold onD least; split <;> omega
theorem mon_valid (n k : Int) : valid (onY (partY n) (partM n) k) (onM (partY n) (partM n) k) (onD (partY n) (partM n) (partD n) k) := on_valid k (parts_valid n).1.2.2.1
theorem mon_num {y m d : Int} (h : valid y m d) (k : Int) : monN (num y m d) k = num (onY y m k) (onM y m k) (onD y m d k) := by
  obtain ⟨a, b, c⟩ := num_parts h
  unfold monN
  rw [a, b, c]
theorem mon_parts {y m d : Int} (h : valid y m d) (k : Int) : partY (monN (num y m d) k) = onY y m k ∧ partM (monN (num y m d) k) = onM y m k ∧ partD (monN (num y m d) k) = onD y m d k := by
  rw [mon_num h]
  exact num_parts (on_valid k h.2.2.1)
/-- the law's own reckoning: month by month of the year -/
theorem due_on {y m k : Int} (h1 : 1 ≤ m) (h2 : m ≤ 12) : (if m + k % 12 > 12 then y + k / 12 + 1 else y + k / 12) = onY y m k ∧ (if m + k % 12 > 12 then m + k % 12 - 12 else m + k % 12) = onM y m k := by
  unfold onY onM there
  split <;> omega
/-! ### whole stretches, four hundred years on, months on and back -/
theorem num_day (y m d : Int) : num y m d = num y m 1 + (d - 1) := by unfold num aheadOf; omega
theorem num_cyc (y m d c : Int) : num (y + 400 * c) m d = num y m d + 146097 * c := by
  have e : since (y + 400 * c) m = since y m + 400 * c := by unfold since; omega
  unfold num
  rw [e]
  have q4 : (since y m + 400 * c) / 4 = since y m / 4 + 100 * c := by omega
  have q100 : (since y m + 400 * c) / 100 = since y m / 100 + 4 * c := by omega
  have q400 : (since y m + 400 * c) / 400 = since y m / 400 + c := by omega
  rw [q4, q100, q400]
  omega
theorem last_cyc (y m c : Int) : lastOf (y + 400 * c) m = lastOf y m := by unfold lastOf; rw [leap_cyc]
theorem valid_cyc {y m d : Int} (h : valid y m d) (c : Int) : valid (y + 400 * c) m d := ⟨h.1, h.2.1, h.2.2.1, by rw [last_cyc]; exact h.2.2.2⟩
theorem parts_cyc {y m d : Int} (h : valid y m d) (c : Int) : partY (num y m d + 146097 * c) = y + 400 * c ∧ partM (num y m d + 146097 * c) = m ∧ partD (num y m d + 146097 * c) = d := by
  rw [← num_cyc]
  exact num_parts (valid_cyc h c)
theorem first_valid {y m : Int} (h1 : 1 ≤ m) (h2 : m ≤ 12) : valid y m 1 := ⟨h1, h2, by decide, by have := (last_pos (y := y) h1 h2).1; omega⟩
theorem onD_first (y m k : Int) : onD y m 1 k = 1 := by
  have h := onM_in y m k
  have := (last_pos (y := onY y m k) h.1 h.2).1
  unfold onD least
  rw [if_neg (by omega)]
theorem onD_small {y m d k : Int} (h : d < 29) : onD y m d k = d := by
  have h1 := onM_in y m k
  have := (last_pos (y := onY y m k) h1.1 h1.2).1
  unfold onD least
  rw [if_neg (by omega)]
/-- the first of the month k months on -/
theorem mon_first {y m : Int} (h1 : 1 ≤ m) (h2 : m ≤ 12) (k : Int) : monN (num y m 1) k = num (onY y m k) (onM y m k) 1 := by
  rw [mon_num (first_valid h1 h2), onD_first]
theorem on_next (y m k : Int) : num (onY y m (k + 1)) (onM y m (k + 1)) 1 = num (onY y m k) (onM y m k) (lastOf (onY y m k) (onM y m k)) + 1 := by
  have h := onM_in y m k
  have hl := last_pos (y := onY y m k) h.1 h.2
  have a := (after_num (y := onY y m k) (m := onM y m k) (d := lastOf (onY y m k) (onM y m k)) ⟨h.1, h.2, by omega, Int.le_refl _⟩).2
  unfold aftY aftM aftD at a
  rw [if_neg (Int.lt_irrefl _), if_neg (Int.lt_irrefl _), if_neg (Int.lt_irrefl _)] at a
  rw [← a]
  by_cases hm : onM y m k < 12
  · rw [if_pos hm, if_pos hm]
    have e1 : onY y m (k + 1) = onY y m k := by unfold onY onM there at *; omega
    have e2 : onM y m (k + 1) = onM y m k + 1 := by unfold onM there at *; omega
    rw [e1, e2]
  · rw [if_neg hm, if_neg hm]
    have e1 : onY y m (k + 1) = onY y m k + 1 := by unfold onY onM there at *; omega
    have e2 : onM y m (k + 1) = 1 := by unfold onM there at *; omega
    rw [e1, e2]
theorem mon_between {y m d : Int} (h : valid y m d) (k : Int) : monN (num y m 1) k ≤ monN (num y m d) k ∧ monN (num y m d) k < monN (num y m 1) (k + 1) := by
  have hv := on_valid (y := y) (m := m) (d := d) k h.2.2.1
  rw [mon_first h.1 h.2.1, mon_first h.1 h.2.1, mon_num h, on_next]
  have a := num_day (onY y m k) (onM y m k) (onD y m d k)
  have b := num_day (onY y m k) (onM y m k) (lastOf (onY y m k) (onM y m k))
  have c := hv.2.2.1
  have e := hv.2.2.2
  omega
theorem mon_back {y m d : Int} (h : valid y m d) (hd : d < 29) (k : Int) : monN (monN (num y m d) k) (0 - k) = num y m d := by
  have e1 : onY (onY y m k) (onM y m k) (0 - k) = y := by
    have := h.1
    have := h.2.1
    unfold onY onM there; omega
  have e2 : onM (onY y m k) (onM y m k) (0 - k) = m := by
    have := h.1
    have := h.2.1
    unfold onY onM there; omega
  rw [mon_num h, onD_small hd]
  have hv := on_valid (y := y) (m := m) (d := d) k h.2.2.1
  rw [onD_small hd] at hv
  rw [mon_num hv, e1, e2, onD_small hd]
theorem mon_twice {y m d : Int} (h : valid y m d) (hd : d < 29) (k l : Int) : monN (monN (num y m d) k) l = monN (num y m d) (k + l) := by
  have e1 : onY (onY y m k) (onM y m k) l = onY y m (k + l) := by unfold onY onM there; omega
  have e2 : onM (onY y m k) (onM y m k) l = onM y m (k + l) := by unfold onY onM there; omega
  rw [mon_num h, mon_num h, onD_small hd, onD_small hd]
  have hv := on_valid (y := y) (m := m) (d := d) k h.2.2.1
  rw [onD_small hd] at hv
  rw [mon_num hv, e1, e2, onD_small hd]
end Cal
set_option Elab.async false
set_option linter.all false
set_option maxRecDepth 100000
set_option maxHeartbeats 2000000
namespace Lay
open PySem PySem.Spec PyProof.Rows L2
/-! ### == and != by an own __eq__, of anything on the right -/
section
variable {prog : Program} {w : World} {A : Around} {E : Value → Shared → Prop} {s : Shared} {K : PySem.W.Frag} {x C f : Addr} {ox : Obj} {od : Option Obj} {b tb : Value}
theorem objNe_entry (hu : A.units < cLine) (X : K.In s.heap) (I : PySem.W.InstAt s.heap x ox C od) (hs : PySem.W.findIn K (.ref C) "__eq__" = some (some (.ref f))) (hf : PySem.W.isFn K (.ref f) = true) {Q : Fin → Shared → Prop}
    (hcall : wpAny (model prog w) A (call (.ref f) [.ref x, b]) (fun v s' => ∃ r, v = .bool r ∧ Q (.done (.ret (.bool (!r)))) s') E s) :
    wpAny (model prog w) A (Builtin.«object.__ne__» ⟨[.ref x, b], []⟩) Q E s := by
  unfold Builtin.«object.__ne__»
  repeat (first
    | with_reducible refine wpAny_cRoomFor hu ?_
    | (refine wpAny_bind (m := callSpecialIfBound? (.ref x) (Str.ofString "__eq__") [b])
        (PySem.W.ifBound_K X I hs hf (wpAny_mono hcall (fun r s' hr => by
          obtain ⟨b, rfl, hq⟩ := hr
          repeat (first | exact hq | exact wpAny_pure hq | exact wpAny_truthy_bool hq | (refine wpAny_bind (m := truthy (.bool _)) (wpAny_truthy_bool ?_)) | wp_step)) fun _ _ e => e)))
    | wp_step)
theorem ifBound_objNe {M : Model} {args : List Value} {Q : Option Value → Shared → Prop} (X : K.In s.heap) (I : PySem.W.InstAt s.heap x ox C od) (hs : PySem.W.findIn K (.ref C) "__ne__" = some (some (.builtin "object.__ne__")))
    (h : wpAny M A (call (.builtin "object.__ne__") (.ref x :: args)) (fun v => Q (some v)) E s) : wpAny M A (callSpecialIfBound? (.ref x) "__ne__" args) Q E s := by
  simp only [callSpecialIfBound?, bindSpecialIfBound?]
  refine wpAny_holding (wpAny_bind (wpAny_bind (wpAny_bind (I.type.here ((PySem.W.looks_findIn X hs).here ?_)))))
  refine wpAny_bind (wpAny_askSetting (wpAny_ite ?_))
  have fin : wpAny M A (call (.builtin "object.__ne__") ([.ref x] ++ args) >>= fun v => pure (some v)) Q E s := wpAny_bind (wpAny_mono h (fun v s' h' => wpAny_pure h') fun _ _ h' => h')
  split
  · exact wpAny_bind (wpAny_of_eq (F.cmp_object.ne.bind _) (wpAny_pure (by exact fin)))
  · exact wpAny_tryCatch (wpAny_bind (wpAny_of_eq (F.cmp_object.ne.bind _) (wpAny_pure (by exact fin))))
theorem call_objNe {Q : Value → Shared → Prop} (hu : A.units + 1 < cLine) (X : K.In s.heap) (I : PySem.W.InstAt s.heap x ox C od) (hm : PySem.W.mroIn K C (.type "object") = some true)
    (hs : PySem.W.findIn K (.ref C) "__eq__" = some (some (.ref f))) (hf : PySem.W.isFn K (.ref f) = true)
    (hcall : wpAny (model prog w) A.in1 (call (.ref f) [.ref x, b]) (fun v s' => ∃ r, v = .bool r ∧ Q (.bool (!r)) s') E s) :
    wpAny (model prog w) A (call (.builtin "object.__ne__") [.ref x, b]) Q E s :=
  wpAny_call (codeAny_call_builtin F.cmp_object.ne.plain F.cmpEntry_ne (PySem.W.check_slot F.cmpKind_ne F.cmpSplit_ne (I.type.andThen (PySem.W.looks_mroIn X hm)) (F.cmpArgs_ne _ _)
    (objNe_entry (A := A.in1) hu X I hs hf hcall)))
theorem ne_own {Q : Value → Shared → Prop} (hu : A.units + 1 < cLine) (X : K.In s.heap) (I : PySem.W.InstAt s.heap x ox C od) (hb : PySem.W.Looks (model prog w) s.heap (typeOf b) tb) (hn : PySem.W.notFirst K C tb = true)
    (hm : PySem.W.mroIn K C (.type "object") = some true) (hN : PySem.W.findIn K (.ref C) "__ne__" = some (some (.builtin "object.__ne__")))
    (hs : PySem.W.findIn K (.ref C) "__eq__" = some (some (.ref f))) (hf : PySem.W.isFn K (.ref f) = true)
    (hcall : wpAny (model prog w) A.in1 (call (.ref f) [.ref x, b]) (fun v s' => ∃ r, v = .bool r ∧ Q (.bool (!r)) s') E s) :
    wpAny (model prog w) A (richCompare .NotEq (.ref x) b) Q E s := by
  have one : wpAny (model prog w) A (tryCompare (.ref x) "__ne__" b) (fun r s' => ∃ v, r = some v ∧ Q v s') E s := by
    unfold tryCompare
    refine wpAny_bind (ifBound_objNe X I hN (call_objNe hu X I hm hs hf (wpAny_mono hcall (fun v s' hv => ?_) fun _ _ e => e)))
    obtain ⟨r, rfl, q⟩ := hv
    exact ⟨r, rfl, wpAny_pure ⟨_, rfl, q⟩⟩
  unfold richCompare
  simp only [oneThing_ref]
  refine wpAny_holding (wpAny_bind (wpAny_cRoomFor (Nat.lt_of_succ_lt hu) ?_))
  rw [cmpInfo_NotEq]
  dsimp only
  refine wpAny_bind (I.type.here (wpAny_bind (hb.here ?_)))
  split
  · rename_i q
    have e : PySem.W.subIn K tb (.ref C) = some false := by
      rcases Bool.or_eq_true_iff.mp hn with e | e
      · rw [beq_iff_eq.mp e] at q; simp at q
      · exact beq_iff_eq.mp e
    refine wpAny_bind ((PySem.W.looks_subIn X e).here ?_)
    simp only [Bool.false_eq_true, if_false]
    refine wpAny_bind (wpAny_mono one (fun r s' z => ?_) fun _ _ e => e)
    obtain ⟨v, rfl, hq⟩ := z
    exact wpAny_pure hq
  · refine wpAny_bind (wpAny_pure ?_)
    simp only [Bool.false_eq_true, if_false]
    refine wpAny_bind (wpAny_mono one (fun r s' z => ?_) fun _ _ e => e)
    obtain ⟨v, rfl, hq⟩ := z
    exact wpAny_pure hq
end
/-- what an own == asks and tells: x an instance of C, y of a type that does not go first, then the promise of __eq__ -/
def rOwn (K : PySem.W.Frag) (C : Addr) (sp : Sp) (E : XK) (g : Bool → Bool) : R2 := fun x y H Q => ∃ a dx fs t, x = .ref a ∧ H a = some (.ins C dx fs) ∧ TyX K H y t ∧ PySem.W.notFirst K C t = true ∧ sp [x, y] H (fun v H' => ∃ b, v = .bl b ∧ Q (.bl (g b)) H') E
section
variable {X : Cx} {CX : CXT} {n : Nat} {C f : Addr} {fd : FuncData} {ps : List Str} {sp : Sp} {E : XK}
theorem run_own (F : FnOk X.prog X.w X.K X.mg X.base CX n f fd ps sp) (hb : Binds X.K fd ps []) (hx : Passes CX X E) {A : Around} (hr : Room n A) (hfr : A.frames = X.A.frames) {pins : List (Addr × Obj)} {σ : L2.St} {H : Hp} {s : Shared} {x y : V} {u v : Value} {R : V → Hp → Prop}
    (I : Inv X pins σ H s) (rx : RelV x u) (ry : RelV y v) (hsp : sp [x, y] H R E) : wpAny (model X.prog X.w) A (call (.ref f) [u, v]) (EP X pins σ R) X.xe s := by
  have e0 : Env0 X.prog X.w X.K X.mg X.base A X.stack s H := by
    have e := I.env0
    exact ⟨by rw [hfr]; exact e.frames, e.mod, e.bs, e.bsz, e.funs, e.frf, e.hok, e.bare⟩
  have hl := F.len _ _ _ _ hsp
  have r2 : Vals [x, y] [u, v] := .cons rx (.cons ry .nil)
  refine wpAny_call (codeAny_mono (F.run A X.stack s H ⟨[u, v], []⟩ [u, v] [x, y] _ E hr e0 (by
    have := hb s [u, v] I.kIn (by simpa using hl)
    simpa using this) r2 hsp) fun r s' hq => ?_)
  cases r with
  | error e => exact hx pins σ H s e s' I hq
  | ok fl =>
    cases fl with
    | ret w => exact I.after hq
    | next => exact False.elim hq
    | brk => exact False.elim hq
    | cont => exact False.elim hq
theorem op_ownEq (F : FnOk X.prog X.w X.K X.mg X.base CX n f fd ps sp) (hs : PySem.W.findIn X.K (.ref C) "__eq__" = some (some (.ref f))) (hf : PySem.W.isFn X.K (.ref f) = true) (hb : Binds X.K fd ps []) (hx : Passes CX X E) (hr : Room n X.A) :
    OpR X (compareOp .Eq) (rOwn X.K C sp E id) := by
  intro pins s σ H x y v u Q I rx ry hq
  obtain ⟨a, dx, fs, t, rfl, ha, ty, hn, hsp⟩ := hq
  cases rx
  obtain ⟨mA, J, _⟩ := ins_get I.hok ha
  obtain ⟨od, J, _⟩ := J.look
  obtain ⟨m, hF⟩ := I.fr
  obtain ⟨P, Z, p, _⟩ := kit_of I ry ty
  show wpAny (model X.prog X.w) X.A (richCompare .Eq (.ref a) u) (EP X pins σ Q) X.xe s
  refine PySem.W.cmp_K (op := .Eq) (tb := t) hr.units0 hF I.ok.mod.kin J (Z.ty _ _ I.kIn p) hn hs hf ?_
  refine wpAny_mono (run_own (x := V.ref a) (u := Value.ref a) F hb hx hr rfl I rfl ry hsp) (fun r s' z => ?_) fun _ _ e => e
  obtain ⟨z1, H', I', rz, b, rfl, q⟩ := z
  cases rz
  exact ⟨.bl b, H', I', rfl, q⟩
theorem op_ownNe (F : FnOk X.prog X.w X.K X.mg X.base CX n f fd ps sp) (hs : PySem.W.findIn X.K (.ref C) "__eq__" = some (some (.ref f))) (hf : PySem.W.isFn X.K (.ref f) = true) (hN : PySem.W.findIn X.K (.ref C) "__ne__" = some (some (.builtin "object.__ne__")))
    (hm : PySem.W.mroIn X.K C (.type "object") = some true) (hb : Binds X.K fd ps []) (hx : Passes CX X E) (hr : Room (n + 1) X.A) :
    OpR X (compareOp .NotEq) (rOwn X.K C sp E not) := by
  intro pins s σ H x y v u Q I rx ry hq
  obtain ⟨a, dx, fs, t, rfl, ha, ty, hn, hsp⟩ := hq
  cases rx
  obtain ⟨mA, J, _⟩ := ins_get I.hok ha
  obtain ⟨od, J, _⟩ := J.look
  obtain ⟨P, Z, p, _⟩ := kit_of I ry ty
  show wpAny (model X.prog X.w) X.A (richCompare .NotEq (.ref a) u) (EP X pins σ Q) X.xe s
  refine ne_own (hu_of hr) I.kIn J (Z.ty _ _ I.kIn p) hn hm hN hs hf ?_
  refine wpAny_mono (run_own (x := V.ref a) (u := Value.ref a) F hb hx hr.in1 rfl I rfl ry hsp) (fun r s' z => ?_) fun _ _ e => e
  obtain ⟨z1, H', I', rz, b, rfl, q⟩ := z
  cases rz
  exact ⟨b, rfl, .bl (!b), H', I', rfl, q⟩
end
/-! ### powers of great numbers -/
section
variable {X : Cx}
def CPowW (i j : Int) : Prop := 0 ≤ j ∧ (Builtin.Int.intBits i : Int) * j ≤ 2 ^ 27
theorem op_powW : OpR X (binaryOp .Pow) (rI CPowW fun i j => .int (i ^ j.toNat)) := opI fun _ _ _ _ _ _ _ hc q => pow_int hc.1 hc.2 q
end
/-! ### f(k = v, ..) -/
section
variable {X : Cx} {CX : CXT} {k n : Nat} {f : Addr} {fd : FuncData} {ps ks : List Str} {sp : Sp} {E : XK} {x : Str} {p pos : Pos} {kws : List Keyword} {tk : TA} {g : List Value → List Value → List Value} {gV : List V → List V → List V}
theorem pe_callK0 (F : FnOk X.prog X.w X.K X.mg X.base CX k f fd ps sp) (hr : Room k X.A) (hg : Gl X x) (hm : X.mg x = some (.ref f)) (hk : PySem.W.keepIn X.K (.ref f) = true) (hb : KBn X.K fd ps 0 ks g gV) (hx : Passes CX X E) (hkw : PK X kws tk)
    (hall : (backToKw pos (keywordEach kws X.env)).all (·.1.isSome) = true := by rfl) (hks : (backToKw pos (keywordEach kws X.env)).filterMap (·.1) = ks := by rfl) (hdb : (x == ("__debug__" : Str)) = false := by decide)
    (hpl : ((backTo pos (starEach [] X.env)).any (·.1) || (backToKw pos (keywordEach kws X.env)).any (·.1.isNone)) = false := by rfl) :
    PE X (.Call (.Name x p) [] kws pos) (tCallN 0 ks.length sp gV E tNil tk) := by
  refine ⟨fun pins s σ H Q I h => ?_⟩
  refine wpAny_Call_Name_kw (ld_glob I hg hm ?_ hdb)
  refine PySem.W.callWith_KW0 (h₀ := X.base) I.ok.mod.kin hk hall ?_ hpl
  refine thn (hkw.run pos pins s σ H _ I h) fun ws s2 ⟨zs, H2, I2, rz, l1, l2, q2⟩ => ⟨I2.kIn, ?_⟩
  rw [hks]
  exact run_fnN (us := []) (vs := []) F hr hb hx I2 .nil rz rfl l2 q2
end
section
variable {K : PySem.W.Frag}
/-- how a call by names binds (no defaults): g puts the values in the parameters' order -/
theorem Fun_kbn {x qual : Str} {st : Stmt} {f : Addr} {fd : FuncData} {ps : List Str} (F : Fun K x qual st f fd) (n : Nat) (ks : List Str) (g : {α : Type} → List α → List α → List α)
    (hrel : ∀ {vs zs : List V} {us ws : List Value}, Vals vs us → Vals zs ws → Vals (g vs zs) (g us ws))
    (h : ∀ (kV doc pm : Value) (an : Option Addr) (cdv ct : Value) (us ws : List Value), us.length = n → ws.length = ks.length → bindArgs (PySem.W.fnOf x qual (defArgs st) (defBody st) (defScope st) .none kV doc pm an cdv ct) ⟨us, ks.zip ws⟩ = pure (ps.zip (g us ws))) :
    KBn K fd ps n ks (fun us ws => g us ws) (fun vs zs => g vs zs) := by
  obtain ⟨oc, od, kV, doc, pm, an, cdv, ct, osl, rfl, lk, hcd⟩ := F.ex
  exact ⟨fun s us ws _ l1 l2 => .of_eq (h kV doc pm an cdv ct us ws l1 l2), fun r1 r2 => hrel r1 r2⟩
end
end Lay
set_option Elab.async false
set_option linter.all false
set_option maxRecDepth 100000
set_option maxHeartbeats 2000000
namespace Lay
open PySem PySem.Spec PyProof.Rows PySem.W
section
variable {M : Model} {K : Frag}
theorem exm_tup {cs : List Value} {cls : Value} {tp e : Addr} {b : Bool} {h : Heap} (X : K.In h) (LT : Looks M h (typeOf (.ref e)) cls) (hp : h.get? tp = some { cls := .type "tuple", data := .seq cs.toArray }) (hx : exmAny K cls cs = some b) :
    Looks M h (excMatches (.ref e) (.ref tp)) b := by
  intro A Q E s k₀ q
  obtain ⟨hh, g, d, tk, os⟩ := s
  have k : ∀ b o, h.get? b = some o → hh.get? b = some o := k₀
  have LT0 : Looks M h (isInstance (.ref tp) (.type "tuple")) true := ((Looks.ld hp).andThen .now).andThen (Looks.of_pure isSubtype_tuple_tuple)
  have LT := LT.keeps k
  have LT0 := LT0.keeps k
  have hp' := k _ _ hp
  unfold excMatches
  refine wpAny_bind (LT0.at ?_)
  dsimp only
  rw [if_pos rfl]
  first
    | refine wpAny_bind (wpAny_seqItems hp' rfl ?_)
    | refine wpAny_bind (wpAny_bind (wpAny_seqItems hp' rfl (wpAny_pure ?_)))
  dsimp only [Option.getD_some, Option.getD]
  refine wpAny_bind (wpAny_pure ?_)
  have hall : ∀ (rest : List Value) (b' : Bool), exmAny K cls rest = some b' → ∀ c ∈ rest, Looks M hh (isExcClass c) true := by
    intro rest
    induction rest with
    | nil => intro b' _ c hc; cases hc
    | cons c0 r ih =>
      intro b' hb c hc
      obtain ⟨b1, d1, x1, y1, z1⟩ := exmAny_cons hb
      rcases List.mem_cons.mp hc with e | hc
      · subst e
        exact (exm_cls (M := M) X x1).1.keeps k
      · exact ih d1 y1 c hc
  refine wpAny_bind (wpAny_forIn_list _ (fun rest _ s' => s' = { heap := hh, gens := g, drawn := d, toks := tk, os := os } ∧ ∀ c ∈ rest, Looks M hh (isExcClass c) true) _ ?_ ?_ cs PUnit.unit ⟨rfl, hall cs b hx⟩)
  · rintro c rest _ s' ⟨rfl, hc⟩
    refine wpAny_bind ((hc c List.mem_cons_self).at ?_)
    simp only [Bool.not_true, Bool.false_eq_true, if_false]
    exact wpAny_pure ⟨rfl, fun c' h' => hc c' (List.mem_cons_of_mem _ h')⟩
  rintro _ s' ⟨rfl, _⟩
  refine wpAny_bind (LT.at ?_)
  refine wpAny_bind (wpAny_forIn_list _ (fun rest z s' => s' = { heap := hh, gens := g, drawn := d, toks := tk, os := os } ∧ z = (none, ()) ∧ exmAny K cls rest = some b) _ ?_ ?_ cs (none, ()) ⟨rfl, rfl, hx⟩)
  · rintro c rest z s' ⟨rfl, rfl, hc⟩
    obtain ⟨b1, d1, x1, y1, z1⟩ := exmAny_cons hc
    have S1 := (exm_cls (M := M) X x1).2.keeps k
    refine wpAny_bind (S1.at ?_)
    cases b1 with
    | true =>
      simp only [if_true]
      refine wpAny_pure ?_
      have : b = true := by rw [z1]; rfl
      subst this
      exact wpAny_pure q
    | false =>
      simp only [Bool.false_eq_true, if_false]
      refine wpAny_pure ⟨rfl, rfl, ?_⟩
      rw [z1]
      exact y1
  · rintro z s' ⟨rfl, rfl, hc⟩
    have : b = false := by
      have e : some false = some b := hc
      exact (Option.some.inj e).symm
    subst this
    exact wpAny_pure q
end
end Lay
namespace Lay
open PySem PySem.Spec PyProof.Rows L2
theorem flying_kept {B h h' : Heap} {l : List Env} {e : Addr} {Z : Obj → Prop} (k : ∀ b o, h.get? b = some o → h'.get? b = some o) (x : HandSPX.FlyingZ B l e Z h) : HandSPX.FlyingZ B l e Z h' := by
  obtain ⟨k1, k2, k3, oe, vs, T, oT, ts, he, hz, hd, h1, hn, hT, h2, h3, h4⟩ := x
  exact ⟨fun b o q => k _ _ (k1 b o q), k2, k3.of_keeps (fun b o q _ => ⟨o, k _ _ q, rfl⟩), oe, vs, T, oT, ts, k _ _ he, hz, hd, h1, hn, hT, k _ _ h2, h3, h4⟩
/-- an exception of the class cls with the own dict d, kept at a -/
def excAt (a : Addr) (cls : Value) (d : Option Addr) : HO := .ext fun h => ∃ o, h.get? a = some o ∧ Zc cls d o ∧ ∃ vs, o.data = .fields vs
theorem inv_track {X : Cx} {pins : List (Addr × Obj)} {σ : L2.St} {H : Hp} {s : Shared} (I : Inv X pins σ H s) {a : Addr} {cls : Value} {d : Option Addr} {oe : Obj} (ha : s.heap.get? a = some oe) (hz : Zc cls d oe) (hd : ∃ vs, oe.data = .fields vs) (na : H a = none)
    (n0 : X.s_0.heap.get? a = none) (nL : a ≠ X.env.locals) (nC : ∀ x c, X.env.cells.lookup x = some c → c ≠ a) (nP : ∀ p ∈ X.pn ++ pins, p.1 ≠ a) : Inv X pins σ (upd H a (excAt a cls d)) s := by
  have ne : ∀ b u, H b = some u → b ≠ a := fun b u e z => by rw [z, na] at e; cases e
  refine ⟨I.ok, I.os, I.bare, ⟨I.base.keep, I.base.slot, fun b o e n x => ?_, I.base.there, fun b xs e => ?_, fun b o u e => ?_, fun b ps e => ?_⟩, I.loc, I.cell, ?_, fun x c e => ?_, fun p hp => ?_, fun b u e => ?_, I.len⟩
  · have nb : b ≠ a := fun z => by rw [z, n0] at e; cases e
    rw [upd_ne nb]
    exact I.base.free b o e n x
  · have q := I.base.tups b xs e
    rw [upd_ne (ne _ _ q)]
    exact q
  · have q := I.base.frzs b o u e
    rw [upd_ne (ne _ _ q)]
    exact q
  · obtain ⟨more, q⟩ := I.base.tbls b ps e
    exact ⟨more, by rw [upd_ne (ne _ _ q)]; exact q⟩
  · rw [upd_ne (Ne.symm nL)]
    exact I.free
  · rw [upd_ne (nC x c e)]
    exact I.freeC x c e
  · obtain ⟨h1, h2, h3, h4, h5⟩ := I.pin p hp
    exact ⟨h1, by rw [upd_ne (nP p hp)]; exact h2, h3, h4, h5⟩
  · by_cases z : b = a
    · subst z
      rw [upd_same] at e
      cases e
      exact ⟨⟨oe, ha, hz, hd⟩, ⟨oe, ha⟩, fun h1 h2 ⟨o, e1, e2, e3⟩ k => ⟨o, k o e1, e2, e3⟩⟩
    · rw [upd_ne z] at e
      exact (I.hok b u e).stay (fun _ _ _ q => q) (fun c q => by rw [upd_ne (ne _ _ q)]; exact q) fun c xs q => by rw [upd_ne (ne _ _ q)]; exact q
inductive NamesAll (X : Cx) : List Expr → List Value → Prop
  | nil : NamesAll X [] []
  | cons {x : Str} {c : Value} {np : Pos} {es : List Expr} {cs : List Value} (hc : Names X x c) (r : NamesAll X es cs) : NamesAll X (.Name x np :: es) (c :: cs)
theorem NamesAll.suite {X : Cx} {es : List Expr} {cs : List Value} (h : NamesAll X es cs) (a : Addr) (pn : List (Addr × Obj)) : NamesAll (X.suite a pn) es cs := by
  induction h with
  | nil => exact .nil
  | cons hc _ ih => exact .cons hc ih
theorem eval_name {X : Cx} {pins : List (Addr × Obj)} {σ : L2.St} {H : Hp} {s : Shared} {x : Str} {c : Value} {np : Pos} {Q E : Value → Shared → Prop} (I : Inv X pins σ H s) (hc : Names X x c) (q : Q c s) : wpAny (model X.prog X.w) X.A (eval (.Name x np) X.env) Q E s := by
  obtain ⟨hg, hdbg, hm | ⟨hm, hv, hnn⟩⟩ := hc
  · exact ld_glob I hg hm q hdbg
  · exact ld_blt I hg hm hv q hnn hdbg
theorem items_names {X : Cx} {pins : List (Addr × Obj)} {σ : L2.St} {H : Hp} {s : Shared} {es : List Expr} {cs : List Value} {pos : Pos} {E : Value → Shared → Prop} (I : Inv X pins σ H s) (h : NamesAll X es cs) : ∀ {Q : List Value → Shared → Prop}, Q cs s → wpAny (model X.prog X.w) X.A (spliced (backTo pos (starEach es X.env))) Q E s := by
  induction h with
  | nil => intro Q q; exact wpAny_items_nil q
  | cons hc _ ih => intro Q q; exact wpAny_items_cons (eval_name I hc (ih q)) rfl
/-- what the clause 'except (c1, c2, ..) as n' wishes of an exception of the body; behind the suite the exception is kept at a -/
def wKeep (K : PySem.W.Frag) (cs : List Value) (i : Nat) (ts : Addr → Value → Option Addr → TS) (Wout : WX) (D : Ends) : WX := fun cls d σ H =>
  ∃ b, PySem.W.exmAny K cls cs = some b ∧ (b = true → ∀ a, H a = none → ts a cls d { nx := fun σ' H' => H' a = none → D.nx (σ'.set i none) (upd H' a (excAt a cls d)), rt := D.rt, bk := fun σ' H' => D.bk (σ'.set i none) H', ct := fun σ' H' => D.ct (σ'.set i none) H' } (σ.set i (some (.ref a))) H) ∧
    (b = false → Wout cls d σ H)
section
variable {X : Cx} {n : Str} {es : List Expr} {cs : List Value} {i : Nat} {body suite : List Stmt} {b₀ : Stmt} {tpos pos pos' : Pos} {kk : Nat} {tb : WX → TS} {ts : Addr → Value → Option Addr → TS} {Wout : WX}
theorem ps_try_keep (hs : X.stack = X.env :: X.outer) (hf : X.env.frame = some X.env.locals) (hex : X.ex = []) (hN : X.N.Nodup) (hi : X.N[i]? = some n) (hln : X.env.kindOf n = some .local) (hc : NamesAll X es cs) (hl : cs.length ≤ sizeLine) (tk : Takes X Wout)
    (hb : ∀ (W : WX) (pn : List (Addr × Obj)) (xe : Value → Shared → Prop), Takes (X.tr pn xe) W → PassesOwn (model X.prog X.w) X.A X.env xe → PSs (X.tr pn xe) body (tb W))
    (hsu : ∀ (a : Addr) (oe : Obj) (cls : Value) (d : Option Addr) (pn : List (Addr × Obj)), Zc cls d oe → (∃ vs, oe.data = .fields vs) → PSs (X.suite a ((a, oe) :: pn)) (b₀ :: suite) (ts a cls d)) :
    PS X (.Try body [.ExceptHandler (some (.Tuple es kk tpos)) (some n) (b₀ :: suite) pos'] [] [] pos) (fun D σ H => tb (wKeep X.K cs i ts Wout D) D σ H) := by
  refine ⟨fun pins s σ H D I h => ?_⟩
  have ok := I.ok
  have hfr : X.A.frames = some (X.env :: X.outer) := by rw [ok.frames, hs]
  have hloc : Loc X.env.scope n := .inl hln
  refine wpAny_Try_except ?_
  refine wpAny_mono ((hb (wKeep X.K cs i ts Wout D) (X.pn ++ pins) (fun e s₁ => wpAny (model X.prog X.w) X.A (noteFrame e X.env) (fun _ s₂ => wpAny (model X.prog X.w) X.A (setFlight e none) (fun _ s₃ =>
    wpAny (model X.prog X.w) X.A (handleBy e X.env [.ExceptHandler (some (.Tuple es kk tpos)) (some n) (b₀ :: suite) pos']) (SP X pins D) X.xe s₃) X.xe s₂) X.xe s₁) (fun u s' xx => ?_) PassesOwn.looking).run [] s σ H D (I.toTry _) h) (fun f s1 hsp => ?_) (fun e s1 he => he)
  · -- the catch
    obtain ⟨a, B, sI, pins', σ', H', cls, d, rfl, J', nb, up, sky, na, os, ag, b, hb1, hyes, hno⟩ := xx
    have J : Inv X pins σ' H' sI := J'.ofTry ok
    have sky' : Sky B (X.env :: X.outer) a (Zc cls d) X.env.locals s'.heap := by rw [← hs]; exact sky
    show wpAny (model X.prog X.w) X.A (noteFrame (.ref a) X.env) _ _ _
    refine Sky.land Zc.steady hfr hf sky' fun h3 fl3 up3 => ?_
    have J3 : Inv X pins σ' H' { s' with heap := h3 } := J.landed nb fl3.1 (up.trans up3) os ag
    obtain ⟨oe3, vs3, he3, hz3, hd3⟩ := fl3.there
    have notFr : ∀ {h : Heap} {o : Obj} {vs : Array Value}, h.FunFrames B (X.env :: X.outer) → h.get? a = some o → o.data = .fields vs → a ∉ frs (X.env :: X.outer) := fun {h o vs} ff e dd hm => by
      obtain ⟨_, o', e', hnf⟩ := ff.mem hm
      rw [e] at e'; cases e'
      exact hnf _ dd
    have nfr := notFr fl3.2.2.1 he3 hd3
    have nL : a ≠ X.env.locals := fun z => nfr (List.mem_filterMap.mpr ⟨X.env, List.mem_cons_self, by rw [hf, z]⟩)
    have nF : a ∉ X.fs := fun hm => by
      obtain ⟨e, he, q⟩ := List.mem_filterMap.mp hm
      exact nfr (List.mem_filterMap.mpr ⟨e, List.mem_cons_of_mem _ he, q⟩)
    have nI : sI.heap.get? a = none := by
      cases q : sI.heap.get? a with
      | none => rfl
      | some o =>
        have q2 := nb a o q (by rw [hs]; exact nfr)
        rw [fl3.2.1] at q2
        cases q2
    have n0 : X.s_0.heap.get? a = none := by
      cases q : X.s_0.heap.get? a with
      | none => rfl
      | some o =>
        obtain ⟨o', q2⟩ := J.base.there a o q (by rw [hex]; simp)
        rw [nI] at q2
        cases q2
    have nC : ∀ x c, X.env.cells.lookup x = some c → c ≠ a := fun x c e z => by
      obtain ⟨v, o, ho, _⟩ := J.cell x c e
      rw [z, nI] at ho
      cases ho
    have nP : ∀ p ∈ X.pn ++ pins, p.1 ≠ a := fun p hp z => by
      have q := (J.pin p hp).1
      rw [z, nI] at q
      cases q
    have S3 := J3.suite he3 hd3 na nL nF
    refine wpAny_handleBy_cons (codeAny_handlers_test ?_) (by intro q; cases q)
    have LT : PySem.W.Looks (model X.prog X.w) h3 (typeOf (.ref a)) cls := fun A Q E s k q => wpAny_typeOf_ref (k _ _ he3) (by rw [hz3.1]; exact q)
    have kp : ∀ q o, h3.get? q = some o → (h3.push { cls := .type "tuple", data := .seq cs.toArray }).get? q = some o := fun _ _ z => Heap.get?_push_of_some _ z
    have J3' : Inv X pins σ' H' { s' with heap := h3.push { cls := .type "tuple", data := .seq cs.toArray } } := J3.kept kp
    have fl3' := flying_kept kp fl3
    have up3' : sI.heap.UpToSlots (h3.push { cls := .type "tuple", data := .seq cs.toArray }) := (up.trans up3).trans (Heap.UpToSlots.of_keeps kp)
    have LM := exm_tup (M := model X.prog X.w) (J3'.kIn) (LT.keeps kp) (Heap.get?_push_size h3 rfl) hb1
    have test : ∀ {Q : Value → Shared → Prop} {E : Value → Shared → Prop}, Q (.ref h3.objs.size) { s' with heap := h3.push { cls := .type "tuple", data := .seq cs.toArray } } → wpAny (model X.prog X.w) (X.A.mark (some (.ref a))) (eval (.Tuple es kk tpos) X.env) Q E { s' with heap := h3 } := fun {Q E} q =>
      wpAny_Tuple (items_names (X := X.suite a ((a, oe3) :: (X.pn ++ pins))) S3 (hc.suite a _) ⟨hl, q⟩)
    refine test (LM.here ?_)
    cases b with
    | true =>
      refine codeAny_handlers_suite_as ?_
      refine HandSPX.lands_againZ fl3' fun h4 fl4 up4 => ?_
      have J4 : Inv X pins σ' H' { s' with heap := h4 } := J.landed nb fl4.1 (up3'.trans up4) os ag
      obtain ⟨oe4, vs4, he4, hz4, hd4⟩ := fl4.there
      have S4 := J4.suite he4 hd4 na nL nF
      refine store_ok (X := X.suite a ((a, oe4) :: (X.pn ++ pins))) (v := .ref a) S4 hN hi hloc rfl (fun s5 S5 => ?_) (.inr hln)
      refine wpAny_mono ((hsu a oe4 cls d (X.pn ++ pins) hz4 ⟨_, hd4⟩).run [] s5 _ H' _ S5 (hyes rfl a na)) (fun f s6 hsp => ?_) (fun _ _ z => False.elim z)
      cases f with
      | next =>
        obtain ⟨σ6, H6, S6, q6⟩ := hsp
        obtain ⟨p1, p2, _, _, _⟩ := S6.pin (a, oe4) (List.mem_append_left _ List.mem_cons_self)
        have T6 := inv_track (S6.unsuite ok) (cls := cls) (d := d) p1 hz4 ⟨_, hd4⟩ p2 n0 nL nC nP
        exact gone_ok T6 hN hi hln fun s7 J7 => ⟨_, _, J7, q6 p2⟩
      | brk =>
        obtain ⟨σ6, H6, S6, q6⟩ := hsp
        exact gone_ok (S6.unsuite ok) hN hi hln fun s7 J7 => ⟨_, _, J7, q6⟩
      | cont =>
        obtain ⟨σ6, H6, S6, q6⟩ := hsp
        exact gone_ok (S6.unsuite ok) hN hi hln fun s7 J7 => ⟨_, _, J7, q6⟩
      | ret u =>
        obtain ⟨v6, σ6, H6, S6, r6, q6⟩ := hsp
        exact gone_ok (S6.unsuite ok) hN hi hln fun s7 J7 => ⟨_, _, _, J7, r6, q6⟩
    | false =>
      show wpAny _ X.A (handleBy (.ref a) X.env []) _ _ _
      refine wpAny_handleBy_nil ?_
      obtain ⟨k1, k2, k3, oe, vs, T, oT, ts', he, hz, hd, h1, hr⟩ := id fl3'
      unfold PySem.passOn
      refine wpAny_bind (wpAny_field he hd h1 ?_)
      rw [if_neg (show ¬ ((Value.ref T == Value.none) = true) from by simp)]
      have fin : wpAny (model X.prog X.w) X.A (setFlight (.ref a) X.env.frame) (fun _ s4 => wpAny (model X.prog X.w) X.A (throw (.ref a) : Sem Flow) (SP X pins D) X.xe s4) X.xe { s' with heap := h3.push { cls := .type "tuple", data := .seq cs.toArray } } := by
        rw [hf]
        refine HandSPX.setFlight_upZ fl3' fun h4 hh4 up4 => wpAny_throw (tk _ _ ?_)
        exact ⟨a, B, sI, pins, σ', H', cls, d, rfl, J, nb, up3'.trans up4, .inr (.inr (by rw [hs]; exact hh4)), na, os, ag, hno rfl⟩
      first
        | exact wpAny_bind (wpAny_pure (wpAny_bind fin))
        | exact wpAny_bind fin
  · cases f with
    | next =>
      obtain ⟨σ', H', J', q⟩ := hsp
      exact wpAny_execs_nil ⟨σ', H', J'.ofTry ok, q⟩
    | brk =>
      obtain ⟨σ', H', J', q⟩ := hsp
      exact ⟨σ', H', J'.ofTry ok, q⟩
    | cont =>
      obtain ⟨σ', H', J', q⟩ := hsp
      exact ⟨σ', H', J'.ofTry ok, q⟩
    | ret u =>
      obtain ⟨v, σ', H', J', r, q⟩ := hsp
      exact ⟨v, σ', H', J'.ofTry ok, r, q⟩
end
end Lay
namespace Lay
open PySem PySem.Spec PyProof.Rows L2
/-- a kept exception of the own class D: at a; its own dict, if it has one, holds the fields fs -/
def ExcKept (H : Hp) (a D : Addr) (fs : List (Str × V)) : Prop := (fs = [] ∧ H a = some (excAt a (.ref D) none)) ∨ ∃ d, H a = some (excAt a (.ref D) (some d)) ∧ H d = some (.xd fs)
theorem ExcKept.same {H H' : Hp} {a D : Addr} {fs : List (Str × V)} (h : ExcKept H a D fs) (s : Same H H') : ExcKept H' a D fs := by
  rcases h with ⟨e, h⟩ | ⟨d, h1, h2⟩
  · exact .inl ⟨e, s _ _ h⟩
  · exact .inr ⟨d, s _ _ h1, s _ _ h2⟩
theorem kept_inst {X : Cx} {pins : List (Addr × Obj)} {σ : L2.St} {H : Hp} {s : Shared} {a D : Addr} {fs : List (Str × V)} (I : Inv X pins σ H s) (h : ExcKept H a D fs) : ∃ ox od, PySem.W.InstAt s.heap a ox D od := by
  rcases h with ⟨_, h⟩ | ⟨d, h1, h2⟩
  · have x : ObjOk X.prog X.w H s.heap a (.ext fun h => ∃ o, h.get? a = some o ∧ Zc (.ref D) none o ∧ ∃ vs, o.data = .fields vs) := I.hok a _ h
    obtain ⟨⟨o, e1, e2, vs, e3⟩, _⟩ := x
    refine ⟨o, none, e1, e2.1, ?_, ?_⟩
    · unfold PySem.W.notCls
      rw [e3]
    · rw [e2.2]
      trivial
  · have x : ObjOk X.prog X.w H s.heap a (.ext fun h => ∃ o, h.get? a = some o ∧ Zc (.ref D) (some d) o ∧ ∃ vs, o.data = .fields vs) := I.hok a _ h1
    obtain ⟨⟨o, e1, e2, vs, e3⟩, _⟩ := x
    obtain ⟨mA, hns, hr⟩ := (show ObjOk X.prog X.w H s.heap d (.xd fs) from I.hok d _ h2)
    obtain ⟨od, ho, hl⟩ := lookIn_ns hns
    refine ⟨o, some od, e1, e2.1, ?_, ?_⟩
    · unfold PySem.W.notCls
      rw [e3]
    · rw [e2.2]
      exact ho
theorem ExcC.kit {K : PySem.W.Frag} {D : Addr} (C : ExcC K D) {x : Addr} {ox : Obj} {od : Option Obj} : PySem.W.KitX K (.ref x) (.ref D) (fun h => PySem.W.InstAt h x ox D od) := by
  obtain ⟨cd, hc, _⟩ := PySem.W.any_some C.hd
  exact PySem.W.kitx_exc (by rw [hc]; rfl) C.hg C.hk C.hs C.ha C.hn C.ht C.hm
/-- isinstance(e, c), e a kept exception -/
def rIsX (K : PySem.W.Frag) : List V → Hp → VK → Prop := fun xs H Q => ∃ (a D : Addr) (fs : List (Str × V)) (c : V) (u : Value) (b : Bool), xs = [.ref a, c] ∧ ExcC K D ∧ ExcKept H a D fs ∧ ClsV c u ∧ PySem.W.kitOne K (.ref D) u = some b ∧ Q (.bl b) H
/-- isinstance(e, (c1, c2, ..)) -/
def rIsXT (K : PySem.W.Frag) : List V → Hp → VK → Prop := fun xs H Q => ∃ (a D : Addr) (fs : List (Str × V)) (tp : Addr) (cs : List V) (us : List Value) (b : Bool), xs = [.ref a, .ref tp] ∧ ExcC K D ∧ ExcKept H a D fs ∧ H tp = some (.tup cs) ∧ Paired ClsV cs us ∧ PySem.W.kitAny K (.ref D) us = some b ∧ Q (.bl b) H
section
variable {X : Cx}
theorem call_isX : CallR X (.builtin "isinstance") (rIsX X.K) := by
  intro pins s σ H xs us Q I r h
  obtain ⟨a, D, fs, c, u, b, rfl, C, hk, k, e, q⟩ := h
  obtain ⟨u1, u2, rfl, r1, r2⟩ := vals2 r
  have e2 := k.eq r2
  subst e2
  cases (show u1 = Value.ref a from r1)
  obtain ⟨ox, od, J⟩ := kept_inst I hk
  exact PySem.W.kia_one (ExcC.kit C) I.kIn J e (fun z => nomatch z) fun tk => ⟨.bl b, H, I.tok tk, rfl, q⟩
theorem call_isXT : CallR X (.builtin "isinstance") (rIsXT X.K) := by
  intro pins s σ H xs us Q I r h
  obtain ⟨a, D, fs, tp, cs, ws, b, rfl, C, hk, hT, k, e, q⟩ := h
  obtain ⟨u1, u2, rfl, r1, r2⟩ := vals2 r
  cases (show u2 = Value.ref tp from r2)
  cases (show u1 = Value.ref a from r1)
  obtain ⟨ox, od, J⟩ := kept_inst I hk
  obtain ⟨_, its, rv, o, h1, h2, n, h3⟩ := (show ObjOk X.prog X.w H s.heap tp (.tup cs) from I.hok tp _ hT)
  have e3 := ClsV.all k rv
  subst e3
  obtain ⟨oc, od', dt, sl⟩ := o
  simp only at h2 h3
  subst h2 h3
  exact PySem.W.kia_tup (ExcC.kit C) I.kIn J h1 e (fun z => nomatch z) fun tk => ⟨.bl b, H, I.tok tk, rfl, q⟩
/-- e.f, e a kept exception -/
def tXk (K : PySem.W.Frag) (f : Str) (te : TE) : TE := fun σ H Q => te σ H fun x H1 => ∃ (a D d : Addr) (fs : List (Str × V)) (v : V), x = .ref a ∧ XfC K D ∧ PySem.W.findIn K (.ref D) f = some none ∧ H1 a = some (excAt a (.ref D) (some d)) ∧ H1 d = some (.xd fs) ∧ fs.lookup f = some v ∧ Q v H1
theorem pe_xk {e : Expr} {te : TE} {pos : Pos} {n : Str} (he : PE X e te) (hb : attributeBase e n X.env (eval e X.env) = eval e X.env := by rfl) : PE X (.Attribute e n pos) (tXk X.K n te) := by
  refine ⟨fun pins s σ H Q I h => ?_⟩
  refine attr_of hb (thn (he.run pins s σ H _ I h) fun u s1 hh => ?_)
  obtain ⟨x, H1, I1, rx, a, D, d, fs, v, ex, T, hno, ha, ed, l, q⟩ := hh
  subst ex
  obtain rfl : u = Value.ref a := rx
  have x : ObjOk X.prog X.w H1 s1.heap a (.ext fun h => ∃ o, h.get? a = some o ∧ Zc (.ref D) (some d) o ∧ ∃ vs, o.data = .fields vs) := I1.hok a _ ha
  obtain ⟨⟨oe, e1, e2, vs, e3⟩, _⟩ := x
  obtain ⟨mA, hns, hr⟩ := (show ObjOk X.prog X.w H1 s1.heap d (.xd fs) from I1.hok d _ ed)
  obtain ⟨od, ho, hl⟩ := lookIn_ns hns
  obtain ⟨u, hu, ru⟩ := RelO.some_of (v := v) (o := mA n) (by rw [← l]; exact hr n)
  have J : PySem.W.InstAt s1.heap a oe D (some od) := ⟨e1, e2.1, by unfold PySem.W.notCls; rw [e3] <;> rfl, by rw [e2.2]; exact ho⟩
  exact HandSPX.exc_get I1.kIn J T.ga T.gg T.exC (PySem.W.findObj_own T.hdC hno rfl (by rw [hl, hu])) (handed_of ru) ⟨v, H1, I1.tok _, ru, q⟩
end
end Lay
set_option Elab.async false
set_option linter.all false
set_option maxRecDepth 100000
set_option maxHeartbeats 2000000
namespace K02
open PySem L2 Lay
def topS (i : Nat) : Stmt := PySem.Challenge.pw_askford_k02_dates_that_are_none.main.body.getD i (.Pass ⟨0, 0, 0, 0⟩)
abbrev s_NoDay___init__ : Stmt := inClass (topS 1) 0
theorem sc_NoDay___init__ : FnScope ["self", "parts"] ["self", "parts"] (defScope s_NoDay___init__) := ⟨rfl, rfl, rfl, by decide +kernel, rfl, by decide +kernel, by decide +kernel⟩
abbrev s_NoTerm___init__ : Stmt := inClass (topS 2) 0
theorem sc_NoTerm___init__ : FnScope ["self", "at"] ["self", "at"] (defScope s_NoTerm___init__) := ⟨rfl, rfl, rfl, by decide +kernel, rfl, by decide +kernel, by decide +kernel⟩
abbrev s_NoName___init__ : Stmt := inClass (topS 3) 0
theorem sc_NoName___init__ : FnScope ["self", "at", "name"] ["self", "at", "name"] (defScope s_NoName___init__) := ⟨rfl, rfl, rfl, by decide +kernel, rfl, by decide +kernel, by decide +kernel⟩
abbrev s_NoKind___init__ : Stmt := inClass (topS 4) 0
theorem sc_NoKind___init__ : FnScope ["self", "at"] ["self", "at"] (defScope s_NoKind___init__) := ⟨rfl, rfl, rfl, by decide +kernel, rfl, by decide +kernel, by decide +kernel⟩
abbrev s_NoPath___init__ : Stmt := inClass (topS 5) 0
theorem sc_NoPath___init__ : FnScope ["self", "at"] ["self", "at"] (defScope s_NoPath___init__) := ⟨rfl, rfl, rfl, by decide +kernel, rfl, by decide +kernel, by decide +kernel⟩
abbrev s_NoTable___init__ : Stmt := inClass (topS 6) 0
theorem sc_NoTable___init__ : FnScope ["self", "row"] ["self", "row"] (defScope s_NoTable___init__) := ⟨rfl, rfl, rfl, by decide +kernel, rfl, by decide +kernel, by decide +kernel⟩
abbrev s_NoQuestion___init__ : Stmt := inClass (topS 7) 0
theorem sc_NoQuestion___init__ : FnScope ["self", "at"] ["self", "at"] (defScope s_NoQuestion___init__) := ⟨rfl, rfl, rfl, by decide +kernel, rfl, by decide +kernel, by decide +kernel⟩
abbrev s_NoText___init__ : Stmt := inClass (topS 9) 0
theorem sc_NoText___init__ : FnScope ["self", "at"] ["self", "at"] (defScope s_NoText___init__) := ⟨rfl, rfl, rfl, by decide +kernel, rfl, by decide +kernel, by decide +kernel⟩
abbrev s_NoMoment___init__ : Stmt := inClass (topS 10) 0
theorem sc_NoMoment___init__ : FnScope ["self", "number"] ["self", "number"] (defScope s_NoMoment___init__) := ⟨rfl, rfl, rfl, by decide +kernel, rfl, by decide +kernel, by decide +kernel⟩
abbrev s_Day___init__ : Stmt := inClass (topS 13) 0
theorem sc_Day___init__ : FnScope ["self", "number"] ["self", "number"] (defScope s_Day___init__) := ⟨rfl, rfl, rfl, by decide +kernel, rfl, by decide +kernel, by decide +kernel⟩
abbrev s_Day___eq__ : Stmt := inClass (topS 13) 1
theorem sc_Day___eq__ : FnScope ["self", "other"] ["self", "other"] (defScope s_Day___eq__) := ⟨rfl, rfl, rfl, by decide +kernel, rfl, by decide +kernel, by decide +kernel⟩
abbrev s_Day___repr__ : Stmt := inClass (topS 13) 2
theorem sc_Day___repr__ : FnScope ["self"] ["self"] (defScope s_Day___repr__) := ⟨rfl, rfl, rfl, by decide +kernel, rfl, by decide +kernel, by decide +kernel⟩
abbrev s_is_leap : Stmt := topS 14
theorem sc_is_leap : FnScope ["year"] ["year"] (defScope s_is_leap) := ⟨rfl, rfl, rfl, by decide +kernel, rfl, by decide +kernel, by decide +kernel⟩
abbrev s_last_of : Stmt := topS 15
theorem sc_last_of : FnScope ["year", "month"] ["year", "month"] (defScope s_last_of) := ⟨rfl, rfl, rfl, by decide +kernel, rfl, by decide +kernel, by decide +kernel⟩
abbrev s_day_of : Stmt := topS 16
theorem sc_day_of : FnScope ["year", "month", "day", "since", "ahead"] ["year", "month", "day"] (defScope s_day_of) := ⟨rfl, rfl, rfl, by decide +kernel, rfl, by decide +kernel, by decide +kernel⟩
abbrev s__law_draws : Stmt := topS 18
theorem sc__law_draws : FnScope ["_law_cell"] ["_law_cell"] (defScope s__law_draws) := ⟨rfl, rfl, rfl, by decide +kernel, rfl, by decide +kernel, by decide +kernel⟩
abbrev s__law_next : Stmt := topS 19
theorem sc__law_next : FnScope ["_law_draws_here", "_law_k", "_law_number"] ["_law_draws_here"] (defScope s__law_next) := ⟨rfl, rfl, rfl, by decide +kernel, rfl, by decide +kernel, by decide +kernel⟩
abbrev s__law_length : Stmt := topS 20
theorem sc__law_length : FnScope ["_law_year_here", "_law_month", "_law_leap"] ["_law_year_here", "_law_month"] (defScope s__law_length) := ⟨rfl, rfl, rfl, by decide +kernel, rfl, by decide +kernel, by decide +kernel⟩
abbrev s__law_year : Stmt := topS 21
theorem sc__law_year : FnScope ["_law_draws_here", "_law_pick", "_law_far"] ["_law_draws_here"] (defScope s__law_year) := ⟨rfl, rfl, rfl, by decide +kernel, rfl, by decide +kernel, by decide +kernel⟩
abbrev s__law_date : Stmt := topS 22
theorem sc__law_date : FnScope ["_law_draws_here", "_law_year_here", "_law_pick", "_law_month", "_law_length_here"] ["_law_draws_here"] (defScope s__law_date) := ⟨rfl, rfl, rfl, by decide +kernel, rfl, by decide +kernel, by decide +kernel⟩
abbrev s__law_told : Stmt := topS 23
theorem sc__law_told : FnScope ["_law_date_here", "_law_kept", "_law_told_here", "e"] ["_law_date_here"] (defScope s__law_told) := ⟨rfl, rfl, rfl, by decide +kernel, rfl, by decide +kernel, by decide +kernel⟩
abbrev s__law_bent : Stmt := topS 24
theorem sc__law_bent : FnScope ["_law_draws_here", "_law_date_here", "_law_pick", "_law_year_here", "_law_month", "_law_day", "_law_far"] ["_law_draws_here", "_law_date_here"] (defScope s__law_bent) := ⟨rfl, rfl, rfl, by decide +kernel, rfl, by decide +kernel, by decide +kernel⟩
abbrev s_law : Stmt := topS 25
theorem sc_law : FnScope ["_law_script", "_law_cell", "_law_draws_here", "_law_turn", "_law_bent_here", "_law_year_here", "_law_told_here"] ["_law_script"] (defScope s_law) := ⟨rfl, rfl, rfl, by decide +kernel, rfl, by decide +kernel, by decide +kernel⟩
structure Tx (K : PySem.W.Frag) (mg : Str → Option Value) where
  C_Day : Addr
  g_Day : mg "Day" = some (.ref C_Day)
  cl_Day : Cls K C_Day
  n_Day_number : NoAttr K C_Day "number"
  C_NoDay : Addr
  g_NoDay : mg "NoDay" = some (.ref C_NoDay)
  O_NoDay : OexC K C_NoDay
  X_NoDay : XfC K C_NoDay
  E_NoDay : ExcC K C_NoDay
  n_NoDay_parts : PySem.W.findIn K (.ref C_NoDay) "parts" = some none
  C_Fault : Addr
  g_Fault : mg "Fault" = some (.ref C_Fault)
  C_NoKind : Addr
  g_NoKind : mg "NoKind" = some (.ref C_NoKind)
  C_NoMoment : Addr
  g_NoMoment : mg "NoMoment" = some (.ref C_NoMoment)
  C_NoName : Addr
  g_NoName : mg "NoName" = some (.ref C_NoName)
  C_NoPath : Addr
  g_NoPath : mg "NoPath" = some (.ref C_NoPath)
  C_NoQuestion : Addr
  g_NoQuestion : mg "NoQuestion" = some (.ref C_NoQuestion)
  C_NoTable : Addr
  g_NoTable : mg "NoTable" = some (.ref C_NoTable)
  C_NoTerm : Addr
  g_NoTerm : mg "NoTerm" = some (.ref C_NoTerm)
  C_NoText : Addr
  g_NoText : mg "NoText" = some (.ref C_NoText)
  f_NoDay___init__ : Addr
  fd_NoDay___init__ : FuncData
  F_NoDay___init__ : Fun K "__init__" "NoDay.__init__" s_NoDay___init__ f_NoDay___init__ fd_NoDay___init__
  b_NoDay___init__ : Binds K fd_NoDay___init__ ["self", "parts"] []
  f_Day___init__ : Addr
  fd_Day___init__ : FuncData
  F_Day___init__ : Fun K "__init__" "Day.__init__" s_Day___init__ f_Day___init__ fd_Day___init__
  b_Day___init__ : Binds K fd_Day___init__ ["self", "number"] []
  M_Day : Mk K C_Day f_Day___init__
  f_is_leap : Addr
  fd_is_leap : FuncData
  F_is_leap : Fun K "is_leap" "is_leap" s_is_leap f_is_leap fd_is_leap
  b_is_leap : Binds K fd_is_leap ["year"] []
  g_is_leap : mg "is_leap" = some (.ref f_is_leap)
  f_last_of : Addr
  fd_last_of : FuncData
  F_last_of : Fun K "last_of" "last_of" s_last_of f_last_of fd_last_of
  b_last_of : Binds K fd_last_of ["year", "month"] []
  g_last_of : mg "last_of" = some (.ref f_last_of)
  f_day_of : Addr
  fd_day_of : FuncData
  F_day_of : Fun K "day_of" "day_of" s_day_of f_day_of fd_day_of
  b_day_of : Binds K fd_day_of ["year", "month", "day"] []
  g_day_of : mg "day_of" = some (.ref f_day_of)
  f__law_draws : Addr
  fd__law_draws : FuncData
  F__law_draws : Fun K "_law_draws" "_law_draws" s__law_draws f__law_draws fd__law_draws
  b__law_draws : Binds K fd__law_draws ["_law_cell"] []
  g__law_draws : mg "_law_draws" = some (.ref f__law_draws)
  f__law_next : Addr
  fd__law_next : FuncData
  F__law_next : Fun K "_law_next" "_law_next" s__law_next f__law_next fd__law_next
  b__law_next : Binds K fd__law_next ["_law_draws_here"] []
  g__law_next : mg "_law_next" = some (.ref f__law_next)
  f__law_length : Addr
  fd__law_length : FuncData
  F__law_length : Fun K "_law_length" "_law_length" s__law_length f__law_length fd__law_length
  b__law_length : Binds K fd__law_length ["_law_year_here", "_law_month"] []
  g__law_length : mg "_law_length" = some (.ref f__law_length)
  f__law_year : Addr
  fd__law_year : FuncData
  F__law_year : Fun K "_law_year" "_law_year" s__law_year f__law_year fd__law_year
  b__law_year : Binds K fd__law_year ["_law_draws_here"] []
  g__law_year : mg "_law_year" = some (.ref f__law_year)
  f__law_date : Addr
  fd__law_date : FuncData
  F__law_date : Fun K "_law_date" "_law_date" s__law_date f__law_date fd__law_date
  b__law_date : Binds K fd__law_date ["_law_draws_here"] []
  g__law_date : mg "_law_date" = some (.ref f__law_date)
  f__law_told : Addr
  fd__law_told : FuncData
  F__law_told : Fun K "_law_told" "_law_told" s__law_told f__law_told fd__law_told
  b__law_told : Binds K fd__law_told ["_law_date_here"] []
  g__law_told : mg "_law_told" = some (.ref f__law_told)
  f__law_bent : Addr
  fd__law_bent : FuncData
  F__law_bent : Fun K "_law_bent" "_law_bent" s__law_bent f__law_bent fd__law_bent
  b__law_bent : Binds K fd__law_bent ["_law_draws_here", "_law_date_here"] []
  g__law_bent : mg "_law_bent" = some (.ref f__law_bent)
  f_law : Addr
  fd_law : FuncData
  F_law : Fun K "law" "law" s_law f_law fd_law
  b_law : Binds K fd_law ["_law_script"] []
  g_law : mg "law" = some (.ref f_law)
  i_NoDay : PySem.W.findIn K (.ref C_NoDay) "__init__" = some (some (.ref f_NoDay___init__))
  t_NoDay : PySem.W.typeIn K (.ref f_NoDay___init__) = some (.type "function")
  a_LENGTHS : Addr
  g_LENGTHS : mg "LENGTHS" = some (.ref a_LENGTHS)
  q_LENGTHS : ∀ H, SqT K H a_LENGTHS [.int 31, .int 28, .int 31, .int 30, .int 31, .int 30, .int 31, .int 31, .int 30, .int 31, .int 30, .int 31]
  z_isinstance : mg "isinstance" = none
  z_int : mg "int" = none
  z_max : mg "max" = none
  z_tuple : mg "tuple" = none
  z_ValueError : mg "ValueError" = none
  z_range : mg "range" = none
  e_exm : PySem.W.exmAny K (.ref C_NoDay) [.ref C_Fault, .ref C_NoDay, .ref C_NoKind, .ref C_NoMoment, .ref C_NoName, .ref C_NoPath, .ref C_NoQuestion, .ref C_NoTable, .ref C_NoTerm, .ref C_NoText] = some true
  e_self : PySem.W.kitOne K (.ref C_NoDay) (.ref C_NoDay) = some true
  e_ve : PySem.W.kitOne K (.ref C_NoDay) (.type "ValueError") = some true
  e_six : PySem.W.kitAny K (.ref C_NoDay) [.ref C_NoKind, .ref C_NoName, .ref C_NoQuestion, .ref C_NoTable, .ref C_NoTerm, .ref C_NoText] = some false
theorem same_upd {H : Hp} {p : Addr} {o : HO} (h : H p = none) : Same H (upd H p o) := fun b x e => by
  rw [upd_ne (ne_of_none e h)]
  exact e
theorem same_mk {H : Hp} {x dx : Addr} {o1 o2 o3 : HO} (hx : H x = none) (hd : H dx = none) : Same H (upd (upd (upd H dx o1) x o2) x o3) := fun b z e => by
  rw [upd_ne (ne_of_none e hx), upd_ne (ne_of_none e hx), upd_ne (ne_of_none e hd)]
  exact e
theorem dV (a b : Int) : decide (V.int a = V.int b) = decide (a = b) := by
  by_cases h : a = b
  · rw [decide_eq_true h, decide_eq_true (congrArg V.int h)]
  · rw [decide_eq_false h, decide_eq_false fun e => h (V.int.inj e)]
theorem andV {c d : Bool} {Q : VK} {H : Hp} {A : Prop} (q : Q (.bl (c && d)) H) (h : c = true → Q (.bl d) H → A) : if c = true then A else Q (.bl false) H := by
  cases c with
  | true => exact iteT (h rfl q)
  | false => exact iteF q
theorem orV {c d : Bool} {Q : VK} {H : Hp} {A : Prop} (q : Q (.bl (c || d)) H) (h : c = false → Q (.bl d) H → A) : if c = true then Q (.bl true) H else A := by
  cases c with
  | true => exact iteT q
  | false => exact iteF (h rfl q)
/-- a Day of the number n stands at p -/
def DayAt (C : Addr) (H : Hp) (p : Addr) (n : Int) : Prop := ∃ dx, H p = some (.ins C dx [("number", .int n)])
theorem DayAt.same {C : Addr} {H H' : Hp} {p : Addr} {n : Int} (d : DayAt C H p n) (e : Same H H') : DayAt C H' p n := let ⟨dx, h⟩ := d; ⟨dx, e _ _ h⟩
def Tup3 (H : Hp) (t : Addr) (y m d : Int) : Prop := H t = some (.tup [.int y, .int m, .int d])
theorem Tup3.sq {K : PySem.W.Frag} {H : Hp} {t : Addr} {y m d : Int} (h : Tup3 H t y m d) : SqT K H t [.int y, .int m, .int d] := .inl (.inl h)
theorem Tup3.same {H H' : Hp} {t : Addr} {y m d : Int} (h : Tup3 H t y m d) (s : Same H H') : Tup3 H' t y m d := s _ _ h
theorem Tup3.dp {K : PySem.W.Frag} {H : Hp} {t : Addr} {y m d : Int} (h : Tup3 H t y m d) : Dp K H (.ref t) (.tuple [.int y, .int m, .int d]) := .tup h.sq (.cons (.int _) (.cons (.int _) (.cons (.int _) .nil)))
theorem tup_shaped (y m d : Int) : SeqAt.shaped (.tuple [.int y, .int m, .int d]) = true := rfl
theorem tup_eqv (y m d : Int) : PyData.eqv (.tuple [.int y, .int m, .int d]) (.tuple [.int y, .int m, .int d]) = true := by
  simp [PyData.eqv, PyData.eqvAll]
section
variable {P : Program} {w : World} {K : PySem.W.Frag} {mg : Str → Option Value} {base : Heap} (T : Tx K mg)
/-! ### Day -/
def sp_init (C : Addr) : Sp := fun vs H Q _ => ∃ (p dx : Addr) (n : Int), vs = [.ref p, .int n] ∧ H p = some (.ins C dx []) ∧ Q .non (upd H p (.ins C dx [("number", .int n)]))
theorem G_Day___init__ : FnOk P w K mg base CX0 1 T.f_Day___init__ T.fd_Day___init__ ["self", "number"] (sp_init T.C_Day) := by
  refine T.F_Day___init__.ok sc_Day___init__ (fun vs H Q E h => ?_) (fun cdv A outer s H vs Q E hr h => ?_)
  · obtain ⟨p, dx, n, rfl, _⟩ := h
    rfl
  · obtain ⟨p, dx, n, rfl, hp, q⟩ := h
    refine ⟨_, (pss_one (ps_fld (pv 0) (pv 1) rfl)), ?_⟩
    exact ⟨_, rfl, _, rfl, p, _, dx, _, rfl, hp, T.cl_Day, T.n_Day_number, (by show 0 < 1000; decide), q⟩
def sp_is_leap : Sp := fun vs H Q _ => ∃ y : Int, vs = [.int y] ∧ Q (.bl (Cal.leap y)) H
theorem G_is_leap : FnOk P w K mg base CX0 1 T.f_is_leap T.fd_is_leap ["year"] sp_is_leap := by
  refine T.F_is_leap.ok sc_is_leap (fun vs H Q E h => ?_) (fun cdv A outer s H vs Q E hr h => ?_)
  · obtain ⟨y, rfl, _⟩ := h
    rfl
  · obtain ⟨y, rfl, q⟩ := h
    refine ⟨_, (pss_one (ps_ret (pe_and (pe_cmpR op_eq (pe_op op_mod (pv 0) pe_int) pe_int (nomark _)) (pe_one (pe_or (pe_cmpR op_ne (pe_op op_mod (pv 0) pe_int) pe_int (nomark _)) (pe_one (pe_cmpR op_eq (pe_op op_mod (pv 0) pe_int) pe_int (nomark _)))))))), ?_⟩
    refine ⟨_, rfl, _, _, rfl, rfl, (by show (0 : Int) < 4; decide), rfl, _, rfl, andV (d := decide (¬ y % 100 = 0) || decide (y % 400 = 0)) (by rw [dV]; exact q) fun _ q1 => ?_⟩
    refine ⟨_, rfl, _, _, rfl, rfl, (by show (0 : Int) < 100; decide), rfl, _, rfl, orV (d := decide (y % 400 = 0)) (by rw [dV, ← decide_not]; exact q1) fun _ q2 => ?_⟩
    refine ⟨_, rfl, _, _, rfl, rfl, (by show (0 : Int) < 400; decide), rfl, ?_⟩
    rw [dV]
    exact q2
theorem lens_at {m : Int} (h1 : 1 ≤ m) (h2 : m ≤ 12) : atI (Cal.lens.map V.int) (m - 1) = some (.int (Cal.lens.getD (m - 1).toNat 0)) := by
  rcases Cal.month_cases h1 h2 with rfl | rfl | rfl | rfl | rfl | rfl | rfl | rfl | rfl | rfl | rfl | rfl <;> decide +kernel
def sp_last_of : Sp := fun vs H Q _ => ∃ y m : Int, vs = [.int y, .int m] ∧ 1 ≤ m ∧ m ≤ 12 ∧ Q (.int (Cal.lastOf y m)) H
theorem G_last_of : FnOk P w K mg base CX0 2 T.f_last_of T.fd_last_of ["year", "month"] sp_last_of := by
  have G_is_leap := G_is_leap (P := P) (w := w) (base := base) T
  refine T.F_last_of.ok sc_last_of (fun vs H Q E h => ?_) (fun cdv A outer s H vs Q E hr h => ?_)
  · obtain ⟨y, m, rfl, _⟩ := h
    rfl
  · obtain ⟨y, m, rfl, h1, h2, q⟩ := h
    refine ⟨_, (pss_one (ps_ret (pe_op op_add (pe_ix (r := rIxT K) ix_tup (pe_glob (v := .ref T.a_LENGTHS) (by rfl) T.g_LENGTHS rfl) (pe_op op_sub (pv 1) pe_int) (fun _ _ => rfl)) (pe_callTy call_int1 (by rfl) T.z_int (by decide +kernel) (pa_cons (pe_and (pe_cmpR op_eq (pv 1) pe_int (nomark _)) (pe_one (pe_call G_is_leap (hr.mono (by decide)) (by rfl) T.g_is_leap T.F_is_leap.kp T.b_is_leap .nil pass0 (pa_cons (pv 0) pa_nil)))) pa_nil))))), ?_⟩
    refine ⟨_, rfl, _, _, rfl, rfl, _, _, _, _, rfl, rfl, T.q_LENGTHS H, lens_at h1 h2, _, rfl, rfl, _, rfl, ?_⟩
    rw [dV]
    unfold Cal.lastOf at q
    cases hc : decide (m = 2) with
    | true =>
      rw [hc] at q
      exact iteT ⟨_, rfl, y, rfl, .inr ⟨_, rfl, _, _, rfl, rfl, q⟩⟩
    | false =>
      rw [hc] at q
      exact iteF (.inr ⟨_, rfl, _, _, rfl, rfl, q⟩)
/-- what the __init__ of an own exception with one field leaves -/
def sp_xinit (C : Addr) (f : Str) : Sp := fun vs H Q _ => ∃ (a : Addr) (v : V), vs = [.ref a, v] ∧ H a = some (exo a C none) ∧ ∀ dx, H dx = none → dx ≠ a → Q .non (upd (upd H dx (exd dx [(f, v)])) a (exo a C (some dx)))
theorem G_NoDay___init__ : FnOk P w K mg base CX0 1 T.f_NoDay___init__ T.fd_NoDay___init__ ["self", "parts"] (sp_xinit T.C_NoDay "parts") := by
  refine T.F_NoDay___init__.ok sc_NoDay___init__ (fun vs H Q E h => ?_) (fun cdv A outer s H vs Q E hr h => ?_)
  · obtain ⟨a, v, rfl, _⟩ := h
    rfl
  · obtain ⟨a, v, rfl, ha, q⟩ := h
    refine ⟨_, (pss_one (ps_ost (pv 0) (pv 1))), ?_⟩
    exact ⟨_, rfl, _, rfl, a, T.C_NoDay, rfl, T.O_NoDay, T.n_NoDay_parts, .inl ⟨ha, fun dx nd ne => q dx nd ne⟩⟩
/-- the heap behind a made exception -/
theorem same_exc {H : Hp} {a d C : Addr} {fs : List (Str × V)} (na : H a = none) (nd : H d = none) (o1 o2 o3 : HO) : Same H (upd (del (upd (upd (upd H a o1) d o2) a o3) a) d (.xd fs)) := fun b o e => by
  have hb : b ≠ a := ne_of_none e na
  have hd : b ≠ d := ne_of_none e nd
  rw [upd_ne hd, del_ne hb, upd_ne hb, upd_ne hd, upd_ne hb]
  exact e
/-- day_of of any three numbers -/
def sp_day_of (C N : Addr) : Sp := fun vs H Q E => ∃ y m d : Int, vs = [.int y, .int m, .int d] ∧ (Cal.valid y m d → ∀ p H', H p = none → Same H H' → DayAt C H' p (Cal.num y m d) → Q (.ref p) H') ∧
  (¬ Cal.valid y m d → ∀ dx t H', H dx = none → Same H H' → H' dx = some (.xd [("parts", .ref t)]) → Tup3 H' t y m d → E (.ref N) (some dx) H')
theorem G_day_of : FnOk P w K mg base (CX P w) 3 T.f_day_of T.fd_day_of ["year", "month", "day"] (sp_day_of T.C_Day T.C_NoDay) := by
  have G_last_of := G_last_of (P := P) (w := w) (base := base) T
  have G_Day___init__ := G_Day___init__ (P := P) (w := w) (base := base) T
  have G_NoDay___init__ := G_NoDay___init__ (P := P) (w := w) (base := base) T
  refine T.F_day_of.okX sc_day_of (fun vs H Q E h => ?_) (fun cdv A outer s H vs Q E hr h => ?_)
  · obtain ⟨y, m, d, rfl, _⟩ := h
    rfl
  · obtain ⟨y, m, d, rfl, q, qe⟩ := h
    have raised : ¬ Cal.valid y m d → ∀ t, H t = none → ∀ a, (upd H t (.tup [.int y, .int m, .int d])) a = none → ∀ dx, (upd (upd H t (.tup [.int y, .int m, .int d])) a (exo a T.C_NoDay none)) dx = none → dx ≠ a →
        E (.ref T.C_NoDay) (some dx) (upd (del (upd (upd (upd (upd H t (.tup [.int y, .int m, .int d])) a (exo a T.C_NoDay none)) dx (exd dx [("parts", .ref t)])) a (exo a T.C_NoDay (some dx))) a) dx (.xd [("parts", .ref t)])) := fun hv t nt a na dx nd ne => by
      rw [upd_ne ne] at nd
      have s1 : Same H (upd H t (.tup [.int y, .int m, .int d])) := same_upd nt
      have s2 := same_exc (C := T.C_NoDay) (fs := [("parts", .ref t)]) na nd (exo a T.C_NoDay none) (exd dx [("parts", .ref t)]) (exo a T.C_NoDay (some dx))
      exact qe hv dx t _ (s1.free nd) (s1.trans s2) upd_same (s2 _ _ upd_same)
    refine ⟨_, (pss_cons (ps_if (PW.pt (pw_or (pt_not (pt_chain op_le op_le pe_int (pv 1) pe_int)) (pw_or1 (pt_not (pt_chain op_le op_le pe_int (pv 2) (pe_call G_last_of (hr.mono (by decide)) (by rfl) T.g_last_of T.F_last_of.kp T.b_last_of .nil pass0 (pa_cons (pv 0) (pa_cons (pv 1) pa_nil)))))))) (pss_one (ps_raise rfl (takes_of rfl rfl rfl rfl) (pmk_oex T.O_NoDay T.i_NoDay T.t_NoDay G_NoDay___init__ (hr.mono (by decide)) T.b_NoDay___init__ .nil pass0 (by rfl) T.g_NoDay (pa_cons (pe_tup (pa_cons (pv 0) (pa_cons (pv 1) (pa_cons (pv 2) pa_nil)))) pa_nil)))) pss_nil)
    (pss_cons (ps_set (i := 3) sc_day_of.nd rfl (.inl rfl) (pe_op op_sub (pv 0) (pe_callTy call_int1 (by rfl) T.z_int (by decide +kernel) (pa_cons (pe_cmpR op_lt (pv 1) pe_int (nomark _)) pa_nil))))
    (pss_cons (ps_set (i := 4) sc_day_of.nd rfl (.inl rfl) (pe_op op_sub (pe_op op_add (pe_op op_fdiv (pe_op op_add (pe_op op_mul pe_int (pe_op op_mod (pe_op op_add (pv 1) pe_int) pe_int)) pe_int) pe_int) (pv 2)) pe_int))
    (pss_one (ps_ret (pe_make T.M_Day G_Day___init__ (hr.mono (by decide)) (by rfl) T.g_Day T.b_Day___init__ .nil pass0 (pa_cons (pe_op op_add (pe_op op_add (pe_op op_sub (pe_op op_add (pe_op op_mul pe_int (pv 3)) (pe_op op_fdiv (pv 3) pe_int)) (pe_op op_fdiv (pv 3) pe_int)) (pe_op op_fdiv (pv 3) pe_int)) (pv 4)) pa_nil))))))), ?_⟩
    refine ⟨_, rfl, _, _, rfl, rfl, _, rfl, ?_⟩
    by_cases h1 : 1 ≤ m
    · rw [decide_eq_true h1]
      refine iteT ⟨_, _, rfl, rfl, _, rfl, ?_⟩
      by_cases h2 : m ≤ 12
      · rw [decide_eq_true h2]
        refine iteF ⟨_, rfl, _, _, rfl, rfl, _, rfl, ?_⟩
        by_cases h3 : 1 ≤ d
        · rw [decide_eq_true h3]
          refine iteT ⟨_, rfl, _, rfl, y, m, rfl, h1, h2, _, _, rfl, rfl, _, rfl, ?_⟩
          by_cases h4 : d ≤ Cal.lastOf y m
          · rw [decide_eq_true h4]
            refine iteF ?_
            refine ⟨_, rfl, _, rfl, _, _, rfl, rfl, .inr ⟨_, rfl, _, _, rfl, rfl, ?_⟩⟩
            refine ⟨_, rfl, _, _, rfl, rfl, _, _, rfl, rfl, (by show (0 : Int) < 12; decide), _, _, rfl, rfl, .inl ⟨by decide, by decide⟩, _, _, rfl, rfl, _, _, rfl, rfl, ⟨by decide, by decide⟩, _, rfl, _, _, rfl, rfl, _, _, rfl, rfl, ?_⟩
            refine ⟨_, rfl, _, _, rfl, rfl, .inl ⟨by decide, by decide⟩, _, rfl, _, _, rfl, rfl, ⟨by decide, by decide⟩, _, _, rfl, rfl, _, rfl, _, _, rfl, rfl, ⟨by decide, by decide⟩, _, _, rfl, rfl, _, rfl, _, _, rfl, rfl, ⟨by decide, by decide⟩, _, _, rfl, rfl, _, rfl, _, _, rfl, rfl, fun x dx nx nd ne => ?_⟩
            exact ⟨x, dx, _, rfl, upd_same, rfl, q ⟨h1, h2, h3, h4⟩ x _ nx (same_mk nx nd) ⟨dx, upd_same⟩⟩
          · rw [decide_eq_false h4]
            refine iteT ?_
            exact ⟨_, rfl, _, rfl, _, rfl, (by show 3 ≤ sizeLine; decide), fun t nt => ⟨(by show 1 ≤ 1000; decide), fun a na => ⟨a, _, rfl, upd_same, fun dx nd ne => ⟨rfl, dx, _, upd_same, (by rw [upd_ne ne, upd_same]), (by rw [upd_ne ne] at nd; exact nd), raised (fun z => h4 z.2.2.2) t nt a na dx nd ne⟩⟩⟩⟩
        · rw [decide_eq_false h3]
          refine iteF ⟨_, rfl, iteT ?_⟩
          exact ⟨_, rfl, _, rfl, _, rfl, (by show 3 ≤ sizeLine; decide), fun t nt => ⟨(by show 1 ≤ 1000; decide), fun a na => ⟨a, _, rfl, upd_same, fun dx nd ne => ⟨rfl, dx, _, upd_same, (by rw [upd_ne ne, upd_same]), (by rw [upd_ne ne] at nd; exact nd), raised (fun z => h3 z.2.2.1) t nt a na dx nd ne⟩⟩⟩⟩
      · rw [decide_eq_false h2]
        refine iteT ?_
        exact ⟨_, rfl, _, rfl, _, rfl, (by show 3 ≤ sizeLine; decide), fun t nt => ⟨(by show 1 ≤ 1000; decide), fun a na => ⟨a, _, rfl, upd_same, fun dx nd ne => ⟨rfl, dx, _, upd_same, (by rw [upd_ne ne, upd_same]), (by rw [upd_ne ne] at nd; exact nd), raised (fun z => h2 z.2.1) t nt a na dx nd ne⟩⟩⟩⟩
    · rw [decide_eq_false h1]
      refine iteF ⟨_, rfl, iteT ?_⟩
      exact ⟨_, rfl, _, rfl, _, rfl, (by show 3 ≤ sizeLine; decide), fun t nt => ⟨(by show 1 ≤ 1000; decide), fun a na => ⟨a, _, rfl, upd_same, fun dx nd ne => ⟨rfl, dx, _, upd_same, (by rw [upd_ne ne, upd_same]), (by rw [upd_ne ne] at nd; exact nd), raised (fun z => h1 z.1) t nt a na dx nd ne⟩⟩⟩⟩
def sp_told (C : Addr) : Sp := fun vs H Q _ => ∃ (t : Addr) (y m d : Int), vs = [.ref t] ∧ Tup3 H t y m d ∧
  (Cal.valid y m d → ∀ l H', Same H H' → H' l = some (.lst [.str "told", .int (Cal.num y m d)]) → Q (.ref l) H') ∧
  (¬ Cal.valid y m d → ∀ l t' H', Same H H' → H' l = some (.lst [.str "none", .ref t', .bl true]) → Tup3 H' t' y m d → Q (.ref l) H')
theorem G__law_told : FnOk P w K mg base CX0 4 T.f__law_told T.fd__law_told ["_law_date_here"] (sp_told T.C_Day) := by
  have G_day_of := G_day_of (P := P) (w := w) (base := base) T
  refine T.F__law_told.ok sc__law_told (fun vs H Q E h => ?_) (fun cdv A outer s H vs Q E hr h => ?_)
  · obtain ⟨t, y, m, d, rfl, _⟩ := h
    rfl
  · obtain ⟨t, y, m, d, rfl, ht, qv, qn⟩ := h
    refine ⟨_, (pss_cons (ps_set (i := 1) sc__law_told.nd rfl (.inl rfl) pe_non)
    (pss_cons (ps_set (i := 2) sc__law_told.nd rfl (.inl rfl) pe_non)
    (pss_cons (ps_try_keep (i := 3) rfl rfl rfl sc__law_told.nd rfl rfl (.cons ⟨rfl, by decide, .inl T.g_Fault⟩ (.cons ⟨rfl, by decide, .inl T.g_NoDay⟩ (.cons ⟨rfl, by decide, .inl T.g_NoKind⟩ (.cons ⟨rfl, by decide, .inl T.g_NoMoment⟩ (.cons ⟨rfl, by decide, .inl T.g_NoName⟩ (.cons ⟨rfl, by decide, .inl T.g_NoPath⟩ (.cons ⟨rfl, by decide, .inl T.g_NoQuestion⟩ (.cons ⟨rfl, by decide, .inl T.g_NoTable⟩ (.cons ⟨rfl, by decide, .inl T.g_NoTerm⟩ (.cons ⟨rfl, by decide, .inl T.g_NoText⟩ .nil)))))))))) (by show 10 ≤ sizeLine; decide) takes0 (fun W pn xe tk _ => (pss_one (ps_set (i := 2) sc__law_told.nd rfl (.inl rfl) (pe_callS G_day_of (hr.mono (by decide)) (by rfl) T.g_day_of T.F_day_of.kp T.b_day_of (fun σ => passAt tk σ) (pa_cons (pe_ix (r := rIxT K) ix_tup (pv 0) pe_int (fun _ _ => rfl)) (pa_cons (pe_ix (r := rIxT K) ix_tup (pv 0) pe_int (fun _ _ => rfl)) (pa_cons (pe_ix (r := rIxT K) ix_tup (pv 0) pe_int (fun _ _ => rfl)) pa_nil))))))) (fun a oe cls d pn hz hf => (pss_one (ps_set (i := 1) sc__law_told.nd rfl (.inl rfl) (pv 3)))))
    (pss_cons (ps_if (pt_cmpR op_isN (pv 1) pe_non (nomark _)) (pss_one (ps_ret (pe_lst (pa_cons pe_str (pa_cons (pe_fld (pv 2) rfl) pa_nil))))) pss_nil)
    (pss_cons (ps_if (PW.pt (pw_or (pt_not (pt_val (pe_callB call_isX (by rfl) T.z_isinstance (by decide +kernel) (pa_cons (pv 1) (pa_cons (pe_glob (v := .ref T.C_NoDay) (by rfl) T.g_NoDay rfl) pa_nil))))) (pw_or1 (pt_not (pt_val (pe_callB call_isX (by rfl) T.z_isinstance (by decide +kernel) (pa_cons (pv 1) (pa_cons (pe_bltn (v := .ty "ValueError") (u := .type "ValueError") (by rfl) T.z_ValueError (by decide +kernel) rfl) pa_nil)))))))) (pss_one (ps_ret (pe_lst (pa_cons pe_str pa_nil)))) pss_nil)
    (pss_cons (ps_if (pt_val (pe_callB call_isXT (by rfl) T.z_isinstance (by decide +kernel) (pa_cons (pv 1) (pa_cons (pe_tup (pa_cons (pe_glob (v := .ref T.C_NoKind) (by rfl) T.g_NoKind rfl) (pa_cons (pe_glob (v := .ref T.C_NoName) (by rfl) T.g_NoName rfl) (pa_cons (pe_glob (v := .ref T.C_NoQuestion) (by rfl) T.g_NoQuestion rfl) (pa_cons (pe_glob (v := .ref T.C_NoTable) (by rfl) T.g_NoTable rfl) (pa_cons (pe_glob (v := .ref T.C_NoTerm) (by rfl) T.g_NoTerm rfl) (pa_cons (pe_glob (v := .ref T.C_NoText) (by rfl) T.g_NoText rfl) pa_nil))))))) pa_nil)))) (pss_one (ps_ret (pe_lst (pa_cons pe_str pa_nil)))) pss_nil)
    (pss_one (ps_ret (pe_lst (pa_cons pe_str (pa_cons (pe_xk (pv 1)) (pa_cons (pe_callB call_isi (by rfl) T.z_isinstance (by decide +kernel) (pa_cons (pe_xk (pv 1)) (pa_cons (pe_bltn (v := .ty "tuple") (u := .type "tuple") (by rfl) T.z_tuple (by decide +kernel) rfl) pa_nil))) pa_nil)))))))))))), ?_⟩
    refine ⟨_, rfl, t, _, _, _, rfl, rfl, ht.sq, atI_nat (j := 0) rfl, _, rfl, t, _, _, _, rfl, rfl, ht.sq, atI_nat (j := 1) rfl, _, rfl, t, _, _, _, rfl, rfl, ht.sq, atI_nat (j := 2) rfl, y, m, d, rfl, fun hv p H1 np s1 dp => ?_, fun hv dx t2 H1 nd s1 hx ht2 => ?_⟩
    · obtain ⟨dy, hp⟩ := id dp
      refine ⟨_, rfl, rfl, _, rfl, iteT ?_⟩
      refine ⟨_, rfl, p, _, dy, _, _, rfl, hp, T.cl_Day, T.n_Day_number, rfl, (by show 2 ≤ sizeLine; decide), fun l nl => ?_⟩
      exact qv hv l _ (s1.trans (same_upd nl)) upd_same
    · refine ⟨true, T.e_exm, fun _ a na => ?_, fun z => nomatch z⟩
      refine ⟨_, rfl, fun na' => ?_⟩
      have s2 : Same H1 (upd H1 a (excAt a (.ref T.C_NoDay) (some dx))) := same_upd na'
      have hk : ExcKept (upd H1 a (excAt a (.ref T.C_NoDay) (some dx))) a T.C_NoDay [("parts", .ref t2)] := .inr ⟨dx, upd_same, s2 _ _ hx⟩
      have ht2' := ht2.same s2
      refine ⟨_, rfl, rfl, _, rfl, iteF ?_⟩
      refine ⟨_, rfl, a, _, _, _, _, _, rfl, T.E_NoDay, hk, ClsV.own _, T.e_self, _, rfl, iteF ?_⟩
      refine ⟨_, rfl, a, _, _, _, _, _, rfl, T.E_NoDay, hk, ClsV.ty _, T.e_ve, _, rfl, iteF ?_⟩
      refine ⟨_, rfl, (by show 6 ≤ sizeLine; decide), fun tp ntp => ?_⟩
      have s3 := same_upd (o := .tup [.ref T.C_NoKind, .ref T.C_NoName, .ref T.C_NoQuestion, .ref T.C_NoTable, .ref T.C_NoTerm, .ref T.C_NoText]) ntp
      refine ⟨a, _, _, tp, _, _, _, rfl, T.E_NoDay, hk.same s3, upd_same, .cons (.own _) (.cons (.own _) (.cons (.own _) (.cons (.own _) (.cons (.own _) (.cons (.own _) .nil))))), T.e_six, _, rfl, iteF ?_⟩
      have ht3 := ht2'.same s3
      refine ⟨_, rfl, a, T.C_NoDay, dx, _, _, rfl, T.X_NoDay, T.n_NoDay_parts, s3 _ _ upd_same, s3 _ _ (s2 _ _ hx), rfl, _, rfl, a, T.C_NoDay, dx, _, _, rfl, T.X_NoDay, T.n_NoDay_parts, s3 _ _ upd_same, s3 _ _ (s2 _ _ hx), rfl, _, _, _, _, _, rfl, ClsV.ty _, .base (.tup ht3), kit_ty (r := true) (by decide +kernel), (by show 3 ≤ sizeLine; decide), fun l nl => ?_⟩
      exact qn hv l t2 _ (((s1.trans s2).trans s3).trans (same_upd nl)) upd_same (ht3.same (same_upd nl))
end
end K02
set_option Elab.async false
set_option linter.all false
set_option maxRecDepth 100000
set_option maxHeartbeats 2000000
namespace K02
open PySem L2 Lay
/-! ### draws -/
/-- all but d is as it was -/
def Kp (d : Addr) (H H' : Hp) : Prop := ∀ a o, a ≠ d → H a = some o → H' a = some o
theorem Kp.trans {d : Addr} {H H1 H2 : Hp} (a : Kp d H H1) (b : Kp d H1 H2) : Kp d H H2 := fun x o n h => b x o n (a x o n h)
theorem Kp.of {d : Addr} {H H' : Hp} (s : Same H H') : Kp d H H' := fun a o _ h => s a o h
theorem Kp.upd {d : Addr} {H : Hp} {o : HO} : Kp d H (upd H d o) := fun a u n h => by
  rw [upd_ne n]
  exact h
theorem Kp.free {d : Addr} {H H' : Hp} (k : Kp d H H') {t : Addr} (h : H' t = none) (nd : t ≠ d) : H t = none := by
  cases q : H t with
  | none => rfl
  | some o =>
    rw [k t o nd q] at h
    cases h
/-- what is drawn from, drawn k times -/
def Dr (H : Hp) (d : Addr) (k : Nat) : Prop := ∃ (n : Int) (b : Bool), H d = some (.lst [.int n, .int (k : Int), .bl b])
theorem Dr.same {H H' : Hp} {d : Addr} {k : Nat} (s : Same H H') (h : Dr H d k) : Dr H' d k := let ⟨n, b, e⟩ := h; ⟨n, b, s _ _ e⟩
theorem atM (ns : List Int) {i : Int} (h0 : 0 ≤ i) (h1 : i < ns.length) : atI (ns.map V.int) i = some (.int (ns.getD i.toNat 0)) := by
  obtain ⟨j, rfl⟩ : ∃ j : Nat, i = (j : Int) := ⟨i.toNat, by omega⟩
  have h2 : j < ns.length := by omega
  refine atI_nat ?_
  rw [List.getElem?_map, List.getElem?_eq_getElem h2, Int.toNat_natCast, List.getD_eq_getElem?_getD, List.getElem?_eq_getElem h2]
  rfl
theorem modB (a : Int) {m : Int} (h : 0 < m) (h2 : m < 2 ^ 64) : -(2 ^ 64) < a % m ∧ a % m < 2 ^ 64 := by
  have h3 := Int.emod_nonneg a (show m ≠ 0 by omega)
  have h4 := Int.emod_lt_of_pos a h
  omega
section
variable {P : Program} {w : World} {K : PySem.W.Frag} {mg : Str → Option Value} {base : Heap} (T : Tx K mg)
def sp_draws : Sp := fun vs H Q _ => ∃ c : Int, vs = [.int c] ∧ ∀ d H', H d = none → Same H H' → Dr H' d 0 → Q (.ref d) H'
theorem G__law_draws : FnOk P w K mg base CX0 1 T.f__law_draws T.fd__law_draws ["_law_cell"] sp_draws := by
  refine T.F__law_draws.ok sc__law_draws (fun vs H Q E h => ?_) (fun cdv A outer s H vs Q E hr h => ?_)
  · obtain ⟨c, rfl, _⟩ := h
    rfl
  · obtain ⟨c, rfl, q⟩ := h
    refine ⟨_, (pss_one (ps_ret (pe_lst (pa_cons (pe_op op_mod (pv 0) (pe_op op_powW (pe_op op_powW (pe_op op_pow pe_int pe_int) pe_int) pe_int)) (pa_cons pe_int (pa_cons (pe_cmpR op_ge (pv 0) (pe_op op_pow pe_int pe_int) (nomark _)) pa_nil)))))), ?_⟩
    have hbig : (0 : Int) < ((10 ^ (60 : Int).toNat) ^ (60 : Int).toNat) ^ (4 : Int).toNat := by decide +kernel
    have b1 : CPowW (10 ^ (60 : Int).toNat) 60 := ⟨by decide, by decide +kernel⟩
    have b2 : CPowW ((10 ^ (60 : Int).toNat) ^ (60 : Int).toNat) 4 := ⟨by decide, by decide +kernel⟩
    refine ⟨_, rfl, _, _, rfl, rfl, ⟨by decide, by decide, by decide⟩, _, _, rfl, rfl, b1, _, _, rfl, rfl, b2, _, _, rfl, rfl, hbig, ?_⟩
    generalize ((10 ^ (60 : Int).toNat) ^ (60 : Int).toNat) ^ (4 : Int).toNat = big
    refine ⟨_, rfl, _, _, rfl, rfl, ⟨by decide, by decide, by decide⟩, _, _, rfl, rfl, (by show 3 ≤ sizeLine; decide), fun d nd => ?_⟩
    exact q d _ nd (same_upd nd) ⟨_, _, upd_same⟩
def sp_next : Sp := fun vs H Q _ => ∃ (d : Addr) (k : Nat), vs = [.ref d] ∧ Dr H d k ∧ k ≤ 1000000 ∧ ∀ (r : Int) H', 0 ≤ r → r < 1073741824 → Kp d H H' → Dr H' d (k + 1) → Q (.int r) H'
theorem G__law_next : FnOk P w K mg base CX0 1 T.f__law_next T.fd__law_next ["_law_draws_here"] sp_next := by
  refine T.F__law_next.ok sc__law_next (fun vs H Q E h => ?_) (fun cdv A outer s H vs Q E hr h => ?_)
  · obtain ⟨d, k, rfl, _⟩ := h
    rfl
  · obtain ⟨d, k, rfl, ⟨n, b, hd⟩, hk, q⟩ := h
    refine ⟨_, (pss_cons (ps_asg (pe_op op_add (pe_ix (r := rIxL K) ix_list (pv 0) pe_int (fun _ _ => rfl)) pe_int) (pg_sub (pv 0) pe_int set_list))
    (pss_cons (ps_set (i := 1) sc__law_next.nd rfl (.inl rfl) (pe_ix (r := rIxL K) ix_list (pv 0) pe_int (fun _ _ => rfl)))
    (pss_cons (ps_if (pt_val (pe_ix (r := rIxL K) ix_list (pv 0) pe_int (fun _ _ => rfl))) (pss_cons (ps_set (i := 2) sc__law_next.nd rfl (.inl rfl) (pe_op op_mod (pe_ix (r := rIxL K) ix_list (pv 0) pe_int (fun _ _ => rfl)) (pe_op op_pow pe_int pe_int)))
    (pss_cons (ps_asg (pe_op op_fdiv (pe_ix (r := rIxL K) ix_list (pv 0) pe_int (fun _ _ => rfl)) (pe_op op_pow pe_int pe_int)) (pg_sub (pv 0) pe_int set_list))
    (pss_one (ps_ret (pv 2))))) pss_nil)
    (pss_cons (ps_set (i := 2) sc__law_next.nd rfl (.inl rfl) (pe_op op_mod (pe_op op_mul (pe_op op_add (pe_op op_add (pe_op op_mod (pe_ix (r := rIxL K) ix_list (pv 0) pe_int (fun _ _ => rfl)) pe_int) (pe_op op_mul (pe_op op_mul (pv 1) (pv 1)) pe_int)) (pv 1)) pe_int) pe_int))
    (pss_cons (ps_set (i := 2) sc__law_next.nd rfl (.inl rfl) (pe_op op_mod (pe_op op_mul (pv 2) (pv 2)) pe_int))
    (pss_one (ps_ret (pe_op op_fdiv (pe_op op_mod (pe_op op_mul (pv 2) (pe_op op_add (pv 2) pe_int)) pe_int) pe_int)))))))), ?_⟩
    refine ⟨_, rfl, d, _, _, _, rfl, rfl, .inl (.inl hd), atI_nat (j := 1) rfl, _, _, rfl, rfl, _, rfl, d, _, _, 1, rfl, rfl, hd, rfl, ?_⟩
    have k1 : Kp d H (upd H d (.lst [.int n, .int ((k : Int) + 1), .bl b])) := Kp.upd
    have hd1 : (upd H d (.lst [.int n, .int ((k : Int) + 1), .bl b])) d = some (.lst [.int n, .int ((k : Int) + 1), .bl b]) := upd_same
    show tSeq _ _ _ _ (upd H d (.lst [.int n, .int ((k : Int) + 1), .bl b]))
    generalize upd H d (.lst [.int n, .int ((k : Int) + 1), .bl b]) = H1 at k1 hd1 ⊢
    refine ⟨_, rfl, d, _, _, _, rfl, rfl, .inl (.inl hd1), atI_nat (j := 1) rfl, ?_⟩
    refine ⟨_, rfl, d, _, _, _, rfl, rfl, .inl (.inl hd1), atI_nat (j := 2) rfl, _, rfl, ?_⟩
    cases b with
    | true =>
      refine iteT ⟨_, rfl, d, _, _, _, rfl, rfl, .inl (.inl hd1), atI_nat (j := 0) rfl, _, _, rfl, rfl, ⟨by decide, by decide, by decide⟩, _, _, rfl, rfl, (by show (0 : Int) < 10 ^ 6; decide), ?_⟩
      refine ⟨_, rfl, d, _, _, _, rfl, rfl, .inl (.inl hd1), atI_nat (j := 0) rfl, _, _, rfl, rfl, ⟨by decide, by decide, by decide⟩, _, _, rfl, rfl, ⟨by decide, by decide⟩, _, rfl, d, _, _, 0, rfl, rfl, hd1, rfl, ?_⟩
      have e6 : (10 : Int) ^ (6 : Int).toNat = 1000000 := by decide
      refine ⟨_, rfl, ?_⟩
      refine q _ _ ?_ ?_ (k1.trans Kp.upd) ⟨_, _, upd_same⟩
      · rw [e6]
        omega
      · rw [e6]
        omega
    | false =>
      refine iteF ?_
      refine ⟨_, rfl, d, _, _, _, rfl, rfl, .inl (.inl hd1), atI_nat (j := 0) rfl, _, _, rfl, rfl, (by show (0 : Int) < 1000003; decide), _, rfl, _, rfl, _, _, rfl, rfl, .inl ⟨by omega, by omega⟩, _, _, rfl, rfl, .inr ⟨by decide, by decide⟩, _, _, rfl, rfl, _, rfl, _, _, rfl, rfl, _, _, rfl, rfl, .inr ⟨by decide, by decide⟩, _, _, rfl, rfl, (by show (0 : Int) < 2147483629; decide), ?_⟩
      refine ⟨_, rfl, _, rfl, _, _, rfl, rfl, .inl (modB _ (by decide) (by decide)), _, _, rfl, rfl, (by show (0 : Int) < 2147483587; decide), ?_⟩
      refine ⟨_, rfl, _, rfl, _, _, rfl, rfl, _, _, rfl, rfl, .inl (modB _ (by decide) (by decide)), _, _, rfl, rfl, (by show (0 : Int) < 2147483579; decide), _, _, rfl, rfl, ⟨by decide, by decide⟩, ?_⟩
      refine q _ _ ?_ ?_ k1 ⟨_, _, hd1⟩
      · generalize (_ : Int) * _ = z
        omega
      · generalize (_ : Int) * _ = z
        omega
def sp_length : Sp := fun vs H Q _ => ∃ y m : Int, vs = [.int y, .int m] ∧ 1 ≤ m ∧ m ≤ 12 ∧ ∀ H', Same H H' → Q (.int (Cal.lastOf y m)) H'
theorem len_at (y : Int) {m : Int} (h1 : 1 ≤ m) (h2 : m ≤ 12) : atI [V.int 31, V.int (28 + if Cal.leap y = true then 1 else 0), V.int 31, V.int 30, V.int 31, V.int 30, V.int 31, V.int 31, V.int 30, V.int 31, V.int 30, V.int 31] (m - 1) = some (.int (Cal.lastOf y m)) := by
  rcases Cal.month_cases h1 h2 with rfl | rfl | rfl | rfl | rfl | rfl | rfl | rfl | rfl | rfl | rfl | rfl <;> rfl
theorem G__law_length : FnOk P w K mg base CX0 1 T.f__law_length T.fd__law_length ["_law_year_here", "_law_month"] sp_length := by
  refine T.F__law_length.ok sc__law_length (fun vs H Q E h => ?_) (fun cdv A outer s H vs Q E hr h => ?_)
  · obtain ⟨y, m, rfl, _⟩ := h
    rfl
  · obtain ⟨y, m, rfl, h1, h2, q⟩ := h
    refine ⟨_, (pss_cons (ps_set (i := 2) sc__law_length.nd rfl (.inl rfl) (pe_and (pe_cmpR op_eq (pe_op op_mod (pv 0) pe_int) pe_int (nomark _)) (pe_one (pe_or (pe_cmpR op_ne (pe_op op_mod (pv 0) pe_int) pe_int (nomark _)) (pe_one (pe_cmpR op_eq (pe_op op_mod (pv 0) pe_int) pe_int (nomark _)))))))
    (pss_one (ps_ret (pe_ix (r := rIxL K) ix_list (pe_lst (pa_cons pe_int (pa_cons (pe_op op_add pe_int (pe_callTy call_int1 (by rfl) T.z_int (by decide +kernel) (pa_cons (pv 2) pa_nil))) (pa_cons pe_int (pa_cons pe_int (pa_cons pe_int (pa_cons pe_int (pa_cons pe_int (pa_cons pe_int (pa_cons pe_int (pa_cons pe_int (pa_cons pe_int (pa_cons pe_int pa_nil))))))))))))) (pe_op op_sub (pv 1) pe_int) (fun _ _ => rfl))))), ?_⟩
    refine st_set (v := .bl (Cal.leap y)) (fun R r => ?_) ?_
    · refine ⟨_, rfl, _, _, rfl, rfl, (by show (0 : Int) < 4; decide), rfl, _, rfl, andV (d := decide (¬ y % 100 = 0) || decide (y % 400 = 0)) (by rw [dV]; exact r) fun _ q1 => ?_⟩
      refine ⟨_, rfl, _, _, rfl, rfl, (by show (0 : Int) < 100; decide), rfl, _, rfl, orV (d := decide (y % 400 = 0)) (by rw [dV, ← decide_not]; exact q1) fun _ q2 => ?_⟩
      refine ⟨_, rfl, _, _, rfl, rfl, (by show (0 : Int) < 400; decide), rfl, ?_⟩
      rw [dV]
      exact q2
    · refine ⟨_, rfl, .inr ⟨_, rfl, _, _, rfl, rfl, (by show 12 ≤ sizeLine; decide), fun l nl => ?_⟩⟩
      exact ⟨_, rfl, _, _, rfl, rfl, l, _, _, _, rfl, rfl, .inl (.inl upd_same), len_at y h1 h2, q _ (same_upd nl)⟩
/-! ### dates drawn -/
def sp_year : Sp := fun vs H Q _ => ∃ (d : Addr) (k : Nat), vs = [.ref d] ∧ Dr H d k ∧ k ≤ 1000000 ∧ ∀ (r : Int) H', Kp d H H' → Dr H' d (k + 1) → Q (.int r) H'
theorem Dr.kp {H : Hp} {d : Addr} {k : Nat} {p : Addr} {o : HO} (h : Dr H d k) (n : H p = none) : Dr (upd H p o) d k := h.same (same_upd n)
theorem G__law_year : FnOk P w K mg base CX0 2 T.f__law_year T.fd__law_year ["_law_draws_here"] sp_year := by
  have G__law_next := G__law_next (P := P) (w := w) (base := base) T
  refine T.F__law_year.ok sc__law_year (fun vs H Q E h => ?_) (fun cdv A outer s H vs Q E hr h => ?_)
  · obtain ⟨d, k, rfl, _⟩ := h
    rfl
  · obtain ⟨d, k, rfl, hd, hk, q⟩ := h
    refine ⟨_, (pss_cons (ps_set (i := 1) sc__law_year.nd rfl (.inl rfl) (pe_call G__law_next (hr.mono (by decide)) (by rfl) T.g__law_next T.F__law_next.kp T.b__law_next .nil pass0 (pa_cons (pv 0) pa_nil)))
    (pss_cons (ps_set (i := 2) sc__law_year.nd rfl (.inl rfl) (pe_op op_mod (pe_op op_fdiv (pv 1) pe_int) pe_int))
    (pss_one (ps_ret (pe_ix (r := rIxL K) ix_list (pe_lst (pa_cons (pe_op op_add pe_int (pe_op op_mod (pe_op op_fdiv (pv 1) pe_int) pe_int)) (pa_cons (pe_op op_sub pe_int (pe_op op_mod (pe_op op_fdiv (pv 1) pe_int) pe_int)) (pa_cons (pe_op op_add pe_int (pe_op op_mul pe_int (pe_op op_mod (pe_op op_fdiv (pv 1) pe_int) pe_int))) (pa_cons (pv 2) (pa_cons (pe_op op_sub pe_int (pv 2)) pa_nil)))))) (pe_op op_mod (pv 1) pe_int) (fun _ _ => rfl)))))), ?_⟩
    refine ⟨_, rfl, d, k, rfl, hd, hk, fun r H1 r0 r1 k1 hd1 => ?_⟩
    refine ⟨_, rfl, _, _, rfl, rfl, ⟨by decide, by decide⟩, _, _, rfl, rfl, (by show (0 : Int) < 27000; decide), ?_⟩
    refine ⟨_, rfl, _, _, rfl, rfl, ⟨by decide, by decide⟩, _, _, rfl, rfl, (by show (0 : Int) < 9; decide), _, _, rfl, rfl, _, rfl, _, _, rfl, rfl, ⟨by decide, by decide⟩, _, _, rfl, rfl, (by show (0 : Int) < 9; decide), _, _, rfl, rfl, _, rfl, _, _, rfl, rfl, ⟨by decide, by decide⟩, _, _, rfl, rfl, (by show (0 : Int) < 9; decide), _, _, rfl, rfl, .inl ⟨by decide, by decide⟩, _, _, rfl, rfl, _, rfl, _, rfl, _, _, rfl, rfl, (by show 5 ≤ sizeLine; decide), fun l nl => ?_⟩
    refine ⟨_, rfl, _, _, rfl, rfl, (by show (0 : Int) < 5; decide), l, _, _, _, rfl, rfl, .inl (.inl upd_same), atM [1999 + r / 8 % 9, 0 - r / 8 % 9, 1600 + 100 * (r / 8 % 9), r / 8 % 27000, 0 - r / 8 % 27000] (by omega) (by show r % 5 < 5; omega), ?_⟩
    exact q _ _ (k1.trans (Kp.of (same_upd nl))) (hd1.kp nl)
def sp_date : Sp := fun vs H Q _ => ∃ (d : Addr) (k : Nat), vs = [.ref d] ∧ Dr H d k ∧ k ≤ 900000 ∧ ∀ (t : Addr) (y m dd : Int) H', H t = none → Cal.valid y m dd → Kp d H H' → Dr H' d (k + 2) → Tup3 H' t y m dd → Q (.ref t) H'
theorem month_ok (r : Int) : 1 ≤ ([1 + r / 8 % 12, 2, 3, 12] : List Int).getD (if r % 8 - 4 > 0 then r % 8 - 4 else 0).toNat 0 ∧ ([1 + r / 8 % 12, 2, 3, 12] : List Int).getD (if r % 8 - 4 > 0 then r % 8 - 4 else 0).toNat 0 ≤ 12 := by
  have h : ∀ j : Nat, j < 4 → 1 ≤ ([1 + r / 8 % 12, 2, 3, 12] : List Int).getD j 0 ∧ ([1 + r / 8 % 12, 2, 3, 12] : List Int).getD j 0 ≤ 12 := by
    intro j hj
    have : j = 0 ∨ j = 1 ∨ j = 2 ∨ j = 3 := by omega
    rcases this with rfl | rfl | rfl | rfl
    · show 1 ≤ 1 + r / 8 % 12 ∧ 1 + r / 8 % 12 ≤ 12
      omega
    · show (1 : Int) ≤ 2 ∧ (2 : Int) ≤ 12
      decide
    · show (1 : Int) ≤ 3 ∧ (3 : Int) ≤ 12
      decide
    · show (1 : Int) ≤ 12 ∧ (12 : Int) ≤ 12
      decide
  apply h
  split <;> omega
theorem day_ok (a L : Int) (hL : 1 ≤ L) (i : Int) (h0 : 0 ≤ i) (h1 : i < 3) : 1 ≤ ([1 + a % L, 1, L] : List Int).getD i.toNat 0 ∧ ([1 + a % L, 1, L] : List Int).getD i.toNat 0 ≤ L := by
  have : i = 0 ∨ i = 1 ∨ i = 2 := by omega
  have e0 := Int.emod_nonneg a (show L ≠ 0 by omega)
  have e1 := Int.emod_lt_of_pos a (show 0 < L by omega)
  rcases this with rfl | rfl | rfl
  · show 1 ≤ 1 + a % L ∧ 1 + a % L ≤ L
    omega
  · show (1 : Int) ≤ 1 ∧ 1 ≤ L
    omega
  · show 1 ≤ L ∧ L ≤ L
    omega
theorem G__law_date : FnOk P w K mg base CX0 3 T.f__law_date T.fd__law_date ["_law_draws_here"] sp_date := by
  have G__law_next := G__law_next (P := P) (w := w) (base := base) T
  have G__law_year := G__law_year (P := P) (w := w) (base := base) T
  have G__law_length := G__law_length (P := P) (w := w) (base := base) T
  refine T.F__law_date.ok sc__law_date (fun vs H Q E h => ?_) (fun cdv A outer s H vs Q E hr h => ?_)
  · obtain ⟨d, k, rfl, _⟩ := h
    rfl
  · obtain ⟨d, k, rfl, hd, hk, q⟩ := h
    refine ⟨_, (pss_cons (ps_set (i := 1) sc__law_date.nd rfl (.inl rfl) (pe_call G__law_year (hr.mono (by decide)) (by rfl) T.g__law_year T.F__law_year.kp T.b__law_year .nil pass0 (pa_cons (pv 0) pa_nil)))
    (pss_cons (ps_set (i := 2) sc__law_date.nd rfl (.inl rfl) (pe_call G__law_next (hr.mono (by decide)) (by rfl) T.g__law_next T.F__law_next.kp T.b__law_next .nil pass0 (pa_cons (pv 0) pa_nil)))
    (pss_cons (ps_set (i := 3) sc__law_date.nd rfl (.inl rfl) (pe_ix (r := rIxL K) ix_list (pe_lst (pa_cons (pe_op op_add pe_int (pe_op op_mod (pe_op op_fdiv (pv 2) pe_int) pe_int)) (pa_cons pe_int (pa_cons pe_int (pa_cons pe_int pa_nil))))) (pe_callB (call_max2 rfl) (by rfl) T.z_max (by decide +kernel) (pa_cons pe_int (pa_cons (pe_op op_sub (pe_op op_mod (pv 2) pe_int) pe_int) pa_nil))) (fun _ _ => rfl)))
    (pss_cons (ps_set (i := 4) sc__law_date.nd rfl (.inl rfl) (pe_call G__law_length (hr.mono (by decide)) (by rfl) T.g__law_length T.F__law_length.kp T.b__law_length .nil pass0 (pa_cons (pv 1) (pa_cons (pv 3) pa_nil))))
    (pss_one (ps_ret (pe_tup (pa_cons (pv 1) (pa_cons (pv 3) (pa_cons (pe_ix (r := rIxL K) ix_list (pe_lst (pa_cons (pe_op op_add pe_int (pe_op op_mod (pe_op op_fdiv (pv 2) pe_int) (pv 4))) (pa_cons pe_int (pa_cons (pv 4) pa_nil)))) (pe_callB (call_max2 rfl) (by rfl) T.z_max (by decide +kernel) (pa_cons pe_int (pa_cons (pe_op op_sub (pe_op op_mod (pe_op op_fdiv (pv 2) pe_int) pe_int) pe_int) pa_nil))) (fun _ _ => rfl)) pa_nil)))))))))), ?_⟩
    refine ⟨_, rfl, d, k, rfl, hd, by omega, fun y H1 k1 hd1 => ?_⟩
    refine ⟨_, rfl, d, k + 1, rfl, hd1, by omega, fun r H2 r0 r1 k2 hd2 => ?_⟩
    refine ⟨_, rfl, _, _, rfl, rfl, ⟨by decide, by decide⟩, _, _, rfl, rfl, (by show (0 : Int) < 12; decide), _, _, rfl, rfl, (by show 4 ≤ sizeLine; decide), fun l nl => ?_⟩
    have hm := month_ok r
    refine ⟨_, rfl, _, _, rfl, rfl, (by show (0 : Int) < 8; decide), _, _, rfl, rfl, _, _, rfl, l, _, _, _, rfl, rfl, .inl (.inl upd_same), atM [1 + r / 8 % 12, 2, 3, 12] (by split <;> omega) (by show _ < (4 : Int); split <;> omega), ?_⟩
    have k3 : Kp d H (upd H2 l (.lst (([1 + r / 8 % 12, 2, 3, 12] : List Int).map V.int))) := (k1.trans k2).trans (Kp.of (same_upd nl))
    have hd3 : Dr (upd H2 l (.lst (([1 + r / 8 % 12, 2, 3, 12] : List Int).map V.int))) d (k + 2) := hd2.kp nl
    generalize ([1 + r / 8 % 12, 2, 3, 12] : List Int).getD (if r % 8 - 4 > 0 then r % 8 - 4 else 0).toNat 0 = m at hm ⊢
    have hL := Cal.last_pos (y := y) hm.1 hm.2
    refine ⟨_, rfl, _, rfl, y, m, rfl, hm.1, hm.2, fun H4 s4 => ?_⟩
    have k4 := k3.trans (Kp.of s4)
    have hd4 := hd3.same s4
    refine ⟨_, rfl, _, rfl, _, rfl, _, _, rfl, rfl, ⟨by decide, by decide⟩, _, rfl, _, _, rfl, rfl, (by show (0 : Int) < _; omega), _, _, rfl, rfl, _, rfl, (by show 3 ≤ sizeLine; decide), fun l5 nl5 => ?_⟩
    have hD := day_ok (r / 96) (Cal.lastOf y m) (by omega) (if r / 2688 % 5 - 2 > 0 then r / 2688 % 5 - 2 else 0) (by split <;> omega) (by split <;> omega)
    refine ⟨_, rfl, _, _, rfl, rfl, ⟨by decide, by decide⟩, _, _, rfl, rfl, (by show (0 : Int) < 5; decide), _, _, rfl, rfl, _, _, rfl, l5, _, _, _, rfl, rfl, .inl (.inl upd_same), atM [1 + r / 96 % Cal.lastOf y m, 1, Cal.lastOf y m] (by split <;> omega) (by show _ < (3 : Int); split <;> omega), (by show 3 ≤ sizeLine; decide), fun t nt => ?_⟩
    have k5 := k4.trans (Kp.of (same_upd (o := .lst (([1 + r / 96 % Cal.lastOf y m, 1, Cal.lastOf y m] : List Int).map V.int)) nl5))
    have ntd : t ≠ d := fun e => by
      subst e
      obtain ⟨n, b, z⟩ := hd4.kp (o := .lst (([1 + r / 96 % Cal.lastOf y m, 1, Cal.lastOf y m] : List Int).map V.int)) nl5
      exact absurd (z.symm.trans nt) (by simp)
    exact q t y m _ _ (k5.free nt ntd) ⟨hm.1, hm.2, hD.1, hD.2⟩ (k5.trans (Kp.of (same_upd nt))) ((hd4.kp nl5).kp nt) upd_same
theorem far_ok (i : Int) (h0 : 0 ≤ i) (h1 : i < 4) : 1 ≤ ([1, 1, 2, 1000000] : List Int).getD i.toNat 0 := by
  have : i = 0 ∨ i = 1 ∨ i = 2 ∨ i = 3 := by omega
  rcases this with rfl | rfl | rfl | rfl <;> decide
theorem two_hi (f : Int) (hf : 1 ≤ f) (i : Int) (h0 : 0 ≤ i) (h1 : i < 2) : 12 < ([13, 12 + f] : List Int).getD i.toNat 0 := by
  have : i = 0 ∨ i = 1 := by omega
  rcases this with rfl | rfl
  · show (12 : Int) < 13
    decide
  · show 12 < 12 + f
    omega
theorem two_lo (f : Int) (hf : 1 ≤ f) (i : Int) (h0 : 0 ≤ i) (h1 : i < 2) : ([0, 1 - f] : List Int).getD i.toNat 0 < 1 := by
  have : i = 0 ∨ i = 1 := by omega
  rcases this with rfl | rfl
  · show (0 : Int) < 1
    decide
  · show 1 - f < 1
    omega
def sp_bent : Sp := fun vs H Q _ => ∃ (d : Addr) (k : Nat) (t : Addr) (y m dd : Int), vs = [.ref d, .ref t] ∧ Dr H d k ∧ k ≤ 900000 ∧ Tup3 H t y m dd ∧ Cal.valid y m dd ∧
  ∀ (t' : Addr) (y' m' d' : Int) H', ¬ Cal.valid y' m' d' → Kp d H H' → Dr H' d (k + 1) → Tup3 H' t' y' m' d' → Q (.ref t') H'
theorem G__law_bent : FnOk P w K mg base CX0 2 T.f__law_bent T.fd__law_bent ["_law_draws_here", "_law_date_here"] sp_bent := by
  have G__law_next := G__law_next (P := P) (w := w) (base := base) T
  have G__law_length := G__law_length (P := P) (w := w) (base := base) T
  refine T.F__law_bent.ok sc__law_bent (fun vs H Q E h => ?_) (fun cdv A outer s H vs Q E hr h => ?_)
  · obtain ⟨d, k, t, y, m, dd, rfl, _⟩ := h
    rfl
  · obtain ⟨d, k, t, y, m, dd, rfl, hd, hk, ht, hv, q⟩ := h
    obtain ⟨g1, g2, g3, g4⟩ := id hv
    refine ⟨_, (pss_cons (ps_set (i := 2) sc__law_bent.nd rfl (.inl rfl) (pe_call G__law_next (hr.mono (by decide)) (by rfl) T.g__law_next T.F__law_next.kp T.b__law_next .nil pass0 (pa_cons (pv 0) pa_nil)))
    (pss_cons (ps_asg (pv 1) (pg_tup (by rfl) (pgs_cons (pg_name (i := 3) sc__law_bent.nd rfl (.inl rfl)) (pgs_cons (pg_name (i := 4) sc__law_bent.nd rfl (.inl rfl)) (pgs_cons (pg_name (i := 5) sc__law_bent.nd rfl (.inl rfl)) pgs_nil)))))
    (pss_cons (ps_set (i := 6) sc__law_bent.nd rfl (.inl rfl) (pe_ix (r := rIxL K) ix_list (pe_lst (pa_cons pe_int (pa_cons pe_int (pa_cons pe_int (pa_cons (pe_op op_pow pe_int pe_int) pa_nil))))) (pe_op op_mod (pe_op op_fdiv (pv 2) pe_int) pe_int) (fun _ _ => rfl)))
    (pss_cons (ps_if (pt_cmpR op_lt (pe_op op_mod (pv 2) pe_int) pe_int (nomark _)) (pss_one (ps_ret (pe_tup (pa_cons (pv 3) (pa_cons (pe_ix (r := rIxL K) ix_list (pe_lst (pa_cons pe_int (pa_cons (pe_op op_add pe_int (pv 6)) pa_nil))) (pe_op op_mod (pe_op op_fdiv (pv 2) pe_int) pe_int) (fun _ _ => rfl)) (pa_cons (pv 5) pa_nil)))))) pss_nil)
    (pss_cons (ps_if (pt_cmpR op_lt (pe_op op_mod (pv 2) pe_int) pe_int (nomark _)) (pss_one (ps_ret (pe_tup (pa_cons (pv 3) (pa_cons (pe_ix (r := rIxL K) ix_list (pe_lst (pa_cons pe_int (pa_cons (pe_op op_sub pe_int (pv 6)) pa_nil))) (pe_op op_mod (pe_op op_fdiv (pv 2) pe_int) pe_int) (fun _ _ => rfl)) (pa_cons (pv 5) pa_nil)))))) pss_nil)
    (pss_cons (ps_if (pt_cmpR op_lt (pe_op op_mod (pv 2) pe_int) pe_int (nomark _)) (pss_one (ps_ret (pe_tup (pa_cons (pv 3) (pa_cons (pv 4) (pa_cons (pe_op op_add (pe_call G__law_length (hr.mono (by decide)) (by rfl) T.g__law_length T.F__law_length.kp T.b__law_length .nil pass0 (pa_cons (pv 3) (pa_cons (pv 4) pa_nil))) (pv 6)) pa_nil)))))) pss_nil)
    (pss_one (ps_ret (pe_tup (pa_cons (pv 3) (pa_cons (pe_ix (r := rIxL K) ix_list (pe_lst (pa_cons (pv 4) (pa_cons pe_int pa_nil))) (pe_callTy call_int1 (by rfl) T.z_int (by decide +kernel) (pa_cons (pe_cmpR op_eq (pe_op op_mod (pv 2) pe_int) pe_int (nomark _)) pa_nil)) (fun _ _ => rfl)) (pa_cons (pe_ix (r := rIxL K) ix_list (pe_lst (pa_cons pe_int (pa_cons (pe_op op_sub pe_int (pv 6)) pa_nil))) (pe_op op_mod (pe_op op_fdiv (pv 2) pe_int) pe_int) (fun _ _ => rfl)) pa_nil)))))))))))), ?_⟩
    have ntd : t ≠ d := fun e => by
      subst e
      obtain ⟨_, _, z⟩ := hd
      exact absurd (z.symm.trans ht) (by simp)
    refine ⟨_, rfl, d, k, rfl, hd, by omega, fun r H1 r0 r1 k1 hd1 => ?_⟩
    have ht1 : Tup3 H1 t y m dd := k1 _ _ ntd ht
    refine ⟨_, rfl, t, _, rfl, ht1.sq, rfl, _, _, rfl, _, _, rfl, _, _, rfl, rfl, ?_⟩
    -- far
    refine ⟨_, _, rfl, rfl, ⟨by decide, by decide, by decide⟩, (by show 4 ≤ sizeLine; decide), fun l nl => ?_⟩
    have e6 : (10 : Int) ^ (6 : Int).toNat = 1000000 := by decide
    refine ⟨_, rfl, _, _, rfl, rfl, ⟨by decide, by decide⟩, _, _, rfl, rfl, (by show (0 : Int) < 4; decide), l, ([1, 1, 2, 1000000] : List Int).map V.int, _, _, rfl, rfl, .inl (.inl upd_same), atM [1, 1, 2, 1000000] (by omega) (by show _ < (4 : Int); omega), ?_⟩
    have hf := far_ok (r / 8 % 4) (by omega) (by omega)
    generalize ([1, 1, 2, 1000000] : List Int).getD (r / 8 % 4).toNat 0 = far at hf ⊢
    have s2 := same_upd (o := .lst [.int 1, .int 1, .int 2, .int (10 ^ (6 : Int).toNat)]) nl
    have k2 := k1.trans (Kp.of (d := d) s2)
    have hd2 := hd1.same s2
    refine ⟨_, rfl, _, _, rfl, rfl, (by show (0 : Int) < 8; decide), _, _, rfl, rfl, _, rfl, ite2 (fun _ => ?_) (fun _ => ?_)⟩
    · refine ⟨_, rfl, _, rfl, _, _, rfl, rfl, (by show 2 ≤ sizeLine; decide), fun l3 nl3 => ?_⟩
      have s3 := same_upd (o := .lst (([13, 12 + far] : List Int).map V.int)) nl3
      refine ⟨_, rfl, _, _, rfl, rfl, ⟨by decide, by decide⟩, _, _, rfl, rfl, (by show (0 : Int) < 2; decide), l3, _, _, _, rfl, rfl, .inl (.inl upd_same), atM [13, 12 + far] (by omega) (by show _ < (2 : Int); omega), _, rfl, (by show 3 ≤ sizeLine; decide), fun t4 nt4 => ?_⟩
      have hm := two_hi far hf (r / 64 % 2) (by omega) (by omega)
      exact q t4 _ _ _ _ (fun z => by have := z.2.1; omega) (k2.trans (Kp.of (s3.trans (same_upd nt4)))) ((hd2.same s3).same (same_upd nt4)) upd_same
    · refine ⟨_, rfl, _, _, rfl, rfl, (by show (0 : Int) < 8; decide), _, _, rfl, rfl, _, rfl, ite2 (fun _ => ?_) (fun _ => ?_)⟩
      · refine ⟨_, rfl, _, rfl, _, _, rfl, rfl, (by show 2 ≤ sizeLine; decide), fun l3 nl3 => ?_⟩
        have s3 := same_upd (o := .lst (([0, 1 - far] : List Int).map V.int)) nl3
        refine ⟨_, rfl, _, _, rfl, rfl, ⟨by decide, by decide⟩, _, _, rfl, rfl, (by show (0 : Int) < 2; decide), l3, _, _, _, rfl, rfl, .inl (.inl upd_same), atM [0, 1 - far] (by omega) (by show _ < (2 : Int); omega), _, rfl, (by show 3 ≤ sizeLine; decide), fun t4 nt4 => ?_⟩
        have hm := two_lo far hf (r / 64 % 2) (by omega) (by omega)
        exact q t4 _ _ _ _ (fun z => by have := z.1; omega) (k2.trans (Kp.of (s3.trans (same_upd nt4)))) ((hd2.same s3).same (same_upd nt4)) upd_same
      · refine ⟨_, rfl, _, _, rfl, rfl, (by show (0 : Int) < 8; decide), _, _, rfl, rfl, _, rfl, ite2 (fun _ => ?_) (fun _ => ?_)⟩
        · refine ⟨_, rfl, _, rfl, _, rfl, _, rfl, y, m, rfl, g1, g2, fun H3 s3 => ⟨_, rfl, _, _, rfl, rfl, (by show 3 ≤ sizeLine; decide), fun t4 nt4 => ?_⟩⟩
          exact q t4 _ _ _ _ (fun z => by have := z.2.2.2; omega) (k2.trans (Kp.of (s3.trans (same_upd nt4)))) ((hd2.same s3).same (same_upd nt4)) upd_same
        · refine ⟨_, rfl, _, rfl, (by show 2 ≤ sizeLine; decide), fun l3 nl3 => ?_⟩
          have s3 := same_upd (o := .lst (([m, 13] : List Int).map V.int)) nl3
          refine ⟨_, rfl, _, _, rfl, rfl, (by show (0 : Int) < 8; decide), rfl, .inr ⟨_, rfl, l3, _, _, _, rfl, rfl, .inl (.inl upd_same), atM [m, 13] (by split <;> decide) (by show _ < (2 : Int); split <;> decide), ?_⟩⟩
          refine ⟨_, rfl, _, _, rfl, rfl, (by show 2 ≤ sizeLine; decide), fun l4 nl4 => ?_⟩
          have s4 := same_upd (o := .lst (([0, 1 - far] : List Int).map V.int)) nl4
          refine ⟨_, rfl, _, _, rfl, rfl, ⟨by decide, by decide⟩, _, _, rfl, rfl, (by show (0 : Int) < 2; decide), l4, _, _, _, rfl, rfl, .inl (.inl upd_same), atM [0, 1 - far] (by omega) (by show _ < (2 : Int); omega), (by show 3 ≤ sizeLine; decide), fun t5 nt5 => ?_⟩
          have hm := two_lo far hf (r / 64 % 2) (by omega) (by omega)
          exact q t5 _ _ _ _ (fun z => by have := z.2.2.1; omega) (k2.trans (Kp.of ((s3.trans s4).trans (same_upd nt5)))) (((hd2.same s3).same s4).same (same_upd nt5)) upd_same
end
end K02
set_option Elab.async false
set_option linter.all false
set_option maxRecDepth 100000
set_option maxHeartbeats 2000000
namespace K02
open PySem L2 Lay
theorem cut_mem {xs : List V} {lo hi : Option Int} {x : V} (h : x ∈ cutV xs lo hi) : x ∈ xs := List.mem_of_mem_drop (List.mem_of_mem_take h)
theorem items_int {ns : List Int} {hi : Option Int} {i : Nat} {x : V} (h : (cutV (ns.map V.int) none hi ++ [V.int 0])[i]? = some x) : ∃ c : Int, x = .int c := by
  have hm := List.mem_of_getElem? h
  rcases List.mem_append.mp hm with h1 | h1
  · obtain ⟨c, _, e⟩ := List.mem_map.mp (cut_mem h1)
    exact ⟨c, e.symm⟩
  · exact ⟨0, List.mem_singleton.mp h1⟩
section
variable {P : Program} {w : World} {K : PySem.W.Frag} {mg : Str → Option Value} {base : Heap} (T : Tx K mg)
theorem tYes_go {σ : L2.St} {H : Hp} {A B : Hp → Prop} (h : A H) : tYes σ H (fun b H3 => if b = true then A H3 else B H3) := iteT (A := A H) (B := B H) h
theorem none_dp {K : PySem.W.Frag} {H : Hp} {l t : Addr} {y m d : Int} (h : H l = some (.lst [.str "none", .ref t, .bl true])) (ht : Tup3 H t y m d) : Dp K H (.ref l) (.list [.str "none", .tuple [.int y, .int m, .int d], .bool true]) :=
  .lst (.inl (.inl h)) (.cons (.str _) (.cons ht.dp (.cons (.bl _) .nil)))
theorem none_eqv (y m d : Int) : PyData.eqv (.list [.str "none", .tuple [.int y, .int m, .int d], .bool true]) (.list [.str "none", .tuple [.int y, .int m, .int d], .bool true]) = true := by
  simp [PyData.eqv, PyData.eqvAll]
theorem none_shaped (y m d : Int) : SeqAt.shaped (.list [.str "none", .tuple [.int y, .int m, .int d], .bool true]) = true := by kernel_rfl
theorem nine_shaped : SeqAt.shaped (.list [.str "none", .str "told", .str "none", .str "told", .str "told", .str "none", .str "told", .str "none", .str "told"]) = true := by kernel_rfl
theorem leap29 (y : Int) : Cal.valid y 2 29 ↔ Cal.lastOf y 2 = 29 := by
  have h := Cal.b2_le (Cal.leap y)
  have e := Cal.last_2 y
  constructor
  · intro v
    have := v.2.2.2
    omega
  · intro z
    exact ⟨by decide, by decide, by decide, by omega⟩
def yrs : List Int := [1900, 2000, 2023, 2024, 0, -1, -4, -100, -400]
def ans (y : Int) : V := if Cal.lastOf y 2 = 29 then .str "told" else .str "none"
theorem ans_all : yrs.map ans = [.str "none", .str "told", .str "none", .str "told", .str "told", .str "none", .str "told", .str "none", .str "told"] := rfl
def spLaw (K : PySem.W.Frag) : Sp := fun vs H Q _ => ∃ (a : Addr) (ns : List Int), vs = [.ref a] ∧ SqL K H a (ns.map V.int) ∧ ns.length ≤ 63 ∧ ∀ H', Q (.bl true) H'
theorem ok_law : FnOk P w K mg base CX0 5 T.f_law T.fd_law ["_law_script"] (spLaw K) := by
  have G__law_draws := G__law_draws (P := P) (w := w) (base := base) T
  have G__law_date := G__law_date (P := P) (w := w) (base := base) T
  have G__law_year := G__law_year (P := P) (w := w) (base := base) T
  have G__law_length := G__law_length (P := P) (w := w) (base := base) T
  have G__law_told := G__law_told (P := P) (w := w) (base := base) T
  have G__law_bent := G__law_bent (P := P) (w := w) (base := base) T
  refine T.F_law.ok sc_law (fun vs H Q E h => ?_) (fun cdv A outer s H vs Q E hr h => ?_)
  · obtain ⟨a, ns, rfl, _⟩ := h
    rfl
  · obtain ⟨a, ns, rfl, hS, hlen, q⟩ := h
    refine ⟨_, (pss_cons (ps_for PassesOwn.never rfl (pi_list (pe_op op_cat (pe_slice sl_list (pv 0) po_none (po_some pe_int)) (pe_lst (pa_cons pe_int pa_nil)))) (pg_name (i := 1) sc_law.nd rfl (.inl rfl))
      (pss_cons (ps_set (i := 2) sc_law.nd rfl (.inl rfl) (pe_call G__law_draws (hr.mono (by decide)) (by rfl) T.g__law_draws T.F__law_draws.kp T.b__law_draws .nil pass0 (pa_cons (pv 1) pa_nil)))
    (pss_one (ps_for PassesOwn.never rfl (pi_range1 (by rfl) T.z_range (pa_cons pe_int pa_nil)) (pg_name (i := 3) sc_law.nd rfl (.inl rfl))
      (pss_cons (ps_set (i := 4) sc_law.nd rfl (.inl rfl) (pe_call G__law_bent (hr.mono (by decide)) (by rfl) T.g__law_bent T.F__law_bent.kp T.b__law_bent .nil pass0 (pa_cons (pv 2) (pa_cons (pe_call G__law_date (hr.mono (by decide)) (by rfl) T.g__law_date T.F__law_date.kp T.b__law_date .nil pass0 (pa_cons (pv 2) pa_nil)) pa_nil))))
    (pss_cons (ps_if (pt_cmpR (op_neD hr.units) (pe_call G__law_told (hr.mono (by decide)) (by rfl) T.g__law_told T.F__law_told.kp T.b__law_told .nil pass0 (pa_cons (pv 4) pa_nil)) (pe_lst (pa_cons pe_str (pa_cons (pv 4) (pa_cons pe_bl pa_nil)))) (nomark _)) (pss_one (ps_ret pe_bl)) pss_nil)
    (pss_cons (ps_set (i := 5) sc_law.nd rfl (.inl rfl) (pe_call G__law_year (hr.mono (by decide)) (by rfl) T.g__law_year T.F__law_year.kp T.b__law_year .nil pass0 (pa_cons (pv 2) pa_nil)))
    (pss_cons (ps_set (i := 6) sc_law.nd rfl (.inl rfl) (pe_call G__law_told (hr.mono (by decide)) (by rfl) T.g__law_told T.F__law_told.kp T.b__law_told .nil pass0 (pa_cons (pe_tup (pa_cons (pv 5) (pa_cons pe_int (pa_cons pe_int pa_nil)))) pa_nil)))
    (pss_one (ps_if (pt_cmpR op_ne (pe_ix (r := rIxL K) ix_list (pv 6) pe_int (fun _ _ => rfl)) (pe_ix (r := rIxL K) ix_list (pe_lst (pa_cons pe_str (pa_cons pe_str pa_nil))) (pe_callTy call_int1 (by rfl) T.z_int (by decide +kernel) (pa_cons (pe_cmpR op_eq (pe_call G__law_length (hr.mono (by decide)) (by rfl) T.g__law_length T.F__law_length.kp T.b__law_length .nil pass0 (pa_cons (pv 5) (pa_cons pe_int pa_nil))) pe_int (nomark _)) pa_nil)) (fun _ _ => rfl)) (nomark _)) (pss_one (ps_ret pe_bl)) pss_nil))))))))))
    (pss_one (ps_ret (pe_cmpR (op_eqD hr.units) (pe_lc (own := [("_law_year_here", 5)]) (g := gName 5) (tt := tYes) rfl sc_law.nd (pi_list (pe_lst (pa_cons pe_int (pa_cons pe_int (pa_cons pe_int (pa_cons pe_int (pa_cons pe_int (pa_cons (pe_un un_neg pe_int) (pa_cons (pe_un un_neg pe_int) (pa_cons (pe_un un_neg pe_int) (pa_cons (pe_un un_neg pe_int) pa_nil))))))))))) (blkOk_by (own := [("_law_year_here", 5)]) (N := ["_law_script", "_law_cell", "_law_draws_here", "_law_turn", "_law_bent_here", "_law_year_here", "_law_told_here"]) (sc := defScope s_law) (by decide +kernel)) (fun _ _ _ _ _ => pg_name (i := 5) sc_law.nd rfl (Or.inl rfl)) (fun _ _ _ _ _ => pts_nil) (fun _ _ _ _ _ => (pe_ix (r := rIxL K) ix_list (pe_call G__law_told (hr.mono (by decide)) (by rfl) T.g__law_told T.F__law_told.kp T.b__law_told .nil pass0 (pa_cons (pe_tup (pa_cons (pv 5) (pa_cons pe_int (pa_cons pe_int pa_nil)))) pa_nil)) pe_int (fun _ _ => rfl)))) (pe_lst (pa_cons pe_str (pa_cons pe_str (pa_cons pe_str (pa_cons pe_str (pa_cons pe_str (pa_cons pe_str (pa_cons pe_str (pa_cons pe_str (pa_cons pe_str pa_nil)))))))))) (nomark _))))), ?_⟩
    refine ⟨_, rfl, _, rfl, a, _, rfl, hS, fun p1 n1 => ?_⟩
    refine ⟨(by show 1 ≤ sizeLine; decide), fun p2 n2 => ?_⟩
    have n12 : p1 ≠ p2 := fun e => by
      subst e
      rw [upd_same] at n2
      cases n2
    have hl : (cutV (ns.map V.int) none (some 10)).length + 1 ≤ sizeLine := by
      have h1 := cutV_length (ns.map V.int) none (some 10)
      rw [List.length_map] at h1
      exact Nat.le_of_lt (small1000 (by omega))
    refine ⟨p1, p2, _, _, rfl, rfl, (by rw [upd_ne n12, upd_same]), upd_same, hl, fun p3 n3 => ?_⟩
    refine ⟨p3, rfl, ⟨_, .inl (.inl upd_same)⟩, for_list (K := K) (a := p3) (xs := cutV (ns.map V.int) none (some 10) ++ [V.int 0])
      (fun i σ H2 => ∃ v1 v2 v3 v4 v5 v6, σ = [some (.ref a), v1, v2, v3, v4, v5, v6] ∧ H2 p3 = some (.lst (cutV (ns.map V.int) none (some 10) ++ [V.int 0])))
      ⟨none, none, none, none, none, none, rfl, upd_same⟩ (fun i σ H2 _ ⟨_, _, _, _, _, _, _, h⟩ => .inl (.inl h)) ?_ ?_⟩
    · rintro i y σ H2 hi ⟨v1, v2, v3, v4, v5, v6, rfl, h3⟩
      obtain ⟨c, rfl⟩ := items_int hi
      refine ⟨_, rfl, c, rfl, fun d H4 nd s4 hd4 => ?_⟩
      have npd : p3 ≠ d := ne_of_none h3 nd
      refine ⟨10, rfl, by decide, by decide, for_range (lo := 0) (n := 10) (fun j σ H5 => ∃ v3 v4 v5 v6, σ = [some (.ref a), some (.int c), some (.ref d), v3, v4, v5, v6] ∧ H5 p3 = some (.lst (cutV (ns.map V.int) none (some 10) ++ [V.int 0])) ∧ Dr H5 d (4 * j))
        ⟨v3, v4, v5, v6, rfl, s4 _ _ h3, hd4⟩ ?_ ?_⟩
      · rintro j σ H5 hj ⟨v3, v4, v5, v6, rfl, h5, hd5⟩
        -- bent = _law_bent(draws, _law_date(draws))
        refine ⟨_, rfl, _, rfl, d, 4 * j, rfl, hd5, by omega, fun t y m dd H6 nt hv k6 hd6 ht6 => ?_⟩
        refine ⟨d, 4 * j + 2, t, y, m, dd, rfl, hd6, by omega, ht6, hv, fun t1 y1 m1 d1 H7 hnv k7 hd7 ht7 => ?_⟩
        have h7 := k7 _ _ npd (k6 _ _ npd h5)
        -- if told(bent) != ['none', bent, True]
        refine ⟨_, rfl, t1, y1, m1, d1, rfl, ht7, fun z => absurd z hnv, fun _ l t2 H8 s8 hl8 ht2 => ?_⟩
        refine ⟨_, rfl, (by show 3 ≤ sizeLine; decide), fun l2 nl2 => ?_⟩
        have s9 := same_upd (o := .lst [.str "none", .ref t1, .bl true]) nl2
        refine ⟨_, _, none_dp (s9 _ _ hl8) (ht2.same s9), none_dp upd_same ((ht7.same s8).same s9), none_shaped _ _ _, none_shaped _ _ _, _, rfl, ?_⟩
        rw [none_eqv]
        refine iteF ?_
        have h9 := s9 _ _ (s8 _ _ h7)
        have hd9 := (hd7.same s8).same s9
        -- year = _law_year(draws)
        refine ⟨_, rfl, d, 4 * j + 3, rfl, hd9, by omega, fun y2 Ha ka hda => ?_⟩
        have ha := ka _ _ npd h9
        -- told_here = _law_told((year, 2, 29))
        refine ⟨_, rfl, (by show 3 ≤ sizeLine; decide), fun t3 nt3 => ?_⟩
        have sb := same_upd (o := .tup [.int y2, .int 2, .int 29]) nt3
        refine ⟨t3, y2, 2, 29, rfl, upd_same, fun hv2 l4 Hc sc hl4 => ?_, fun hv2 l4 t4 Hc sc hl4 ht4 => ?_⟩
        · refine ⟨_, rfl, l4, _, _, _, rfl, rfl, .inl (.inl hl4), atI_nat (j := 0) rfl, (by show 2 ≤ sizeLine; decide), fun l5 nl5 => ?_⟩
          have sd := same_upd (o := .lst [.str "none", .str "told"]) nl5
          refine ⟨_, rfl, y2, 2, rfl, by decide, by decide, fun He se => ⟨rfl, ?_⟩⟩
          rw [dV, decide_eq_true ((leap29 y2).mp hv2)]
          refine .inr ⟨_, rfl, l5, _, _, _, rfl, rfl, .inl (.inl (se _ _ upd_same)), atI_nat (j := 1) rfl, rfl, _, rfl, iteNS rfl ?_⟩
          have sall := ((sb.trans sc).trans sd).trans se
          exact ⟨_, _, _, _, rfl, sall _ _ ha, hda.same sall⟩
        · refine ⟨_, rfl, l4, _, _, _, rfl, rfl, .inl (.inl hl4), atI_nat (j := 0) rfl, (by show 2 ≤ sizeLine; decide), fun l5 nl5 => ?_⟩
          have sd := same_upd (o := .lst [.str "none", .str "told"]) nl5
          refine ⟨_, rfl, y2, 2, rfl, by decide, by decide, fun He se => ⟨rfl, ?_⟩⟩
          rw [dV, decide_eq_false (fun z => hv2 ((leap29 y2).mpr z))]
          refine .inr ⟨_, rfl, l5, _, _, _, rfl, rfl, .inl (.inl (se _ _ upd_same)), atI_nat (j := 0) rfl, rfl, _, rfl, iteNS rfl ?_⟩
          have sall := ((sb.trans sc).trans sd).trans se
          exact ⟨_, _, _, _, rfl, sall _ _ ha, hda.same sall⟩
      · rintro σ H5 ⟨v3, v4, v5, v6, rfl, h5, hd5⟩
        exact ⟨_, _, _, _, _, _, rfl, h5⟩
    · rintro σ H2 ⟨v1, v2, v3, v4, v5, v6, rfl, h3⟩
      refine ⟨_, rfl, _, rfl, _, rfl, _, rfl, (by show 9 ≤ sizeLine; decide), fun l0 nl0 => ?_⟩
      refine ⟨l0, rfl, ⟨_, .inl (.inl upd_same)⟩, fun D nD => lc_list (K := K) (a := l0) (xs := yrs.map V.int) (fun i H' => H' l0 = some (.lst (yrs.map V.int)) ∧ H' D = some (.lst ((yrs.take i).map ans))) ⟨?_, upd_same⟩ (fun i H' _ h => .inl (.inl h.1)) ?_ ?_⟩
      · rw [upd_ne (fun e => by rw [← e, upd_same] at nD; cases nD)]
        exact upd_same
      · rintro i x H' hx ⟨g1, g2⟩
        have hi : i < yrs.length := by
          have := (List.getElem?_eq_some_iff.mp hx).1
          simpa using this
        have ex : x = .int yrs[i] := by
          rw [List.getElem?_map, List.getElem?_eq_getElem hi] at hx
          exact (Option.some.inj hx).symm
        subst ex
        have step : ∀ {H4 : Hp}, H4 l0 = some (.lst (yrs.map V.int)) → ∀ {v : V}, v = ans yrs[i] → (upd H4 D (.lst ((yrs.take i).map ans ++ [v]))) l0 = some (.lst (yrs.map V.int)) ∧ (upd H4 D (.lst ((yrs.take i).map ans ++ [v]))) D = some (.lst ((yrs.take (i + 1)).map ans)) := by
          intro H4 e1 v ev
          subst ev
          have ne : l0 ≠ D := fun e => by rw [← e, upd_same] at nD; cases nD
          refine ⟨by rw [upd_ne ne]; exact e1, ?_⟩
          rw [upd_same, List.take_add_one, List.getElem?_eq_getElem hi, List.map_append]
          rfl
        have hsz : ((yrs.take i).map ans).length < sizeLine := by
          rw [List.length_map, List.length_take]
          exact Nat.lt_of_le_of_lt (Nat.min_le_right _ _) (small1000 (by show (9 : Nat) ≤ 1000; decide))
        refine ⟨rfl, tYes_go ?_⟩
        refine ⟨_, rfl, (by show 3 ≤ sizeLine; decide), fun t nt => ?_⟩
        have s1 := same_upd (o := .tup [.int yrs[i], .int 2, .int 29]) nt
        refine ⟨t, yrs[i], 2, 29, rfl, upd_same, fun hv l Hc sc hl => ?_, fun hv l t4 Hc sc hl ht4 => ?_⟩
        · exact ⟨l, _, _, _, rfl, rfl, .inl (.inl hl), atI_nat (j := 0) rfl, _, sc _ _ (s1 _ _ g2), hsz, step (sc _ _ (s1 _ _ g1)) (by unfold ans; rw [if_pos ((leap29 _).mp hv)])⟩
        · exact ⟨l, _, _, _, rfl, rfl, .inl (.inl hl), atI_nat (j := 0) rfl, _, sc _ _ (s1 _ _ g2), hsz, step (sc _ _ (s1 _ _ g1)) (by unfold ans; rw [if_neg (fun z => hv ((leap29 _).mpr z))])⟩
      · rintro H' ⟨g1, g2⟩
        rw [show yrs.take (yrs.map V.int).length = yrs from rfl, ans_all] at g2
        refine ⟨(by show 9 ≤ sizeLine; decide), fun l9 nl9 => ?_⟩
        have s9 := same_upd (o := .lst [.str "none", .str "told", .str "none", .str "told", .str "told", .str "none", .str "told", .str "none", .str "told"]) nl9
        refine ⟨_, _, .lst (.inl (.inl (s9 _ _ g2))) (.cons (.str _) (.cons (.str _) (.cons (.str _) (.cons (.str _) (.cons (.str _) (.cons (.str _) (.cons (.str _) (.cons (.str _) (.cons (.str _) .nil))))))))), .lst (.inl (.inl upd_same)) (.cons (.str _) (.cons (.str _) (.cons (.str _) (.cons (.str _) (.cons (.str _) (.cons (.str _) (.cons (.str _) (.cons (.str _) (.cons (.str _) .nil))))))))), nine_shaped, nine_shaped, ?_⟩
        rw [show PyData.eqv (.list [.str "none", .str "told", .str "none", .str "told", .str "told", .str "none", .str "told", .str "none", .str "told"]) (.list [.str "none", .str "told", .str "none", .str "told", .str "told", .str "none", .str "told", .str "none", .str "told"]) = true by decide +kernel]
        exact q _
end
end K02
set_option Elab.async false
set_option linter.all false
set_option maxRecDepth 100000
set_option maxHeartbeats 2000000
namespace K02
open PySem L2 Lay
theorem all_mk {l : PySem.W.OpenLaw} {w : World} {K : PySem.W.Frag} {h : Heap} {mg : Str → Option Value} {fa : Addr}
    {C_Day : Addr}
    {C_NoDay : Addr} {nm_NoDay q_NoDay : Str} {N_NoDay : Addr} {bs_NoDay : List Value} {sn_NoDay : List Str} {sub_NoDay : List Value} {ab_NoDay : Bool} {col_NoDay : Option Bool} {dd_NoDay : Option Addr} {k0_NoDay k1_NoDay k2_NoDay k3_NoDay k5_NoDay : Option Value}
    {C_Fault : Addr}
    {C_NoKind : Addr}
    {C_NoMoment : Addr}
    {C_NoName : Addr}
    {C_NoPath : Addr}
    {C_NoQuestion : Addr}
    {C_NoTable : Addr}
    {C_NoTerm : Addr}
    {C_NoText : Addr}
    {f_NoDay___init__ : Addr} {od_NoDay___init__ an_NoDay___init__ : Option Addr} {sl_NoDay___init__ : Array (Option Value)} {oc_NoDay___init__ kV_NoDay___init__ dc_NoDay___init__ pm_NoDay___init__ cd_NoDay___init__ ct_NoDay___init__ : Value}
    {f_Day___init__ : Addr} {od_Day___init__ an_Day___init__ : Option Addr} {sl_Day___init__ : Array (Option Value)} {oc_Day___init__ kV_Day___init__ dc_Day___init__ pm_Day___init__ cd_Day___init__ ct_Day___init__ : Value}
    {f_is_leap : Addr} {od_is_leap an_is_leap : Option Addr} {sl_is_leap : Array (Option Value)} {oc_is_leap kV_is_leap dc_is_leap pm_is_leap cd_is_leap ct_is_leap : Value}
    {f_last_of : Addr} {od_last_of an_last_of : Option Addr} {sl_last_of : Array (Option Value)} {oc_last_of kV_last_of dc_last_of pm_last_of cd_last_of ct_last_of : Value}
    {f_day_of : Addr} {od_day_of an_day_of : Option Addr} {sl_day_of : Array (Option Value)} {oc_day_of kV_day_of dc_day_of pm_day_of cd_day_of ct_day_of : Value}
    {f__law_draws : Addr} {od__law_draws an__law_draws : Option Addr} {sl__law_draws : Array (Option Value)} {oc__law_draws kV__law_draws dc__law_draws pm__law_draws cd__law_draws ct__law_draws : Value}
    {f__law_next : Addr} {od__law_next an__law_next : Option Addr} {sl__law_next : Array (Option Value)} {oc__law_next kV__law_next dc__law_next pm__law_next cd__law_next ct__law_next : Value}
    {f__law_length : Addr} {od__law_length an__law_length : Option Addr} {sl__law_length : Array (Option Value)} {oc__law_length kV__law_length dc__law_length pm__law_length cd__law_length ct__law_length : Value}
    {f__law_year : Addr} {od__law_year an__law_year : Option Addr} {sl__law_year : Array (Option Value)} {oc__law_year kV__law_year dc__law_year pm__law_year cd__law_year ct__law_year : Value}
    {f__law_date : Addr} {od__law_date an__law_date : Option Addr} {sl__law_date : Array (Option Value)} {oc__law_date kV__law_date dc__law_date pm__law_date cd__law_date ct__law_date : Value}
    {f__law_told : Addr} {od__law_told an__law_told : Option Addr} {sl__law_told : Array (Option Value)} {oc__law_told kV__law_told dc__law_told pm__law_told cd__law_told ct__law_told : Value}
    {f__law_bent : Addr} {od__law_bent an__law_bent : Option Addr} {sl__law_bent : Array (Option Value)} {oc__law_bent kV__law_bent dc__law_bent pm__law_bent cd__law_bent ct__law_bent : Value}
    {f_law : Addr} {od_law an_law : Option Addr} {sl_law : Array (Option Value)} {oc_law kV_law dc_law pm_law cd_law ct_law : Value}
    {q_LENGTHS : Addr} {dd_LENGTHS : Option Addr} {n_LENGTHS : Nat} {sl_LENGTHS : Array (Option Value)} {t_LENGTHS_0 t_LENGTHS_1 t_LENGTHS_2 t_LENGTHS_3 t_LENGTHS_4 t_LENGTHS_5 t_LENGTHS_6 t_LENGTHS_7 t_LENGTHS_8 t_LENGTHS_9 t_LENGTHS_10 t_LENGTHS_11 : Tok} (X : K.In h) (G : h.Ns mainGlobals mg) (hfa : mg "law" = some (.ref fa))
    (aC_Day : PySem.W.nsIn K mainGlobals "Day" = some (some (.ref C_Day)))
    (pg_Day : PySem.W.plainGet K C_Day Str.empty = true)
    (hd_Day : PySem.W.hasDictIn K C_Day = true)
    (po_Day : PySem.W.plainOver K C_Day = true)
    (sa_Day : PySem.W.findIn K (.ref C_Day) "__setattr__" = some (some (.builtin "object.__setattr__")))
    (mk_Day : PySem.W.makesIn K C_Day = true)
    (kc_Day : PySem.W.keepIn K (.ref C_Day) = true)
    (n_Day_number : PySem.W.findIn K (.ref C_Day) "number" = some none)
    (aC_NoDay : PySem.W.nsIn K mainGlobals "NoDay" = some (some (.ref C_NoDay)))
    (xL_NoDay : K.lookup C_NoDay = some (excClassObj nm_NoDay q_NoDay C_NoDay N_NoDay bs_NoDay [.type "ValueError", .type "Exception", .type "BaseException", .type "object"] true sn_NoDay sub_NoDay ab_NoDay col_NoDay dd_NoDay k0_NoDay k1_NoDay k2_NoDay k3_NoDay k5_NoDay "ValueError.__new__"))
    (sa_NoDay : PySem.W.findIn K (.ref C_NoDay) "__setattr__" = some (some (.builtin "object.__setattr__")))
    (ex_NoDay : PySem.W.subIn K (.ref C_NoDay) (.type "BaseException") = some true)
    (ty_NoDay : PySem.W.typeIn K (.ref C_NoDay) = some (.type "type"))
    (kC_NoDay : PySem.W.keepIn K (.ref C_NoDay) = true)
    (ga_NoDay : PySem.W.findIn K (.ref C_NoDay) "__getattribute__" = some (some (.builtin "BaseException.__getattribute__")))
    (gg_NoDay : PySem.W.findIn K (.ref C_NoDay) "__getattr__" = some none)
    (hd_NoDay : PySem.W.hasDictIn K C_NoDay = true)
    (ca_NoDay : PySem.W.findIn K (.ref C_NoDay) "__class__" = some (some (.builtin "object.__class__")))
    (sg_NoDay : PySem.W.specialIn K (.builtin "object.__class__") "__get__" = some (some (.builtin "getset_descriptor.__get__")))
    (tk_NoDay : PySem.W.takesIn K (.builtin "object.__class__") = some true)
    (mr_NoDay : PySem.W.mroIn K C_NoDay (.type "object") = some true)
    (n_NoDay_parts : PySem.W.findIn K (.ref C_NoDay) "parts" = some none)
    (aC_Fault : PySem.W.nsIn K mainGlobals "Fault" = some (some (.ref C_Fault)))
    (aC_NoKind : PySem.W.nsIn K mainGlobals "NoKind" = some (some (.ref C_NoKind)))
    (aC_NoMoment : PySem.W.nsIn K mainGlobals "NoMoment" = some (some (.ref C_NoMoment)))
    (aC_NoName : PySem.W.nsIn K mainGlobals "NoName" = some (some (.ref C_NoName)))
    (aC_NoPath : PySem.W.nsIn K mainGlobals "NoPath" = some (some (.ref C_NoPath)))
    (aC_NoQuestion : PySem.W.nsIn K mainGlobals "NoQuestion" = some (some (.ref C_NoQuestion)))
    (aC_NoTable : PySem.W.nsIn K mainGlobals "NoTable" = some (some (.ref C_NoTable)))
    (aC_NoTerm : PySem.W.nsIn K mainGlobals "NoTerm" = some (some (.ref C_NoTerm)))
    (aC_NoText : PySem.W.nsIn K mainGlobals "NoText" = some (some (.ref C_NoText)))
    (i_NoDay : PySem.W.findIn K (.ref C_NoDay) "__init__" = some (some (.ref f_NoDay___init__)))
    (t_NoDay : PySem.W.typeIn K (.ref f_NoDay___init__) = some (.type "function"))
    (l_NoDay___init__ : K.lookup f_NoDay___init__ = some ⟨oc_NoDay___init__, od_NoDay___init__, .func (PySem.W.fnOf "__init__" "NoDay.__init__" (defArgs s_NoDay___init__) (defBody s_NoDay___init__) (defScope s_NoDay___init__) .none kV_NoDay___init__ dc_NoDay___init__ pm_NoDay___init__ an_NoDay___init__ cd_NoDay___init__ ct_NoDay___init__), sl_NoDay___init__⟩)
    (c_NoDay___init__ : PySem.W.codeIn K cd_NoDay___init__ "NoDay.__init__" = true)
    (k_NoDay___init__ : PySem.W.keepIn K (.ref f_NoDay___init__) = true)
    (a_Day___init__ : PySem.W.findIn K (.ref C_Day) "__init__" = some (some (.ref f_Day___init__)))
    (i_Day___init__ : PySem.W.isFn K (.ref f_Day___init__) = true)
    (l_Day___init__ : K.lookup f_Day___init__ = some ⟨oc_Day___init__, od_Day___init__, .func (PySem.W.fnOf "__init__" "Day.__init__" (defArgs s_Day___init__) (defBody s_Day___init__) (defScope s_Day___init__) .none kV_Day___init__ dc_Day___init__ pm_Day___init__ an_Day___init__ cd_Day___init__ ct_Day___init__), sl_Day___init__⟩)
    (c_Day___init__ : PySem.W.codeIn K cd_Day___init__ "Day.__init__" = true)
    (k_Day___init__ : PySem.W.keepIn K (.ref f_Day___init__) = true)
    (a_is_leap : PySem.W.nsIn K mainGlobals "is_leap" = some (some (.ref f_is_leap)))
    (l_is_leap : K.lookup f_is_leap = some ⟨oc_is_leap, od_is_leap, .func (PySem.W.fnOf "is_leap" "is_leap" (defArgs s_is_leap) (defBody s_is_leap) (defScope s_is_leap) .none kV_is_leap dc_is_leap pm_is_leap an_is_leap cd_is_leap ct_is_leap), sl_is_leap⟩)
    (c_is_leap : PySem.W.codeIn K cd_is_leap "is_leap" = true)
    (k_is_leap : PySem.W.keepIn K (.ref f_is_leap) = true)
    (a_last_of : PySem.W.nsIn K mainGlobals "last_of" = some (some (.ref f_last_of)))
    (l_last_of : K.lookup f_last_of = some ⟨oc_last_of, od_last_of, .func (PySem.W.fnOf "last_of" "last_of" (defArgs s_last_of) (defBody s_last_of) (defScope s_last_of) .none kV_last_of dc_last_of pm_last_of an_last_of cd_last_of ct_last_of), sl_last_of⟩)
    (c_last_of : PySem.W.codeIn K cd_last_of "last_of" = true)
    (k_last_of : PySem.W.keepIn K (.ref f_last_of) = true)
    (a_day_of : PySem.W.nsIn K mainGlobals "day_of" = some (some (.ref f_day_of)))
    (l_day_of : K.lookup f_day_of = some ⟨oc_day_of, od_day_of, .func (PySem.W.fnOf "day_of" "day_of" (defArgs s_day_of) (defBody s_day_of) (defScope s_day_of) .none kV_day_of dc_day_of pm_day_of an_day_of cd_day_of ct_day_of), sl_day_of⟩)
    (c_day_of : PySem.W.codeIn K cd_day_of "day_of" = true)
    (k_day_of : PySem.W.keepIn K (.ref f_day_of) = true)
    (a__law_draws : PySem.W.nsIn K mainGlobals "_law_draws" = some (some (.ref f__law_draws)))
    (l__law_draws : K.lookup f__law_draws = some ⟨oc__law_draws, od__law_draws, .func (PySem.W.fnOf "_law_draws" "_law_draws" (defArgs s__law_draws) (defBody s__law_draws) (defScope s__law_draws) .none kV__law_draws dc__law_draws pm__law_draws an__law_draws cd__law_draws ct__law_draws), sl__law_draws⟩)
    (c__law_draws : PySem.W.codeIn K cd__law_draws "_law_draws" = true)
    (k__law_draws : PySem.W.keepIn K (.ref f__law_draws) = true)
    (a__law_next : PySem.W.nsIn K mainGlobals "_law_next" = some (some (.ref f__law_next)))
    (l__law_next : K.lookup f__law_next = some ⟨oc__law_next, od__law_next, .func (PySem.W.fnOf "_law_next" "_law_next" (defArgs s__law_next) (defBody s__law_next) (defScope s__law_next) .none kV__law_next dc__law_next pm__law_next an__law_next cd__law_next ct__law_next), sl__law_next⟩)
    (c__law_next : PySem.W.codeIn K cd__law_next "_law_next" = true)
    (k__law_next : PySem.W.keepIn K (.ref f__law_next) = true)
    (a__law_length : PySem.W.nsIn K mainGlobals "_law_length" = some (some (.ref f__law_length)))
    (l__law_length : K.lookup f__law_length = some ⟨oc__law_length, od__law_length, .func (PySem.W.fnOf "_law_length" "_law_length" (defArgs s__law_length) (defBody s__law_length) (defScope s__law_length) .none kV__law_length dc__law_length pm__law_length an__law_length cd__law_length ct__law_length), sl__law_length⟩)
    (c__law_length : PySem.W.codeIn K cd__law_length "_law_length" = true)
    (k__law_length : PySem.W.keepIn K (.ref f__law_length) = true)
    (a__law_year : PySem.W.nsIn K mainGlobals "_law_year" = some (some (.ref f__law_year)))
    (l__law_year : K.lookup f__law_year = some ⟨oc__law_year, od__law_year, .func (PySem.W.fnOf "_law_year" "_law_year" (defArgs s__law_year) (defBody s__law_year) (defScope s__law_year) .none kV__law_year dc__law_year pm__law_year an__law_year cd__law_year ct__law_year), sl__law_year⟩)
    (c__law_year : PySem.W.codeIn K cd__law_year "_law_year" = true)
    (k__law_year : PySem.W.keepIn K (.ref f__law_year) = true)
    (a__law_date : PySem.W.nsIn K mainGlobals "_law_date" = some (some (.ref f__law_date)))
    (l__law_date : K.lookup f__law_date = some ⟨oc__law_date, od__law_date, .func (PySem.W.fnOf "_law_date" "_law_date" (defArgs s__law_date) (defBody s__law_date) (defScope s__law_date) .none kV__law_date dc__law_date pm__law_date an__law_date cd__law_date ct__law_date), sl__law_date⟩)
    (c__law_date : PySem.W.codeIn K cd__law_date "_law_date" = true)
    (k__law_date : PySem.W.keepIn K (.ref f__law_date) = true)
    (a__law_told : PySem.W.nsIn K mainGlobals "_law_told" = some (some (.ref f__law_told)))
    (l__law_told : K.lookup f__law_told = some ⟨oc__law_told, od__law_told, .func (PySem.W.fnOf "_law_told" "_law_told" (defArgs s__law_told) (defBody s__law_told) (defScope s__law_told) .none kV__law_told dc__law_told pm__law_told an__law_told cd__law_told ct__law_told), sl__law_told⟩)
    (c__law_told : PySem.W.codeIn K cd__law_told "_law_told" = true)
    (k__law_told : PySem.W.keepIn K (.ref f__law_told) = true)
    (a__law_bent : PySem.W.nsIn K mainGlobals "_law_bent" = some (some (.ref f__law_bent)))
    (l__law_bent : K.lookup f__law_bent = some ⟨oc__law_bent, od__law_bent, .func (PySem.W.fnOf "_law_bent" "_law_bent" (defArgs s__law_bent) (defBody s__law_bent) (defScope s__law_bent) .none kV__law_bent dc__law_bent pm__law_bent an__law_bent cd__law_bent ct__law_bent), sl__law_bent⟩)
    (c__law_bent : PySem.W.codeIn K cd__law_bent "_law_bent" = true)
    (k__law_bent : PySem.W.keepIn K (.ref f__law_bent) = true)
    (a_law : PySem.W.nsIn K mainGlobals "law" = some (some (.ref f_law)))
    (l_law : K.lookup f_law = some ⟨oc_law, od_law, .func (PySem.W.fnOf "law" "law" (defArgs s_law) (defBody s_law) (defScope s_law) .none kV_law dc_law pm_law an_law cd_law ct_law), sl_law⟩)
    (c_law : PySem.W.codeIn K cd_law "law" = true)
    (k_law : PySem.W.keepIn K (.ref f_law) = true)
    (a_LENGTHS : PySem.W.nsIn K mainGlobals "LENGTHS" = some (some (.ref q_LENGTHS)))
    (l_LENGTHS : K.lookup q_LENGTHS = some ⟨.type "tuple", dd_LENGTHS, .seq #[.int 31 t_LENGTHS_0, .int 28 t_LENGTHS_1, .int 31 t_LENGTHS_2, .int 30 t_LENGTHS_3, .int 31 t_LENGTHS_4, .int 30 t_LENGTHS_5, .int 31 t_LENGTHS_6, .int 31 t_LENGTHS_7, .int 30 t_LENGTHS_8, .int 31 t_LENGTHS_9, .int 30 t_LENGTHS_10, .int 31 t_LENGTHS_11] n_LENGTHS, sl_LENGTHS⟩)
    (z_isinstance : PySem.W.nsIn K mainGlobals "isinstance" = some none)
    (z_int : PySem.W.nsIn K mainGlobals "int" = some none)
    (z_max : PySem.W.nsIn K mainGlobals "max" = some none)
    (z_tuple : PySem.W.nsIn K mainGlobals "tuple" = some none)
    (z_ValueError : PySem.W.nsIn K mainGlobals "ValueError" = some none)
    (z_range : PySem.W.nsIn K mainGlobals "range" = some none)
    (e_exm : PySem.W.exmAny K (.ref C_NoDay) [.ref C_Fault, .ref C_NoDay, .ref C_NoKind, .ref C_NoMoment, .ref C_NoName, .ref C_NoPath, .ref C_NoQuestion, .ref C_NoTable, .ref C_NoTerm, .ref C_NoText] = some true)
    (e_self : PySem.W.kitOne K (.ref C_NoDay) (.ref C_NoDay) = some true)
    (e_ve : PySem.W.kitOne K (.ref C_NoDay) (.type "ValueError") = some true)
    (e_six : PySem.W.kitAny K (.ref C_NoDay) [.ref C_NoKind, .ref C_NoName, .ref C_NoQuestion, .ref C_NoTable, .ref C_NoTerm, .ref C_NoText] = some false) :
    ∃ fd : FuncData, (∀ (s : Shared) (v : Value), BindsTo s fd ⟨[v], []⟩ [("_law_script", v)]) ∧ ∀ base : Heap, K.In base → base.Ns mainGlobals mg → FnOk l.prog w K mg base CX0 5 fa fd ["_law_script"] (spLaw K) := by
  have e := hfa.symm.trans (PySem.W.mg_of X G a_law)
  cases e
  have F_NoDay___init__ := fun_mk (st := s_NoDay___init__) l_NoDay___init__ c_NoDay___init__ k_NoDay___init__
  have b_NoDay___init__ := F_NoDay___init__.binds (ps := ["self", "parts"]) fun _ _ _ _ _ _ us hl => match us, hl with | [_, _], _ => rfl
  have F_Day___init__ := fun_mk (st := s_Day___init__) l_Day___init__ c_Day___init__ k_Day___init__
  have b_Day___init__ := F_Day___init__.binds (ps := ["self", "number"]) fun _ _ _ _ _ _ us hl => match us, hl with | [_, _], _ => rfl
  have F_is_leap := fun_mk (st := s_is_leap) l_is_leap c_is_leap k_is_leap
  have b_is_leap := F_is_leap.binds (ps := ["year"]) fun _ _ _ _ _ _ us hl => match us, hl with | [_], _ => rfl
  have F_last_of := fun_mk (st := s_last_of) l_last_of c_last_of k_last_of
  have b_last_of := F_last_of.binds (ps := ["year", "month"]) fun _ _ _ _ _ _ us hl => match us, hl with | [_, _], _ => rfl
  have F_day_of := fun_mk (st := s_day_of) l_day_of c_day_of k_day_of
  have b_day_of := F_day_of.binds (ps := ["year", "month", "day"]) fun _ _ _ _ _ _ us hl => match us, hl with | [_, _, _], _ => rfl
  have F__law_draws := fun_mk (st := s__law_draws) l__law_draws c__law_draws k__law_draws
  have b__law_draws := F__law_draws.binds (ps := ["_law_cell"]) fun _ _ _ _ _ _ us hl => match us, hl with | [_], _ => rfl
  have F__law_next := fun_mk (st := s__law_next) l__law_next c__law_next k__law_next
  have b__law_next := F__law_next.binds (ps := ["_law_draws_here"]) fun _ _ _ _ _ _ us hl => match us, hl with | [_], _ => rfl
  have F__law_length := fun_mk (st := s__law_length) l__law_length c__law_length k__law_length
  have b__law_length := F__law_length.binds (ps := ["_law_year_here", "_law_month"]) fun _ _ _ _ _ _ us hl => match us, hl with | [_, _], _ => rfl
  have F__law_year := fun_mk (st := s__law_year) l__law_year c__law_year k__law_year
  have b__law_year := F__law_year.binds (ps := ["_law_draws_here"]) fun _ _ _ _ _ _ us hl => match us, hl with | [_], _ => rfl
  have F__law_date := fun_mk (st := s__law_date) l__law_date c__law_date k__law_date
  have b__law_date := F__law_date.binds (ps := ["_law_draws_here"]) fun _ _ _ _ _ _ us hl => match us, hl with | [_], _ => rfl
  have F__law_told := fun_mk (st := s__law_told) l__law_told c__law_told k__law_told
  have b__law_told := F__law_told.binds (ps := ["_law_date_here"]) fun _ _ _ _ _ _ us hl => match us, hl with | [_], _ => rfl
  have F__law_bent := fun_mk (st := s__law_bent) l__law_bent c__law_bent k__law_bent
  have b__law_bent := F__law_bent.binds (ps := ["_law_draws_here", "_law_date_here"]) fun _ _ _ _ _ _ us hl => match us, hl with | [_, _], _ => rfl
  have F_law := fun_mk (st := s_law) l_law c_law k_law
  have b_law := F_law.binds (ps := ["_law_script"]) fun _ _ _ _ _ _ us hl => match us, hl with | [_], _ => rfl
  exact ⟨_, fun s v => .of_eq rfl, fun base _ _ => ok_law (T := { C_Day := C_Day, g_Day := PySem.W.mg_of X G aC_Day, cl_Day := ⟨pg_Day, hd_Day, po_Day, sa_Day⟩, n_Day_number := n_Day_number, C_NoDay := C_NoDay, g_NoDay := PySem.W.mg_of X G aC_NoDay, O_NoDay := ⟨⟨_, _, _, _, _, _, _, _, _, _, _, _, _, _, _, xL_NoDay, by decide +kernel⟩, sa_NoDay, ex_NoDay, ty_NoDay, kC_NoDay⟩, X_NoDay := ⟨ga_NoDay, gg_NoDay, ex_NoDay, hd_NoDay⟩, E_NoDay := ⟨ga_NoDay, gg_NoDay, ex_NoDay, hd_NoDay, ca_NoDay, sg_NoDay, tk_NoDay, mr_NoDay⟩, n_NoDay_parts := n_NoDay_parts, C_Fault := C_Fault, g_Fault := PySem.W.mg_of X G aC_Fault, C_NoKind := C_NoKind, g_NoKind := PySem.W.mg_of X G aC_NoKind, C_NoMoment := C_NoMoment, g_NoMoment := PySem.W.mg_of X G aC_NoMoment, C_NoName := C_NoName, g_NoName := PySem.W.mg_of X G aC_NoName, C_NoPath := C_NoPath, g_NoPath := PySem.W.mg_of X G aC_NoPath, C_NoQuestion := C_NoQuestion, g_NoQuestion := PySem.W.mg_of X G aC_NoQuestion, C_NoTable := C_NoTable, g_NoTable := PySem.W.mg_of X G aC_NoTable, C_NoTerm := C_NoTerm, g_NoTerm := PySem.W.mg_of X G aC_NoTerm, C_NoText := C_NoText, g_NoText := PySem.W.mg_of X G aC_NoText, i_NoDay := i_NoDay, t_NoDay := t_NoDay, f_NoDay___init__ := f_NoDay___init__, fd_NoDay___init__ := PySem.W.fnOf "__init__" "NoDay.__init__" (defArgs s_NoDay___init__) (defBody s_NoDay___init__) (defScope s_NoDay___init__) .none kV_NoDay___init__ dc_NoDay___init__ pm_NoDay___init__ an_NoDay___init__ cd_NoDay___init__ ct_NoDay___init__, F_NoDay___init__ := F_NoDay___init__, b_NoDay___init__ := b_NoDay___init__, f_Day___init__ := f_Day___init__, fd_Day___init__ := PySem.W.fnOf "__init__" "Day.__init__" (defArgs s_Day___init__) (defBody s_Day___init__) (defScope s_Day___init__) .none kV_Day___init__ dc_Day___init__ pm_Day___init__ an_Day___init__ cd_Day___init__ ct_Day___init__, F_Day___init__ := F_Day___init__, b_Day___init__ := b_Day___init__, M_Day := ⟨mk_Day, a_Day___init__, i_Day___init__, kc_Day⟩, f_is_leap := f_is_leap, fd_is_leap := PySem.W.fnOf "is_leap" "is_leap" (defArgs s_is_leap) (defBody s_is_leap) (defScope s_is_leap) .none kV_is_leap dc_is_leap pm_is_leap an_is_leap cd_is_leap ct_is_leap, F_is_leap := F_is_leap, b_is_leap := b_is_leap, g_is_leap := PySem.W.mg_of X G a_is_leap, f_last_of := f_last_of, fd_last_of := PySem.W.fnOf "last_of" "last_of" (defArgs s_last_of) (defBody s_last_of) (defScope s_last_of) .none kV_last_of dc_last_of pm_last_of an_last_of cd_last_of ct_last_of, F_last_of := F_last_of, b_last_of := b_last_of, g_last_of := PySem.W.mg_of X G a_last_of, f_day_of := f_day_of, fd_day_of := PySem.W.fnOf "day_of" "day_of" (defArgs s_day_of) (defBody s_day_of) (defScope s_day_of) .none kV_day_of dc_day_of pm_day_of an_day_of cd_day_of ct_day_of, F_day_of := F_day_of, b_day_of := b_day_of, g_day_of := PySem.W.mg_of X G a_day_of, f__law_draws := f__law_draws, fd__law_draws := PySem.W.fnOf "_law_draws" "_law_draws" (defArgs s__law_draws) (defBody s__law_draws) (defScope s__law_draws) .none kV__law_draws dc__law_draws pm__law_draws an__law_draws cd__law_draws ct__law_draws, F__law_draws := F__law_draws, b__law_draws := b__law_draws, g__law_draws := PySem.W.mg_of X G a__law_draws, f__law_next := f__law_next, fd__law_next := PySem.W.fnOf "_law_next" "_law_next" (defArgs s__law_next) (defBody s__law_next) (defScope s__law_next) .none kV__law_next dc__law_next pm__law_next an__law_next cd__law_next ct__law_next, F__law_next := F__law_next, b__law_next := b__law_next, g__law_next := PySem.W.mg_of X G a__law_next, f__law_length := f__law_length, fd__law_length := PySem.W.fnOf "_law_length" "_law_length" (defArgs s__law_length) (defBody s__law_length) (defScope s__law_length) .none kV__law_length dc__law_length pm__law_length an__law_length cd__law_length ct__law_length, F__law_length := F__law_length, b__law_length := b__law_length, g__law_length := PySem.W.mg_of X G a__law_length, f__law_year := f__law_year, fd__law_year := PySem.W.fnOf "_law_year" "_law_year" (defArgs s__law_year) (defBody s__law_year) (defScope s__law_year) .none kV__law_year dc__law_year pm__law_year an__law_year cd__law_year ct__law_year, F__law_year := F__law_year, b__law_year := b__law_year, g__law_year := PySem.W.mg_of X G a__law_year, f__law_date := f__law_date, fd__law_date := PySem.W.fnOf "_law_date" "_law_date" (defArgs s__law_date) (defBody s__law_date) (defScope s__law_date) .none kV__law_date dc__law_date pm__law_date an__law_date cd__law_date ct__law_date, F__law_date := F__law_date, b__law_date := b__law_date, g__law_date := PySem.W.mg_of X G a__law_date, f__law_told := f__law_told, fd__law_told := PySem.W.fnOf "_law_told" "_law_told" (defArgs s__law_told) (defBody s__law_told) (defScope s__law_told) .none kV__law_told dc__law_told pm__law_told an__law_told cd__law_told ct__law_told, F__law_told := F__law_told, b__law_told := b__law_told, g__law_told := PySem.W.mg_of X G a__law_told, f__law_bent := f__law_bent, fd__law_bent := PySem.W.fnOf "_law_bent" "_law_bent" (defArgs s__law_bent) (defBody s__law_bent) (defScope s__law_bent) .none kV__law_bent dc__law_bent pm__law_bent an__law_bent cd__law_bent ct__law_bent, F__law_bent := F__law_bent, b__law_bent := b__law_bent, g__law_bent := PySem.W.mg_of X G a__law_bent, f_law := fa, fd_law := PySem.W.fnOf "law" "law" (defArgs s_law) (defBody s_law) (defScope s_law) .none kV_law dc_law pm_law an_law cd_law ct_law, F_law := F_law, b_law := b_law, g_law := PySem.W.mg_of X G a_law, a_LENGTHS := q_LENGTHS, g_LENGTHS := PySem.W.mg_of X G a_LENGTHS, q_LENGTHS := fun H => .inr ⟨_, _, _, l_LENGTHS, rfl, rfl, by show 12 ≤ sizeLine; decide, (.cons ⟨_, rfl⟩ (.cons ⟨_, rfl⟩ (.cons ⟨_, rfl⟩ (.cons ⟨_, rfl⟩ (.cons ⟨_, rfl⟩ (.cons ⟨_, rfl⟩ (.cons ⟨_, rfl⟩ (.cons ⟨_, rfl⟩ (.cons ⟨_, rfl⟩ (.cons ⟨_, rfl⟩ (.cons ⟨_, rfl⟩ (.cons ⟨_, rfl⟩ .nil))))))))))))⟩, z_isinstance := PySem.W.mg_none_of X G z_isinstance, z_int := PySem.W.mg_none_of X G z_int, z_max := PySem.W.mg_none_of X G z_max, z_tuple := PySem.W.mg_none_of X G z_tuple, z_ValueError := PySem.W.mg_none_of X G z_ValueError, z_range := PySem.W.mg_none_of X G z_range, e_exm := e_exm, e_self := e_self, e_ve := e_ve, e_six := e_six })⟩
end K02
open PySem PySem.W PyProof.Rows
set_option maxHeartbeats 0 in
theorem PySem.Challenge.cw_askford_k02_dates_that_are_none_holds : PySem.Challenge.rw_askford_k02_dates_that_are_none.Holds := by
  w_on; o_law; k_head; (case hw => w_witness2)
  k_fill
  refine L2.walk_of (l := PySem.Challenge.rw_askford_k02_dates_that_are_none) (n := 63) (k := 5) (x := "_law_script") (CX := fun _ => L2.CX0) (sp := fun w => K02.spLaw _) rfl (by decide) rfl ⟨rfl, by decide, by decide⟩ (fun w h Y => PySem.W.kIn_of Y) ?F (fun _ _ a ns hl _ hS => ⟨a, ns, rfl, hS, hl, fun _ => rfl⟩) (fun _ _ _ _ _ h => h)
  case F =>
    intro w mg fa h KX G hmg
    refine' K02.all_mk KX G hmg ?aC_Day ?pg_Day ?hd_Day ?po_Day ?sa_Day ?mk_Day ?kc_Day ?n_Day_number ?aC_NoDay ?xL_NoDay ?sa_NoDay ?ex_NoDay ?ty_NoDay ?kC_NoDay ?ga_NoDay ?gg_NoDay ?hd_NoDay ?ca_NoDay ?sg_NoDay ?tk_NoDay ?mr_NoDay ?n_NoDay_parts ?aC_Fault ?aC_NoKind ?aC_NoMoment ?aC_NoName ?aC_NoPath ?aC_NoQuestion ?aC_NoTable ?aC_NoTerm ?aC_NoText ?i_NoDay ?t_NoDay ?l_NoDay___init__ ?c_NoDay___init__ ?k_NoDay___init__ ?a_Day___init__ ?i_Day___init__ ?l_Day___init__ ?c_Day___init__ ?k_Day___init__ ?a_is_leap ?l_is_leap ?c_is_leap ?k_is_leap ?a_last_of ?l_last_of ?c_last_of ?k_last_of ?a_day_of ?l_day_of ?c_day_of ?k_day_of ?a__law_draws ?l__law_draws ?c__law_draws ?k__law_draws ?a__law_next ?l__law_next ?c__law_next ?k__law_next ?a__law_length ?l__law_length ?c__law_length ?k__law_length ?a__law_year ?l__law_year ?c__law_year ?k__law_year ?a__law_date ?l__law_date ?c__law_date ?k__law_date ?a__law_told ?l__law_told ?c__law_told ?k__law_told ?a__law_bent ?l__law_bent ?c__law_bent ?k__law_bent ?a_law ?l_law ?c_law ?k_law ?a_LENGTHS ?l_LENGTHS ?z_isinstance ?z_int ?z_max ?z_tuple ?z_ValueError ?z_range ?e_exm ?e_self ?e_ve ?e_six
    (case aC_Day => k_is)
    (case pg_Day => k_is)
    (case hd_Day => k_is)
    (case po_Day => k_is)
    (case sa_Day => k_is)
    (case mk_Day => k_is)
    (case kc_Day => k_is)
    (case n_Day_number => k_is)
    (case aC_NoDay => k_is)
    (case xL_NoDay => k_is)
    (case sa_NoDay => k_is)
    (case ex_NoDay => k_is)
    (case ty_NoDay => k_is)
    (case kC_NoDay => k_is)
    (case ga_NoDay => k_is)
    (case gg_NoDay => k_is)
    (case hd_NoDay => k_is)
    (case ca_NoDay => k_is)
    (case sg_NoDay => k_is)
    (case tk_NoDay => k_is)
    (case mr_NoDay => k_is)
    (case n_NoDay_parts => k_is)
    (case aC_Fault => k_is)
    (case aC_NoKind => k_is)
    (case aC_NoMoment => k_is)
    (case aC_NoName => k_is)
    (case aC_NoPath => k_is)
    (case aC_NoQuestion => k_is)
    (case aC_NoTable => k_is)
    (case aC_NoTerm => k_is)
    (case aC_NoText => k_is)
    (case i_NoDay => k_is)
    (case t_NoDay => k_is)
    (case l_NoDay___init__ => k_is)
    (case c_NoDay___init__ => k_is)
    (case k_NoDay___init__ => k_is)
    (case a_Day___init__ => k_is)
    (case i_Day___init__ => k_is)
    (case l_Day___init__ => k_is)
    (case c_Day___init__ => k_is)
    (case k_Day___init__ => k_is)
    (case a_is_leap => k_is)
    (case l_is_leap => k_is)
    (case c_is_leap => k_is)
    (case k_is_leap => k_is)
    (case a_last_of => k_is)
    (case l_last_of => k_is)
    (case c_last_of => k_is)
    (case k_last_of => k_is)
    (case a_day_of => k_is)
    (case l_day_of => k_is)
    (case c_day_of => k_is)
    (case k_day_of => k_is)
    (case a__law_draws => k_is)
    (case l__law_draws => k_is)
    (case c__law_draws => k_is)
    (case k__law_draws => k_is)
    (case a__law_next => k_is)
    (case l__law_next => k_is)
    (case c__law_next => k_is)
    (case k__law_next => k_is)
    (case a__law_length => k_is)
    (case l__law_length => k_is)
    (case c__law_length => k_is)
    (case k__law_length => k_is)
    (case a__law_year => k_is)
    (case l__law_year => k_is)
    (case c__law_year => k_is)
    (case k__law_year => k_is)
    (case a__law_date => k_is)
    (case l__law_date => k_is)
    (case c__law_date => k_is)
    (case k__law_date => k_is)
    (case a__law_told => k_is)
    (case l__law_told => k_is)
    (case c__law_told => k_is)
    (case k__law_told => k_is)
    (case a__law_bent => k_is)
    (case l__law_bent => k_is)
    (case c__law_bent => k_is)
    (case k__law_bent => k_is)
    (case a_law => k_is)
    (case l_law => k_is)
    (case c_law => k_is)
    (case k_law => k_is)
    (case a_LENGTHS => k_is)
    (case l_LENGTHS => k_is)
    (case z_isinstance => k_is)
    (case z_int => k_is)
    (case z_max => k_is)
    (case z_tuple => k_is)
    (case z_ValueError => k_is)
    (case z_range => k_is)
    (case e_exm => kernel_rfl)
    (case e_self => kit_is)
    (case e_ve => kit_is)
    (case e_six => kit_is)
