import PyProof.Rows.All
import Wide.All
import OpenK.AllK
import Wide.FinOn
import HandS.ForMost
import HandS.MakeKwOnly
import HandS.IsInst
import HandS.OwnEq
import HandS.Wide
import HandS.Steps
import PySem.Challenge.RW_askford_k04_whole_calendar
set_option linter.all false
namespace Cal
/-- leap -/
def leap (y : Int) : Bool := decide (y % 4 = 0) && (decide (¬ y % 100 = 0) || decide (y % 400 = 0))
def b2 (b : Bool) : Int := if b then 1 else 0
def lens : List Int := [31, 28, 31, 30, 31, 30, 31, 31, 30, 31, 30, 31]
def lastOf (y m : Int) : Int := lens.getD (m - 1).toNat 0 + b2 (decide (m = 2) && leap y)
def since (y m : Int) : Int := y - b2 (decide (m < 3))
def aheadOf (m d : Int) : Int := (153 * ((m + 9) % 12) + 2) / 5 + d - 1
def num (y m d : Int) : Int := 365 * since y m + since y m / 4 - since y m / 100 + since y m / 400 + aheadOf m d
def pCyc (n : Int) : Int := n / 146097
def pLeft (n : Int) : Int := n % 146097
def pYear (l : Int) : Int := (l - l / 1460 + l / 36524 - l / 146096) / 365
def pAhead (l : Int) : Int := l - (365 * pYear l + pYear l / 4 - pYear l / 100)
def pTurn (l : Int) : Int := (5 * pAhead l + 2) / 153
def pMonth (l : Int) : Int := if pTurn l < 10 then pTurn l + 3 else pTurn l - 9
def partY (n : Int) : Int := pYear (pLeft n) + 400 * pCyc n + b2 (decide (pMonth (pLeft n) < 3))
def partM (n : Int) : Int := pMonth (pLeft n)
def partD (n : Int) : Int := pAhead (pLeft n) - (153 * pTurn (pLeft n) + 2) / 5 + 1
def valid (y m d : Int) : Prop := 1 ≤ m ∧ m ≤ 12 ∧ 1 ≤ d ∧ d ≤ lastOf y m

/-- the year within the four hundred -/
theorem year_lo {l : Int} (h0 : 0 ≤ l) (h1 : l < 146097) : 0 ≤ pYear l ∧ pYear l ≤ 399 := by
  unfold pYear; omega
/-- days ahead of the year Y of the four hundred -/
def S (Y : Nat) : Nat := if Y = 400 then 146097 else 365 * Y + Y / 4 - Y / 100
def fN (l : Nat) : Nat := l - l / 1460 + l / 36524 - l / 146096
theorem fN_mono {a b : Nat} (h : a ≤ b) (hb : b < 146097) : fN a ≤ fN b := by
  unfold fN; omega
theorem S_lo : ∀ Y : Nat, Y < 400 → 365 * Y ≤ fN (S Y) := by decide +kernel
theorem S_hi : ∀ Y : Nat, Y < 400 → fN (S (Y + 1) - 1) < 365 * (Y + 1) := by decide +kernel
theorem S_le : ∀ Y : Nat, Y < 401 → S Y ≤ 146097 := by decide +kernel
theorem S_step : ∀ Y : Nat, Y < 400 → S Y < S (Y + 1) := by decide +kernel
theorem fN_of {l : Nat} {Y : Nat} (hY : Y < 400) (h0 : S Y ≤ l) (h1 : l < S (Y + 1)) : fN l / 365 = Y := by
  have a := S_lo Y hY
  have b := S_hi Y hY
  have c := S_le (Y + 1) (by omega)
  have m1 := fN_mono h0 (by omega)
  have m2 := fN_mono (show l ≤ S (Y + 1) - 1 by omega) (by omega)
  omega
theorem ex_year (l : Nat) : ∀ N : Nat, N ≤ 400 → l < S N → ∃ Y, Y < N ∧ S Y ≤ l ∧ l < S (Y + 1)
  | 0, _, h => by
    have : S 0 = 0 := by decide
    omega
  | N + 1, hN, h => by
    by_cases g : S N ≤ l
    · exact ⟨N, by omega, g, h⟩
    · obtain ⟨Y, a, b, c⟩ := ex_year l N (by omega) (by omega)
      exact ⟨Y, by omega, b, c⟩
theorem pYear_nat (l : Nat) (h : l < 146097) : pYear (l : Int) = ((fN l / 365 : Nat) : Int) := by
  unfold pYear fN; omega
/-- a place in the four hundred years: its year and its day in the year -/
theorem year_at {l : Int} (h0 : 0 ≤ l) (h1 : l < 146097) : ∃ Y : Nat, Y < 400 ∧ pYear l = Y ∧ (S Y : Int) ≤ l ∧ l < (S (Y + 1) : Int) := by
  obtain ⟨k, rfl⟩ : ∃ k : Nat, l = k := ⟨l.toNat, by omega⟩
  obtain ⟨Y, a, b, c⟩ := ex_year k 400 (by omega) (by show k < 146097; omega)
  refine ⟨Y, a, ?_, by omega, by omega⟩
  rw [pYear_nat k (by omega), fN_of a b c]
theorem year_of {l : Int} {Y : Nat} (hY : Y < 400) (h0 : (S Y : Int) ≤ l) (h1 : l < (S (Y + 1) : Int)) : pYear l = Y := by
  obtain ⟨k, rfl⟩ : ∃ k : Nat, l = k := ⟨l.toNat, by omega⟩
  have c := S_le (Y + 1) (by omega)
  rw [pYear_nat k (by omega), fN_of hY (by omega) (by omega)]
theorem S_eq (Y : Nat) (h : Y < 400) : (S Y : Int) = 365 * (Y : Int) + (Y : Int) / 4 - (Y : Int) / 100 := by
  unfold S; rw [if_neg (by omega)]; omega
/-- the length of the year Y, from March on -/
theorem S_len (Y : Nat) (h : Y < 400) : (S (Y + 1) : Int) = S Y + 365 + b2 (leap ((Y : Int) + 1)) := by
  have : ∀ Y : Nat, Y < 400 → (S (Y + 1) : Int) = S Y + 365 + b2 (leap ((Y : Int) + 1)) := by decide +kernel
  exact this Y h
theorem month_cases {m : Int} (h1 : 1 ≤ m) (h2 : m ≤ 12) : m = 1 ∨ m = 2 ∨ m = 3 ∨ m = 4 ∨ m = 5 ∨ m = 6 ∨ m = 7 ∨ m = 8 ∨ m = 9 ∨ m = 10 ∨ m = 11 ∨ m = 12 := by omega
theorem b2_le (b : Bool) : 0 ≤ b2 b ∧ b2 b ≤ 1 := by cases b <;> decide
theorem leap_cyc (y c : Int) : leap (y + 400 * c) = leap y := by
  unfold leap
  rw [show (y + 400 * c) % 4 = y % 4 by omega, show (y + 400 * c) % 100 = y % 100 by omega, show (y + 400 * c) % 400 = y % 400 by omega]
theorem last_2 (y : Int) : lastOf y 2 = 28 + b2 (leap y) := rfl
theorem last_n {y m : Int} (h1 : 1 ≤ m) (h2 : m ≤ 12) (h : m ≠ 2) : lastOf y m = lens.getD (m - 1).toNat 0 := by
  unfold lastOf
  rw [decide_eq_false h]
  show lens.getD (m - 1).toNat 0 + 0 = _
  omega
/-- the turn of a day in a year from March on, and of a month -/
theorem ahead_of {y m d : Int} (h : valid y m d) : 0 ≤ aheadOf m d ∧ aheadOf m d < 365 + (if m = 2 then b2 (leap y) else 0) ∧ (5 * aheadOf m d + 2) / 153 = (m + 9) % 12 := by
  obtain ⟨h1, h2, h3, h4⟩ := h
  unfold aheadOf
  rcases month_cases h1 h2 with rfl | rfl | rfl | rfl | rfl | rfl | rfl | rfl | rfl | rfl | rfl | rfl
  case inr.inl =>
    rw [last_2] at h4
    rw [if_pos rfl]
    have := b2_le (leap y)
    omega
  all_goals
    rw [last_n (by decide) (by decide) (by decide)] at h4
    rw [if_neg (by decide)]
    simp only [lens, Int.reduceSub, Int.reduceToNat, List.getD_cons_zero, List.getD_cons_succ, show (1 : Int).toNat = 1 from rfl, show (0 : Int).toNat = 0 from rfl, show (2 : Int).toNat = 2 from rfl] at h4
    omega
theorem since_eq {y m : Int} : since y m = if m < 3 then y - 1 else y := by
  unfold since b2
  by_cases h : m < 3 <;> simp [h]
theorem num_eq (y m d : Int) : ∃ (Y : Nat) (c : Int), Y < 400 ∧ since y m = Y + 400 * c ∧ num y m d = 146097 * c + S Y + aheadOf m d := by
  refine ⟨(since y m % 400).toNat, since y m / 400, by omega, by omega, ?_⟩
  have e := S_eq (since y m % 400).toNat (by omega)
  rw [e]
  unfold num
  omega
theorem num_parts {y m d : Int} (h : valid y m d) : partY (num y m d) = y ∧ partM (num y m d) = m ∧ partD (num y m d) = d := by
  obtain ⟨Y, c, hY, es, en⟩ := num_eq y m d
  obtain ⟨a0, a1, at'⟩ := ahead_of h
  have hl := S_len Y hY
  have hle := S_le (Y + 1) (by omega)
  have hb := b2_le (leap ((Y : Int) + 1))
  have lo : (S Y : Int) ≤ S Y + aheadOf m d := by omega
  have hi : (S Y : Int) + aheadOf m d < S (Y + 1) := by
    by_cases hm : m = 2
    · subst hm
      rw [if_pos rfl] at a1
      have ey : y = (Y + 1) + 400 * c := by rw [since_eq, if_pos (by decide)] at es; omega
      rw [ey, leap_cyc] at a1
      omega
    · rw [if_neg hm] at a1
      omega
  have eL : pLeft (num y m d) = S Y + aheadOf m d := by unfold pLeft; omega
  have eC : pCyc (num y m d) = c := by unfold pCyc; omega
  have eY : pYear (S Y + aheadOf m d) = Y := year_of hY lo hi
  have eA : pAhead (S Y + aheadOf m d) = aheadOf m d := by
    unfold pAhead; rw [eY]; have := S_eq Y hY; omega
  have eT : pTurn (S Y + aheadOf m d) = (m + 9) % 12 := by unfold pTurn; rw [eA, at']
  obtain ⟨h1, h2, h3, h4⟩ := h
  have eM : pMonth (S Y + aheadOf m d) = m := by
    unfold pMonth; rw [eT]; split <;> omega
  refine ⟨?_, ?_, ?_⟩
  · unfold partY
    rw [eL, eC, eY, eM]
    unfold since at es
    omega
  · unfold partM; rw [eL, eM]
  · unfold partD; rw [eL, eA, eT]; unfold aheadOf; omega
theorem parts_valid (n : Int) : valid (partY n) (partM n) (partD n) ∧ num (partY n) (partM n) (partD n) = n := by
  have l0 : 0 ≤ pLeft n := by unfold pLeft; omega
  have l1 : pLeft n < 146097 := by unfold pLeft; omega
  obtain ⟨Y, hY, eY, lo, hi⟩ := year_at l0 l1
  have hl := S_len Y hY
  have hb := b2_le (leap ((Y : Int) + 1))
  have eS := S_eq Y hY
  have eA : pAhead (pLeft n) = pLeft n - S Y := by unfold pAhead; rw [eY]; omega
  have a0 : 0 ≤ pAhead (pLeft n) := by omega
  have a1 : pAhead (pLeft n) < 365 + b2 (leap ((Y : Int) + 1)) := by omega
  have eT : pTurn (pLeft n) = (5 * pAhead (pLeft n) + 2) / 153 := rfl
  have t0 : 0 ≤ pTurn (pLeft n) := by omega
  have t1 : pTurn (pLeft n) ≤ 11 := by omega
  have eM : pMonth (pLeft n) = if pTurn (pLeft n) < 10 then pTurn (pLeft n) + 3 else pTurn (pLeft n) - 9 := rfl
  have ec : n = 146097 * pCyc n + pLeft n := by unfold pCyc pLeft; omega
  have eMM : partM n = pMonth (pLeft n) := rfl
  have eD : partD n = pAhead (pLeft n) - (153 * pTurn (pLeft n) + 2) / 5 + 1 := rfl
  have m1 : 1 ≤ partM n ∧ partM n ≤ 12 ∧ (partM n + 9) % 12 = pTurn (pLeft n) := by
    rw [eMM, eM]; split <;> omega
  have eYY : partY n = Y + 400 * pCyc n + b2 (decide (partM n < 3)) := by
    show pYear (pLeft n) + 400 * pCyc n + b2 (decide (pMonth (pLeft n) < 3)) = _
    rw [eY, eMM]
  have es : since (partY n) (partM n) = Y + 400 * pCyc n := by unfold since; omega
  have ea : aheadOf (partM n) (partD n) = pAhead (pLeft n) := by
    unfold aheadOf; rw [m1.2.2, eD]; omega
  refine ⟨⟨m1.1, m1.2.1, ?_, ?_⟩, ?_⟩
  · rw [eD]; omega
  · by_cases h2 : partM n = 2
    · rw [h2, last_2]
      have : partY n = (Y + 1 : Int) + 400 * pCyc n := by
        rw [h2, show b2 (decide ((2 : Int) < 3)) = 1 from rfl] at eYY; omega
      rw [this, leap_cyc]
      have t : pTurn (pLeft n) = 11 := by omega
      rw [eD]; omega
    · rw [last_n m1.1 m1.2.1 h2]
      rw [eD]
      have m3 := m1.2.2
      generalize partM n = m at *
      rcases month_cases m1.1 m1.2.1 with rfl | rfl | rfl | rfl | rfl | rfl | rfl | rfl | rfl | rfl | rfl | rfl
      case inr.inl => exact absurd rfl h2
      all_goals
        simp only [lens, Int.reduceSub, Int.reduceToNat, List.getD_cons_zero, List.getD_cons_succ, show (1 : Int).toNat = 1 from rfl, show (0 : Int).toNat = 0 from rfl, show (2 : Int).toNat = 2 from rfl]
        omega
  · unfold num
    rw [es, ea]
    have q4 : ((Y : Int) + 400 * pCyc n) / 4 = Y / 4 + 100 * pCyc n := by omega
    have q100 : ((Y : Int) + 400 * pCyc n) / 100 = Y / 100 + 4 * pCyc n := by omega
    have q400 : ((Y : Int) + 400 * pCyc n) / 400 = pCyc n := by omega
    rw [q4, q100, q400]
    omega
/-- the next date -/
def aftY (y m d : Int) : Int := if d < lastOf y m then y else if m < 12 then y else y + 1
def aftM (y m d : Int) : Int := if d < lastOf y m then m else if m < 12 then m + 1 else 1
def aftD (y m d : Int) : Int := if d < lastOf y m then d + 1 else 1
theorem last_pos {y m : Int} (h1 : 1 ≤ m) (h2 : m ≤ 12) : 28 ≤ lastOf y m ∧ lastOf y m ≤ 31 := by
  rcases month_cases h1 h2 with rfl | rfl | rfl | rfl | rfl | rfl | rfl | rfl | rfl | rfl | rfl | rfl
  case inr.inl =>
    rw [last_2]
    have := b2_le (leap y)
    omega
  all_goals
    rw [last_n (by decide) (by decide) (by decide)]
    decide
theorem leap_num (y : Int) : b2 (leap y) = (y / 4 - y / 100 + y / 400) - ((y - 1) / 4 - (y - 1) / 100 + (y - 1) / 400) := by
  unfold leap b2
  by_cases h4 : y % 4 = 0
  · by_cases h1 : y % 100 = 0
    · by_cases h400 : y % 400 = 0
      · simp [h4, h1, h400]; omega
      · simp [h4, h1, h400]; omega
    · simp [h4, h1]; omega
  · simp [h4]; omega
theorem after_num {y m d : Int} (h : valid y m d) : valid (aftY y m d) (aftM y m d) (aftD y m d) ∧ num (aftY y m d) (aftM y m d) (aftD y m d) = num y m d + 1 := by
  obtain ⟨h1, h2, h3, h4⟩ := h
  unfold aftY aftM aftD
  by_cases hd : d < lastOf y m
  · rw [if_pos hd, if_pos hd, if_pos hd]
    refine ⟨⟨h1, h2, by omega, by omega⟩, ?_⟩
    unfold num aheadOf; omega
  · rw [if_neg hd, if_neg hd, if_neg hd]
    have ed : d = lastOf y m := by omega
    by_cases hm : m < 12
    · rw [if_pos hm, if_pos hm]
      refine ⟨⟨by omega, by omega, by omega, by have := (@last_pos y (m + 1) (by omega) (by omega)).1; omega⟩, ?_⟩
      rcases month_cases h1 h2 with rfl | rfl | rfl | rfl | rfl | rfl | rfl | rfl | rfl | rfl | rfl | rfl
      case inr.inl =>
        rw [ed, last_2]
        have := leap_num y
        unfold num aheadOf
        rw [since_eq, since_eq, if_neg (by decide), if_pos (by decide)]
        omega
      case inr.inr.inr.inr.inr.inr.inr.inr.inr.inr.inr => omega
      all_goals
        rw [ed, last_n (by decide) (by decide) (by decide)]
        unfold num aheadOf
        rw [since_eq, since_eq]
        simp [lens]
        try omega
    · have : m = 12 := by omega
      subst this
      rw [if_neg (by decide), if_neg (by decide)]
      refine ⟨⟨by decide, by decide, by decide, by have := (@last_pos (y + 1) 1 (by decide) (by decide)).1; omega⟩, ?_⟩
      rw [ed, last_n (by decide) (by decide) (by decide)]
      unfold num aheadOf
      rw [since_eq, since_eq]
      simp [lens]
      omega
theorem after_parts {y m d : Int} (h : valid y m d) : partY (num y m d + 1) = aftY y m d ∧ partM (num y m d + 1) = aftM y m d ∧ partD (num y m d + 1) = aftD y m d := by
  obtain ⟨a, b⟩ := after_num h
  rw [← b]
  exact num_parts a
/-! ### months on -/
def there (y m k : Int) : Int := 12 * y + m - 1 + k
def onY (y m k : Int) : Int := there y m k / 12
def onM (y m k : Int) : Int := there y m k % 12 + 1
def least (a b : Int) : Int := if b < a then b else a
def onD (y m d k : Int) : Int := least d (lastOf (onY y m k) (onM y m k))
/-- the number of the Day so many months on -/
def monN (n k : Int) : Int := num (onY (partY n) (partM n) k) (onM (partY n) (partM n) k) (onD (partY n) (partM n) (partD n) k)
theorem onM_in (y m k : Int) : 1 ≤ onM y m k ∧ onM y m k ≤ 12 := by unfold onM; omega
theorem on_valid {y m d : Int} (k : Int) (h : 1 ≤ d) : valid (onY y m k) (onM y m k) (onD y m d k) := by
  have h1 := onM_in y m k
  have h2 := last_pos (y := onY y m k) h1.1 h1.2
  refine ⟨h1.1, h1.2, ?_, ?_⟩
  · unfold onD least; split <;> omega
  · unfold onD least; split <;> omega
theorem mon_valid (n k : Int) : valid (onY (partY n) (partM n) k) (onM (partY n) (partM n) k) (onD (partY n) (partM n) (partD n) k) := on_valid k (parts_valid n).1.2.2.1
theorem mon_num {y m d : Int} (h : valid y m d) (k : Int) : monN (num y m d) k = num (onY y m k) (onM y m k) (onD y m d k) := by
  obtain ⟨a, b, c⟩ := num_parts h
  unfold monN
  rw [a, b, c]
theorem mon_parts {y m d : Int} (h : valid y m d) (k : Int) : partY (monN (num y m d) k) = onY y m k ∧ partM (monN (num y m d) k) = onM y m k ∧ partD (monN (num y m d) k) = onD y m d k := by
  rw [mon_num h]
  exact num_parts (on_valid k h.2.2.1)
/-- the law's own reckoning: month by month of the year -/
theorem due_on {y m k : Int} (h1 : 1 ≤ m) (h2 : m ≤ 12) : (if m + k % 12 > 12 then y + k / 12 + 1 else y + k / 12) = onY y m k ∧ (if m + k % 12 > 12 then m + k % 12 - 12 else m + k % 12) = onM y m k := by
  unfold onY onM there
  split <;> omega
/-! ### whole stretches, four hundred years on, months on and back -/
theorem num_day (y m d : Int) : num y m d = num y m 1 + (d - 1) := by unfold num aheadOf; omega
theorem num_cyc (y m d c : Int) : num (y + 400 * c) m d = num y m d + 146097 * c := by
  have e : since (y + 400 * c) m = since y m + 400 * c := by unfold since; omega
  unfold num
  rw [e]
  have q4 : (since y m + 400 * c) / 4 = since y m / 4 + 100 * c := by omega
  have q100 : (since y m + 400 * c) / 100 = since y m / 100 + 4 * c := by omega
  have q400 : (since y m + 400 * c) / 400 = since y m / 400 + c := by omega
  rw [q4, q100, q400]
  omega
theorem last_cyc (y m c : Int) : lastOf (y + 400 * c) m = lastOf y m := by unfold lastOf; rw [leap_cyc]
theorem valid_cyc {y m d : Int} (h : valid y m d) (c : Int) : valid (y + 400 * c) m d := ⟨h.1, h.2.1, h.2.2.1, by rw [last_cyc]; exact h.2.2.2⟩
theorem parts_cyc {y m d : Int} (h : valid y m d) (c : Int) : partY (num y m d + 146097 * c) = y + 400 * c ∧ partM (num y m d + 146097 * c) = m ∧ partD (num y m d + 146097 * c) = d := by
  rw [← num_cyc]
  exact num_parts (valid_cyc h c)
theorem first_valid {y m : Int} (h1 : 1 ≤ m) (h2 : m ≤ 12) : valid y m 1 := ⟨h1, h2, by decide, by have := (last_pos (y := y) h1 h2).1; omega⟩
theorem onD_first (y m k : Int) : onD y m 1 k = 1 := by
  have h := onM_in y m k
  have := (last_pos (y := onY y m k) h.1 h.2).1
  unfold onD least
  rw [if_neg (by omega)]
theorem onD_small {y m d k : Int} (h : d < 29) : onD y m d k = d := by
  have h1 := onM_in y m k
  have := (last_pos (y := onY y m k) h1.1 h1.2).1
  unfold onD least
  rw [if_neg (by omega)]
/-- the first of the month k months on -/
theorem mon_first {y m : Int} (h1 : 1 ≤ m) (h2 : m ≤ 12) (k : Int) : monN (num y m 1) k = num (onY y m k) (onM y m k) 1 := by
  rw [mon_num (first_valid h1 h2), onD_first]
theorem on_next (y m k : Int) : num (onY y m (k + 1)) (onM y m (k + 1)) 1 = num (onY y m k) (onM y m k) (lastOf (onY y m k) (onM y m k)) + 1 := by
  have h := onM_in y m k
  have hl := last_pos (y := onY y m k) h.1 h.2
  have a := (after_num (y := onY y m k) (m := onM y m k) (d := lastOf (onY y m k) (onM y m k)) ⟨h.1, h.2, by omega, Int.le_refl _⟩).2
  unfold aftY aftM aftD at a
  rw [if_neg (Int.lt_irrefl _), if_neg (Int.lt_irrefl _), if_neg (Int.lt_irrefl _)] at a
  rw [← a]
  by_cases hm : onM y m k < 12
  · rw [if_pos hm, if_pos hm]
    have e1 : onY y m (k + 1) = onY y m k := by unfold onY onM there at *; omega
    have e2 : onM y m (k + 1) = onM y m k + 1 := by unfold onM there at *; omega
    rw [e1, e2]
  · rw [if_neg hm, if_neg hm]
    have e1 : onY y m (k + 1) = onY y m k + 1 := by unfold onY onM there at *; omega
    have e2 : onM y m (k + 1) = 1 := by unfold onM there at *; omega
    rw [e1, e2]
theorem mon_between {y m d : Int} (h : valid y m d) (k : Int) : monN (num y m 1) k ≤ monN (num y m d) k ∧ monN (num y m d) k < monN (num y m 1) (k + 1) := by
  have hv := on_valid (y := y) (m := m) (d := d) k h.2.2.1
  rw [mon_first h.1 h.2.1, mon_first h.1 h.2.1, mon_num h, on_next]
  have a := num_day (onY y m k) (onM y m k) (onD y m d k)
  have b := num_day (onY y m k) (onM y m k) (lastOf (onY y m k) (onM y m k))
  have c := hv.2.2.1
  have e := hv.2.2.2
  omega
theorem mon_back {y m d : Int} (h : valid y m d) (hd : d < 29) (k : Int) : monN (monN (num y m d) k) (0 - k) = num y m d := by
  have e1 : onY (onY y m k) (onM y m k) (0 - k) = y := by
    have := h.1
    have := h.2.1
    unfold onY onM there; omega
  have e2 : onM (onY y m k) (onM y m k) (0 - k) = m := by
    have := h.1
    have := h.2.1
    unfold onY onM there; omega
  rw [mon_num h, onD_small hd]
  have hv := on_valid (y := y) (m := m) (d := d) k h.2.2.1
  rw [onD_small hd] at hv
  rw [mon_num hv, e1, e2, onD_small hd]
theorem mon_twice {y m d : Int} (h : valid y m d) (hd : d < 29) (k l : Int) : monN (monN (num y m d) k) l = monN (num y m d) (k + l) := by
  have e1 : onY (onY y m k) (onM y m k) l = onY y m (k + l) := by unfold onY onM there; omega
  have e2 : onM (onY y m k) (onM y m k) l = onM y m (k + l) := by unfold onY onM there; omega
  rw [mon_num h, mon_num h, onD_small hd, onD_small hd]
  have hv := on_valid (y := y) (m := m) (d := d) k h.2.2.1
  rw [onD_small hd] at hv
  rw [mon_num hv, e1, e2, onD_small hd]
end Cal
set_option Elab.async false
set_option linter.all false
set_option maxRecDepth 100000
set_option maxHeartbeats 2000000
namespace Lay
open PySem PySem.Spec PyProof.Rows L2
/-! ### == and != by an own __eq__, of anything on the right -/
section
variable {prog : Program} {w : World} {A : Around} {E : Value → Shared → Prop} {s : Shared} {K : PySem.W.Frag} {x C f : Addr} {ox : Obj} {od : Option Obj} {b tb : Value}
theorem objNe_entry (hu : A.units < cLine) (X : K.In s.heap) (I : PySem.W.InstAt s.heap x ox C od) (hs : PySem.W.findIn K (.ref C) "__eq__" = some (some (.ref f))) (hf : PySem.W.isFn K (.ref f) = true) {Q : Fin → Shared → Prop}
    (hcall : wpAny (model prog w) A (call (.ref f) [.ref x, b]) (fun v s' => ∃ r, v = .bool r ∧ Q (.done (.ret (.bool (!r)))) s') E s) :
    wpAny (model prog w) A (Builtin.«object.__ne__» ⟨[.ref x, b], []⟩) Q E s := by
  unfold Builtin.«object.__ne__»
  repeat (first
    | with_reducible refine wpAny_cRoomFor hu ?_
    | (refine wpAny_bind (m := callSpecialIfBound? (.ref x) (Str.ofString "__eq__") [b])
        (PySem.W.ifBound_K X I hs hf (wpAny_mono hcall (fun r s' hr => by
          obtain ⟨b, rfl, hq⟩ := hr
          repeat (first | exact hq | exact wpAny_pure hq | exact wpAny_truthy_bool hq | (refine wpAny_bind (m := truthy (.bool _)) (wpAny_truthy_bool ?_)) | wp_step)) fun _ _ e => e)))
    | wp_step)
theorem ifBound_objNe {M : Model} {args : List Value} {Q : Option Value → Shared → Prop} (X : K.In s.heap) (I : PySem.W.InstAt s.heap x ox C od) (hs : PySem.W.findIn K (.ref C) "__ne__" = some (some (.builtin "object.__ne__")))
    (h : wpAny M A (call (.builtin "object.__ne__") (.ref x :: args)) (fun v => Q (some v)) E s) : wpAny M A (callSpecialIfBound? (.ref x) "__ne__" args) Q E s := by
  simp only [callSpecialIfBound?, bindSpecialIfBound?]
  refine wpAny_holding (wpAny_bind (wpAny_bind (wpAny_bind (I.type.here ((PySem.W.looks_findIn X hs).here ?_)))))
  refine wpAny_bind (wpAny_askSetting (wpAny_ite ?_))
  have fin : wpAny M A (call (.builtin "object.__ne__") ([.ref x] ++ args) >>= fun v => pure (some v)) Q E s := wpAny_bind (wpAny_mono h (fun v s' h' => wpAny_pure h') fun _ _ h' => h')
  split
  · exact wpAny_bind (wpAny_of_eq (F.cmp_object.ne.bind _) (wpAny_pure (by exact fin)))
  · exact wpAny_tryCatch (wpAny_bind (wpAny_of_eq (F.cmp_object.ne.bind _) (wpAny_pure (by exact fin))))
theorem call_objNe {Q : Value → Shared → Prop} (hu : A.units + 1 < cLine) (X : K.In s.heap) (I : PySem.W.InstAt s.heap x ox C od) (hm : PySem.W.mroIn K C (.type "object") = some true)
    (hs : PySem.W.findIn K (.ref C) "__eq__" = some (some (.ref f))) (hf : PySem.W.isFn K (.ref f) = true)
    (hcall : wpAny (model prog w) A.in1 (call (.ref f) [.ref x, b]) (fun v s' => ∃ r, v = .bool r ∧ Q (.bool (!r)) s') E s) :
    wpAny (model prog w) A (call (.builtin "object.__ne__") [.ref x, b]) Q E s :=
  wpAny_call (codeAny_call_builtin F.cmp_object.ne.plain F.cmpEntry_ne (PySem.W.check_slot F.cmpKind_ne F.cmpSplit_ne (I.type.andThen (PySem.W.looks_mroIn X hm)) (F.cmpArgs_ne _ _)
    (objNe_entry (A := A.in1) hu X I hs hf hcall)))
theorem ne_own {Q : Value → Shared → Prop} (hu : A.units + 1 < cLine) (X : K.In s.heap) (I : PySem.W.InstAt s.heap x ox C od) (hb : PySem.W.Looks (model prog w) s.heap (typeOf b) tb) (hn : PySem.W.notFirst K C tb = true)
    (hm : PySem.W.mroIn K C (.type "object") = some true) (hN : PySem.W.findIn K (.ref C) "__ne__" = some (some (.builtin "object.__ne__")))
    (hs : PySem.W.findIn K (.ref C) "__eq__" = some (some (.ref f))) (hf : PySem.W.isFn K (.ref f) = true)
    (hcall : wpAny (model prog w) A.in1 (call (.ref f) [.ref x, b]) (fun v s' => ∃ r, v = .bool r ∧ Q (.bool (!r)) s') E s) :
    wpAny (model prog w) A (richCompare .NotEq (.ref x) b) Q E s := by
  have one : wpAny (model prog w) A (tryCompare (.ref x) "__ne__" b) (fun r s' => ∃ v, r = some v ∧ Q v s') E s := by
    unfold tryCompare
    refine wpAny_bind (ifBound_objNe X I hN (call_objNe hu X I hm hs hf (wpAny_mono hcall (fun v s' hv => ?_) fun _ _ e => e)))
    obtain ⟨r, rfl, q⟩ := hv
    exact ⟨r, rfl, wpAny_pure ⟨_, rfl, q⟩⟩
  unfold richCompare
  simp only [oneThing_ref]
  refine wpAny_holding (wpAny_bind (wpAny_cRoomFor (Nat.lt_of_succ_lt hu) ?_))
  rw [cmpInfo_NotEq]
  dsimp only
  refine wpAny_bind (I.type.here (wpAny_bind (hb.here ?_)))
  split
  · rename_i q
    have e : PySem.W.subIn K tb (.ref C) = some false := by
      rcases Bool.or_eq_true_iff.mp hn with e | e
      · rw [beq_iff_eq.mp e] at q; simp at q
      · exact beq_iff_eq.mp e
    refine wpAny_bind ((PySem.W.looks_subIn X e).here ?_)
    simp only [Bool.false_eq_true, if_false]
    refine wpAny_bind (wpAny_mono one (fun r s' z => ?_) fun _ _ e => e)
    obtain ⟨v, rfl, hq⟩ := z
    exact wpAny_pure hq
  · refine wpAny_bind (wpAny_pure ?_)
    simp only [Bool.false_eq_true, if_false]
    refine wpAny_bind (wpAny_mono one (fun r s' z => ?_) fun _ _ e => e)
    obtain ⟨v, rfl, hq⟩ := z
    exact wpAny_pure hq
end
/-- what an own == asks and tells: x an instance of C, y of a type that does not go first, then the promise of __eq__ -/
def rOwn (K : PySem.W.Frag) (C : Addr) (sp : Sp) (E : XK) (g : Bool → Bool) : R2 := fun x y H Q => ∃ a dx fs t, x = .ref a ∧ H a = some (.ins C dx fs) ∧ TyX K H y t ∧ PySem.W.notFirst K C t = true ∧ sp [x, y] H (fun v H' => ∃ b, v = .bl b ∧ Q (.bl (g b)) H') E
section
variable {X : Cx} {CX : CXT} {n : Nat} {C f : Addr} {fd : FuncData} {ps : List Str} {sp : Sp} {E : XK}
theorem run_own (F : FnOk X.prog X.w X.K X.mg X.base CX n f fd ps sp) (hb : Binds X.K fd ps []) (hx : Passes CX X E) {A : Around} (hr : Room n A) (hfr : A.frames = X.A.frames) {pins : List (Addr × Obj)} {σ : L2.St} {H : Hp} {s : Shared} {x y : V} {u v : Value} {R : V → Hp → Prop}
    (I : Inv X pins σ H s) (rx : RelV x u) (ry : RelV y v) (hsp : sp [x, y] H R E) : wpAny (model X.prog X.w) A (call (.ref f) [u, v]) (EP X pins σ R) X.xe s := by
  have e0 : Env0 X.prog X.w X.K X.mg X.base A X.stack s H := by
    have e := I.env0
    exact ⟨by rw [hfr]; exact e.frames, e.mod, e.bs, e.bsz, e.funs, e.frf, e.hok, e.bare⟩
  have hl := F.len _ _ _ _ hsp
  have r2 : Vals [x, y] [u, v] := .cons rx (.cons ry .nil)
  refine wpAny_call (codeAny_mono (F.run A X.stack s H ⟨[u, v], []⟩ [u, v] [x, y] _ E hr e0 (by
    have := hb s [u, v] I.kIn (by simpa using hl)
    simpa using this) r2 hsp) fun r s' hq => ?_)
  cases r with
  | error e => exact hx pins σ H s e s' I hq
  | ok fl =>
    cases fl with
    | ret w => exact I.after hq
    | next => exact False.elim hq
    | brk => exact False.elim hq
    | cont => exact False.elim hq
theorem op_ownEq (F : FnOk X.prog X.w X.K X.mg X.base CX n f fd ps sp) (hs : PySem.W.findIn X.K (.ref C) "__eq__" = some (some (.ref f))) (hf : PySem.W.isFn X.K (.ref f) = true) (hb : Binds X.K fd ps []) (hx : Passes CX X E) (hr : Room n X.A) :
    OpR X (compareOp .Eq) (rOwn X.K C sp E id) := by
  intro pins s σ H x y v u Q I rx ry hq
  obtain ⟨a, dx, fs, t, rfl, ha, ty, hn, hsp⟩ := hq
  cases rx
  obtain ⟨mA, J, _⟩ := ins_get I.hok ha
  obtain ⟨od, J, _⟩ := J.look
  obtain ⟨m, hF⟩ := I.fr
  obtain ⟨P, Z, p, _⟩ := kit_of I ry ty
  show wpAny (model X.prog X.w) X.A (richCompare .Eq (.ref a) u) (EP X pins σ Q) X.xe s
  refine PySem.W.cmp_K (op := .Eq) (tb := t) hr.units0 hF I.ok.mod.kin J (Z.ty _ _ I.kIn p) hn hs hf ?_
  refine wpAny_mono (run_own (x := V.ref a) (u := Value.ref a) F hb hx hr rfl I rfl ry hsp) (fun r s' z => ?_) fun _ _ e => e
  obtain ⟨z1, H', I', rz, b, rfl, q⟩ := z
  cases rz
  exact ⟨.bl b, H', I', rfl, q⟩
theorem op_ownNe (F : FnOk X.prog X.w X.K X.mg X.base CX n f fd ps sp) (hs : PySem.W.findIn X.K (.ref C) "__eq__" = some (some (.ref f))) (hf : PySem.W.isFn X.K (.ref f) = true) (hN : PySem.W.findIn X.K (.ref C) "__ne__" = some (some (.builtin "object.__ne__")))
    (hm : PySem.W.mroIn X.K C (.type "object") = some true) (hb : Binds X.K fd ps []) (hx : Passes CX X E) (hr : Room (n + 1) X.A) :
    OpR X (compareOp .NotEq) (rOwn X.K C sp E not) := by
  intro pins s σ H x y v u Q I rx ry hq
  obtain ⟨a, dx, fs, t, rfl, ha, ty, hn, hsp⟩ := hq
  cases rx
  obtain ⟨mA, J, _⟩ := ins_get I.hok ha
  obtain ⟨od, J, _⟩ := J.look
  obtain ⟨P, Z, p, _⟩ := kit_of I ry ty
  show wpAny (model X.prog X.w) X.A (richCompare .NotEq (.ref a) u) (EP X pins σ Q) X.xe s
  refine ne_own (hu_of hr) I.kIn J (Z.ty _ _ I.kIn p) hn hm hN hs hf ?_
  refine wpAny_mono (run_own (x := V.ref a) (u := Value.ref a) F hb hx hr.in1 rfl I rfl ry hsp) (fun r s' z => ?_) fun _ _ e => e
  obtain ⟨z1, H', I', rz, b, rfl, q⟩ := z
  cases rz
  exact ⟨b, rfl, .bl (!b), H', I', rfl, q⟩
end
/-! ### powers of great numbers -/
section
variable {X : Cx}
def CPowW (i j : Int) : Prop := 0 ≤ j ∧ (Builtin.Int.intBits i : Int) * j ≤ 2 ^ 27
theorem op_powW : OpR X (binaryOp .Pow) (rI CPowW fun i j => .int (i ^ j.toNat)) := opI fun _ _ _ _ _ _ _ hc q => pow_int hc.1 hc.2 q
end
/-! ### f(k = v, ..) -/
section
variable {X : Cx} {CX : CXT} {k n : Nat} {f : Addr} {fd : FuncData} {ps ks : List Str} {sp : Sp} {E : XK} {x : Str} {p pos : Pos} {kws : List Keyword} {tk : TA} {g : List Value → List Value → List Value} {gV : List V → List V → List V}
theorem pe_callK0 (F : FnOk X.prog X.w X.K X.mg X.base CX k f fd ps sp) (hr : Room k X.A) (hg : Gl X x) (hm : X.mg x = some (.ref f)) (hk : PySem.W.keepIn X.K (.ref f) = true) (hb : KBn X.K fd ps 0 ks g gV) (hx : Passes CX X E) (hkw : PK X kws tk)
    (hall : (backToKw pos (keywordEach kws X.env)).all (·.1.isSome) = true := by rfl) (hks : (backToKw pos (keywordEach kws X.env)).filterMap (·.1) = ks := by rfl) (hdb : (x == ("__debug__" : Str)) = false := by decide)
    (hpl : ((backTo pos (starEach [] X.env)).any (·.1) || (backToKw pos (keywordEach kws X.env)).any (·.1.isNone)) = false := by rfl) :
    PE X (.Call (.Name x p) [] kws pos) (tCallN 0 ks.length sp gV E tNil tk) := by
  refine ⟨fun pins s σ H Q I h => ?_⟩
  refine wpAny_Call_Name_kw (ld_glob I hg hm ?_ hdb)
  refine PySem.W.callWith_KW0 (h₀ := X.base) I.ok.mod.kin hk hall ?_ hpl
  refine thn (hkw.run pos pins s σ H _ I h) fun ws s2 ⟨zs, H2, I2, rz, l1, l2, q2⟩ => ⟨I2.kIn, ?_⟩
  rw [hks]
  exact run_fnN (us := []) (vs := []) F hr hb hx I2 .nil rz rfl l2 q2
end
section
variable {K : PySem.W.Frag}
/-- how a call by names binds (no defaults): g puts the values in the parameters' order -/
theorem Fun_kbn {x qual : Str} {st : Stmt} {f : Addr} {fd : FuncData} {ps : List Str} (F : Fun K x qual st f fd) (n : Nat) (ks : List Str) (g : {α : Type} → List α → List α → List α)
    (hrel : ∀ {vs zs : List V} {us ws : List Value}, Vals vs us → Vals zs ws → Vals (g vs zs) (g us ws))
    (h : ∀ (kV doc pm : Value) (an : Option Addr) (cdv ct : Value) (us ws : List Value), us.length = n → ws.length = ks.length → bindArgs (PySem.W.fnOf x qual (defArgs st) (defBody st) (defScope st) .none kV doc pm an cdv ct) ⟨us, ks.zip ws⟩ = pure (ps.zip (g us ws))) :
    KBn K fd ps n ks (fun us ws => g us ws) (fun vs zs => g vs zs) := by
  obtain ⟨oc, od, kV, doc, pm, an, cdv, ct, osl, rfl, lk, hcd⟩ := F.ex
  exact ⟨fun s us ws _ l1 l2 => .of_eq (h kV doc pm an cdv ct us ws l1 l2), fun r1 r2 => hrel r1 r2⟩
end
end Lay
set_option Elab.async false
set_option linter.all false
set_option maxRecDepth 100000
set_option maxHeartbeats 2000000
namespace K04
open PySem L2 Lay
def topS (i : Nat) : Stmt := PySem.Challenge.pw_askford_k04_whole_calendar.main.body.getD i (.Pass ⟨0, 0, 0, 0⟩)
abbrev s_NoDay___init__ : Stmt := inClass (topS 1) 0
theorem sc_NoDay___init__ : FnScope ["self", "parts"] ["self", "parts"] (defScope s_NoDay___init__) := ⟨rfl, rfl, rfl, by decide +kernel, rfl, by decide +kernel, by decide +kernel⟩
abbrev s_Day___init__ : Stmt := inClass (topS 5) 0
theorem sc_Day___init__ : FnScope ["self", "number"] ["self", "number"] (defScope s_Day___init__) := ⟨rfl, rfl, rfl, by decide +kernel, rfl, by decide +kernel, by decide +kernel⟩
abbrev s_Day___eq__ : Stmt := inClass (topS 5) 1
theorem sc_Day___eq__ : FnScope ["self", "other"] ["self", "other"] (defScope s_Day___eq__) := ⟨rfl, rfl, rfl, by decide +kernel, rfl, by decide +kernel, by decide +kernel⟩
abbrev s_Day___repr__ : Stmt := inClass (topS 5) 2
theorem sc_Day___repr__ : FnScope ["self"] ["self"] (defScope s_Day___repr__) := ⟨rfl, rfl, rfl, by decide +kernel, rfl, by decide +kernel, by decide +kernel⟩
abbrev s_is_leap : Stmt := topS 6
theorem sc_is_leap : FnScope ["year"] ["year"] (defScope s_is_leap) := ⟨rfl, rfl, rfl, by decide +kernel, rfl, by decide +kernel, by decide +kernel⟩
abbrev s_last_of : Stmt := topS 7
theorem sc_last_of : FnScope ["year", "month"] ["year", "month"] (defScope s_last_of) := ⟨rfl, rfl, rfl, by decide +kernel, rfl, by decide +kernel, by decide +kernel⟩
abbrev s_day_of : Stmt := topS 8
theorem sc_day_of : FnScope ["year", "month", "day", "since", "ahead"] ["year", "month", "day"] (defScope s_day_of) := ⟨rfl, rfl, rfl, by decide +kernel, rfl, by decide +kernel, by decide +kernel⟩
abbrev s_parts_of : Stmt := topS 9
theorem sc_parts_of : FnScope ["day", "cycle", "left", "year", "ahead", "turn", "month"] ["day"] (defScope s_parts_of) := ⟨rfl, rfl, rfl, by decide +kernel, rfl, by decide +kernel, by decide +kernel⟩
abbrev s_months_on : Stmt := topS 10
theorem sc_months_on : FnScope ["day", "many", "year", "month", "place", "there"] ["day", "many"] (defScope s_months_on) := ⟨rfl, rfl, rfl, by decide +kernel, rfl, by decide +kernel, by decide +kernel⟩
abbrev s__law_draws : Stmt := topS 12
theorem sc__law_draws : FnScope ["_law_cell"] ["_law_cell"] (defScope s__law_draws) := ⟨rfl, rfl, rfl, by decide +kernel, rfl, by decide +kernel, by decide +kernel⟩
abbrev s__law_next : Stmt := topS 13
theorem sc__law_next : FnScope ["_law_draws_here", "_law_k", "_law_number"] ["_law_draws_here"] (defScope s__law_next) := ⟨rfl, rfl, rfl, by decide +kernel, rfl, by decide +kernel, by decide +kernel⟩
abbrev s__law_length : Stmt := topS 14
theorem sc__law_length : FnScope ["_law_year_here", "_law_month", "_law_leap"] ["_law_year_here", "_law_month"] (defScope s__law_length) := ⟨rfl, rfl, rfl, by decide +kernel, rfl, by decide +kernel, by decide +kernel⟩
abbrev s__law_year : Stmt := topS 15
theorem sc__law_year : FnScope ["_law_draws_here", "_law_pick", "_law_far"] ["_law_draws_here"] (defScope s__law_year) := ⟨rfl, rfl, rfl, by decide +kernel, rfl, by decide +kernel, by decide +kernel⟩
abbrev s__law_date : Stmt := topS 16
theorem sc__law_date : FnScope ["_law_draws_here", "_law_year_here", "_law_pick", "_law_month", "_law_length_here"] ["_law_draws_here"] (defScope s__law_date) := ⟨rfl, rfl, rfl, by decide +kernel, rfl, by decide +kernel, by decide +kernel⟩
abbrev s__law_after : Stmt := topS 17
theorem sc__law_after : FnScope ["_law_date_here", "_law_year_here", "_law_month", "_law_day"] ["_law_date_here"] (defScope s__law_after) := ⟨rfl, rfl, rfl, by decide +kernel, rfl, by decide +kernel, by decide +kernel⟩
abbrev s__law_stretch_right : Stmt := topS 18
theorem sc__law_stretch_right : FnScope ["_law_date_here", "_law_many", "_law_day", "_law_turn"] ["_law_date_here", "_law_many"] (defScope s__law_stretch_right) := ⟨rfl, rfl, rfl, by decide +kernel, rfl, by decide +kernel, by decide +kernel⟩
abbrev s__law_months_right : Stmt := topS 19
theorem sc__law_months_right : FnScope ["_law_date_here", "_law_one", "_law_two", "_law_day", "_law_there", "_law_first"] ["_law_date_here", "_law_one", "_law_two"] (defScope s__law_months_right) := ⟨rfl, rfl, rfl, by decide +kernel, rfl, by decide +kernel, by decide +kernel⟩
abbrev s_law : Stmt := topS 20
theorem sc_law : FnScope ["_law_script", "_law_cell", "_law_draws_here", "_law_date_here", "_law_cycles", "_law_day", "_law_turn", "_law_one", "_law_two"] ["_law_script"] (defScope s_law) := ⟨rfl, rfl, rfl, by decide +kernel, rfl, by decide +kernel, by decide +kernel⟩
structure Tx (K : PySem.W.Frag) (mg : Str → Option Value) where
  C_Day : Addr
  g_Day : mg "Day" = some (.ref C_Day)
  cl_Day : Cls K C_Day
  n_Day_number : NoAttr K C_Day "number"
  f_Day___init__ : Addr
  fd_Day___init__ : FuncData
  F_Day___init__ : Fun K "__init__" "Day.__init__" s_Day___init__ f_Day___init__ fd_Day___init__
  b_Day___init__ : Binds K fd_Day___init__ ["self", "number"] []
  M_Day : Mk K C_Day f_Day___init__
  f_Day___eq__ : Addr
  fd_Day___eq__ : FuncData
  F_Day___eq__ : Fun K "__eq__" "Day.__eq__" s_Day___eq__ f_Day___eq__ fd_Day___eq__
  b_Day___eq__ : Binds K fd_Day___eq__ ["self", "other"] []
  m_Day___eq__ : Meth K C_Day "__eq__" f_Day___eq__
  f_is_leap : Addr
  fd_is_leap : FuncData
  F_is_leap : Fun K "is_leap" "is_leap" s_is_leap f_is_leap fd_is_leap
  b_is_leap : Binds K fd_is_leap ["year"] []
  g_is_leap : mg "is_leap" = some (.ref f_is_leap)
  f_last_of : Addr
  fd_last_of : FuncData
  F_last_of : Fun K "last_of" "last_of" s_last_of f_last_of fd_last_of
  b_last_of : Binds K fd_last_of ["year", "month"] []
  g_last_of : mg "last_of" = some (.ref f_last_of)
  f_day_of : Addr
  fd_day_of : FuncData
  F_day_of : Fun K "day_of" "day_of" s_day_of f_day_of fd_day_of
  b_day_of : Binds K fd_day_of ["year", "month", "day"] []
  g_day_of : mg "day_of" = some (.ref f_day_of)
  f_parts_of : Addr
  fd_parts_of : FuncData
  F_parts_of : Fun K "parts_of" "parts_of" s_parts_of f_parts_of fd_parts_of
  b_parts_of : Binds K fd_parts_of ["day"] []
  g_parts_of : mg "parts_of" = some (.ref f_parts_of)
  f_months_on : Addr
  fd_months_on : FuncData
  F_months_on : Fun K "months_on" "months_on" s_months_on f_months_on fd_months_on
  b_months_on : Binds K fd_months_on ["day", "many"] []
  g_months_on : mg "months_on" = some (.ref f_months_on)
  f__law_draws : Addr
  fd__law_draws : FuncData
  F__law_draws : Fun K "_law_draws" "_law_draws" s__law_draws f__law_draws fd__law_draws
  b__law_draws : Binds K fd__law_draws ["_law_cell"] []
  g__law_draws : mg "_law_draws" = some (.ref f__law_draws)
  f__law_next : Addr
  fd__law_next : FuncData
  F__law_next : Fun K "_law_next" "_law_next" s__law_next f__law_next fd__law_next
  b__law_next : Binds K fd__law_next ["_law_draws_here"] []
  g__law_next : mg "_law_next" = some (.ref f__law_next)
  f__law_length : Addr
  fd__law_length : FuncData
  F__law_length : Fun K "_law_length" "_law_length" s__law_length f__law_length fd__law_length
  b__law_length : Binds K fd__law_length ["_law_year_here", "_law_month"] []
  g__law_length : mg "_law_length" = some (.ref f__law_length)
  f__law_year : Addr
  fd__law_year : FuncData
  F__law_year : Fun K "_law_year" "_law_year" s__law_year f__law_year fd__law_year
  b__law_year : Binds K fd__law_year ["_law_draws_here"] []
  g__law_year : mg "_law_year" = some (.ref f__law_year)
  f__law_date : Addr
  fd__law_date : FuncData
  F__law_date : Fun K "_law_date" "_law_date" s__law_date f__law_date fd__law_date
  b__law_date : Binds K fd__law_date ["_law_draws_here"] []
  g__law_date : mg "_law_date" = some (.ref f__law_date)
  f__law_after : Addr
  fd__law_after : FuncData
  F__law_after : Fun K "_law_after" "_law_after" s__law_after f__law_after fd__law_after
  b__law_after : Binds K fd__law_after ["_law_date_here"] []
  g__law_after : mg "_law_after" = some (.ref f__law_after)
  f__law_stretch_right : Addr
  fd__law_stretch_right : FuncData
  F__law_stretch_right : Fun K "_law_stretch_right" "_law_stretch_right" s__law_stretch_right f__law_stretch_right fd__law_stretch_right
  b__law_stretch_right : Binds K fd__law_stretch_right ["_law_date_here", "_law_many"] []
  g__law_stretch_right : mg "_law_stretch_right" = some (.ref f__law_stretch_right)
  f__law_months_right : Addr
  fd__law_months_right : FuncData
  F__law_months_right : Fun K "_law_months_right" "_law_months_right" s__law_months_right f__law_months_right fd__law_months_right
  b__law_months_right : Binds K fd__law_months_right ["_law_date_here", "_law_one", "_law_two"] []
  g__law_months_right : mg "_law_months_right" = some (.ref f__law_months_right)
  f_law : Addr
  fd_law : FuncData
  F_law : Fun K "law" "law" s_law f_law fd_law
  b_law : Binds K fd_law ["_law_script"] []
  g_law : mg "law" = some (.ref f_law)
  t_CYCLE : Tok
  g_CYCLE : mg "CYCLE" = some (.int 146097 t_CYCLE)
  a_LENGTHS : Addr
  g_LENGTHS : mg "LENGTHS" = some (.ref a_LENGTHS)
  q_LENGTHS : ∀ H, SqT K H a_LENGTHS [.int 31, .int 28, .int 31, .int 30, .int 31, .int 30, .int 31, .int 31, .int 30, .int 31, .int 30, .int 31]
  z_isinstance : mg "isinstance" = none
  z_int : mg "int" = none
  z_divmod : mg "divmod" = none
  z_min : mg "min" = none
  z_max : mg "max" = none
  z_range : mg "range" = none
  z_abs : mg "abs" = none
  e_cls : PySem.W.findIn K (.ref C_Day) "__class__" = some (some (.builtin "object.__class__"))
  e_get : PySem.W.specialIn K (.builtin "object.__class__") "__get__" = some (some (.builtin "getset_descriptor.__get__"))
  e_tak : PySem.W.takesIn K (.builtin "object.__class__") = some true
  e_mro_Day : PySem.W.mroIn K C_Day (.type "object") = some true
  e_ne_Day : PySem.W.findIn K (.ref C_Day) "__ne__" = some (some (.builtin "object.__ne__"))
theorem same_upd {H : Hp} {p : Addr} {o : HO} (h : H p = none) : Same H (upd H p o) := fun b x e => by
  rw [upd_ne (ne_of_none e h)]
  exact e
theorem same_mk {H : Hp} {x dx : Addr} {o1 o2 o3 : HO} (hx : H x = none) (hd : H dx = none) : Same H (upd (upd (upd H dx o1) x o2) x o3) := fun b z e => by
  rw [upd_ne (ne_of_none e hx), upd_ne (ne_of_none e hx), upd_ne (ne_of_none e hd)]
  exact e
theorem dV (a b : Int) : decide (V.int a = V.int b) = decide (a = b) := by
  by_cases h : a = b
  · rw [decide_eq_true h, decide_eq_true (congrArg V.int h)]
  · rw [decide_eq_false h, decide_eq_false fun e => h (V.int.inj e)]
theorem andV {c d : Bool} {Q : VK} {H : Hp} {A : Prop} (q : Q (.bl (c && d)) H) (h : c = true → Q (.bl d) H → A) : if c = true then A else Q (.bl false) H := by
  cases c with
  | true => exact iteT (h rfl q)
  | false => exact iteF q
theorem orV {c d : Bool} {Q : VK} {H : Hp} {A : Prop} (q : Q (.bl (c || d)) H) (h : c = false → Q (.bl d) H → A) : if c = true then Q (.bl true) H else A := by
  cases c with
  | true => exact iteT q
  | false => exact iteF (h rfl q)
/-- a Day of the number n stands at p -/
def DayAt (C : Addr) (H : Hp) (p : Addr) (n : Int) : Prop := ∃ dx, H p = some (.ins C dx [("number", .int n)])
theorem DayAt.same {C : Addr} {H H' : Hp} {p : Addr} {n : Int} (d : DayAt C H p n) (e : Same H H') : DayAt C H' p n := let ⟨dx, h⟩ := d; ⟨dx, e _ _ h⟩
section
variable {P : Program} {w : World} {K : PySem.W.Frag} {mg : Str → Option Value} {base : Heap} (T : Tx K mg)
/-! ### Day -/
def sp_init (C : Addr) : Sp := fun vs H Q _ => ∃ (p dx : Addr) (n : Int), vs = [.ref p, .int n] ∧ H p = some (.ins C dx []) ∧ Q .non (upd H p (.ins C dx [("number", .int n)]))
theorem G_Day___init__ : FnOk P w K mg base CX0 1 T.f_Day___init__ T.fd_Day___init__ ["self", "number"] (sp_init T.C_Day) := by
  refine T.F_Day___init__.ok sc_Day___init__ (fun vs H Q E h => ?_) (fun cdv A outer s H vs Q E hr h => ?_)
  · obtain ⟨p, dx, n, rfl, _⟩ := h
    rfl
  · obtain ⟨p, dx, n, rfl, hp, q⟩ := h
    refine ⟨_, (pss_one (ps_fld (pv 0) (pv 1) rfl)), ?_⟩
    exact ⟨_, rfl, _, rfl, p, _, dx, _, rfl, hp, T.cl_Day, T.n_Day_number, (by show 0 < 1000; decide), q⟩
/-- what == of a Day tells -/
def sp_eq (K : PySem.W.Frag) (C : Addr) : Sp := fun vs H Q _ => ∃ (p : Addr) (n : Int) (y : V), vs = [.ref p, y] ∧ DayAt C H p n ∧
  ((∃ b m, y = .ref b ∧ DayAt C H b m ∧ Q (.bl (decide (n = m))) H) ∨ (∃ t, TyX K H y t ∧ PySem.W.kitOne K t (.ref C) = some false ∧ Q (.bl false) H))
theorem G_Day___eq__ : FnOk P w K mg base CX0 1 T.f_Day___eq__ T.fd_Day___eq__ ["self", "other"] (sp_eq K T.C_Day) := by
  refine T.F_Day___eq__.ok sc_Day___eq__ (fun vs H Q E h => ?_) (fun cdv A outer s H vs Q E hr h => ?_)
  · obtain ⟨p, n, y, rfl, _⟩ := h
    rfl
  · obtain ⟨p, n, y, rfl, ⟨dx, hp⟩, h⟩ := h
    refine ⟨_, (pss_one (ps_ret (pe_and (pe_callB call_isi (by rfl) T.z_isinstance (by decide +kernel) (pa_cons (pv 1) (pa_cons (pe_glob (v := .ref T.C_Day) (by rfl) T.g_Day rfl) pa_nil))) (pe_one (pe_cmpR op_eq (pe_fld (pv 0) rfl) (pe_fld (pv 1) rfl) (nomark _)))))), ?_⟩
    rcases h with ⟨b, m, rfl, ⟨dy, hb⟩, q⟩ | ⟨t, ty, e, q⟩
    · refine ⟨_, rfl, _, _, _, _, _, rfl, ClsV.own _, .base (.ins hb T.cl_Day T.e_cls T.e_get T.e_tak T.e_mro_Day), (if_pos (by simp) : PySem.W.kitOne K (.ref T.C_Day) (.ref T.C_Day) = some true), _, rfl, iteT ?_⟩
      refine ⟨_, rfl, p, _, dx, _, _, rfl, hp, T.cl_Day, T.n_Day_number, rfl, _, rfl, b, _, dy, _, _, rfl, hb, T.cl_Day, T.n_Day_number, rfl, rfl, ?_⟩
      rw [dV]
      exact q
    · exact ⟨_, rfl, _, _, _, _, _, rfl, ClsV.own _, ty, e, _, rfl, iteF q⟩
def sp_is_leap : Sp := fun vs H Q _ => ∃ y : Int, vs = [.int y] ∧ Q (.bl (Cal.leap y)) H
theorem G_is_leap : FnOk P w K mg base CX0 1 T.f_is_leap T.fd_is_leap ["year"] sp_is_leap := by
  refine T.F_is_leap.ok sc_is_leap (fun vs H Q E h => ?_) (fun cdv A outer s H vs Q E hr h => ?_)
  · obtain ⟨y, rfl, _⟩ := h
    rfl
  · obtain ⟨y, rfl, q⟩ := h
    refine ⟨_, (pss_one (ps_ret (pe_and (pe_cmpR op_eq (pe_op op_mod (pv 0) pe_int) pe_int (nomark _)) (pe_one (pe_or (pe_cmpR op_ne (pe_op op_mod (pv 0) pe_int) pe_int (nomark _)) (pe_one (pe_cmpR op_eq (pe_op op_mod (pv 0) pe_int) pe_int (nomark _)))))))), ?_⟩
    refine ⟨_, rfl, _, _, rfl, rfl, (by show (0 : Int) < 4; decide), rfl, _, rfl, andV (d := decide (¬ y % 100 = 0) || decide (y % 400 = 0)) (by rw [dV]; exact q) fun _ q1 => ?_⟩
    refine ⟨_, rfl, _, _, rfl, rfl, (by show (0 : Int) < 100; decide), rfl, _, rfl, orV (d := decide (y % 400 = 0)) (by rw [dV, ← decide_not]; exact q1) fun _ q2 => ?_⟩
    refine ⟨_, rfl, _, _, rfl, rfl, (by show (0 : Int) < 400; decide), rfl, ?_⟩
    rw [dV]
    exact q2
theorem lens_at {m : Int} (h1 : 1 ≤ m) (h2 : m ≤ 12) : atI (Cal.lens.map V.int) (m - 1) = some (.int (Cal.lens.getD (m - 1).toNat 0)) := by
  rcases Cal.month_cases h1 h2 with rfl | rfl | rfl | rfl | rfl | rfl | rfl | rfl | rfl | rfl | rfl | rfl <;> decide +kernel
def sp_last_of : Sp := fun vs H Q _ => ∃ y m : Int, vs = [.int y, .int m] ∧ 1 ≤ m ∧ m ≤ 12 ∧ Q (.int (Cal.lastOf y m)) H
theorem G_last_of : FnOk P w K mg base CX0 2 T.f_last_of T.fd_last_of ["year", "month"] sp_last_of := by
  have G_is_leap := G_is_leap (P := P) (w := w) (base := base) T
  refine T.F_last_of.ok sc_last_of (fun vs H Q E h => ?_) (fun cdv A outer s H vs Q E hr h => ?_)
  · obtain ⟨y, m, rfl, _⟩ := h
    rfl
  · obtain ⟨y, m, rfl, h1, h2, q⟩ := h
    refine ⟨_, (pss_one (ps_ret (pe_op op_add (pe_ix ix_tup (pe_glob (v := .ref T.a_LENGTHS) (by rfl) T.g_LENGTHS rfl) (pe_op op_sub (pv 1) pe_int) (fun _ _ => rfl)) (pe_callTy call_int1 (by rfl) T.z_int (by decide +kernel) (pa_cons (pe_and (pe_cmpR op_eq (pv 1) pe_int (nomark _)) (pe_one (pe_call G_is_leap (hr.mono (by decide)) (by rfl) T.g_is_leap T.F_is_leap.kp T.b_is_leap .nil pass0 (pa_cons (pv 0) pa_nil)))) pa_nil))))), ?_⟩
    refine ⟨_, rfl, _, _, rfl, rfl, _, _, _, _, rfl, rfl, T.q_LENGTHS H, lens_at h1 h2, _, rfl, rfl, _, rfl, ?_⟩
    rw [dV]
    unfold Cal.lastOf at q
    cases hc : decide (m = 2) with
    | true =>
      rw [hc] at q
      exact iteT ⟨_, rfl, y, rfl, .inr ⟨_, rfl, _, _, rfl, rfl, q⟩⟩
    | false =>
      rw [hc] at q
      exact iteF (.inr ⟨_, rfl, _, _, rfl, rfl, q⟩)
/-- day_of of a date that there is -/
def sp_day_of (C : Addr) : Sp := fun vs H Q _ => ∃ y m d : Int, vs = [.int y, .int m, .int d] ∧ Cal.valid y m d ∧ ∀ p H', H p = none → Same H H' → DayAt C H' p (Cal.num y m d) → Q (.ref p) H'
theorem G_day_of : FnOk P w K mg base CX0 3 T.f_day_of T.fd_day_of ["year", "month", "day"] (sp_day_of T.C_Day) := by
  have G_last_of := G_last_of (P := P) (w := w) (base := base) T
  have G_Day___init__ := G_Day___init__ (P := P) (w := w) (base := base) T
  refine T.F_day_of.ok sc_day_of (fun vs H Q E h => ?_) (fun cdv A outer s H vs Q E hr h => ?_)
  · obtain ⟨y, m, d, rfl, _⟩ := h
    rfl
  · obtain ⟨y, m, d, rfl, hv, q⟩ := h
    obtain ⟨h1, h2, h3, h4⟩ := id hv
    refine ⟨_, (pss_cons (ps_if (PW.pt (pw_or (pt_not (pt_chain op_le op_le pe_int (pv 1) pe_int)) (pw_or1 (pt_not (pt_chain op_le op_le pe_int (pv 2) (pe_call G_last_of (hr.mono (by decide)) (by rfl) T.g_last_of T.F_last_of.kp T.b_last_of .nil pass0 (pa_cons (pv 0) (pa_cons (pv 1) pa_nil)))))))) (pss_one ps_never) pss_nil)
    (pss_cons (ps_set (i := 3) sc_day_of.nd rfl (.inl rfl) (pe_op op_sub (pv 0) (pe_callTy call_int1 (by rfl) T.z_int (by decide +kernel) (pa_cons (pe_cmpR op_lt (pv 1) pe_int (nomark _)) pa_nil))))
    (pss_cons (ps_set (i := 4) sc_day_of.nd rfl (.inl rfl) (pe_op op_sub (pe_op op_add (pe_op op_fdiv (pe_op op_add (pe_op op_mul pe_int (pe_op op_mod (pe_op op_add (pv 1) pe_int) pe_int)) pe_int) pe_int) (pv 2)) pe_int))
    (pss_one (ps_ret (pe_make T.M_Day G_Day___init__ (hr.mono (by decide)) (by rfl) T.g_Day T.b_Day___init__ .nil pass0 (pa_cons (pe_op op_add (pe_op op_add (pe_op op_sub (pe_op op_add (pe_op op_mul pe_int (pv 3)) (pe_op op_fdiv (pv 3) pe_int)) (pe_op op_fdiv (pv 3) pe_int)) (pe_op op_fdiv (pv 3) pe_int)) (pv 4)) pa_nil))))))), ?_⟩
    refine ⟨_, rfl, _, _, rfl, rfl, _, rfl, ?_⟩
    rw [decide_eq_true h1]
    refine iteT ⟨_, _, rfl, rfl, _, rfl, ?_⟩
    rw [decide_eq_true h2]
    refine iteF ⟨_, rfl, _, _, rfl, rfl, _, rfl, ?_⟩
    rw [decide_eq_true h3]
    refine iteT ⟨_, rfl, _, rfl, y, m, rfl, h1, h2, _, _, rfl, rfl, _, rfl, ?_⟩
    rw [decide_eq_true h4]
    refine iteF ?_
    refine ⟨_, rfl, _, rfl, _, _, rfl, rfl, .inr ⟨_, rfl, _, _, rfl, rfl, ?_⟩⟩
    refine ⟨_, rfl, _, _, rfl, rfl, _, _, rfl, rfl, (by show (0 : Int) < 12; decide), _, _, rfl, rfl, .inl ⟨by decide, by decide⟩, _, _, rfl, rfl, _, _, rfl, rfl, ⟨by decide, by decide⟩, _, rfl, _, _, rfl, rfl, _, _, rfl, rfl, ?_⟩
    refine ⟨_, rfl, _, _, rfl, rfl, .inl ⟨by decide, by decide⟩, _, rfl, _, _, rfl, rfl, ⟨by decide, by decide⟩, _, _, rfl, rfl, _, rfl, _, _, rfl, rfl, ⟨by decide, by decide⟩, _, _, rfl, rfl, _, rfl, _, _, rfl, rfl, ⟨by decide, by decide⟩, _, _, rfl, rfl, _, rfl, _, _, rfl, rfl, fun x dx nx nd ne => ?_⟩
    exact ⟨x, dx, _, rfl, upd_same, rfl, q x _ nx (same_mk nx nd) ⟨dx, upd_same⟩⟩
def Tup3 (H : Hp) (t : Addr) (y m d : Int) : Prop := H t = some (.tup [.int y, .int m, .int d])
theorem Tup3.sq {K : PySem.W.Frag} {H : Hp} {t : Addr} {y m d : Int} (h : Tup3 H t y m d) : SqT K H t [.int y, .int m, .int d] := .inl (.inl h)
theorem Tup3.same {H H' : Hp} {t : Addr} {y m d : Int} (h : Tup3 H t y m d) (s : Same H H') : Tup3 H' t y m d := s _ _ h
theorem Tup3.dp {K : PySem.W.Frag} {H : Hp} {t : Addr} {y m d : Int} (h : Tup3 H t y m d) : Dp K H (.ref t) (.tuple [.int y, .int m, .int d]) := .tup h.sq (.cons (.int _) (.cons (.int _) (.cons (.int _) .nil)))
theorem tup_shaped (y m d : Int) : SeqAt.shaped (.tuple [.int y, .int m, .int d]) = true := rfl
theorem tup_eqv (y m d : Int) : PyData.eqv (.tuple [.int y, .int m, .int d]) (.tuple [.int y, .int m, .int d]) = true := by
  simp [PyData.eqv, PyData.eqvAll]
def sp_parts_of (C : Addr) : Sp := fun vs H Q _ => ∃ (p : Addr) (n : Int), vs = [.ref p] ∧ DayAt C H p n ∧ ∀ t H', H t = none → Same H H' → Tup3 H' t (Cal.partY n) (Cal.partM n) (Cal.partD n) → Q (.ref t) H'
theorem G_parts_of : FnOk P w K mg base CX0 1 T.f_parts_of T.fd_parts_of ["day"] (sp_parts_of T.C_Day) := by
  refine T.F_parts_of.ok sc_parts_of (fun vs H Q E h => ?_) (fun cdv A outer s H vs Q E hr h => ?_)
  · obtain ⟨p, n, rfl, _⟩ := h
    rfl
  · obtain ⟨p, n, rfl, ⟨dx, hp⟩, q⟩ := h
    refine ⟨_, (pss_cons (ps_asg (pe_callB call_divmod (by rfl) T.z_divmod (by decide +kernel) (pa_cons (pe_fld (pv 0) rfl) (pa_cons (pe_glob (v := .int 146097) (by rfl) T.g_CYCLE ⟨_, rfl⟩) pa_nil))) (pg_tup (by rfl) (pgs_cons (pg_name (i := 1) sc_parts_of.nd rfl (.inl rfl)) (pgs_cons (pg_name (i := 2) sc_parts_of.nd rfl (.inl rfl)) pgs_nil))))
    (pss_cons (ps_set (i := 3) sc_parts_of.nd rfl (.inl rfl) (pe_op op_fdiv (pe_op op_sub (pe_op op_add (pe_op op_sub (pv 2) (pe_op op_fdiv (pv 2) pe_int)) (pe_op op_fdiv (pv 2) pe_int)) (pe_op op_fdiv (pv 2) pe_int)) pe_int))
    (pss_cons (ps_set (i := 4) sc_parts_of.nd rfl (.inl rfl) (pe_op op_sub (pv 2) (pe_op op_sub (pe_op op_add (pe_op op_mul pe_int (pv 3)) (pe_op op_fdiv (pv 3) pe_int)) (pe_op op_fdiv (pv 3) pe_int))))
    (pss_cons (ps_set (i := 5) sc_parts_of.nd rfl (.inl rfl) (pe_op op_fdiv (pe_op op_add (pe_op op_mul pe_int (pv 4)) pe_int) pe_int))
    (pss_cons (ps_set (i := 6) sc_parts_of.nd rfl (.inl rfl) (pe_ifExp (pt_cmpR op_lt (pv 5) pe_int (nomark _)) (pe_op op_add (pv 5) pe_int) (pe_op op_sub (pv 5) pe_int)))
    (pss_one (ps_ret (pe_tup (pa_cons (pe_op op_add (pe_op op_add (pv 3) (pe_op op_mul pe_int (pv 1))) (pe_callTy call_int1 (by rfl) T.z_int (by decide +kernel) (pa_cons (pe_cmpR op_lt (pv 6) pe_int (nomark _)) pa_nil))) (pa_cons (pv 6) (pa_cons (pe_op op_add (pe_op op_sub (pv 4) (pe_op op_fdiv (pe_op op_add (pe_op op_mul pe_int (pv 5)) pe_int) pe_int)) pe_int) pa_nil))))))))))), ?_⟩
    refine ⟨_, rfl, p, _, dx, _, _, rfl, hp, T.cl_Day, T.n_Day_number, rfl, n, 146097, rfl, ⟨by decide, by decide⟩, fun t0 n0 => ?_⟩
    have s0 : Same H (upd H t0 (.tup [.int (n / 146097), .int (n % 146097)])) := same_upd n0
    refine ⟨t0, _, rfl, .inl (.inl upd_same), rfl, _, _, rfl, _, _, rfl, rfl, ?_⟩
    refine ⟨_, rfl, _, rfl, _, _, rfl, rfl, ⟨by decide, by decide⟩, _, _, rfl, rfl, _, rfl, _, _, rfl, rfl, ⟨by decide, by decide⟩, _, _, rfl, rfl, _, rfl, _, _, rfl, rfl, ⟨by decide, by decide⟩, _, _, rfl, rfl, _, _, rfl, rfl, ⟨by decide, by decide⟩, ?_⟩
    refine ⟨_, rfl, _, rfl, _, _, rfl, rfl, .inl ⟨by decide, by decide⟩, _, rfl, _, _, rfl, rfl, ⟨by decide, by decide⟩, _, _, rfl, rfl, _, rfl, _, _, rfl, rfl, ⟨by decide, by decide⟩, _, _, rfl, rfl, _, _, rfl, rfl, ?_⟩
    refine ⟨_, rfl, _, _, rfl, rfl, .inl ⟨by decide, by decide⟩, _, _, rfl, rfl, _, _, rfl, rfl, ⟨by decide, by decide⟩, ?_⟩
    refine ⟨_, rfl, _, _, rfl, rfl, _, rfl, ?_⟩
    have fin : ∀ M, Cal.pMonth (n % 146097) = M → ∀ (t : Addr) (H' : Hp), H' t = some (.tup [.int (Cal.pYear (n % 146097) + 400 * (n / 146097) + (if decide (M < 3) = true then 1 else 0)), .int M, .int (Cal.pAhead (n % 146097) - (153 * Cal.pTurn (n % 146097) + 2) / 5 + 1)]) → Tup3 H' t (Cal.partY n) (Cal.partM n) (Cal.partD n) := by
      rintro M rfl t H' e
      exact e
    by_cases ht : Cal.pTurn (n % 146097) < 10
    · have eM : Cal.pMonth (n % 146097) = Cal.pTurn (n % 146097) + 3 := if_pos ht
      refine (if_pos (decide_eq_true ht)).mpr ⟨_, rfl, _, _, rfl, rfl, ?_⟩
      refine ⟨_, rfl, _, rfl, _, _, rfl, rfl, .inl ⟨by decide, by decide⟩, _, _, rfl, rfl, _, rfl, _, _, rfl, rfl, .inr ⟨_, rfl, _, _, rfl, rfl, _, rfl, _, rfl, _, rfl, _, _, rfl, rfl, .inl ⟨by decide, by decide⟩, _, _, rfl, rfl, _, _, rfl, rfl, ⟨by decide, by decide⟩, _, _, rfl, rfl, _, _, rfl, rfl, (by show 3 ≤ sizeLine; decide), fun t nt => ?_⟩⟩
      exact q t _ (s0.free nt) (s0.trans (same_upd nt)) (fin _ eM t _ upd_same)
    · have eM : Cal.pMonth (n % 146097) = Cal.pTurn (n % 146097) - 9 := if_neg ht
      refine (if_neg (fun z => ht (of_decide_eq_true z))).mpr ⟨_, rfl, _, _, rfl, rfl, ?_⟩
      refine ⟨_, rfl, _, rfl, _, _, rfl, rfl, .inl ⟨by decide, by decide⟩, _, _, rfl, rfl, _, rfl, _, _, rfl, rfl, .inr ⟨_, rfl, _, _, rfl, rfl, _, rfl, _, rfl, _, rfl, _, _, rfl, rfl, .inl ⟨by decide, by decide⟩, _, _, rfl, rfl, _, _, rfl, rfl, ⟨by decide, by decide⟩, _, _, rfl, rfl, _, _, rfl, rfl, (by show 3 ≤ sizeLine; decide), fun t nt => ?_⟩⟩
      exact q t _ (s0.free nt) (s0.trans (same_upd nt)) (fin _ eM t _ upd_same)
def sp_months_on (C : Addr) : Sp := fun vs H Q _ => ∃ (p : Addr) (n k : Int), vs = [.ref p, .int k] ∧ DayAt C H p n ∧ ∀ p' H', H p' = none → Same H H' → DayAt C H' p' (Cal.monN n k) → Q (.ref p') H'
theorem G_months_on : FnOk P w K mg base CX0 4 T.f_months_on T.fd_months_on ["day", "many"] (sp_months_on T.C_Day) := by
  have G_last_of := G_last_of (P := P) (w := w) (base := base) T
  have G_day_of := G_day_of (P := P) (w := w) (base := base) T
  have G_parts_of := G_parts_of (P := P) (w := w) (base := base) T
  refine T.F_months_on.ok sc_months_on (fun vs H Q E h => ?_) (fun cdv A outer s H vs Q E hr h => ?_)
  · obtain ⟨p, n, k, rfl, _⟩ := h
    rfl
  · obtain ⟨p, n, k, rfl, hp, q⟩ := h
    refine ⟨_, (pss_cons (ps_asg (pe_call G_parts_of (hr.mono (by decide)) (by rfl) T.g_parts_of T.F_parts_of.kp T.b_parts_of .nil pass0 (pa_cons (pv 0) pa_nil)) (pg_tup (by rfl) (pgs_cons (pg_name (i := 2) sc_months_on.nd rfl (.inl rfl)) (pgs_cons (pg_name (i := 3) sc_months_on.nd rfl (.inl rfl)) (pgs_cons (pg_name (i := 4) sc_months_on.nd rfl (.inl rfl)) pgs_nil)))))
    (pss_cons (ps_set (i := 5) sc_months_on.nd rfl (.inl rfl) (pe_op op_add (pe_op op_sub (pe_op op_add (pe_op op_mul pe_int (pv 2)) (pv 3)) pe_int) (pv 1)))
    (pss_cons (ps_par (i := 2) (j := 3) (by rfl) sc_months_on.nd rfl rfl (by decide) rfl rfl (pa_cons (pe_op op_fdiv (pv 5) pe_int) (pa_cons (pe_op op_add (pe_op op_mod (pv 5) pe_int) pe_int) pa_nil)) (by rfl))
    (pss_one (ps_ret (pe_call G_day_of (hr.mono (by decide)) (by rfl) T.g_day_of T.F_day_of.kp T.b_day_of .nil pass0 (pa_cons (pv 2) (pa_cons (pv 3) (pa_cons (pe_callB (call_min2 rfl) (by rfl) T.z_min (by decide +kernel) (pa_cons (pv 4) (pa_cons (pe_call G_last_of (hr.mono (by decide)) (by rfl) T.g_last_of T.F_last_of.kp T.b_last_of .nil pass0 (pa_cons (pv 2) (pa_cons (pv 3) pa_nil))) pa_nil))) pa_nil))))))))), ?_⟩
    refine ⟨_, rfl, p, n, rfl, hp, fun t H1 nt s1 ht => ?_⟩
    have hv := Cal.mon_valid n k
    have hm := Cal.onM_in (Cal.partY n) (Cal.partM n) k
    refine ⟨t, _, rfl, ht.sq, rfl, _, _, rfl, _, _, rfl, _, _, rfl, rfl, ?_⟩
    refine ⟨_, rfl, _, _, rfl, rfl, .inl ⟨by decide, by decide⟩, _, rfl, _, _, rfl, rfl, _, _, rfl, rfl, _, rfl, _, _, rfl, rfl, ?_⟩
    refine ⟨_, rfl, _, _, rfl, rfl, ⟨by decide, by decide⟩, _, rfl, _, _, rfl, rfl, (by show (0 : Int) < 12; decide), _, _, rfl, rfl, _, _, rfl, ?_⟩
    refine ⟨_, rfl, _, rfl, _, rfl, _, rfl, _, rfl, Cal.onY (Cal.partY n) (Cal.partM n) k, Cal.onM (Cal.partY n) (Cal.partM n) k, rfl, hm.1, hm.2, _, _, rfl, ?_⟩
    exact ⟨_, _, _, rfl, hv, fun p' H2 np s2 hp' => q p' H2 (s1.free np) (s1.trans s2) hp'⟩
end
end K04
set_option Elab.async false
set_option linter.all false
set_option maxRecDepth 100000
set_option maxHeartbeats 2000000
namespace K04
open PySem L2 Lay
/-! ### draws -/
/-- all but d is as it was -/
def Kp (d : Addr) (H H' : Hp) : Prop := ∀ a o, a ≠ d → H a = some o → H' a = some o
theorem Kp.trans {d : Addr} {H H1 H2 : Hp} (a : Kp d H H1) (b : Kp d H1 H2) : Kp d H H2 := fun x o n h => b x o n (a x o n h)
theorem Kp.of {d : Addr} {H H' : Hp} (s : Same H H') : Kp d H H' := fun a o _ h => s a o h
theorem Kp.upd {d : Addr} {H : Hp} {o : HO} : Kp d H (upd H d o) := fun a u n h => by
  rw [upd_ne n]
  exact h
theorem Kp.free {d : Addr} {H H' : Hp} (k : Kp d H H') {t : Addr} (h : H' t = none) (nd : t ≠ d) : H t = none := by
  cases q : H t with
  | none => rfl
  | some o =>
    rw [k t o nd q] at h
    cases h
/-- what is drawn from, drawn k times -/
def Dr (H : Hp) (d : Addr) (k : Nat) : Prop := ∃ (n : Int) (b : Bool), H d = some (.lst [.int n, .int (k : Int), .bl b])
theorem Dr.same {H H' : Hp} {d : Addr} {k : Nat} (s : Same H H') (h : Dr H d k) : Dr H' d k := let ⟨n, b, e⟩ := h; ⟨n, b, s _ _ e⟩
theorem atM (ns : List Int) {i : Int} (h0 : 0 ≤ i) (h1 : i < ns.length) : atI (ns.map V.int) i = some (.int (ns.getD i.toNat 0)) := by
  obtain ⟨j, rfl⟩ : ∃ j : Nat, i = (j : Int) := ⟨i.toNat, by omega⟩
  have h2 : j < ns.length := by omega
  refine atI_nat ?_
  rw [List.getElem?_map, List.getElem?_eq_getElem h2, Int.toNat_natCast, List.getD_eq_getElem?_getD, List.getElem?_eq_getElem h2]
  rfl
theorem modB (a : Int) {m : Int} (h : 0 < m) (h2 : m < 2 ^ 64) : -(2 ^ 64) < a % m ∧ a % m < 2 ^ 64 := by
  have h3 := Int.emod_nonneg a (show m ≠ 0 by omega)
  have h4 := Int.emod_lt_of_pos a h
  omega
section
variable {P : Program} {w : World} {K : PySem.W.Frag} {mg : Str → Option Value} {base : Heap} (T : Tx K mg)
def sp_draws : Sp := fun vs H Q _ => ∃ c : Int, vs = [.int c] ∧ ∀ d H', H d = none → Same H H' → Dr H' d 0 → Q (.ref d) H'
theorem G__law_draws : FnOk P w K mg base CX0 1 T.f__law_draws T.fd__law_draws ["_law_cell"] sp_draws := by
  refine T.F__law_draws.ok sc__law_draws (fun vs H Q E h => ?_) (fun cdv A outer s H vs Q E hr h => ?_)
  · obtain ⟨c, rfl, _⟩ := h
    rfl
  · obtain ⟨c, rfl, q⟩ := h
    refine ⟨_, (pss_one (ps_ret (pe_lst (pa_cons (pe_op op_mod (pv 0) (pe_op op_powW (pe_op op_powW (pe_op op_pow pe_int pe_int) pe_int) pe_int)) (pa_cons pe_int (pa_cons (pe_cmpR op_ge (pv 0) (pe_op op_pow pe_int pe_int) (nomark _)) pa_nil)))))), ?_⟩
    have hbig : (0 : Int) < ((10 ^ (60 : Int).toNat) ^ (60 : Int).toNat) ^ (4 : Int).toNat := by decide +kernel
    have b1 : CPowW (10 ^ (60 : Int).toNat) 60 := ⟨by decide, by decide +kernel⟩
    have b2 : CPowW ((10 ^ (60 : Int).toNat) ^ (60 : Int).toNat) 4 := ⟨by decide, by decide +kernel⟩
    refine ⟨_, rfl, _, _, rfl, rfl, ⟨by decide, by decide, by decide⟩, _, _, rfl, rfl, b1, _, _, rfl, rfl, b2, _, _, rfl, rfl, hbig, ?_⟩
    generalize ((10 ^ (60 : Int).toNat) ^ (60 : Int).toNat) ^ (4 : Int).toNat = big
    refine ⟨_, rfl, _, _, rfl, rfl, ⟨by decide, by decide, by decide⟩, _, _, rfl, rfl, (by show 3 ≤ sizeLine; decide), fun d nd => ?_⟩
    exact q d _ nd (same_upd nd) ⟨_, _, upd_same⟩
def sp_next : Sp := fun vs H Q _ => ∃ (d : Addr) (k : Nat), vs = [.ref d] ∧ Dr H d k ∧ k ≤ 1000000 ∧ ∀ (r : Int) H', 0 ≤ r → r < 1073741824 → Kp d H H' → Dr H' d (k + 1) → Q (.int r) H'
theorem G__law_next : FnOk P w K mg base CX0 1 T.f__law_next T.fd__law_next ["_law_draws_here"] sp_next := by
  refine T.F__law_next.ok sc__law_next (fun vs H Q E h => ?_) (fun cdv A outer s H vs Q E hr h => ?_)
  · obtain ⟨d, k, rfl, _⟩ := h
    rfl
  · obtain ⟨d, k, rfl, ⟨n, b, hd⟩, hk, q⟩ := h
    refine ⟨_, (pss_cons (ps_asg (pe_op op_add (pe_ix ix_list (pv 0) pe_int (fun _ _ => rfl)) pe_int) (pg_sub (pv 0) pe_int set_list))
    (pss_cons (ps_set (i := 1) sc__law_next.nd rfl (.inl rfl) (pe_ix ix_list (pv 0) pe_int (fun _ _ => rfl)))
    (pss_cons (ps_if (pt_val (pe_ix ix_list (pv 0) pe_int (fun _ _ => rfl))) (pss_cons (ps_set (i := 2) sc__law_next.nd rfl (.inl rfl) (pe_op op_mod (pe_ix ix_list (pv 0) pe_int (fun _ _ => rfl)) (pe_op op_pow pe_int pe_int)))
    (pss_cons (ps_asg (pe_op op_fdiv (pe_ix ix_list (pv 0) pe_int (fun _ _ => rfl)) (pe_op op_pow pe_int pe_int)) (pg_sub (pv 0) pe_int set_list))
    (pss_one (ps_ret (pv 2))))) pss_nil)
    (pss_cons (ps_set (i := 2) sc__law_next.nd rfl (.inl rfl) (pe_op op_mod (pe_op op_mul (pe_op op_add (pe_op op_add (pe_op op_mod (pe_ix ix_list (pv 0) pe_int (fun _ _ => rfl)) pe_int) (pe_op op_mul (pe_op op_mul (pv 1) (pv 1)) pe_int)) (pv 1)) pe_int) pe_int))
    (pss_cons (ps_set (i := 2) sc__law_next.nd rfl (.inl rfl) (pe_op op_mod (pe_op op_mul (pv 2) (pv 2)) pe_int))
    (pss_one (ps_ret (pe_op op_fdiv (pe_op op_mod (pe_op op_mul (pv 2) (pe_op op_add (pv 2) pe_int)) pe_int) pe_int)))))))), ?_⟩
    refine ⟨_, rfl, d, _, _, _, rfl, rfl, .inl (.inl hd), atI_nat (j := 1) rfl, _, _, rfl, rfl, _, rfl, d, _, _, 1, rfl, rfl, hd, rfl, ?_⟩
    have k1 : Kp d H (upd H d (.lst [.int n, .int ((k : Int) + 1), .bl b])) := Kp.upd
    have hd1 : (upd H d (.lst [.int n, .int ((k : Int) + 1), .bl b])) d = some (.lst [.int n, .int ((k : Int) + 1), .bl b]) := upd_same
    show tSeq _ _ _ _ (upd H d (.lst [.int n, .int ((k : Int) + 1), .bl b]))
    generalize upd H d (.lst [.int n, .int ((k : Int) + 1), .bl b]) = H1 at k1 hd1 ⊢
    refine ⟨_, rfl, d, _, _, _, rfl, rfl, .inl (.inl hd1), atI_nat (j := 1) rfl, ?_⟩
    refine ⟨_, rfl, d, _, _, _, rfl, rfl, .inl (.inl hd1), atI_nat (j := 2) rfl, _, rfl, ?_⟩
    cases b with
    | true =>
      refine iteT ⟨_, rfl, d, _, _, _, rfl, rfl, .inl (.inl hd1), atI_nat (j := 0) rfl, _, _, rfl, rfl, ⟨by decide, by decide, by decide⟩, _, _, rfl, rfl, (by show (0 : Int) < 10 ^ 6; decide), ?_⟩
      refine ⟨_, rfl, d, _, _, _, rfl, rfl, .inl (.inl hd1), atI_nat (j := 0) rfl, _, _, rfl, rfl, ⟨by decide, by decide, by decide⟩, _, _, rfl, rfl, ⟨by decide, by decide⟩, _, rfl, d, _, _, 0, rfl, rfl, hd1, rfl, ?_⟩
      have e6 : (10 : Int) ^ (6 : Int).toNat = 1000000 := by decide
      refine ⟨_, rfl, ?_⟩
      refine q _ _ ?_ ?_ (k1.trans Kp.upd) ⟨_, _, upd_same⟩
      · rw [e6]
        omega
      · rw [e6]
        omega
    | false =>
      refine iteF ?_
      refine ⟨_, rfl, d, _, _, _, rfl, rfl, .inl (.inl hd1), atI_nat (j := 0) rfl, _, _, rfl, rfl, (by show (0 : Int) < 1000003; decide), _, rfl, _, rfl, _, _, rfl, rfl, .inl ⟨by omega, by omega⟩, _, _, rfl, rfl, .inr ⟨by decide, by decide⟩, _, _, rfl, rfl, _, rfl, _, _, rfl, rfl, _, _, rfl, rfl, .inr ⟨by decide, by decide⟩, _, _, rfl, rfl, (by show (0 : Int) < 2147483629; decide), ?_⟩
      refine ⟨_, rfl, _, rfl, _, _, rfl, rfl, .inl (modB _ (by decide) (by decide)), _, _, rfl, rfl, (by show (0 : Int) < 2147483587; decide), ?_⟩
      refine ⟨_, rfl, _, rfl, _, _, rfl, rfl, _, _, rfl, rfl, .inl (modB _ (by decide) (by decide)), _, _, rfl, rfl, (by show (0 : Int) < 2147483579; decide), _, _, rfl, rfl, ⟨by decide, by decide⟩, ?_⟩
      refine q _ _ ?_ ?_ k1 ⟨_, _, hd1⟩
      · generalize (_ : Int) * _ = z
        omega
      · generalize (_ : Int) * _ = z
        omega
def sp_length : Sp := fun vs H Q _ => ∃ y m : Int, vs = [.int y, .int m] ∧ 1 ≤ m ∧ m ≤ 12 ∧ ∀ H', Same H H' → Q (.int (Cal.lastOf y m)) H'
theorem len_at (y : Int) {m : Int} (h1 : 1 ≤ m) (h2 : m ≤ 12) : atI [V.int 31, V.int (28 + if Cal.leap y = true then 1 else 0), V.int 31, V.int 30, V.int 31, V.int 30, V.int 31, V.int 31, V.int 30, V.int 31, V.int 30, V.int 31] (m - 1) = some (.int (Cal.lastOf y m)) := by
  rcases Cal.month_cases h1 h2 with rfl | rfl | rfl | rfl | rfl | rfl | rfl | rfl | rfl | rfl | rfl | rfl <;> rfl
theorem G__law_length : FnOk P w K mg base CX0 1 T.f__law_length T.fd__law_length ["_law_year_here", "_law_month"] sp_length := by
  refine T.F__law_length.ok sc__law_length (fun vs H Q E h => ?_) (fun cdv A outer s H vs Q E hr h => ?_)
  · obtain ⟨y, m, rfl, _⟩ := h
    rfl
  · obtain ⟨y, m, rfl, h1, h2, q⟩ := h
    refine ⟨_, (pss_cons (ps_set (i := 2) sc__law_length.nd rfl (.inl rfl) (pe_and (pe_cmpR op_eq (pe_op op_mod (pv 0) pe_int) pe_int (nomark _)) (pe_one (pe_or (pe_cmpR op_ne (pe_op op_mod (pv 0) pe_int) pe_int (nomark _)) (pe_one (pe_cmpR op_eq (pe_op op_mod (pv 0) pe_int) pe_int (nomark _)))))))
    (pss_one (ps_ret (pe_ix ix_list (pe_lst (pa_cons pe_int (pa_cons (pe_op op_add pe_int (pe_callTy call_int1 (by rfl) T.z_int (by decide +kernel) (pa_cons (pv 2) pa_nil))) (pa_cons pe_int (pa_cons pe_int (pa_cons pe_int (pa_cons pe_int (pa_cons pe_int (pa_cons pe_int (pa_cons pe_int (pa_cons pe_int (pa_cons pe_int (pa_cons pe_int pa_nil))))))))))))) (pe_op op_sub (pv 1) pe_int) (fun _ _ => rfl))))), ?_⟩
    refine st_set (v := .bl (Cal.leap y)) (fun R r => ?_) ?_
    · refine ⟨_, rfl, _, _, rfl, rfl, (by show (0 : Int) < 4; decide), rfl, _, rfl, andV (d := decide (¬ y % 100 = 0) || decide (y % 400 = 0)) (by rw [dV]; exact r) fun _ q1 => ?_⟩
      refine ⟨_, rfl, _, _, rfl, rfl, (by show (0 : Int) < 100; decide), rfl, _, rfl, orV (d := decide (y % 400 = 0)) (by rw [dV, ← decide_not]; exact q1) fun _ q2 => ?_⟩
      refine ⟨_, rfl, _, _, rfl, rfl, (by show (0 : Int) < 400; decide), rfl, ?_⟩
      rw [dV]
      exact q2
    · refine ⟨_, rfl, .inr ⟨_, rfl, _, _, rfl, rfl, (by show 12 ≤ sizeLine; decide), fun l nl => ?_⟩⟩
      exact ⟨_, rfl, _, _, rfl, rfl, l, _, _, _, rfl, rfl, .inl (.inl upd_same), len_at y h1 h2, q _ (same_upd nl)⟩
/-! ### dates drawn -/
def sp_year : Sp := fun vs H Q _ => ∃ (d : Addr) (k : Nat), vs = [.ref d] ∧ Dr H d k ∧ k ≤ 1000000 ∧ ∀ (r : Int) H', Kp d H H' → Dr H' d (k + 1) → Q (.int r) H'
theorem Dr.kp {H : Hp} {d : Addr} {k : Nat} {p : Addr} {o : HO} (h : Dr H d k) (n : H p = none) : Dr (upd H p o) d k := h.same (same_upd n)
theorem G__law_year : FnOk P w K mg base CX0 2 T.f__law_year T.fd__law_year ["_law_draws_here"] sp_year := by
  have G__law_next := G__law_next (P := P) (w := w) (base := base) T
  refine T.F__law_year.ok sc__law_year (fun vs H Q E h => ?_) (fun cdv A outer s H vs Q E hr h => ?_)
  · obtain ⟨d, k, rfl, _⟩ := h
    rfl
  · obtain ⟨d, k, rfl, hd, hk, q⟩ := h
    refine ⟨_, (pss_cons (ps_set (i := 1) sc__law_year.nd rfl (.inl rfl) (pe_call G__law_next (hr.mono (by decide)) (by rfl) T.g__law_next T.F__law_next.kp T.b__law_next .nil pass0 (pa_cons (pv 0) pa_nil)))
    (pss_cons (ps_set (i := 2) sc__law_year.nd rfl (.inl rfl) (pe_op op_mod (pe_op op_fdiv (pv 1) pe_int) pe_int))
    (pss_one (ps_ret (pe_ix ix_list (pe_lst (pa_cons (pe_op op_add pe_int (pe_op op_mod (pe_op op_fdiv (pv 1) pe_int) pe_int)) (pa_cons (pe_op op_sub pe_int (pe_op op_mod (pe_op op_fdiv (pv 1) pe_int) pe_int)) (pa_cons (pe_op op_add pe_int (pe_op op_mul pe_int (pe_op op_mod (pe_op op_fdiv (pv 1) pe_int) pe_int))) (pa_cons (pv 2) (pa_cons (pe_op op_sub pe_int (pv 2)) pa_nil)))))) (pe_op op_mod (pv 1) pe_int) (fun _ _ => rfl)))))), ?_⟩
    refine ⟨_, rfl, d, k, rfl, hd, hk, fun r H1 r0 r1 k1 hd1 => ?_⟩
    refine ⟨_, rfl, _, _, rfl, rfl, ⟨by decide, by decide⟩, _, _, rfl, rfl, (by show (0 : Int) < 27000; decide), ?_⟩
    refine ⟨_, rfl, _, _, rfl, rfl, ⟨by decide, by decide⟩, _, _, rfl, rfl, (by show (0 : Int) < 9; decide), _, _, rfl, rfl, _, rfl, _, _, rfl, rfl, ⟨by decide, by decide⟩, _, _, rfl, rfl, (by show (0 : Int) < 9; decide), _, _, rfl, rfl, _, rfl, _, _, rfl, rfl, ⟨by decide, by decide⟩, _, _, rfl, rfl, (by show (0 : Int) < 9; decide), _, _, rfl, rfl, .inl ⟨by decide, by decide⟩, _, _, rfl, rfl, _, rfl, _, rfl, _, _, rfl, rfl, (by show 5 ≤ sizeLine; decide), fun l nl => ?_⟩
    refine ⟨_, rfl, _, _, rfl, rfl, (by show (0 : Int) < 5; decide), l, _, _, _, rfl, rfl, .inl (.inl upd_same), atM [1999 + r / 8 % 9, 0 - r / 8 % 9, 1600 + 100 * (r / 8 % 9), r / 8 % 27000, 0 - r / 8 % 27000] (by omega) (by show r % 5 < 5; omega), ?_⟩
    exact q _ _ (k1.trans (Kp.of (same_upd nl))) (hd1.kp nl)
def sp_date : Sp := fun vs H Q _ => ∃ (d : Addr) (k : Nat), vs = [.ref d] ∧ Dr H d k ∧ k ≤ 900000 ∧ ∀ (t : Addr) (y m dd : Int) H', H t = none → Cal.valid y m dd → Kp d H H' → Dr H' d (k + 2) → Tup3 H' t y m dd → Q (.ref t) H'
theorem month_ok (r : Int) : 1 ≤ ([1 + r / 8 % 12, 2, 3, 12] : List Int).getD (if r % 8 - 4 > 0 then r % 8 - 4 else 0).toNat 0 ∧ ([1 + r / 8 % 12, 2, 3, 12] : List Int).getD (if r % 8 - 4 > 0 then r % 8 - 4 else 0).toNat 0 ≤ 12 := by
  have h : ∀ j : Nat, j < 4 → 1 ≤ ([1 + r / 8 % 12, 2, 3, 12] : List Int).getD j 0 ∧ ([1 + r / 8 % 12, 2, 3, 12] : List Int).getD j 0 ≤ 12 := by
    intro j hj
    have : j = 0 ∨ j = 1 ∨ j = 2 ∨ j = 3 := by omega
    rcases this with rfl | rfl | rfl | rfl
    · show 1 ≤ 1 + r / 8 % 12 ∧ 1 + r / 8 % 12 ≤ 12
      omega
    · show (1 : Int) ≤ 2 ∧ (2 : Int) ≤ 12
      decide
    · show (1 : Int) ≤ 3 ∧ (3 : Int) ≤ 12
      decide
    · show (1 : Int) ≤ 12 ∧ (12 : Int) ≤ 12
      decide
  apply h
  split <;> omega
theorem day_ok (a L : Int) (hL : 1 ≤ L) (i : Int) (h0 : 0 ≤ i) (h1 : i < 3) : 1 ≤ ([1 + a % L, 1, L] : List Int).getD i.toNat 0 ∧ ([1 + a % L, 1, L] : List Int).getD i.toNat 0 ≤ L := by
  have : i = 0 ∨ i = 1 ∨ i = 2 := by omega
  have e0 := Int.emod_nonneg a (show L ≠ 0 by omega)
  have e1 := Int.emod_lt_of_pos a (show 0 < L by omega)
  rcases this with rfl | rfl | rfl
  · show 1 ≤ 1 + a % L ∧ 1 + a % L ≤ L
    omega
  · show (1 : Int) ≤ 1 ∧ 1 ≤ L
    omega
  · show 1 ≤ L ∧ L ≤ L
    omega
theorem G__law_date : FnOk P w K mg base CX0 3 T.f__law_date T.fd__law_date ["_law_draws_here"] sp_date := by
  have G__law_next := G__law_next (P := P) (w := w) (base := base) T
  have G__law_year := G__law_year (P := P) (w := w) (base := base) T
  have G__law_length := G__law_length (P := P) (w := w) (base := base) T
  refine T.F__law_date.ok sc__law_date (fun vs H Q E h => ?_) (fun cdv A outer s H vs Q E hr h => ?_)
  · obtain ⟨d, k, rfl, _⟩ := h
    rfl
  · obtain ⟨d, k, rfl, hd, hk, q⟩ := h
    refine ⟨_, (pss_cons (ps_set (i := 1) sc__law_date.nd rfl (.inl rfl) (pe_call G__law_year (hr.mono (by decide)) (by rfl) T.g__law_year T.F__law_year.kp T.b__law_year .nil pass0 (pa_cons (pv 0) pa_nil)))
    (pss_cons (ps_set (i := 2) sc__law_date.nd rfl (.inl rfl) (pe_call G__law_next (hr.mono (by decide)) (by rfl) T.g__law_next T.F__law_next.kp T.b__law_next .nil pass0 (pa_cons (pv 0) pa_nil)))
    (pss_cons (ps_set (i := 3) sc__law_date.nd rfl (.inl rfl) (pe_ix ix_list (pe_lst (pa_cons (pe_op op_add pe_int (pe_op op_mod (pe_op op_fdiv (pv 2) pe_int) pe_int)) (pa_cons pe_int (pa_cons pe_int (pa_cons pe_int pa_nil))))) (pe_callB (call_max2 rfl) (by rfl) T.z_max (by decide +kernel) (pa_cons pe_int (pa_cons (pe_op op_sub (pe_op op_mod (pv 2) pe_int) pe_int) pa_nil))) (fun _ _ => rfl)))
    (pss_cons (ps_set (i := 4) sc__law_date.nd rfl (.inl rfl) (pe_call G__law_length (hr.mono (by decide)) (by rfl) T.g__law_length T.F__law_length.kp T.b__law_length .nil pass0 (pa_cons (pv 1) (pa_cons (pv 3) pa_nil))))
    (pss_one (ps_ret (pe_tup (pa_cons (pv 1) (pa_cons (pv 3) (pa_cons (pe_ix ix_list (pe_lst (pa_cons (pe_op op_add pe_int (pe_op op_mod (pe_op op_fdiv (pv 2) pe_int) (pv 4))) (pa_cons pe_int (pa_cons (pv 4) pa_nil)))) (pe_callB (call_max2 rfl) (by rfl) T.z_max (by decide +kernel) (pa_cons pe_int (pa_cons (pe_op op_sub (pe_op op_mod (pe_op op_fdiv (pv 2) pe_int) pe_int) pe_int) pa_nil))) (fun _ _ => rfl)) pa_nil)))))))))), ?_⟩
    refine ⟨_, rfl, d, k, rfl, hd, by omega, fun y H1 k1 hd1 => ?_⟩
    refine ⟨_, rfl, d, k + 1, rfl, hd1, by omega, fun r H2 r0 r1 k2 hd2 => ?_⟩
    refine ⟨_, rfl, _, _, rfl, rfl, ⟨by decide, by decide⟩, _, _, rfl, rfl, (by show (0 : Int) < 12; decide), _, _, rfl, rfl, (by show 4 ≤ sizeLine; decide), fun l nl => ?_⟩
    have hm := month_ok r
    refine ⟨_, rfl, _, _, rfl, rfl, (by show (0 : Int) < 8; decide), _, _, rfl, rfl, _, _, rfl, l, _, _, _, rfl, rfl, .inl (.inl upd_same), atM [1 + r / 8 % 12, 2, 3, 12] (by split <;> omega) (by show _ < (4 : Int); split <;> omega), ?_⟩
    have k3 : Kp d H (upd H2 l (.lst (([1 + r / 8 % 12, 2, 3, 12] : List Int).map V.int))) := (k1.trans k2).trans (Kp.of (same_upd nl))
    have hd3 : Dr (upd H2 l (.lst (([1 + r / 8 % 12, 2, 3, 12] : List Int).map V.int))) d (k + 2) := hd2.kp nl
    generalize ([1 + r / 8 % 12, 2, 3, 12] : List Int).getD (if r % 8 - 4 > 0 then r % 8 - 4 else 0).toNat 0 = m at hm ⊢
    have hL := Cal.last_pos (y := y) hm.1 hm.2
    refine ⟨_, rfl, _, rfl, y, m, rfl, hm.1, hm.2, fun H4 s4 => ?_⟩
    have k4 := k3.trans (Kp.of s4)
    have hd4 := hd3.same s4
    refine ⟨_, rfl, _, rfl, _, rfl, _, _, rfl, rfl, ⟨by decide, by decide⟩, _, rfl, _, _, rfl, rfl, (by show (0 : Int) < _; omega), _, _, rfl, rfl, _, rfl, (by show 3 ≤ sizeLine; decide), fun l5 nl5 => ?_⟩
    have hD := day_ok (r / 96) (Cal.lastOf y m) (by omega) (if r / 2688 % 5 - 2 > 0 then r / 2688 % 5 - 2 else 0) (by split <;> omega) (by split <;> omega)
    refine ⟨_, rfl, _, _, rfl, rfl, ⟨by decide, by decide⟩, _, _, rfl, rfl, (by show (0 : Int) < 5; decide), _, _, rfl, rfl, _, _, rfl, l5, _, _, _, rfl, rfl, .inl (.inl upd_same), atM [1 + r / 96 % Cal.lastOf y m, 1, Cal.lastOf y m] (by split <;> omega) (by show _ < (3 : Int); split <;> omega), (by show 3 ≤ sizeLine; decide), fun t nt => ?_⟩
    have k5 := k4.trans (Kp.of (same_upd (o := .lst (([1 + r / 96 % Cal.lastOf y m, 1, Cal.lastOf y m] : List Int).map V.int)) nl5))
    have ntd : t ≠ d := fun e => by
      subst e
      obtain ⟨n, b, z⟩ := hd4.kp (o := .lst (([1 + r / 96 % Cal.lastOf y m, 1, Cal.lastOf y m] : List Int).map V.int)) nl5
      exact absurd (z.symm.trans nt) (by simp)
    exact q t y m _ _ (k5.free nt ntd) ⟨hm.1, hm.2, hD.1, hD.2⟩ (k5.trans (Kp.of (same_upd nt))) ((hd4.kp nl5).kp nt) upd_same
def sp_after : Sp := fun vs H Q _ => ∃ (t : Addr) (y m d : Int), vs = [.ref t] ∧ Tup3 H t y m d ∧ 1 ≤ m ∧ m ≤ 12 ∧ ∀ t' H', H t' = none → Same H H' → Tup3 H' t' (Cal.aftY y m d) (Cal.aftM y m d) (Cal.aftD y m d) → Q (.ref t') H'
theorem G__law_after : FnOk P w K mg base CX0 2 T.f__law_after T.fd__law_after ["_law_date_here"] sp_after := by
  have G__law_length := G__law_length (P := P) (w := w) (base := base) T
  refine T.F__law_after.ok sc__law_after (fun vs H Q E h => ?_) (fun cdv A outer s H vs Q E hr h => ?_)
  · obtain ⟨t, y, m, d, rfl, _⟩ := h
    rfl
  · obtain ⟨t, y, m, d, rfl, ht, h1, h2, q⟩ := h
    refine ⟨_, (pss_cons (ps_asg (pv 0) (pg_tup (by rfl) (pgs_cons (pg_name (i := 1) sc__law_after.nd rfl (.inl rfl)) (pgs_cons (pg_name (i := 2) sc__law_after.nd rfl (.inl rfl)) (pgs_cons (pg_name (i := 3) sc__law_after.nd rfl (.inl rfl)) pgs_nil)))))
    (pss_cons (ps_if (pt_cmpR op_lt (pv 3) (pe_call G__law_length (hr.mono (by decide)) (by rfl) T.g__law_length T.F__law_length.kp T.b__law_length .nil pass0 (pa_cons (pv 1) (pa_cons (pv 2) pa_nil))) (nomark _)) (pss_one (ps_ret (pe_tup (pa_cons (pv 1) (pa_cons (pv 2) (pa_cons (pe_op op_add (pv 3) pe_int) pa_nil)))))) pss_nil)
    (pss_cons (ps_if (pt_cmpR op_lt (pv 2) pe_int (nomark _)) (pss_one (ps_ret (pe_tup (pa_cons (pv 1) (pa_cons (pe_op op_add (pv 2) pe_int) (pa_cons pe_int pa_nil)))))) pss_nil)
    (pss_one (ps_ret (pe_tup (pa_cons (pe_op op_add (pv 1) pe_int) (pa_cons pe_int (pa_cons pe_int pa_nil))))))))), ?_⟩
    refine ⟨_, rfl, t, _, rfl, ht.sq, rfl, _, _, rfl, _, _, rfl, _, _, rfl, rfl, ?_⟩
    refine ⟨_, rfl, _, rfl, _, rfl, y, m, rfl, h1, h2, fun H1 s1 => ⟨_, _, rfl, rfl, _, rfl, ite2 (fun hd => ?_) (fun hd => ?_)⟩⟩
    · have hd := of_decide_eq_true hd
      refine ⟨_, rfl, _, rfl, _, rfl, _, _, rfl, rfl, (by show 3 ≤ sizeLine; decide), fun t' nt => q t' _ (s1.free nt) (s1.trans (same_upd nt)) ?_⟩
      unfold Cal.aftY Cal.aftM Cal.aftD
      rw [if_pos hd, if_pos hd, if_pos hd]
      exact upd_same
    · have hd : ¬ d < Cal.lastOf y m := fun z => hd (decide_eq_true z)
      refine ⟨_, rfl, _, _, rfl, rfl, _, rfl, ite2 (fun hm => ?_) (fun hm => ?_)⟩
      · have hm := of_decide_eq_true hm
        refine ⟨_, rfl, _, rfl, _, _, rfl, rfl, (by show 3 ≤ sizeLine; decide), fun t' nt => q t' _ (s1.free nt) (s1.trans (same_upd nt)) ?_⟩
        unfold Cal.aftY Cal.aftM Cal.aftD
        rw [if_neg hd, if_neg hd, if_neg hd, if_pos hm, if_pos hm]
        exact upd_same
      · have hm : ¬ m < 12 := fun z => hm (decide_eq_true z)
        refine ⟨_, rfl, _, _, rfl, rfl, (by show 3 ≤ sizeLine; decide), fun t' nt => q t' _ (s1.free nt) (s1.trans (same_upd nt)) ?_⟩
        unfold Cal.aftY Cal.aftM Cal.aftD
        rw [if_neg hd, if_neg hd, if_neg hd, if_neg hm, if_neg hm]
        exact upd_same
end
end K04
set_option Elab.async false
set_option linter.all false
set_option maxRecDepth 100000
set_option maxHeartbeats 2000000
namespace K04
open PySem L2 Lay
theorem cut_mem {xs : List V} {lo hi : Option Int} {x : V} (h : x ∈ cutV xs lo hi) : x ∈ xs := List.mem_of_mem_drop (List.mem_of_mem_take h)
theorem items_int {ns : List Int} {hi : Option Int} {i : Nat} {x : V} (h : (cutV (ns.map V.int) none hi ++ [V.int 0])[i]? = some x) : ∃ c : Int, x = .int c := by
  have hm := List.mem_of_getElem? h
  rcases List.mem_append.mp hm with h1 | h1
  · obtain ⟨c, _, e⟩ := List.mem_map.mp (cut_mem h1)
    exact ⟨c, e.symm⟩
  · exact ⟨0, List.mem_singleton.mp h1⟩
section
variable {P : Program} {w : World} {K : PySem.W.Frag} {mg : Str → Option Value} {base : Heap} (T : Tx K mg)
theorem isi_day {H : Hp} {p : Addr} {n : Int} (h : DayAt T.C_Day H p n) : TyX K H (.ref p) (.ref T.C_Day) := let ⟨_, e⟩ := h; .base (.ins e T.cl_Day T.e_cls T.e_get T.e_tak T.e_mro_Day)
theorem kit_day : PySem.W.kitOne K (.ref T.C_Day) (.ref T.C_Day) = some true := if_pos (by simp)
theorem nf_day : PySem.W.notFirst K T.C_Day (.ref T.C_Day) = true := by simp [PySem.W.notFirst]
def sp_stretch : Sp := fun vs H Q _ => ∃ (t : Addr) (y m d k : Int), vs = [.ref t, .int k] ∧ Tup3 H t y m d ∧ Cal.valid y m d ∧ 0 ≤ k ∧ k ≤ 1000 ∧ ∀ H', Same H H' → Q (.bl true) H'
theorem G__law_stretch_right : FnOk P w K mg base CX0 4 T.f__law_stretch_right T.fd__law_stretch_right ["_law_date_here", "_law_many"] sp_stretch := by
  have G_day_of := G_day_of (P := P) (w := w) (base := base) T
  have G_parts_of := G_parts_of (P := P) (w := w) (base := base) T
  have G_Day___init__ := G_Day___init__ (P := P) (w := w) (base := base) T
  have G__law_after := G__law_after (P := P) (w := w) (base := base) T
  refine T.F__law_stretch_right.ok sc__law_stretch_right (fun vs H Q E h => ?_) (fun cdv A outer s H vs Q E hr h => ?_)
  · obtain ⟨t, y, m, d, k, rfl, _⟩ := h
    rfl
  · obtain ⟨t, y, m, d, k, rfl, ht, hv, k0, k1, q⟩ := h
    refine ⟨_, (pss_cons (ps_set (i := 2) sc__law_stretch_right.nd rfl (.inl rfl) (pe_call G_day_of (hr.mono (by decide)) (by rfl) T.g_day_of T.F_day_of.kp T.b_day_of .nil pass0 (pa_cons (pe_ix ix_tup (pv 0) pe_int (fun _ _ => rfl)) (pa_cons (pe_ix ix_tup (pv 0) pe_int (fun _ _ => rfl)) (pa_cons (pe_ix ix_tup (pv 0) pe_int (fun _ _ => rfl)) pa_nil)))))
    (pss_cons (ps_for PassesOwn.never rfl (pi_range1 (by rfl) T.z_range (pa_cons (pv 1) pa_nil)) (pg_name (i := 3) sc__law_stretch_right.nd rfl (.inl rfl))
      (pss_cons (ps_if (pt_cmpR (op_neD hr.units) (pe_call G_parts_of (hr.mono (by decide)) (by rfl) T.g_parts_of T.F_parts_of.kp T.b_parts_of .nil pass0 (pa_cons (pe_make T.M_Day G_Day___init__ (hr.mono (by decide)) (by rfl) T.g_Day T.b_Day___init__ .nil pass0 (pa_cons (pe_op op_add (pe_fld (pv 2) rfl) (pv 3)) pa_nil)) pa_nil)) (pv 0) (nomark _)) (pss_one (ps_ret pe_bl)) pss_nil)
    (pss_one (ps_set (i := 0) sc__law_stretch_right.nd rfl (.inl rfl) (pe_call G__law_after (hr.mono (by decide)) (by rfl) T.g__law_after T.F__law_after.kp T.b__law_after .nil pass0 (pa_cons (pv 0) pa_nil))))))
    (pss_one (ps_ret pe_bl)))), ?_⟩
    refine ⟨_, rfl, t, _, _, _, rfl, rfl, ht.sq, atI_nat (j := 0) rfl, _, rfl, t, _, _, _, rfl, rfl, ht.sq, atI_nat (j := 1) rfl, _, rfl, t, _, _, _, rfl, rfl, ht.sq, atI_nat (j := 2) rfl, y, m, d, rfl, hv, fun p H1 np s1 dp => ?_⟩
    refine ⟨_, rfl, k, rfl, by omega, by omega, for_range (lo := 0) (n := k.toNat) (fun j σ H5 => ∃ t' v3 y' m' d', σ = [some (.ref t'), some (.int k), some (.ref p), v3] ∧ Same H1 H5 ∧ Tup3 H5 t' y' m' d' ∧ Cal.valid y' m' d' ∧ Cal.num y' m' d' = Cal.num y m d + (j : Int))
      ⟨t, none, y, m, d, rfl, Same.refl _, ht.same s1, hv, by omega⟩ ?_ ?_⟩
    · rintro j σ H5 hj ⟨t', v3, y', m', d', rfl, s5, ht5, hv5, en⟩
      obtain ⟨dx, hp⟩ := dp.same s5
      refine ⟨_, rfl, p, _, dx, _, _, rfl, hp, T.cl_Day, T.n_Day_number, rfl, _, rfl, _, _, rfl, rfl, fun x6 dx6 nx6 nd6 ne6 => ⟨x6, dx6, _, rfl, upd_same, rfl, ?_⟩⟩
      have s6 := same_mk (o1 := .own x6) (o2 := .ins T.C_Day dx6 []) (o3 := .ins T.C_Day dx6 [("number", .int (Cal.num y m d + (0 + (j : Int))))]) nx6 nd6
      refine ⟨x6, _, rfl, ⟨dx6, upd_same⟩, fun t7 H7 n7 s7 ht7 => ?_⟩
      have e0 : Cal.num y m d + (0 + (j : Int)) = Cal.num y' m' d' := by omega
      obtain ⟨ey, em, ed⟩ := Cal.num_parts hv5
      rw [e0, ey, em, ed] at ht7
      have s67 := s6.trans s7
      have ht57 := ht5.same s67
      refine ⟨_, rfl, _, _, ht7.dp, ht57.dp, tup_shaped _ _ _, tup_shaped _ _ _, _, rfl, ?_⟩
      rw [tup_eqv]
      refine iteF ?_
      obtain ⟨g1, g2, g3, g4⟩ := id hv5
      refine ⟨_, rfl, t', y', m', d', rfl, ht57, g1, g2, fun t8 H8 n8 s8 ht8 => ?_⟩
      obtain ⟨a1, a2⟩ := Cal.after_num hv5
      exact ⟨t8, _, _, _, _, rfl, (s5.trans s67).trans s8, ht8, a1, by rw [a2]; omega⟩
    · rintro σ H5 ⟨t', v3, y', m', d', rfl, s5, ht5, hv5, en⟩
      exact q _ (s1.trans s5)
theorem cut2 (a b c : V) : cutV [a, b, c] none (some 2) = [a, b] := rfl
theorem pair_shaped (y m : Int) : SeqAt.shaped (.tuple [.int y, .int m]) = true := rfl
theorem pair_eqv (y m : Int) : PyData.eqv (.tuple [.int y, .int m]) (.tuple [.int y, .int m]) = true := by
  simp [PyData.eqv, PyData.eqvAll]
theorem pair_dp {H : Hp} {t : Addr} {y m : Int} (h : H t = some (.tup [.int y, .int m])) : Dp K H (.ref t) (.tuple [.int y, .int m]) := .tup (.inl (.inl h)) (.cons (.int _) (.cons (.int _) .nil))
theorem cut2_part : ¬ (HT.sIx 3 0 none = 0 ∧ HT.sIx 3 3 (some 2) = 3) := by decide
def sp_months_right : Sp := fun vs H Q _ => ∃ (t : Addr) (y m d k l : Int), vs = [.ref t, .int k, .int l] ∧ Tup3 H t y m d ∧ Cal.valid y m d ∧ ∀ H', Same H H' → Q (.bl true) H'
theorem G__law_months_right : FnOk P w K mg base CX0 5 T.f__law_months_right T.fd__law_months_right ["_law_date_here", "_law_one", "_law_two"] sp_months_right := by
  have G_day_of := G_day_of (P := P) (w := w) (base := base) T
  have G_parts_of := G_parts_of (P := P) (w := w) (base := base) T
  have G_months_on := G_months_on (P := P) (w := w) (base := base) T
  have G_Day___eq__ := G_Day___eq__ (P := P) (w := w) (base := base) T
  refine T.F__law_months_right.ok sc__law_months_right (fun vs H Q E h => ?_) (fun cdv A outer s H vs Q E hr h => ?_)
  · obtain ⟨t, y, m, d, k, l, rfl, _⟩ := h
    rfl
  · obtain ⟨t, y, m, d, k, l, rfl, ht, hv, q⟩ := h
    obtain ⟨g1, g2, g3, g4⟩ := id hv
    refine ⟨_, (pss_cons (ps_set (i := 3) sc__law_months_right.nd rfl (.inl rfl) (pe_call G_day_of (hr.mono (by decide)) (by rfl) T.g_day_of T.F_day_of.kp T.b_day_of .nil pass0 (pa_cons (pe_ix ix_tup (pv 0) pe_int (fun _ _ => rfl)) (pa_cons (pe_ix ix_tup (pv 0) pe_int (fun _ _ => rfl)) (pa_cons (pe_ix ix_tup (pv 0) pe_int (fun _ _ => rfl)) pa_nil)))))
    (pss_cons (ps_set (i := 4) sc__law_months_right.nd rfl (.inl rfl) (pe_call G_months_on (hr.mono (by decide)) (by rfl) T.g_months_on T.F_months_on.kp T.b_months_on .nil pass0 (pa_cons (pv 3) (pa_cons (pv 1) pa_nil))))
    (pss_cons (ps_set (i := 5) sc__law_months_right.nd rfl (.inl rfl) (pe_call G_day_of (hr.mono (by decide)) (by rfl) T.g_day_of T.F_day_of.kp T.b_day_of .nil pass0 (pa_cons (pe_ix ix_tup (pv 0) pe_int (fun _ _ => rfl)) (pa_cons (pe_ix ix_tup (pv 0) pe_int (fun _ _ => rfl)) (pa_cons pe_int pa_nil)))))
    (pss_cons (ps_if (pt_not (pt_chain op_le op_lt (pe_fld (pe_call G_months_on (hr.mono (by decide)) (by rfl) T.g_months_on T.F_months_on.kp T.b_months_on .nil pass0 (pa_cons (pv 5) (pa_cons (pv 1) pa_nil))) rfl) (pe_fld (pv 4) rfl) (pe_fld (pe_call G_months_on (hr.mono (by decide)) (by rfl) T.g_months_on T.F_months_on.kp T.b_months_on .nil pass0 (pa_cons (pv 5) (pa_cons (pe_op op_add (pv 1) pe_int) pa_nil))) rfl))) (pss_one (ps_ret pe_bl)) pss_nil)
    (pss_cons (ps_if (pt_cmpR op_lt (pe_ix ix_tup (pv 0) pe_int (fun _ _ => rfl)) pe_int (nomark _)) (pss_one (ps_ret (pe_and (pe_cmpR (op_ownEq G_Day___eq__ T.m_Day___eq__.at_ T.m_Day___eq__.fn T.b_Day___eq__ pass0 (hr.mono (by decide))) (pe_call G_months_on (hr.mono (by decide)) (by rfl) T.g_months_on T.F_months_on.kp T.b_months_on .nil pass0 (pa_cons (pv 4) (pa_cons (pe_op op_sub pe_int (pv 1)) pa_nil))) (pv 3) (nomark _)) (pe_one (pe_cmpR (op_ownEq G_Day___eq__ T.m_Day___eq__.at_ T.m_Day___eq__.fn T.b_Day___eq__ pass0 (hr.mono (by decide))) (pe_call G_months_on (hr.mono (by decide)) (by rfl) T.g_months_on T.F_months_on.kp T.b_months_on .nil pass0 (pa_cons (pv 4) (pa_cons (pv 2) pa_nil))) (pe_call G_months_on (hr.mono (by decide)) (by rfl) T.g_months_on T.F_months_on.kp T.b_months_on .nil pass0 (pa_cons (pv 3) (pa_cons (pe_op op_add (pv 1) (pv 2)) pa_nil))) (nomark _)))))) pss_nil)
    (pss_one (ps_ret (pe_cmpR (op_eqD hr.units) (pe_slice sl_tup (pe_call G_parts_of (hr.mono (by decide)) (by rfl) T.g_parts_of T.F_parts_of.kp T.b_parts_of .nil pass0 (pa_cons (pv 4) pa_nil)) po_none (po_some pe_int)) (pe_slice sl_tup (pe_call G_parts_of (hr.mono (by decide)) (by rfl) T.g_parts_of T.F_parts_of.kp T.b_parts_of .nil pass0 (pa_cons (pe_call G_months_on (hr.mono (by decide)) (by rfl) T.g_months_on T.F_months_on.kp T.b_months_on .nil pass0 (pa_cons (pv 5) (pa_cons (pv 1) pa_nil))) pa_nil)) po_none (po_some pe_int)) (nomark _))))))))), ?_⟩
    -- day, there, first
    refine ⟨_, rfl, t, _, _, _, rfl, rfl, ht.sq, atI_nat (j := 0) rfl, _, rfl, t, _, _, _, rfl, rfl, ht.sq, atI_nat (j := 1) rfl, _, rfl, t, _, _, _, rfl, rfl, ht.sq, atI_nat (j := 2) rfl, y, m, d, rfl, hv, fun p H1 np s1 dp => ?_⟩
    refine ⟨_, rfl, _, rfl, p, _, k, rfl, dp, fun p2 H2 np2 s2 dp2 => ?_⟩
    have ht2 := (ht.same s1).same s2
    refine ⟨_, rfl, t, _, _, _, rfl, rfl, ht2.sq, atI_nat (j := 0) rfl, _, rfl, t, _, _, _, rfl, rfl, ht2.sq, atI_nat (j := 1) rfl, y, m, 1, rfl, Cal.first_valid g1 g2, fun p3 H3 np3 s3 dp3 => ?_⟩
    have hb := Cal.mon_between hv k
    -- the first if
    refine ⟨_, rfl, _, rfl, p3, _, k, rfl, dp3, fun p4 H4 np4 s4 dp4 => ?_⟩
    obtain ⟨dx4, hp4⟩ := id dp4
    have dp24 := (dp2.same s3).same s4
    obtain ⟨dx2, hp2⟩ := id dp24
    refine ⟨p4, _, dx4, _, _, rfl, hp4, T.cl_Day, T.n_Day_number, rfl, _, rfl, p2, _, dx2, _, _, rfl, hp2, T.cl_Day, T.n_Day_number, rfl, _, _, rfl, rfl, _, rfl, ?_⟩
    rw [decide_eq_true hb.1]
    refine iteT ?_
    have dp34 := dp3.same s4
    refine ⟨_, rfl, _, rfl, _, _, rfl, rfl, p3, _, k + 1, rfl, dp34, fun p5 H5 np5 s5 dp5 => ?_⟩
    obtain ⟨dx5, hp5⟩ := id dp5
    refine ⟨p5, _, dx5, _, _, rfl, hp5, T.cl_Day, T.n_Day_number, rfl, _, _, rfl, rfl, _, rfl, ?_⟩
    rw [decide_eq_true hb.2]
    refine iteF ?_
    have s25 := (s3.trans s4).trans s5
    have ht5 := ht2.same s25
    have dp_5 := (dp.same s2).same s25
    have dp2_5 := dp2.same s25
    have dp3_5 := dp34.same s5
    have s15 := (s1.trans s2).trans s25
    -- if date[2] < 29
    refine ⟨_, rfl, t, _, _, _, rfl, rfl, ht5.sq, atI_nat (j := 2) rfl, _, _, rfl, rfl, _, rfl, ite2 (fun hd => ?_) (fun hd => ?_)⟩
    · have hd : d < 29 := of_decide_eq_true hd
      refine ⟨_, rfl, _, rfl, _, _, rfl, rfl, p2, _, 0 - k, rfl, dp2_5, fun p6 H6 np6 s6 dp6 => ?_⟩
      obtain ⟨dx6, hp6⟩ := id dp6
      have dp_6 := dp_5.same s6
      refine ⟨_, rfl, p6, dx6, _, _, rfl, hp6, isi_day T dp_6, nf_day T, p6, _, _, rfl, dp6, .inl ⟨p, _, rfl, dp_6, _, rfl, _, rfl, ?_⟩⟩
      rw [decide_eq_true (Cal.mon_back hv hd k)]
      refine iteT ?_
      refine ⟨_, rfl, _, rfl, p2, _, l, rfl, dp2_5.same s6, fun p7 H7 np7 s7 dp7 => ?_⟩
      refine ⟨_, rfl, _, rfl, _, rfl, _, _, rfl, rfl, p, _, k + l, rfl, dp_6.same s7, fun p8 H8 np8 s8 dp8 => ?_⟩
      have dp78 := dp7.same s8
      obtain ⟨dx7, hp7⟩ := id dp78
      refine ⟨p7, dx7, _, _, rfl, hp7, isi_day T dp8, nf_day T, p7, _, _, rfl, dp78, .inl ⟨p8, _, rfl, dp8, _, rfl, ?_⟩⟩
      rw [decide_eq_true (Cal.mon_twice hv hd k l)]
      exact q _ ((s15.trans s6).trans (s7.trans s8))
    · obtain ⟨ey, em, ed⟩ := Cal.mon_parts hv k
      obtain ⟨fy, fm, fd⟩ := Cal.mon_parts (Cal.first_valid (y := y) g1 g2) k
      refine ⟨_, rfl, p2, _, rfl, dp2_5, fun t6 H6 n6 s6 ht6 => ?_⟩
      rw [ey, em, ed] at ht6
      refine ⟨_, rfl, t6, _, rfl, ht6.sq, cut2_part, fun t7 n7 => ?_⟩
      have s7 := same_upd (o := .tup (cutV [.int (Cal.onY y m k), .int (Cal.onM y m k), .int (Cal.onD y m d k)] none (some 2))) n7
      have ht7 : (upd H6 t7 (.tup (cutV [.int (Cal.onY y m k), .int (Cal.onM y m k), .int (Cal.onD y m d k)] none (some 2)))) t7 = some (.tup [.int (Cal.onY y m k), .int (Cal.onM y m k)]) := upd_same
      refine ⟨_, rfl, _, rfl, p3, _, k, rfl, (dp3_5.same s6).same s7, fun p8 H8 np8 s8 dp8 => ?_⟩
      refine ⟨p8, _, rfl, dp8, fun t9 H9 n9 s9 ht9 => ?_⟩
      rw [fy, fm, fd] at ht9
      refine ⟨_, rfl, t9, _, rfl, ht9.sq, cut2_part, fun ta na => ?_⟩
      have sa := same_upd (o := .tup (cutV [.int (Cal.onY y m k), .int (Cal.onM y m k), .int (Cal.onD y m 1 k)] none (some 2))) na
      have hta : (upd H9 ta (.tup (cutV [.int (Cal.onY y m k), .int (Cal.onM y m k), .int (Cal.onD y m 1 k)] none (some 2)))) ta = some (.tup [.int (Cal.onY y m k), .int (Cal.onM y m k)]) := upd_same
      have ht7a := sa _ _ (s9 _ _ (s8 _ _ ht7))
      refine ⟨_, _, pair_dp ht7a, pair_dp hta, pair_shaped _ _, pair_shaped _ _, ?_⟩
      rw [pair_eqv]
      exact q _ (((s15.trans s6).trans (s7.trans s8)).trans (s9.trans sa))
end
end K04
set_option Elab.async false
set_option linter.all false
set_option maxRecDepth 100000
set_option maxHeartbeats 2000000
namespace K04
open PySem L2 Lay
section
variable {P : Program} {w : World} {K : PySem.W.Frag} {mg : Str → Option Value} {base : Heap} (T : Tx K mg)
def spLaw (K : PySem.W.Frag) : Sp := fun vs H Q _ => ∃ (a : Addr) (ns : List Int), vs = [.ref a] ∧ SqL K H a (ns.map V.int) ∧ ns.length ≤ 63 ∧ ∀ H', Q (.bl true) H'
theorem ok_law : FnOk P w K mg base CX0 6 T.f_law T.fd_law ["_law_script"] (spLaw K) := by
  have G_day_of := G_day_of (P := P) (w := w) (base := base) T
  have G_parts_of := G_parts_of (P := P) (w := w) (base := base) T
  have G_Day___init__ := G_Day___init__ (P := P) (w := w) (base := base) T
  have G__law_draws := G__law_draws (P := P) (w := w) (base := base) T
  have G__law_next := G__law_next (P := P) (w := w) (base := base) T
  have G__law_date := G__law_date (P := P) (w := w) (base := base) T
  have G__law_stretch_right := G__law_stretch_right (P := P) (w := w) (base := base) T
  have G__law_months_right := G__law_months_right (P := P) (w := w) (base := base) T
  refine T.F_law.ok sc_law (fun vs H Q E h => ?_) (fun cdv A outer s H vs Q E hr h => ?_)
  · obtain ⟨a, ns, rfl, _⟩ := h
    rfl
  · obtain ⟨a, ns, rfl, hS, hlen, q⟩ := h
    refine ⟨_, (pss_cons (ps_for PassesOwn.never rfl (pi_list (pe_op op_cat (pe_slice sl_list (pv 0) po_none (po_some pe_int)) (pe_lst (pa_cons pe_int pa_nil)))) (pg_name (i := 1) sc_law.nd rfl (.inl rfl))
      (pss_cons (ps_set (i := 2) sc_law.nd rfl (.inl rfl) (pe_call G__law_draws (hr.mono (by decide)) (by rfl) T.g__law_draws T.F__law_draws.kp T.b__law_draws .nil pass0 (pa_cons (pv 1) pa_nil)))
    (pss_cons (ps_set (i := 3) sc_law.nd rfl (.inl rfl) (pe_call G__law_date (hr.mono (by decide)) (by rfl) T.g__law_date T.F__law_date.kp T.b__law_date .nil pass0 (pa_cons (pv 2) pa_nil)))
    (pss_cons (ps_if (pt_not (pt_val (pe_call G__law_stretch_right (hr.mono (by decide)) (by rfl) T.g__law_stretch_right T.F__law_stretch_right.kp T.b__law_stretch_right .nil pass0 (pa_cons (pv 3) (pa_cons (pe_op op_add pe_int (pe_op op_mod (pe_call G__law_next (hr.mono (by decide)) (by rfl) T.g__law_next T.F__law_next.kp T.b__law_next .nil pass0 (pa_cons (pv 2) pa_nil)) pe_int)) pa_nil))))) (pss_one (ps_ret pe_bl)) pss_nil)
    (pss_cons (ps_set (i := 4) sc_law.nd rfl (.inl rfl) (pe_op op_mul (pe_op op_sub (pe_op op_mod (pe_call G__law_next (hr.mono (by decide)) (by rfl) T.g__law_next T.F__law_next.kp T.b__law_next .nil pass0 (pa_cons (pv 2) pa_nil)) pe_int) pe_int) (pe_callTy call_int1 (by rfl) T.z_int (by decide +kernel) (pa_cons (pe_cmpR op_lt (pe_callB call_abs (by rfl) T.z_abs (by decide +kernel) (pa_cons (pe_ix ix_tup (pv 3) pe_int (fun _ _ => rfl)) pa_nil)) pe_int (nomark _)) pa_nil))))
    (pss_cons (ps_set (i := 5) sc_law.nd rfl (.inl rfl) (pe_make T.M_Day G_Day___init__ (hr.mono (by decide)) (by rfl) T.g_Day T.b_Day___init__ .nil pass0 (pa_cons (pe_op op_add (pe_fld (pe_call G_day_of (hr.mono (by decide)) (by rfl) T.g_day_of T.F_day_of.kp T.b_day_of .nil pass0 (pa_cons (pe_ix ix_tup (pv 3) pe_int (fun _ _ => rfl)) (pa_cons (pe_ix ix_tup (pv 3) pe_int (fun _ _ => rfl)) (pa_cons (pe_ix ix_tup (pv 3) pe_int (fun _ _ => rfl)) pa_nil)))) rfl) (pe_op op_mul pe_int (pv 4))) pa_nil)))
    (pss_cons (ps_if (pt_cmpR (op_neD hr.units) (pe_call G_parts_of (hr.mono (by decide)) (by rfl) T.g_parts_of T.F_parts_of.kp T.b_parts_of .nil pass0 (pa_cons (pv 5) pa_nil)) (pe_tup (pa_cons (pe_op op_add (pe_ix ix_tup (pv 3) pe_int (fun _ _ => rfl)) (pe_op op_mul pe_int (pv 4))) (pa_cons (pe_ix ix_tup (pv 3) pe_int (fun _ _ => rfl)) (pa_cons (pe_ix ix_tup (pv 3) pe_int (fun _ _ => rfl)) pa_nil)))) (nomark _)) (pss_one (ps_ret pe_bl)) pss_nil)
    (pss_one (ps_for PassesOwn.never rfl (pi_range1 (by rfl) T.z_range (pa_cons pe_int pa_nil)) (pg_name (i := 6) sc_law.nd rfl (.inl rfl))
      (pss_cons (ps_par (i := 7) (j := 8) (by rfl) sc_law.nd rfl rfl (by decide) rfl rfl (pa_cons (pe_op op_sub (pe_op op_mod (pe_call G__law_next (hr.mono (by decide)) (by rfl) T.g__law_next T.F__law_next.kp T.b__law_next .nil pass0 (pa_cons (pv 2) pa_nil)) pe_int) pe_int) (pa_cons (pe_op op_sub (pe_op op_mod (pe_call G__law_next (hr.mono (by decide)) (by rfl) T.g__law_next T.F__law_next.kp T.b__law_next .nil pass0 (pa_cons (pv 2) pa_nil)) pe_int) pe_int) pa_nil)) (by rfl))
    (pss_one (ps_if (pt_not (pt_val (pe_call G__law_months_right (hr.mono (by decide)) (by rfl) T.g__law_months_right T.F__law_months_right.kp T.b__law_months_right .nil pass0 (pa_cons (pe_call G__law_date (hr.mono (by decide)) (by rfl) T.g__law_date T.F__law_date.kp T.b__law_date .nil pass0 (pa_cons (pv 2) pa_nil)) (pa_cons (pv 7) (pa_cons (pv 8) pa_nil)))))) (pss_one (ps_ret pe_bl)) pss_nil))))))))))))
    (pss_one (ps_ret pe_bl))), ?_⟩
    refine ⟨_, rfl, _, rfl, a, _, rfl, hS, fun p1 n1 => ?_⟩
    refine ⟨(by show 1 ≤ sizeLine; decide), fun p2 n2 => ?_⟩
    have n12 : p1 ≠ p2 := fun e => by
      subst e
      rw [upd_same] at n2
      cases n2
    have hl : (cutV (ns.map V.int) none (some 4)).length + 1 ≤ sizeLine := by
      have h1 := cutV_length (ns.map V.int) none (some 4)
      rw [List.length_map] at h1
      exact Nat.le_of_lt (small1000 (by omega))
    refine ⟨p1, p2, _, _, rfl, rfl, (by rw [upd_ne n12, upd_same]), upd_same, hl, fun p3 n3 => ?_⟩
    refine ⟨p3, rfl, ⟨_, .inl (.inl upd_same)⟩, for_list (K := K) (a := p3) (xs := cutV (ns.map V.int) none (some 4) ++ [V.int 0])
      (fun i σ H2 => ∃ v1 v2 v3 v4 v5 v6 v7 v8, σ = [some (.ref a), v1, v2, v3, v4, v5, v6, v7, v8] ∧ H2 p3 = some (.lst (cutV (ns.map V.int) none (some 4) ++ [V.int 0])))
      ⟨none, none, none, none, none, none, none, none, rfl, upd_same⟩ (fun i σ H2 _ ⟨_, _, _, _, _, _, _, _, _, h⟩ => .inl (.inl h)) ?_ ?_⟩
    · rintro i y σ H2 hi ⟨v1, v2, v3, v4, v5, v6, v7, v8, rfl, h3⟩
      obtain ⟨c, rfl⟩ := items_int hi
      refine ⟨_, rfl, c, rfl, fun d H4 nd s4 hd4 => ?_⟩
      have npd : p3 ≠ d := ne_of_none h3 nd
      have h4 := s4 _ _ h3
      -- date = _law_date(draws)
      refine ⟨_, rfl, d, 0, rfl, hd4, by omega, fun t y m dd H6 nt hv k6 hd6 ht6 => ?_⟩
      have h6 := k6 _ _ npd h4
      have ntd : t ≠ d := fun e => by
        subst e
        obtain ⟨_, _, z⟩ := hd6
        exact absurd (z.symm.trans ht6) (by simp)
      -- stretch
      refine ⟨_, rfl, _, rfl, d, 2, rfl, hd6, by omega, fun r H7 r0 r1 k7 hd7 => ?_⟩
      have h7 := k7 _ _ npd h6
      have ht7 : Tup3 H7 t y m dd := k7 _ _ ntd ht6
      refine ⟨_, _, rfl, rfl, (by show (0 : Int) < 900; decide), _, _, rfl, rfl, t, y, m, dd, _, rfl, ht7, hv, by omega, by omega, fun H8 s8 => ⟨_, rfl, iteF ?_⟩⟩
      have h8 := s8 _ _ h7
      have ht8 := ht7.same s8
      have hd8 := hd7.same s8
      -- cycles
      refine ⟨_, rfl, d, 3, rfl, hd8, by omega, fun r2 H9 r20 r21 k9 hd9 => ?_⟩
      have h9 := k9 _ _ npd h8
      have ht9 : Tup3 H9 t y m dd := k9 _ _ ntd ht8
      refine ⟨_, _, rfl, rfl, (by show (0 : Int) < 61; decide), _, _, rfl, rfl, _, rfl, t, _, _, _, rfl, rfl, ht9.sq, atI_nat (j := 0) rfl, _, rfl, _, _, rfl, rfl, .inr ⟨_, rfl, _, _, rfl, rfl, .inl ⟨by omega, by omega⟩, ?_⟩⟩
      show tSeq _ _ _ [some (.ref a), some (.int c), some (.ref d), some (.ref t), some (.int ((r2 % 61 - 30) * (if decide ((if y < 0 then -y else y) < 9000) = true then 1 else 0))), v5, v6, v7, v8] H9
      generalize (r2 % 61 - 30) * (if decide ((if y < 0 then -y else y) < 9000) = true then (1 : Int) else 0) = cy
      -- day
      refine ⟨_, rfl, t, _, _, _, rfl, rfl, ht9.sq, atI_nat (j := 0) rfl, _, rfl, t, _, _, _, rfl, rfl, ht9.sq, atI_nat (j := 1) rfl, _, rfl, t, _, _, _, rfl, rfl, ht9.sq, atI_nat (j := 2) rfl, y, m, dd, rfl, hv, fun p Ha np sa dp => ?_⟩
      obtain ⟨dxp, hpp⟩ := id dp
      refine ⟨p, _, dxp, _, _, rfl, hpp, T.cl_Day, T.n_Day_number, rfl, _, rfl, _, _, rfl, rfl, .inl ⟨by decide, by decide⟩, _, _, rfl, rfl, fun x dx nx nd' ne => ⟨x, dx, _, rfl, upd_same, rfl, ?_⟩⟩
      have sb := same_mk (o1 := .own x) (o2 := .ins T.C_Day dx []) (o3 := .ins T.C_Day dx [("number", .int (Cal.num y m dd + 146097 * cy))]) nx nd'
      have dpb : DayAt T.C_Day (upd (upd (upd Ha dx (.own x)) x (.ins T.C_Day dx [])) x (.ins T.C_Day dx [("number", .int (Cal.num y m dd + 146097 * cy))])) x (Cal.num y m dd + 146097 * cy) := ⟨dx, upd_same⟩
      have htb := (ht9.same sa).same sb
      have hdb := (hd9.same sa).same sb
      have hb := sb _ _ (sa _ _ h9)
      obtain ⟨ey, em, ed⟩ := Cal.parts_cyc hv cy
      -- the second if
      refine ⟨_, rfl, x, _, rfl, dpb, fun t2 Hc nc sc ht2 => ?_⟩
      rw [ey, em, ed] at ht2
      have htc := htb.same sc
      refine ⟨_, rfl, t, _, _, _, rfl, rfl, htc.sq, atI_nat (j := 0) rfl, _, rfl, _, _, rfl, rfl, .inl ⟨by decide, by decide⟩, _, _, rfl, rfl, _, rfl, t, _, _, _, rfl, rfl, htc.sq, atI_nat (j := 1) rfl, _, rfl, t, _, _, _, rfl, rfl, htc.sq, atI_nat (j := 2) rfl, (by show 3 ≤ sizeLine; decide), fun t3 n3' => ?_⟩
      have sd := same_upd (o := .tup [.int (y + 400 * cy), .int m, .int dd]) n3'
      have ht3 : Tup3 (upd Hc t3 (.tup [.int (y + 400 * cy), .int m, .int dd])) t3 (y + 400 * cy) m dd := upd_same
      refine ⟨_, _, (ht2.same sd).dp, ht3.dp, tup_shaped _ _ _, tup_shaped _ _ _, _, rfl, ?_⟩
      rw [tup_eqv]
      refine iteF ?_
      have hd0 := (hdb.same sc).same sd
      have h0 := sd _ _ (sc _ _ hb)
      -- the turns
      refine ⟨8, rfl, by decide, by decide, for_range (lo := 0) (n := 8) (fun j σ H5 => ∃ v3 v4 v5 v6 v7 v8, σ = [some (.ref a), some (.int c), some (.ref d), v3, v4, v5, v6, v7, v8] ∧ H5 p3 = some (.lst (cutV (ns.map V.int) none (some 4) ++ [V.int 0])) ∧ Dr H5 d (4 + 4 * j))
        ⟨_, _, _, _, _, _, rfl, h0, hd0⟩ ?_ ?_⟩
      · rintro j σ H5 hj ⟨v3, v4, v5, v6, v7, v8, rfl, h5, hd5⟩
        refine ⟨_, rfl, d, 4 + 4 * j, rfl, hd5, by omega, fun r3 He r30 r31 ke hde => ?_⟩
        refine ⟨_, _, rfl, rfl, (by show (0 : Int) < 2000; decide), _, _, rfl, rfl, _, rfl, d, 4 + 4 * j + 1, rfl, hde, by omega, fun r4 Hf r40 r41 kf hdf => ?_⟩
        refine ⟨_, _, rfl, rfl, (by show (0 : Int) < 2000; decide), _, _, rfl, rfl, _, _, rfl, ?_⟩
        have hf := kf _ _ npd (ke _ _ npd h5)
        refine ⟨_, rfl, d, 4 + 4 * j + 2, rfl, hdf, by omega, fun t5 y5 m5 d5 Hg nt5 hv5 kg hdg htg => ?_⟩
        refine ⟨_, rfl, _, rfl, t5, y5, m5, d5, _, _, rfl, htg, hv5, fun Hh sh => ⟨_, rfl, iteF ?_⟩⟩
        exact ⟨_, _, _, _, _, _, rfl, sh _ _ (kg _ _ npd hf), hdg.same sh⟩
      · rintro σ H5 ⟨v3, v4, v5, v6, v7, v8, rfl, h5, hd5⟩
        exact ⟨_, _, _, _, _, _, _, _, rfl, h5⟩
    · rintro σ H2 ⟨v1, v2, v3, v4, v5, v6, v7, v8, rfl, h3⟩
      exact q _
end
theorem all_mk {l : PySem.W.OpenLaw} {w : World} {K : PySem.W.Frag} {h : Heap} {mg : Str → Option Value} {fa : Addr}
    {C_Day : Addr}
    {f_Day___init__ : Addr} {od_Day___init__ an_Day___init__ : Option Addr} {sl_Day___init__ : Array (Option Value)} {oc_Day___init__ kV_Day___init__ dc_Day___init__ pm_Day___init__ cd_Day___init__ ct_Day___init__ : Value}
    {f_Day___eq__ : Addr} {od_Day___eq__ an_Day___eq__ : Option Addr} {sl_Day___eq__ : Array (Option Value)} {oc_Day___eq__ kV_Day___eq__ dc_Day___eq__ pm_Day___eq__ cd_Day___eq__ ct_Day___eq__ : Value}
    {f_is_leap : Addr} {od_is_leap an_is_leap : Option Addr} {sl_is_leap : Array (Option Value)} {oc_is_leap kV_is_leap dc_is_leap pm_is_leap cd_is_leap ct_is_leap : Value}
    {f_last_of : Addr} {od_last_of an_last_of : Option Addr} {sl_last_of : Array (Option Value)} {oc_last_of kV_last_of dc_last_of pm_last_of cd_last_of ct_last_of : Value}
    {f_day_of : Addr} {od_day_of an_day_of : Option Addr} {sl_day_of : Array (Option Value)} {oc_day_of kV_day_of dc_day_of pm_day_of cd_day_of ct_day_of : Value}
    {f_parts_of : Addr} {od_parts_of an_parts_of : Option Addr} {sl_parts_of : Array (Option Value)} {oc_parts_of kV_parts_of dc_parts_of pm_parts_of cd_parts_of ct_parts_of : Value}
    {f_months_on : Addr} {od_months_on an_months_on : Option Addr} {sl_months_on : Array (Option Value)} {oc_months_on kV_months_on dc_months_on pm_months_on cd_months_on ct_months_on : Value}
    {f__law_draws : Addr} {od__law_draws an__law_draws : Option Addr} {sl__law_draws : Array (Option Value)} {oc__law_draws kV__law_draws dc__law_draws pm__law_draws cd__law_draws ct__law_draws : Value}
    {f__law_next : Addr} {od__law_next an__law_next : Option Addr} {sl__law_next : Array (Option Value)} {oc__law_next kV__law_next dc__law_next pm__law_next cd__law_next ct__law_next : Value}
    {f__law_length : Addr} {od__law_length an__law_length : Option Addr} {sl__law_length : Array (Option Value)} {oc__law_length kV__law_length dc__law_length pm__law_length cd__law_length ct__law_length : Value}
    {f__law_year : Addr} {od__law_year an__law_year : Option Addr} {sl__law_year : Array (Option Value)} {oc__law_year kV__law_year dc__law_year pm__law_year cd__law_year ct__law_year : Value}
    {f__law_date : Addr} {od__law_date an__law_date : Option Addr} {sl__law_date : Array (Option Value)} {oc__law_date kV__law_date dc__law_date pm__law_date cd__law_date ct__law_date : Value}
    {f__law_after : Addr} {od__law_after an__law_after : Option Addr} {sl__law_after : Array (Option Value)} {oc__law_after kV__law_after dc__law_after pm__law_after cd__law_after ct__law_after : Value}
    {f__law_stretch_right : Addr} {od__law_stretch_right an__law_stretch_right : Option Addr} {sl__law_stretch_right : Array (Option Value)} {oc__law_stretch_right kV__law_stretch_right dc__law_stretch_right pm__law_stretch_right cd__law_stretch_right ct__law_stretch_right : Value}
    {f__law_months_right : Addr} {od__law_months_right an__law_months_right : Option Addr} {sl__law_months_right : Array (Option Value)} {oc__law_months_right kV__law_months_right dc__law_months_right pm__law_months_right cd__law_months_right ct__law_months_right : Value}
    {f_law : Addr} {od_law an_law : Option Addr} {sl_law : Array (Option Value)} {oc_law kV_law dc_law pm_law cd_law ct_law : Value}
    {t_CYCLE : Tok}
    {q_LENGTHS : Addr} {dd_LENGTHS : Option Addr} {n_LENGTHS : Nat} {sl_LENGTHS : Array (Option Value)} {t_LENGTHS_0 t_LENGTHS_1 t_LENGTHS_2 t_LENGTHS_3 t_LENGTHS_4 t_LENGTHS_5 t_LENGTHS_6 t_LENGTHS_7 t_LENGTHS_8 t_LENGTHS_9 t_LENGTHS_10 t_LENGTHS_11 : Tok} (X : K.In h) (G : h.Ns mainGlobals mg) (hfa : mg "law" = some (.ref fa))
    (aC_Day : PySem.W.nsIn K mainGlobals "Day" = some (some (.ref C_Day)))
    (pg_Day : PySem.W.plainGet K C_Day Str.empty = true)
    (hd_Day : PySem.W.hasDictIn K C_Day = true)
    (po_Day : PySem.W.plainOver K C_Day = true)
    (sa_Day : PySem.W.findIn K (.ref C_Day) "__setattr__" = some (some (.builtin "object.__setattr__")))
    (mk_Day : PySem.W.makesIn K C_Day = true)
    (kc_Day : PySem.W.keepIn K (.ref C_Day) = true)
    (n_Day_number : PySem.W.findIn K (.ref C_Day) "number" = some none)
    (a_Day___init__ : PySem.W.findIn K (.ref C_Day) "__init__" = some (some (.ref f_Day___init__)))
    (i_Day___init__ : PySem.W.isFn K (.ref f_Day___init__) = true)
    (l_Day___init__ : K.lookup f_Day___init__ = some ⟨oc_Day___init__, od_Day___init__, .func (PySem.W.fnOf "__init__" "Day.__init__" (defArgs s_Day___init__) (defBody s_Day___init__) (defScope s_Day___init__) .none kV_Day___init__ dc_Day___init__ pm_Day___init__ an_Day___init__ cd_Day___init__ ct_Day___init__), sl_Day___init__⟩)
    (c_Day___init__ : PySem.W.codeIn K cd_Day___init__ "Day.__init__" = true)
    (k_Day___init__ : PySem.W.keepIn K (.ref f_Day___init__) = true)
    (a_Day___eq__ : PySem.W.findIn K (.ref C_Day) "__eq__" = some (some (.ref f_Day___eq__)))
    (i_Day___eq__ : PySem.W.isFn K (.ref f_Day___eq__) = true)
    (l_Day___eq__ : K.lookup f_Day___eq__ = some ⟨oc_Day___eq__, od_Day___eq__, .func (PySem.W.fnOf "__eq__" "Day.__eq__" (defArgs s_Day___eq__) (defBody s_Day___eq__) (defScope s_Day___eq__) .none kV_Day___eq__ dc_Day___eq__ pm_Day___eq__ an_Day___eq__ cd_Day___eq__ ct_Day___eq__), sl_Day___eq__⟩)
    (c_Day___eq__ : PySem.W.codeIn K cd_Day___eq__ "Day.__eq__" = true)
    (k_Day___eq__ : PySem.W.keepIn K (.ref f_Day___eq__) = true)
    (a_is_leap : PySem.W.nsIn K mainGlobals "is_leap" = some (some (.ref f_is_leap)))
    (l_is_leap : K.lookup f_is_leap = some ⟨oc_is_leap, od_is_leap, .func (PySem.W.fnOf "is_leap" "is_leap" (defArgs s_is_leap) (defBody s_is_leap) (defScope s_is_leap) .none kV_is_leap dc_is_leap pm_is_leap an_is_leap cd_is_leap ct_is_leap), sl_is_leap⟩)
    (c_is_leap : PySem.W.codeIn K cd_is_leap "is_leap" = true)
    (k_is_leap : PySem.W.keepIn K (.ref f_is_leap) = true)
    (a_last_of : PySem.W.nsIn K mainGlobals "last_of" = some (some (.ref f_last_of)))
    (l_last_of : K.lookup f_last_of = some ⟨oc_last_of, od_last_of, .func (PySem.W.fnOf "last_of" "last_of" (defArgs s_last_of) (defBody s_last_of) (defScope s_last_of) .none kV_last_of dc_last_of pm_last_of an_last_of cd_last_of ct_last_of), sl_last_of⟩)
    (c_last_of : PySem.W.codeIn K cd_last_of "last_of" = true)
    (k_last_of : PySem.W.keepIn K (.ref f_last_of) = true)
    (a_day_of : PySem.W.nsIn K mainGlobals "day_of" = some (some (.ref f_day_of)))
    (l_day_of : K.lookup f_day_of = some ⟨oc_day_of, od_day_of, .func (PySem.W.fnOf "day_of" "day_of" (defArgs s_day_of) (defBody s_day_of) (defScope s_day_of) .none kV_day_of dc_day_of pm_day_of an_day_of cd_day_of ct_day_of), sl_day_of⟩)
    (c_day_of : PySem.W.codeIn K cd_day_of "day_of" = true)
    (k_day_of : PySem.W.keepIn K (.ref f_day_of) = true)
    (a_parts_of : PySem.W.nsIn K mainGlobals "parts_of" = some (some (.ref f_parts_of)))
    (l_parts_of : K.lookup f_parts_of = some ⟨oc_parts_of, od_parts_of, .func (PySem.W.fnOf "parts_of" "parts_of" (defArgs s_parts_of) (defBody s_parts_of) (defScope s_parts_of) .none kV_parts_of dc_parts_of pm_parts_of an_parts_of cd_parts_of ct_parts_of), sl_parts_of⟩)
    (c_parts_of : PySem.W.codeIn K cd_parts_of "parts_of" = true)
    (k_parts_of : PySem.W.keepIn K (.ref f_parts_of) = true)
    (a_months_on : PySem.W.nsIn K mainGlobals "months_on" = some (some (.ref f_months_on)))
    (l_months_on : K.lookup f_months_on = some ⟨oc_months_on, od_months_on, .func (PySem.W.fnOf "months_on" "months_on" (defArgs s_months_on) (defBody s_months_on) (defScope s_months_on) .none kV_months_on dc_months_on pm_months_on an_months_on cd_months_on ct_months_on), sl_months_on⟩)
    (c_months_on : PySem.W.codeIn K cd_months_on "months_on" = true)
    (k_months_on : PySem.W.keepIn K (.ref f_months_on) = true)
    (a__law_draws : PySem.W.nsIn K mainGlobals "_law_draws" = some (some (.ref f__law_draws)))
    (l__law_draws : K.lookup f__law_draws = some ⟨oc__law_draws, od__law_draws, .func (PySem.W.fnOf "_law_draws" "_law_draws" (defArgs s__law_draws) (defBody s__law_draws) (defScope s__law_draws) .none kV__law_draws dc__law_draws pm__law_draws an__law_draws cd__law_draws ct__law_draws), sl__law_draws⟩)
    (c__law_draws : PySem.W.codeIn K cd__law_draws "_law_draws" = true)
    (k__law_draws : PySem.W.keepIn K (.ref f__law_draws) = true)
    (a__law_next : PySem.W.nsIn K mainGlobals "_law_next" = some (some (.ref f__law_next)))
    (l__law_next : K.lookup f__law_next = some ⟨oc__law_next, od__law_next, .func (PySem.W.fnOf "_law_next" "_law_next" (defArgs s__law_next) (defBody s__law_next) (defScope s__law_next) .none kV__law_next dc__law_next pm__law_next an__law_next cd__law_next ct__law_next), sl__law_next⟩)
    (c__law_next : PySem.W.codeIn K cd__law_next "_law_next" = true)
    (k__law_next : PySem.W.keepIn K (.ref f__law_next) = true)
    (a__law_length : PySem.W.nsIn K mainGlobals "_law_length" = some (some (.ref f__law_length)))
    (l__law_length : K.lookup f__law_length = some ⟨oc__law_length, od__law_length, .func (PySem.W.fnOf "_law_length" "_law_length" (defArgs s__law_length) (defBody s__law_length) (defScope s__law_length) .none kV__law_length dc__law_length pm__law_length an__law_length cd__law_length ct__law_length), sl__law_length⟩)
    (c__law_length : PySem.W.codeIn K cd__law_length "_law_length" = true)
    (k__law_length : PySem.W.keepIn K (.ref f__law_length) = true)
    (a__law_year : PySem.W.nsIn K mainGlobals "_law_year" = some (some (.ref f__law_year)))
    (l__law_year : K.lookup f__law_year = some ⟨oc__law_year, od__law_year, .func (PySem.W.fnOf "_law_year" "_law_year" (defArgs s__law_year) (defBody s__law_year) (defScope s__law_year) .none kV__law_year dc__law_year pm__law_year an__law_year cd__law_year ct__law_year), sl__law_year⟩)
    (c__law_year : PySem.W.codeIn K cd__law_year "_law_year" = true)
    (k__law_year : PySem.W.keepIn K (.ref f__law_year) = true)
    (a__law_date : PySem.W.nsIn K mainGlobals "_law_date" = some (some (.ref f__law_date)))
    (l__law_date : K.lookup f__law_date = some ⟨oc__law_date, od__law_date, .func (PySem.W.fnOf "_law_date" "_law_date" (defArgs s__law_date) (defBody s__law_date) (defScope s__law_date) .none kV__law_date dc__law_date pm__law_date an__law_date cd__law_date ct__law_date), sl__law_date⟩)
    (c__law_date : PySem.W.codeIn K cd__law_date "_law_date" = true)
    (k__law_date : PySem.W.keepIn K (.ref f__law_date) = true)
    (a__law_after : PySem.W.nsIn K mainGlobals "_law_after" = some (some (.ref f__law_after)))
    (l__law_after : K.lookup f__law_after = some ⟨oc__law_after, od__law_after, .func (PySem.W.fnOf "_law_after" "_law_after" (defArgs s__law_after) (defBody s__law_after) (defScope s__law_after) .none kV__law_after dc__law_after pm__law_after an__law_after cd__law_after ct__law_after), sl__law_after⟩)
    (c__law_after : PySem.W.codeIn K cd__law_after "_law_after" = true)
    (k__law_after : PySem.W.keepIn K (.ref f__law_after) = true)
    (a__law_stretch_right : PySem.W.nsIn K mainGlobals "_law_stretch_right" = some (some (.ref f__law_stretch_right)))
    (l__law_stretch_right : K.lookup f__law_stretch_right = some ⟨oc__law_stretch_right, od__law_stretch_right, .func (PySem.W.fnOf "_law_stretch_right" "_law_stretch_right" (defArgs s__law_stretch_right) (defBody s__law_stretch_right) (defScope s__law_stretch_right) .none kV__law_stretch_right dc__law_stretch_right pm__law_stretch_right an__law_stretch_right cd__law_stretch_right ct__law_stretch_right), sl__law_stretch_right⟩)
    (c__law_stretch_right : PySem.W.codeIn K cd__law_stretch_right "_law_stretch_right" = true)
    (k__law_stretch_right : PySem.W.keepIn K (.ref f__law_stretch_right) = true)
    (a__law_months_right : PySem.W.nsIn K mainGlobals "_law_months_right" = some (some (.ref f__law_months_right)))
    (l__law_months_right : K.lookup f__law_months_right = some ⟨oc__law_months_right, od__law_months_right, .func (PySem.W.fnOf "_law_months_right" "_law_months_right" (defArgs s__law_months_right) (defBody s__law_months_right) (defScope s__law_months_right) .none kV__law_months_right dc__law_months_right pm__law_months_right an__law_months_right cd__law_months_right ct__law_months_right), sl__law_months_right⟩)
    (c__law_months_right : PySem.W.codeIn K cd__law_months_right "_law_months_right" = true)
    (k__law_months_right : PySem.W.keepIn K (.ref f__law_months_right) = true)
    (a_law : PySem.W.nsIn K mainGlobals "law" = some (some (.ref f_law)))
    (l_law : K.lookup f_law = some ⟨oc_law, od_law, .func (PySem.W.fnOf "law" "law" (defArgs s_law) (defBody s_law) (defScope s_law) .none kV_law dc_law pm_law an_law cd_law ct_law), sl_law⟩)
    (c_law : PySem.W.codeIn K cd_law "law" = true)
    (k_law : PySem.W.keepIn K (.ref f_law) = true)
    (a_CYCLE : PySem.W.nsIn K mainGlobals "CYCLE" = some (some (.int 146097 t_CYCLE)))
    (a_LENGTHS : PySem.W.nsIn K mainGlobals "LENGTHS" = some (some (.ref q_LENGTHS)))
    (l_LENGTHS : K.lookup q_LENGTHS = some ⟨.type "tuple", dd_LENGTHS, .seq #[.int 31 t_LENGTHS_0, .int 28 t_LENGTHS_1, .int 31 t_LENGTHS_2, .int 30 t_LENGTHS_3, .int 31 t_LENGTHS_4, .int 30 t_LENGTHS_5, .int 31 t_LENGTHS_6, .int 31 t_LENGTHS_7, .int 30 t_LENGTHS_8, .int 31 t_LENGTHS_9, .int 30 t_LENGTHS_10, .int 31 t_LENGTHS_11] n_LENGTHS, sl_LENGTHS⟩)
    (z_isinstance : PySem.W.nsIn K mainGlobals "isinstance" = some none)
    (z_int : PySem.W.nsIn K mainGlobals "int" = some none)
    (z_divmod : PySem.W.nsIn K mainGlobals "divmod" = some none)
    (z_min : PySem.W.nsIn K mainGlobals "min" = some none)
    (z_max : PySem.W.nsIn K mainGlobals "max" = some none)
    (z_range : PySem.W.nsIn K mainGlobals "range" = some none)
    (z_abs : PySem.W.nsIn K mainGlobals "abs" = some none)
    (e_cls : PySem.W.findIn K (.ref C_Day) "__class__" = some (some (.builtin "object.__class__")))
    (e_get : PySem.W.specialIn K (.builtin "object.__class__") "__get__" = some (some (.builtin "getset_descriptor.__get__")))
    (e_tak : PySem.W.takesIn K (.builtin "object.__class__") = some true)
    (e_mro_Day : PySem.W.mroIn K C_Day (.type "object") = some true)
    (e_ne_Day : PySem.W.findIn K (.ref C_Day) "__ne__" = some (some (.builtin "object.__ne__"))) :
    ∃ fd : FuncData, (∀ (s : Shared) (v : Value), BindsTo s fd ⟨[v], []⟩ [("_law_script", v)]) ∧ ∀ base : Heap, K.In base → base.Ns mainGlobals mg → FnOk l.prog w K mg base CX0 6 fa fd ["_law_script"] (spLaw K) := by
  have e := hfa.symm.trans (PySem.W.mg_of X G a_law)
  cases e
  have F_Day___init__ := fun_mk (st := s_Day___init__) l_Day___init__ c_Day___init__ k_Day___init__
  have b_Day___init__ := F_Day___init__.binds (ps := ["self", "number"]) fun _ _ _ _ _ _ us hl => match us, hl with | [_, _], _ => rfl
  have F_Day___eq__ := fun_mk (st := s_Day___eq__) l_Day___eq__ c_Day___eq__ k_Day___eq__
  have b_Day___eq__ := F_Day___eq__.binds (ps := ["self", "other"]) fun _ _ _ _ _ _ us hl => match us, hl with | [_, _], _ => rfl
  have F_is_leap := fun_mk (st := s_is_leap) l_is_leap c_is_leap k_is_leap
  have b_is_leap := F_is_leap.binds (ps := ["year"]) fun _ _ _ _ _ _ us hl => match us, hl with | [_], _ => rfl
  have F_last_of := fun_mk (st := s_last_of) l_last_of c_last_of k_last_of
  have b_last_of := F_last_of.binds (ps := ["year", "month"]) fun _ _ _ _ _ _ us hl => match us, hl with | [_, _], _ => rfl
  have F_day_of := fun_mk (st := s_day_of) l_day_of c_day_of k_day_of
  have b_day_of := F_day_of.binds (ps := ["year", "month", "day"]) fun _ _ _ _ _ _ us hl => match us, hl with | [_, _, _], _ => rfl
  have F_parts_of := fun_mk (st := s_parts_of) l_parts_of c_parts_of k_parts_of
  have b_parts_of := F_parts_of.binds (ps := ["day"]) fun _ _ _ _ _ _ us hl => match us, hl with | [_], _ => rfl
  have F_months_on := fun_mk (st := s_months_on) l_months_on c_months_on k_months_on
  have b_months_on := F_months_on.binds (ps := ["day", "many"]) fun _ _ _ _ _ _ us hl => match us, hl with | [_, _], _ => rfl
  have F__law_draws := fun_mk (st := s__law_draws) l__law_draws c__law_draws k__law_draws
  have b__law_draws := F__law_draws.binds (ps := ["_law_cell"]) fun _ _ _ _ _ _ us hl => match us, hl with | [_], _ => rfl
  have F__law_next := fun_mk (st := s__law_next) l__law_next c__law_next k__law_next
  have b__law_next := F__law_next.binds (ps := ["_law_draws_here"]) fun _ _ _ _ _ _ us hl => match us, hl with | [_], _ => rfl
  have F__law_length := fun_mk (st := s__law_length) l__law_length c__law_length k__law_length
  have b__law_length := F__law_length.binds (ps := ["_law_year_here", "_law_month"]) fun _ _ _ _ _ _ us hl => match us, hl with | [_, _], _ => rfl
  have F__law_year := fun_mk (st := s__law_year) l__law_year c__law_year k__law_year
  have b__law_year := F__law_year.binds (ps := ["_law_draws_here"]) fun _ _ _ _ _ _ us hl => match us, hl with | [_], _ => rfl
  have F__law_date := fun_mk (st := s__law_date) l__law_date c__law_date k__law_date
  have b__law_date := F__law_date.binds (ps := ["_law_draws_here"]) fun _ _ _ _ _ _ us hl => match us, hl with | [_], _ => rfl
  have F__law_after := fun_mk (st := s__law_after) l__law_after c__law_after k__law_after
  have b__law_after := F__law_after.binds (ps := ["_law_date_here"]) fun _ _ _ _ _ _ us hl => match us, hl with | [_], _ => rfl
  have F__law_stretch_right := fun_mk (st := s__law_stretch_right) l__law_stretch_right c__law_stretch_right k__law_stretch_right
  have b__law_stretch_right := F__law_stretch_right.binds (ps := ["_law_date_here", "_law_many"]) fun _ _ _ _ _ _ us hl => match us, hl with | [_, _], _ => rfl
  have F__law_months_right := fun_mk (st := s__law_months_right) l__law_months_right c__law_months_right k__law_months_right
  have b__law_months_right := F__law_months_right.binds (ps := ["_law_date_here", "_law_one", "_law_two"]) fun _ _ _ _ _ _ us hl => match us, hl with | [_, _, _], _ => rfl
  have F_law := fun_mk (st := s_law) l_law c_law k_law
  have b_law := F_law.binds (ps := ["_law_script"]) fun _ _ _ _ _ _ us hl => match us, hl with | [_], _ => rfl
  exact ⟨_, fun s v => .of_eq rfl, fun base _ _ => ok_law (T := { C_Day := C_Day, g_Day := PySem.W.mg_of X G aC_Day, cl_Day := ⟨pg_Day, hd_Day, po_Day, sa_Day⟩, n_Day_number := n_Day_number, f_Day___init__ := f_Day___init__, fd_Day___init__ := PySem.W.fnOf "__init__" "Day.__init__" (defArgs s_Day___init__) (defBody s_Day___init__) (defScope s_Day___init__) .none kV_Day___init__ dc_Day___init__ pm_Day___init__ an_Day___init__ cd_Day___init__ ct_Day___init__, F_Day___init__ := F_Day___init__, b_Day___init__ := b_Day___init__, M_Day := ⟨mk_Day, a_Day___init__, i_Day___init__, kc_Day⟩, f_Day___eq__ := f_Day___eq__, fd_Day___eq__ := PySem.W.fnOf "__eq__" "Day.__eq__" (defArgs s_Day___eq__) (defBody s_Day___eq__) (defScope s_Day___eq__) .none kV_Day___eq__ dc_Day___eq__ pm_Day___eq__ an_Day___eq__ cd_Day___eq__ ct_Day___eq__, F_Day___eq__ := F_Day___eq__, b_Day___eq__ := b_Day___eq__, m_Day___eq__ := ⟨a_Day___eq__, i_Day___eq__, k_Day___eq__⟩, f_is_leap := f_is_leap, fd_is_leap := PySem.W.fnOf "is_leap" "is_leap" (defArgs s_is_leap) (defBody s_is_leap) (defScope s_is_leap) .none kV_is_leap dc_is_leap pm_is_leap an_is_leap cd_is_leap ct_is_leap, F_is_leap := F_is_leap, b_is_leap := b_is_leap, g_is_leap := PySem.W.mg_of X G a_is_leap, f_last_of := f_last_of, fd_last_of := PySem.W.fnOf "last_of" "last_of" (defArgs s_last_of) (defBody s_last_of) (defScope s_last_of) .none kV_last_of dc_last_of pm_last_of an_last_of cd_last_of ct_last_of, F_last_of := F_last_of, b_last_of := b_last_of, g_last_of := PySem.W.mg_of X G a_last_of, f_day_of := f_day_of, fd_day_of := PySem.W.fnOf "day_of" "day_of" (defArgs s_day_of) (defBody s_day_of) (defScope s_day_of) .none kV_day_of dc_day_of pm_day_of an_day_of cd_day_of ct_day_of, F_day_of := F_day_of, b_day_of := b_day_of, g_day_of := PySem.W.mg_of X G a_day_of, f_parts_of := f_parts_of, fd_parts_of := PySem.W.fnOf "parts_of" "parts_of" (defArgs s_parts_of) (defBody s_parts_of) (defScope s_parts_of) .none kV_parts_of dc_parts_of pm_parts_of an_parts_of cd_parts_of ct_parts_of, F_parts_of := F_parts_of, b_parts_of := b_parts_of, g_parts_of := PySem.W.mg_of X G a_parts_of, f_months_on := f_months_on, fd_months_on := PySem.W.fnOf "months_on" "months_on" (defArgs s_months_on) (defBody s_months_on) (defScope s_months_on) .none kV_months_on dc_months_on pm_months_on an_months_on cd_months_on ct_months_on, F_months_on := F_months_on, b_months_on := b_months_on, g_months_on := PySem.W.mg_of X G a_months_on, f__law_draws := f__law_draws, fd__law_draws := PySem.W.fnOf "_law_draws" "_law_draws" (defArgs s__law_draws) (defBody s__law_draws) (defScope s__law_draws) .none kV__law_draws dc__law_draws pm__law_draws an__law_draws cd__law_draws ct__law_draws, F__law_draws := F__law_draws, b__law_draws := b__law_draws, g__law_draws := PySem.W.mg_of X G a__law_draws, f__law_next := f__law_next, fd__law_next := PySem.W.fnOf "_law_next" "_law_next" (defArgs s__law_next) (defBody s__law_next) (defScope s__law_next) .none kV__law_next dc__law_next pm__law_next an__law_next cd__law_next ct__law_next, F__law_next := F__law_next, b__law_next := b__law_next, g__law_next := PySem.W.mg_of X G a__law_next, f__law_length := f__law_length, fd__law_length := PySem.W.fnOf "_law_length" "_law_length" (defArgs s__law_length) (defBody s__law_length) (defScope s__law_length) .none kV__law_length dc__law_length pm__law_length an__law_length cd__law_length ct__law_length, F__law_length := F__law_length, b__law_length := b__law_length, g__law_length := PySem.W.mg_of X G a__law_length, f__law_year := f__law_year, fd__law_year := PySem.W.fnOf "_law_year" "_law_year" (defArgs s__law_year) (defBody s__law_year) (defScope s__law_year) .none kV__law_year dc__law_year pm__law_year an__law_year cd__law_year ct__law_year, F__law_year := F__law_year, b__law_year := b__law_year, g__law_year := PySem.W.mg_of X G a__law_year, f__law_date := f__law_date, fd__law_date := PySem.W.fnOf "_law_date" "_law_date" (defArgs s__law_date) (defBody s__law_date) (defScope s__law_date) .none kV__law_date dc__law_date pm__law_date an__law_date cd__law_date ct__law_date, F__law_date := F__law_date, b__law_date := b__law_date, g__law_date := PySem.W.mg_of X G a__law_date, f__law_after := f__law_after, fd__law_after := PySem.W.fnOf "_law_after" "_law_after" (defArgs s__law_after) (defBody s__law_after) (defScope s__law_after) .none kV__law_after dc__law_after pm__law_after an__law_after cd__law_after ct__law_after, F__law_after := F__law_after, b__law_after := b__law_after, g__law_after := PySem.W.mg_of X G a__law_after, f__law_stretch_right := f__law_stretch_right, fd__law_stretch_right := PySem.W.fnOf "_law_stretch_right" "_law_stretch_right" (defArgs s__law_stretch_right) (defBody s__law_stretch_right) (defScope s__law_stretch_right) .none kV__law_stretch_right dc__law_stretch_right pm__law_stretch_right an__law_stretch_right cd__law_stretch_right ct__law_stretch_right, F__law_stretch_right := F__law_stretch_right, b__law_stretch_right := b__law_stretch_right, g__law_stretch_right := PySem.W.mg_of X G a__law_stretch_right, f__law_months_right := f__law_months_right, fd__law_months_right := PySem.W.fnOf "_law_months_right" "_law_months_right" (defArgs s__law_months_right) (defBody s__law_months_right) (defScope s__law_months_right) .none kV__law_months_right dc__law_months_right pm__law_months_right an__law_months_right cd__law_months_right ct__law_months_right, F__law_months_right := F__law_months_right, b__law_months_right := b__law_months_right, g__law_months_right := PySem.W.mg_of X G a__law_months_right, f_law := fa, fd_law := PySem.W.fnOf "law" "law" (defArgs s_law) (defBody s_law) (defScope s_law) .none kV_law dc_law pm_law an_law cd_law ct_law, F_law := F_law, b_law := b_law, g_law := PySem.W.mg_of X G a_law, t_CYCLE := t_CYCLE, g_CYCLE := PySem.W.mg_of X G a_CYCLE, a_LENGTHS := q_LENGTHS, g_LENGTHS := PySem.W.mg_of X G a_LENGTHS, q_LENGTHS := fun H => .inr ⟨_, _, _, l_LENGTHS, rfl, rfl, by show 12 ≤ sizeLine; decide, (.cons ⟨_, rfl⟩ (.cons ⟨_, rfl⟩ (.cons ⟨_, rfl⟩ (.cons ⟨_, rfl⟩ (.cons ⟨_, rfl⟩ (.cons ⟨_, rfl⟩ (.cons ⟨_, rfl⟩ (.cons ⟨_, rfl⟩ (.cons ⟨_, rfl⟩ (.cons ⟨_, rfl⟩ (.cons ⟨_, rfl⟩ (.cons ⟨_, rfl⟩ .nil))))))))))))⟩, z_isinstance := PySem.W.mg_none_of X G z_isinstance, z_int := PySem.W.mg_none_of X G z_int, z_divmod := PySem.W.mg_none_of X G z_divmod, z_min := PySem.W.mg_none_of X G z_min, z_max := PySem.W.mg_none_of X G z_max, z_range := PySem.W.mg_none_of X G z_range, z_abs := PySem.W.mg_none_of X G z_abs, e_cls := e_cls, e_get := e_get, e_tak := e_tak, e_mro_Day := e_mro_Day, e_ne_Day := e_ne_Day })⟩
end K04
open PySem PySem.W PyProof.Rows
set_option maxHeartbeats 0 in
theorem PySem.Challenge.cw_askford_k04_whole_calendar_holds : PySem.Challenge.rw_askford_k04_whole_calendar.Holds := by
  w_on; o_law; k_head; (case hw => w_witness2)
  k_fill
  refine L2.walk_of (l := PySem.Challenge.rw_askford_k04_whole_calendar) (n := 63) (k := 6) (x := "_law_script") (CX := fun _ => L2.CX0) (sp := fun w => K04.spLaw _) rfl (by decide) rfl ⟨rfl, by decide, by decide⟩ (fun w h Y => PySem.W.kIn_of Y) ?F (fun _ _ a ns hl _ hS => ⟨a, ns, rfl, hS, hl, fun _ => rfl⟩) (fun _ _ _ _ _ h => h)
  case F =>
    intro w mg fa h KX G hmg
    refine' K04.all_mk KX G hmg ?aC_Day ?pg_Day ?hd_Day ?po_Day ?sa_Day ?mk_Day ?kc_Day ?n_Day_number ?a_Day___init__ ?i_Day___init__ ?l_Day___init__ ?c_Day___init__ ?k_Day___init__ ?a_Day___eq__ ?i_Day___eq__ ?l_Day___eq__ ?c_Day___eq__ ?k_Day___eq__ ?a_is_leap ?l_is_leap ?c_is_leap ?k_is_leap ?a_last_of ?l_last_of ?c_last_of ?k_last_of ?a_day_of ?l_day_of ?c_day_of ?k_day_of ?a_parts_of ?l_parts_of ?c_parts_of ?k_parts_of ?a_months_on ?l_months_on ?c_months_on ?k_months_on ?a__law_draws ?l__law_draws ?c__law_draws ?k__law_draws ?a__law_next ?l__law_next ?c__law_next ?k__law_next ?a__law_length ?l__law_length ?c__law_length ?k__law_length ?a__law_year ?l__law_year ?c__law_year ?k__law_year ?a__law_date ?l__law_date ?c__law_date ?k__law_date ?a__law_after ?l__law_after ?c__law_after ?k__law_after ?a__law_stretch_right ?l__law_stretch_right ?c__law_stretch_right ?k__law_stretch_right ?a__law_months_right ?l__law_months_right ?c__law_months_right ?k__law_months_right ?a_law ?l_law ?c_law ?k_law ?a_CYCLE ?a_LENGTHS ?l_LENGTHS ?z_isinstance ?z_int ?z_divmod ?z_min ?z_max ?z_range ?z_abs ?e_cls ?e_get ?e_tak ?e_mro_Day ?e_ne_Day
    (case aC_Day => k_is)
    (case pg_Day => k_is)
    (case hd_Day => k_is)
    (case po_Day => k_is)
    (case sa_Day => k_is)
    (case mk_Day => k_is)
    (case kc_Day => k_is)
    (case n_Day_number => k_is)
    (case a_Day___init__ => k_is)
    (case i_Day___init__ => k_is)
    (case l_Day___init__ => k_is)
    (case c_Day___init__ => k_is)
    (case k_Day___init__ => k_is)
    (case a_Day___eq__ => k_is)
    (case i_Day___eq__ => k_is)
    (case l_Day___eq__ => k_is)
    (case c_Day___eq__ => k_is)
    (case k_Day___eq__ => k_is)
    (case a_is_leap => k_is)
    (case l_is_leap => k_is)
    (case c_is_leap => k_is)
    (case k_is_leap => k_is)
    (case a_last_of => k_is)
    (case l_last_of => k_is)
    (case c_last_of => k_is)
    (case k_last_of => k_is)
    (case a_day_of => k_is)
    (case l_day_of => k_is)
    (case c_day_of => k_is)
    (case k_day_of => k_is)
    (case a_parts_of => k_is)
    (case l_parts_of => k_is)
    (case c_parts_of => k_is)
    (case k_parts_of => k_is)
    (case a_months_on => k_is)
    (case l_months_on => k_is)
    (case c_months_on => k_is)
    (case k_months_on => k_is)
    (case a__law_draws => k_is)
    (case l__law_draws => k_is)
    (case c__law_draws => k_is)
    (case k__law_draws => k_is)
    (case a__law_next => k_is)
    (case l__law_next => k_is)
    (case c__law_next => k_is)
    (case k__law_next => k_is)
    (case a__law_length => k_is)
    (case l__law_length => k_is)
    (case c__law_length => k_is)
    (case k__law_length => k_is)
    (case a__law_year => k_is)
    (case l__law_year => k_is)
    (case c__law_year => k_is)
    (case k__law_year => k_is)
    (case a__law_date => k_is)
    (case l__law_date => k_is)
    (case c__law_date => k_is)
    (case k__law_date => k_is)
    (case a__law_after => k_is)
    (case l__law_after => k_is)
    (case c__law_after => k_is)
    (case k__law_after => k_is)
    (case a__law_stretch_right => k_is)
    (case l__law_stretch_right => k_is)
    (case c__law_stretch_right => k_is)
    (case k__law_stretch_right => k_is)
    (case a__law_months_right => k_is)
    (case l__law_months_right => k_is)
    (case c__law_months_right => k_is)
    (case k__law_months_right => k_is)
    (case a_law => k_is)
    (case l_law => k_is)
    (case c_law => k_is)
    (case k_law => k_is)
    (case a_CYCLE => k_is)
    (case a_LENGTHS => k_is)
    (case l_LENGTHS => k_is)
    (case z_isinstance => k_is)
    (case z_int => k_is)
    (case z_divmod => k_is)
    (case z_min => k_is)
    (case z_max => k_is)
    (case z_range => k_is)
    (case z_abs => k_is)
    (case e_cls => k_is)
    (case e_get => k_is)
    (case e_tak => k_is)
    (case e_mro_Day => k_is)
    (case e_ne_Day => k_is)
