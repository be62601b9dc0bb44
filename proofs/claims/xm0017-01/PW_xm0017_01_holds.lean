import PyProof.Rows.All
import Wide.All
import OpenK.AllK
import Wide.FinOn
import PySem.Challenge.RW_xm0017_01
set_option linter.unusedVariables false
set_option linter.unusedSimpArgs false
open PySem PySem.W PySem.Calls PyProof.Rows
set_option Elab.async false
set_option maxRecDepth 100000
set_option maxHeartbeats 8000000

namespace Mine
/-- one at a multiple of k, else none -/
def on (k y : Int) : Int := if y % k = 0 then 1 else 0
/-- the days of a February -/
def feb (y : Int) : Int := 28 + on 4 y - on 100 y + on 400 y
/-- the lengths from March on -/
def rest : List Int := [31, 30, 31, 30, 31, 31, 30, 31, 30, 31]
def lens (y : Int) : List Int := [31, feb y, 31, 30, 31, 30, 31, 31, 30, 31, 30, 31]
/-- days of the year ahead of the month -/
def cum (y m : Int) : Int := ((lens y).take (m - 1).toNat).sum
def cnt (y m d : Int) : Int := 1721425 + 365 * (y - 1) + (y - 1) / 4 - (y - 1) / 100 + (y - 1) / 400 + cum y m + d
def len (y m : Int) : Int := (lens y).getD (m - 1).toNat 0
/-- days ahead of the year -/
def start (y : Int) : Int := 365 * (y - 1) + (y - 1) / 4 - (y - 1) / 100 + (y - 1) / 400
/-- days from March on ahead of the month that is k behind March -/
def R (k : Nat) : Int := (rest.take k).sum

theorem on_step {k : Int} (hk : 0 < k) (y : Int) : y / k = (y - 1) / k + on k y := by
  have d := Int.emod_add_mul_ediv y k
  have r0 := Int.emod_nonneg y (Int.ne_of_gt hk)
  have r1 := Int.emod_lt_of_pos y hk
  unfold on
  generalize y % k = r at *
  generalize y / k = q at *
  subst d
  by_cases h : r = 0
  · subst h
    rw [if_pos rfl, ((Int.ediv_emod_unique (q := q - 1) (r := k - 1) hk).2 ⟨by rw [Int.mul_sub, Int.mul_one]; generalize k * q = p; omega, by omega, by omega⟩).1, Int.sub_add_cancel]
  · rw [if_neg h, ((Int.ediv_emod_unique (q := q) (r := r - 1) hk).2 ⟨by generalize k * q = p; omega, by omega, by omega⟩).1, Int.add_zero]
theorem on_pos {k y : Int} (h : y % k = 0) : on k y = 1 := if_pos h
theorem on_neg {k y : Int} (h : ¬ y % k = 0) : on k y = 0 := if_neg h
theorem on_le {a b : Int} (h : a ∣ b) (y : Int) : on b y ≤ on a y ∧ 0 ≤ on b y ∧ on a y ≤ 1 := by
  by_cases hb : y % b = 0
  · rw [on_pos hb, on_pos (Int.emod_eq_zero_of_dvd (Int.dvd_trans h (Int.dvd_of_emod_eq_zero hb)))]; decide
  · rw [on_neg hb]
    by_cases ha : y % a = 0
    · rw [on_pos ha]; decide
    · rw [on_neg ha]; decide
theorem on_all (y : Int) : 0 ≤ on 400 y ∧ on 400 y ≤ on 100 y ∧ on 100 y ≤ on 4 y ∧ on 4 y ≤ 1 :=
  have a := on_le (a := 4) (b := 100) (by decide) y
  have b := on_le (a := 100) (b := 400) (by decide) y
  ⟨b.2.1, b.1, a.1, a.2.2⟩
theorem feb_bound (y : Int) : 28 ≤ feb y ∧ feb y ≤ 29 := by
  have h := on_all y
  unfold feb
  omega
theorem feb_long {y : Int} (h4 : y % 4 = 0) (h : y % 100 ≠ 0 ∨ y % 400 = 0) : feb y = 29 := by
  have g := on_all y
  have e := on_pos h4
  unfold feb
  rcases h with h | h
  · have f := on_neg h
    omega
  · have f := on_pos h
    omega
theorem feb_short {y : Int} (h : y % 4 ≠ 0 ∨ (y % 100 = 0 ∧ y % 400 ≠ 0)) : feb y = 28 := by
  have g := on_all y
  unfold feb
  rcases h with h | ⟨h, k⟩
  · have f := on_neg h
    omega
  · have f := on_pos h
    have e := on_neg k
    omega
theorem start_eq (y : Int) : start (y + 1) = 365 * y + y / 4 - y / 100 + y / 400 := by
  unfold start
  rw [Int.add_sub_cancel]
theorem start_next (y : Int) : start (y + 1) = start y + 337 + feb y := by
  rw [start_eq, on_step (k := 4) (by decide), on_step (k := 100) (by decide), on_step (k := 400) (by decide)]
  unfold start feb
  omega
theorem cnt_start (y m d : Int) : cnt y m d = 1721425 + start y + cum y m + d := by unfold cnt start; omega

theorem cum_late (y : Int) (k : Nat) : cum y (k + 3) = 31 + (feb y + R k) := by
  have e : ((k : Int) + 3 - 1).toNat = k + 2 := by omega
  unfold cum
  rw [e]
  rfl
theorem len_late (y : Int) (k : Nat) : len y (k + 3) = rest.getD k 0 := by
  have e : ((k : Int) + 3 - 1).toNat = k + 2 := by omega
  unfold len
  rw [e]
  rfl
theorem R_months : ∀ k : Nat, k < 10 → 367 * ((k : Int) + 3 - 2) / 12 = 30 + R k := by decide
theorem R_week : ∀ k : Nat, k < 10 → 13 * ((k : Int) + 3 + 1) / 5 = R k + 10 - 28 * k := by decide
theorem R_date : ∀ k : Nat, k < 10 → 2447 * ((k : Int) + 1) / 80 = 30 + R k := by decide
theorem R_date' : ∀ k : Nat, k < 10 → 2447 * ((k : Int) + 2) / 80 = 30 + R k + rest.getD k 0 := by decide
/-- a month is January, February, or k behind March -/
theorem month_of {m : Int} (h1 : 1 ≤ m) (h2 : m ≤ 12) : m = 1 ∨ m = 2 ∨ ∃ k : Nat, k < 10 ∧ m = (k : Int) + 3 := by
  by_cases h : m ≤ 2
  · omega
  · exact .inr (.inr ⟨(m - 3).toNat, by omega, by omega⟩)
theorem late_of {m : Int} (h1 : ¬ m ≤ 2) (h2 : m ≤ 12) : ∃ k : Nat, k < 10 ∧ m = (k : Int) + 3 := ⟨(m - 3).toNat, by omega, by omega⟩

/-- Fliegel and Van Flandern, a date to its number -/
def num (y m d : Int) : Int :=
  d - 32075 + 1461 * (y + 4800 + (0 - (-(m - 14)) / 12)) / 4 + 367 * (m - 2 - (0 - (-(m - 14)) / 12) * 12) / 12 - 3 * ((y + 4900 + (0 - (-(m - 14)) / 12)) / 100) / 4
theorem years_eq (p : Int) : 1461 * (p + 4800) / 4 = 365 * p + p / 4 + 1753200 := by
  rw [show 1461 * (p + 4800) = p + 4 * (365 * p + 1753200) by omega, Int.add_mul_ediv_left (b := 4) _ _ (by decide)]
  omega
theorem ages_eq (p : Int) : 3 * ((p + 4900) / 100) / 4 = p / 100 - p / 400 + 36 := by
  rw [show (p + 4900) / 100 = p / 100 + 49 from Int.add_mul_ediv_left (b := 100) p 49 (by decide), show p / 400 = p / 100 / 4 from (Int.ediv_ediv_of_nonneg (x := p) (y := 100) (z := 4) (by decide)).symm]
  generalize p / 100 = g
  omega
/-- the number by the year that begins in March -/
theorem num_at (p x d : Int) : d - 32075 + 1461 * (p + 4800) / 4 + x - 3 * ((p + 4900) / 100) / 4 = d + 1721089 + start (p + 1) + x := by
  rw [years_eq, ages_eq, start_eq]
  omega
/-- the number by cut quotients is the number counted -/
theorem num_cnt (y m d : Int) (h1 : 1 ≤ m) (h2 : m ≤ 12) : num y m d = cnt y m d := by
  rw [cnt_start]
  unfold num
  by_cases h : m ≤ 2
  · rw [show (0 - (-(m - 14)) / 12 : Int) = -1 by omega, show y + 4800 + -1 = y - 1 + 4800 by omega, show y + 4900 + -1 = y - 1 + 4900 by omega, num_at, Int.sub_add_cancel]
    rcases (show m = 1 ∨ m = 2 by omega) with rfl | rfl
    · show d + 1721089 + start y + 336 = 1721425 + start y + 0 + d
      omega
    · show d + 1721089 + start y + 367 = 1721425 + start y + 31 + d
      omega
  · obtain ⟨k, hk, rfl⟩ := late_of h h2
    rw [show (0 - (-((k : Int) + 3 - 14)) / 12 : Int) = 0 by omega, Int.add_zero, Int.add_zero, Int.zero_mul, Int.sub_zero, num_at, start_next, R_months k hk, cum_late]
    omega

structure Valid (y m d : Int) : Prop where
  m1 : 1 ≤ m
  m12 : m ≤ 12
  d1 : 1 ≤ d
  dl : d ≤ len y m

theorem rest_bound : ∀ k : Nat, k < 10 → 28 ≤ rest.getD k 0 ∧ rest.getD k 0 ≤ 31 := by decide
theorem len_bound (y m : Int) (h1 : 1 ≤ m) (h2 : m ≤ 12) : 28 ≤ len y m ∧ len y m ≤ 31 := by
  rcases month_of h1 h2 with rfl | rfl | ⟨k, hk, rfl⟩
  · exact ⟨(by decide : (28 : Int) ≤ 31), (by decide : (31 : Int) ≤ 31)⟩
  · exact ⟨(feb_bound y).1, Int.le_trans (feb_bound y).2 (by decide)⟩
  · rw [len_late]; exact rest_bound k hk
theorem R_step : ∀ k : Nat, k < 9 → R (k + 1) = R k + rest.getD k 0 := by decide
theorem cum_step (y m : Int) (h1 : 1 ≤ m) (h2 : m ≤ 11) : cum y (m + 1) = cum y m + len y m := by
  rcases month_of h1 (Int.le_trans h2 (by decide)) with rfl | rfl | ⟨k, hk, rfl⟩
  · rfl
  · show 31 + (feb y + 0) = 31 + 0 + feb y
    omega
  · rw [show (k : Int) + 3 + 1 = (k + 1 : Nat) + 3 by omega, cum_late, cum_late, len_late, R_step k (by omega)]
    omega
theorem cum_end (y : Int) : cum y 12 + len y 12 = 337 + feb y := by
  show 31 + (feb y + 275) + 31 = 337 + feb y
  omega
/-- a later month begins behind the end of an earlier one -/
theorem cum_mono (y m : Int) (h1 : 1 ≤ m) : ∀ n : Nat, m + 1 + n ≤ 12 → cum y m + len y m ≤ cum y (m + 1 + n)
  | 0, h => by rw [show m + 1 + ((0 : Nat) : Int) = m + 1 from Int.add_zero _, cum_step y m h1 (by omega)]; exact Int.le_refl _
  | n + 1, h => by
    have a := cum_mono y m h1 n (by omega)
    have b := cum_step y (m + 1 + n) (by omega) (by omega)
    have c := len_bound y (m + 1 + n) (by omega) (by omega)
    rw [show m + 1 + ((n + 1 : Nat) : Int) = m + 1 + n + 1 by omega]
    omega
theorem cum_bound : ∀ k : Nat, k < 10 → 0 ≤ R k ∧ R k + rest.getD k 0 ≤ 306 := by decide
theorem cum_pos {y m d : Int} (v : Valid y m d) : 1 ≤ cum y m + d ∧ cum y m + d ≤ 337 + feb y := by
  obtain ⟨h1, h2, h3, h4⟩ := v
  have hf := feb_bound y
  rcases month_of h1 h2 with rfl | rfl | ⟨k, hk, rfl⟩
  · change d ≤ 31 at h4
    show 1 ≤ 0 + d ∧ 0 + d ≤ 337 + feb y
    omega
  · change d ≤ feb y at h4
    show 1 ≤ 31 + d ∧ 31 + d ≤ 337 + feb y
    omega
  · have b := cum_bound k hk
    rw [len_late] at h4
    rw [cum_late]
    omega
theorem start_mono (y : Int) : ∀ n : Nat, start y ≤ start (y + n)
  | 0 => by rw [show y + ((0 : Nat) : Int) = y from Int.add_zero _]; exact Int.le_refl _
  | n + 1 => by
    have a := start_mono y n
    have b := start_next (y + n)
    have f := (feb_bound (y + n)).1
    rw [show y + ((n + 1 : Nat) : Int) = y + n + 1 by omega]
    omega
theorem start_le {y z : Int} (h : y ≤ z) : start y ≤ start z := by
  have a := start_mono y (z - y).toNat
  rw [show y + ((z - y).toNat : Int) = z by omega] at a
  exact a
theorem year_lt {y m d y' m' d' : Int} (v : Valid y m d) (v' : Valid y' m' d') (g : y < y') : cnt y m d < cnt y' m' d' := by
  have p := (cum_pos v).2
  have p' := (cum_pos v').1
  have n := start_next y
  have s := start_le (Int.add_one_le_of_lt g)
  rw [cnt_start, cnt_start]
  omega
theorem month_lt {y m d m' d' : Int} (v : Valid y m d) (v' : Valid y m' d') (g : m < m') : cnt y m d < cnt y m' d' := by
  have h := cum_mono y m v.m1 (m' - (m + 1)).toNat
  have e : m + 1 + ((m' - (m + 1)).toNat : Int) = m' := by omega
  rw [e] at h
  have h := h v'.m12
  have a := v.dl
  have b := v'.d1
  rw [cnt_start, cnt_start]
  omega
/-- a date is known by its number -/
theorem cnt_inj {y m d y' m' d' : Int} (v : Valid y m d) (v' : Valid y' m' d') (h : cnt y m d = cnt y' m' d') : y = y' ∧ m = m' ∧ d = d' := by
  have hy : y = y' := by
    rcases Int.lt_trichotomy y y' with g | g | g
    · exact absurd h (Int.ne_of_lt (year_lt v v' g))
    · exact g
    · exact absurd h.symm (Int.ne_of_lt (year_lt v' v g))
  subst hy
  have hm : m = m' := by
    rcases Int.lt_trichotomy m m' with g | g | g
    · exact absurd h (Int.ne_of_lt (month_lt v v' g))
    · exact g
    · exact absurd h.symm (Int.ne_of_lt (month_lt v' v g))
  subst hm
  exact ⟨rfl, rfl, Int.add_left_cancel h⟩

/-- the parts of the date of a number, as they are reckoned -/
def age (n : Int) : Int := 4 * (n + 68569) / 146097
def l2 (n : Int) : Int := n + 68569 - (146097 * age n + 3) / 4
def yr (n : Int) : Int := 4000 * (l2 n + 1) / 1461001
def l3 (n : Int) : Int := l2 n - 1461 * yr n / 4 + 31
def mo (n : Int) : Int := 80 * l3 n / 2447
def dY (n : Int) : Int := 100 * (age n - 49) + yr n + mo n / 11
def dM (n : Int) : Int := mo n + 2 - 12 * (mo n / 11)
def dD (n : Int) : Int := l3 n - 2447 * mo n / 80
/-- from March on: the year a date's year begins in, and the days since -/
def y0 (n : Int) : Int := 100 * (age n - 49) + yr n
def since (n : Int) : Int := l2 n - 1461 * yr n / 4

theorem ages_cut (a : Int) : (146097 * a + 3) / 4 = 36524 * a + (a + 3) / 4 := by
  rw [show 146097 * a + 3 = a + 3 + 4 * (36524 * a) by omega, Int.add_mul_ediv_left (b := 4) _ _ (by decide), Int.add_comm]
theorem years_cut (q : Int) : 1461 * q / 4 = 365 * q + q / 4 := by
  rw [show 1461 * q = q + 4 * (365 * q) by omega, Int.add_mul_ediv_left (b := 4) _ _ (by decide), Int.add_comm]
theorem l2_cut {x a : Int} (e : 4 * x / 146097 = a) : 0 ≤ x - (36524 * a + (a + 3) / 4) ∧ x - (36524 * a + (a + 3) / 4) ≤ 36524 ∧ (a % 4 ≠ 0 → x - (36524 * a + (a + 3) / 4) ≤ 36523) := by
  have h1 : 146097 * a ≤ 4 * x := by omega
  have h2 : 4 * x ≤ 146097 * a + 146096 := by omega
  have h3 : a ≤ 4 * ((a + 3) / 4) ∧ 4 * ((a + 3) / 4) ≤ a + 3 := by omega
  have h4 : a % 4 ≠ 0 → a + 1 ≤ 4 * ((a + 3) / 4) := by omega
  clear e
  generalize (a + 3) / 4 = b at *
  exact ⟨by omega, by omega, fun h => by have h4 := h4 h; clear h h3; omega⟩
theorem l2_bound (n : Int) : 0 ≤ l2 n ∧ l2 n ≤ 36524 ∧ (age n % 4 ≠ 0 → l2 n ≤ 36523) := by
  unfold l2
  rw [ages_cut]
  exact l2_cut rfl
theorem yr_cut {l q : Int} (h0 : 0 ≤ l) (h1 : l ≤ 36524) (e : 4000 * (l + 1) / 1461001 = q) : 0 ≤ q ∧ q ≤ 99 ∧ 1461 * q ≤ 4 * l + 3 ∧ 4 * (l + 1) ≤ 1461 * (q + 1) := by
  have h2 : 1461001 * q ≤ 4000 * (l + 1) := by omega
  have h3 : 4000 * (l + 1) < 1461001 * (q + 1) := by omega
  clear e
  omega
theorem yr_bound (n : Int) : 0 ≤ yr n ∧ yr n ≤ 99 ∧ 1461 * yr n ≤ 4 * l2 n + 3 ∧ 4 * (l2 n + 1) ≤ 1461 * (yr n + 1) := yr_cut (l2_bound n).1 (l2_bound n).2.1 rfl
theorem since_pos (n : Int) : 0 ≤ since n := by
  have h := (yr_bound n).2.2.1
  unfold since
  rw [years_cut]
  generalize yr n = q at *
  generalize l2 n = l at *
  omega
theorem since_up (n : Int) : since n ≤ 364 + on 4 (yr n + 1) := by
  have h := (yr_bound n).2.2.2
  have g := on_step (k := 4) (by decide) (yr n + 1)
  rw [Int.add_sub_cancel] at g
  unfold since
  rw [years_cut]
  generalize yr n = q at *
  generalize l2 n = l at *
  omega
theorem on_same {k y z t : Int} (h : y = z + k * t) : on k y = on k z := by
  unfold on
  rw [h, Int.add_mul_emod_self_left]
theorem since_bound (n : Int) : since n ≤ 336 + feb (y0 n + 1) := by
  have h := since_up n
  have e : y0 n + 1 = yr n + 1 + 4 * (25 * (age n - 49)) := by unfold y0; omega
  rw [← on_same e] at h
  have a := on_all (y0 n + 1)
  by_cases g : (y0 n + 1) % 100 = 0
  · by_cases f : (y0 n + 1) % 400 = 0
    · rw [feb_long (by omega) (.inr f)]
      omega
    · rw [feb_short (.inr ⟨g, f⟩)]
      have b := yr_bound n
      have q : yr n = 99 := by omega
      have w := (l2_bound n).2.2 (by omega)
      unfold since
      rw [q]
      omega
  · have c := on_neg g
    unfold feb
    omega
theorem start_y0 (n : Int) : 1721120 + start (y0 n + 1) + since n = n := by
  have g := yr_bound n
  have y4 : y0 n / 4 = yr n / 4 + 25 * (age n - 49) := by
    rw [show y0 n = yr n + 4 * (25 * (age n - 49)) by unfold y0; omega, Int.add_mul_ediv_left (b := 4) _ _ (by decide)]
  have y1 : y0 n / 100 = age n - 49 := by
    rw [show y0 n = yr n + 100 * (age n - 49) by unfold y0; omega, Int.add_mul_ediv_left (b := 100) _ _ (by decide), Int.ediv_eq_zero_of_lt g.1 (by omega), Int.zero_add]
  have y5 : y0 n / 400 = (age n + 3) / 4 - 13 := by
    rw [show y0 n / 400 = y0 n / 100 / 4 from (Int.ediv_ediv_of_nonneg (x := y0 n) (y := 100) (z := 4) (by decide)).symm, y1]
    omega
  clear g
  rw [start_eq, y4, y1, y5]
  unfold since l2 y0
  rw [ages_cut, years_cut]
  omega
theorem mo_cut {s j : Int} (h0 : 0 ≤ s) (h1 : s ≤ 365) (e : 80 * (s + 31) / 2447 = j) : 1 ≤ j ∧ j ≤ 12 := by omega
theorem mo_bound (n : Int) : 1 ≤ mo n ∧ mo n ≤ 12 := mo_cut (since_pos n) (Int.le_trans (since_bound n) (Int.add_le_add_left (feb_bound _).2 336)) rfl
theorem day_cut {s j : Int} (e : 80 * (s + 31) / 2447 = j) (h1 : 1 ≤ j) (h2 : j ≤ 12) : 1 ≤ s + 31 - 2447 * j / 80 ∧ s + 31 ≤ 2447 * (j + 1) / 80 := by
  have h3 : 2447 * j ≤ 80 * (s + 31) := by omega
  have h4 : 80 * (s + 31) < 2447 * (j + 1) := by omega
  clear e
  omega
theorem date_at {y s j n : Int} (hj1 : 1 ≤ j) (hj2 : j ≤ 12) (h0 : 1 ≤ s + 31 - 2447 * j / 80) (h1 : s + 31 ≤ 2447 * (j + 1) / 80) (hs : s ≤ 336 + feb (y + 1)) (hn : 1721120 + start (y + 1) + s = n) :
    Valid (y + j / 11) (j + 2 - 12 * (j / 11)) (s + 31 - 2447 * j / 80) ∧ cnt (y + j / 11) (j + 2 - 12 * (j / 11)) (s + 31 - 2447 * j / 80) = n := by
  rw [cnt_start]
  by_cases h : j ≤ 10
  · obtain ⟨k, rfl⟩ : ∃ k : Nat, j = (k : Int) + 1 := ⟨(j - 1).toNat, by omega⟩
    have hk : k < 10 := by omega
    have e : ((k : Int) + 1) / 11 = 0 := Int.ediv_eq_zero_of_lt (by omega) (by omega)
    have c := start_next y
    rw [R_date k hk] at h0 ⊢
    rw [show (k : Int) + 1 + 1 = k + 2 from Int.add_assoc _ _ _, R_date' k hk] at h1
    rw [e, show (k : Int) + 1 + 2 - 12 * 0 = k + 3 by omega, Int.add_zero, cum_late]
    refine ⟨⟨by omega, by omega, h0, ?_⟩, by omega⟩
    rw [len_late]
    omega
  · rcases (show j = 11 ∨ j = 12 by omega) with rfl | rfl
    · change s + 31 ≤ 367 at h1
      change 1 ≤ s + 31 - 336 at h0
      show Valid (y + 1) 1 (s + 31 - 336) ∧ 1721425 + start (y + 1) + 0 + (s + 31 - 336) = n
      exact ⟨⟨by decide, by decide, h0, by show _ ≤ 31; omega⟩, by omega⟩
    · change 1 ≤ s + 31 - 367 at h0
      show Valid (y + 1) 2 (s + 31 - 367) ∧ 1721425 + start (y + 1) + 31 + (s + 31 - 367) = n
      exact ⟨⟨by decide, by decide, h0, by show _ ≤ feb (y + 1); omega⟩, by omega⟩
/-- every number leads to a date that there is, and its number is that number -/
theorem date_ok (n : Int) : Valid (dY n) (dM n) (dD n) ∧ cnt (dY n) (dM n) (dD n) = n :=
  have b := mo_bound n
  have c := day_cut (s := since n) (j := mo n) rfl b.1 b.2
  date_at b.1 b.2 c.1 c.2 (since_bound n) (start_y0 n)
/-- .. so the date reckoned from a date's number is the date -/
theorem date_eq {y m d n : Int} (v : Valid y m d) (h : cnt y m d = n) : dY n = y ∧ dM n = m ∧ dD n = d := by
  obtain ⟨v', h'⟩ := date_ok n
  exact cnt_inj v' v (h'.trans h.symm)

/-- Zeller: the day of the week by the date, the year taken from March on -/
def zel (p k d : Int) : Int := (d + 13 * (k + 1) / 5 + p % 100 + p % 100 / 4 + p / 100 / 4 + 5 * (p / 100)) % 7
theorem zel_start (y : Int) : start (y + 1) = 36519 * (y / 100) + 364 * (y % 100) + (5 * (y / 100) + (y % 100 + y % 100 / 4 + y / 100 / 4)) := by
  have e : y = y % 100 + 100 * (y / 100) := (Int.emod_add_mul_ediv y 100).symm
  have y4 : y / 4 = y % 100 / 4 + 25 * (y / 100) := by
    rw [show y / 4 = (y % 100 + 4 * (25 * (y / 100))) / 4 from congrArg (· / 4) (by omega), Int.add_mul_ediv_left (b := 4) _ _ (by decide)]
  have y5 : y / 400 = y / 100 / 4 := (Int.ediv_ediv_of_nonneg (x := y) (y := 100) (z := 4) (by decide)).symm
  rw [start_eq, y4, y5]
  generalize y % 100 / 4 = q at *
  generalize y % 100 = r at *
  generalize y / 100 / 4 = p at *
  generalize y / 100 = g at *
  omega
theorem sevens {a b t : Int} (h : b = a + 7 * t) : a % 7 = b % 7 := by rw [h, Int.add_mul_emod_self_left]
theorem zel_late (y m d : Int) (h1 : ¬ m < 3) (h2 : m ≤ 12) : zel y m d = (cnt y m d + 2) % 7 := by
  obtain ⟨k, hk, rfl⟩ := late_of (show ¬ m ≤ 2 by omega) h2
  have n := start_next y
  rw [zel_start] at n
  rw [cnt_start, cum_late]
  unfold zel
  rw [R_week k hk]
  exact sevens (t := 5217 * (y / 100) + 52 * (y % 100) + 4 * k + 245873) (by omega)
theorem zel_early (y m d : Int) (h1 : 1 ≤ m) (h2 : m < 3) : zel (y - 1) (m + 12) d = (cnt y m d + 2) % 7 := by
  have n := zel_start (y - 1)
  rw [Int.sub_add_cancel] at n
  rw [cnt_start, n]
  unfold zel
  rcases (show m = 1 ∨ m = 2 by omega) with rfl | rfl
  · show (d + 36 + _ + _ + _ + _) % 7 = (1721425 + _ + 0 + d + 2) % 7
    exact sevens (t := 5217 * ((y - 1) / 100) + 52 * ((y - 1) % 100) + 245913) (by omega)
  · show (d + 39 + _ + _ + _ + _) % 7 = (1721425 + _ + 31 + d + 2) % 7
    exact sevens (t := 5217 * ((y - 1) / 100) + 52 * ((y - 1) % 100) + 245917) (by omega)

/-- 400 years are 146097 days -/
theorem cnt_400 (y m d : Int) : cnt (y + 400) m d = cnt y m d + 146097 := by
  have hf : feb (y + 400) = feb y := by
    unfold feb
    rw [on_same (k := 4) (y := y + 400) (z := y) (t := 100) rfl, on_same (k := 100) (y := y + 400) (z := y) (t := 4) rfl, on_same (k := 400) (y := y + 400) (z := y) (t := 1) rfl]
  have hc : cum (y + 400) m = cum y m := by unfold cum lens; rw [hf]
  rw [cnt_start, cnt_start, hc]
  unfold start
  rw [show y + 400 - 1 = y - 1 + 400 by omega, show (y - 1 + 400) / 4 = (y - 1) / 4 + 100 from Int.add_mul_ediv_left (b := 4) _ 100 (by decide), show (y - 1 + 400) / 100 = (y - 1) / 100 + 4 from Int.add_mul_ediv_left (b := 100) _ 4 (by decide), show (y - 1 + 400) / 400 = (y - 1) / 400 + 1 from Int.add_mul_ediv_left (b := 400) _ 1 (by decide)]
  omega

/-- the parts of the number, as they are reckoned, and how large they are -/
def nE (m : Int) : Int := 0 - (-(m - 14)) / 12
def nY (y m : Int) : Int := 1461 * (y + 4800 + nE m) / 4
def nM (m : Int) : Int := 367 * (m - 2 - nE m * 12) / 12
def nA (y m : Int) : Int := 3 * ((y + 4900 + nE m) / 100) / 4
theorem nE_bound {m : Int} (h1 : 1 ≤ m) (h2 : m ≤ 12) : -1 ≤ nE m ∧ nE m ≤ 0 ∧ 1 ≤ m - 2 - nE m * 12 ∧ m - 2 - nE m * 12 ≤ 12 := by
  unfold nE
  omega
theorem cut_bound {x k c : Int} (hc : 0 < c) (h0 : 0 ≤ x) (h : x < c * k) : 0 ≤ x / c ∧ x / c < k := ⟨Int.ediv_nonneg h0 (Int.le_of_lt hc), Int.ediv_lt_of_lt_mul hc (by rw [Int.mul_comm]; exact h)⟩

open_top hd for PySem.Challenge.rw_xm0017_01

local macro_rules | `(tactic| walk_at $s:str) => `(tactic| k_extra $s)
def Says (k : Nat) (w : World) (mean : ExcName → Option Value) (mg mb : Str → Option Value) (f : Addr) (vs : List Value) (R : Tok → Value) : Prop :=
  ∀ (dp un : Nat) (gd : Option (List Code)) (cn : Str) (cs : Scope) (a : Addr) (ccd : Value) (cl : List (Str × Addr)) (outer : List Env) (A₀ : Around) (base h₀ : Heap) (L : Addr) (m : Str → Option Value) (news : List (Addr × Obj)) (s : Shared) (Q E : Value → Shared → Prop),
    Below A₀ base outer h₀ → Fr h₀ L s.heap m → (hd.heap_39 w.params).In h₀ → News h₀ L s.heap news → Top hd.view_39 (looseW hd.view_39 [Str.ofString "BasicError"]) mean mg mb h₀ → cs.kind = .function →
    dp + k < recursionLimit → un + 10 * k < cLine → CbRet h₀ L m news s Q R →
      wpAny (model PySem.Challenge.rw_xm0017_01.row.prog w) (ktrTop dp un gd cn cs L a ccd cl outer) (call (.ref f) vs) Q E s

theorem says_use {k : Nat} {w : World} {mean : ExcName → Option Value} {mg mb : Str → Option Value} {f : Addr} {vs : List Value} {R : Tok → Value} (C : Says k w mean mg mb f vs R)
    {dp un : Nat} {gd : Option (List Code)} {cn : Str} {cs : Scope} {a : Addr} {ccd : Value} {cl : List (Str × Addr)} {outer : List Env} {A₀ : Around} {base h₀ : Heap} {L : Addr} {m : Str → Option Value} {news : List (Addr × Obj)} {s : Shared} {Q E : Value → Shared → Prop}
    (B : Below A₀ base outer h₀) (F : Fr h₀ L s.heap m) (X : (hd.heap_39 w.params).In h₀) (N : News h₀ L s.heap news) (T : Top hd.view_39 (looseW hd.view_39 [Str.ofString "BasicError"]) mean mg mb h₀) (hk : cs.kind = .function)
    (hd : dp + k < recursionLimit) (hu : un + 10 * k < cLine) (ret : CbRet h₀ L m news s Q R) :
    wpAny (model PySem.Challenge.rw_xm0017_01.row.prog w) (ktrTop dp un gd cn cs L a ccd cl outer) (call (.ref f) vs) Q E s :=
  C _ _ _ _ _ _ _ _ _ _ _ _ _ _ _ _ _ _ B F X N T hk hd hu ret

theorem room1 {a b c l : Nat} (h : a + c < l) (hb : b ≤ c) : a + b < l := Nat.lt_of_le_of_lt (Nat.add_le_add_left hb a) h
theorem room2 {a b b' c l : Nat} (h : a + c < l) (hb : b + b' ≤ c) : a + b + b' < l := by rw [Nat.add_assoc]; exact room1 h hb
theorem room3 {a b b' d c l : Nat} (h : a + c < l) (hb : b + b' + d ≤ c) : a + b + b' + d < l := by rw [Nat.add_assoc a]; exact room2 h hb
theorem room4 {a b b' d e c l : Nat} (h : a + c < l) (hb : b + b' + d + e ≤ c) : a + b + b' + d + e < l := by rw [Nat.add_assoc a]; exact room3 h hb
theorem fit_lo {v : Int} (h : -2147483648 ≤ v) : decide (-(1 * 2 ^ ((32 : Int) - 1).toNat) ≤ v) = true := by
  rw [decide_eq_true_eq]; exact h
theorem fit_hi {v : Int} (h : v < 2147483648) : decide (v < 1 * 2 ^ ((32 : Int) - 1).toNat) = true := by
  rw [decide_eq_true_eq]; exact h


theorem abs_pos {prog : Program} {w : World} {A : Around} {E : Value → Shared → Prop} {s : Shared} {a : Int} {t : Tok} {Q : Value → Shared → Prop} (h0 : 0 ≤ a) (h : ∀ u tk, Q (.int a u) { s with toks := tk }) :
    wpAny (model prog w) A (call (.builtin "abs") [.int a t]) Q E s := by
  refine call_abs_int ?_
  rw [if_neg (by omega)]
  exact h
theorem abs_neg {prog : Program} {w : World} {A : Around} {E : Value → Shared → Prop} {s : Shared} {a : Int} {t : Tok} {Q : Value → Shared → Prop} (h0 : a < 0) (h : ∀ u tk, Q (.int (-a) u) { s with toks := tk }) :
    wpAny (model prog w) A (call (.builtin "abs") [.int a t]) Q E s := by
  refine call_abs_int ?_
  rw [if_pos h0]
  exact h
theorem div_pos' {prog : Program} {w : World} {A : Around} {E : Value → Shared → Prop} {s : Shared} {a b : Int} {t u : Tok} {Q : Value → Shared → Prop} (h0 : 0 < b) (h1 : b < 1073741824) (h : Q (.int (a / b) s.toks) { s with toks := s.toks + 1 }) :
    wpAny (model prog w) A (binaryOp .FloorDiv (.int a t) (.int b u)) Q E s := by
  refine floordiv_int (by omega) ?_ (Or.inl (PyProof.noPylong_small (by omega)))
  rw [Int.fdiv_eq_ediv_of_nonneg _ (by omega)]
  exact h

/-- the rests by a written divisor, plain -/
theorem mod_pos' {prog : Program} {w : World} {A : Around} {E : Value → Shared → Prop} {s : Shared} {a b : Int} {t u : Tok} {Q : Value → Shared → Prop} (h0 : 0 < b) (h : Q (.int (a % b) s.toks) { s with toks := s.toks + 1 }) :
    wpAny (model prog w) A (binaryOp .Mod (.int a t) (.int b u)) Q E s := by
  refine mod_int' (by omega) ?_
  rw [Int.fmod_eq_emod_of_nonneg _ (by omega)]
  exact h

/-- a def's contract, for given args: a new tuple of three ints -/
def SaysT (k : Nat) (w : World) (mean : ExcName → Option Value) (mg mb : Str → Option Value) (f : Addr) (vs : List Value) (x y z : Int) : Prop :=
  ∀ (dp un : Nat) (gd : Option (List Code)) (cn : Str) (cs : Scope) (a : Addr) (ccd : Value) (cl : List (Str × Addr)) (outer : List Env) (A₀ : Around) (base h₀ : Heap) (L : Addr) (m : Str → Option Value) (news : List (Addr × Obj)) (s : Shared) (Q E : Value → Shared → Prop),
    Below A₀ base outer h₀ → Fr h₀ L s.heap m → (hd.heap_39 w.params).In h₀ → News h₀ L s.heap news → Top hd.view_39 (looseW hd.view_39 [Str.ofString "BasicError"]) mean mg mb h₀ → cs.kind = .function →
    dp + k < recursionLimit → un + 10 * k < cLine →
    (∀ (D : Addr) (t1 t2 t3 : Tok) (c : Nat) (h' : Heap) (tk' : Nat), Fr h₀ L h' m → News h₀ L h' ((D, ({ cls := .type "tuple", data := .seq #[.int x t1, .int y t2, .int z t3] c } : Obj)) :: news) → (∀ p ∈ news, p.1 < D) → Q (.ref D) { s with heap := h', toks := tk' }) →
      wpAny (model PySem.Challenge.rw_xm0017_01.row.prog w) (ktrTop dp un gd cn cs L a ccd cl outer) (call (.ref f) vs) Q E s

theorem saysT_use {k : Nat} {w : World} {mean : ExcName → Option Value} {mg mb : Str → Option Value} {f : Addr} {vs : List Value} {x y z : Int} (C : SaysT k w mean mg mb f vs x y z)
    {dp un : Nat} {gd : Option (List Code)} {cn : Str} {cs : Scope} {a : Addr} {ccd : Value} {cl : List (Str × Addr)} {outer : List Env} {A₀ : Around} {base h₀ : Heap} {L : Addr} {m : Str → Option Value} {news : List (Addr × Obj)} {s : Shared} {Q E : Value → Shared → Prop}
    (B : Below A₀ base outer h₀) (F : Fr h₀ L s.heap m) (X : (hd.heap_39 w.params).In h₀) (N : News h₀ L s.heap news) (T : Top hd.view_39 (looseW hd.view_39 [Str.ofString "BasicError"]) mean mg mb h₀) (hk : cs.kind = .function)
    (hd : dp + k < recursionLimit) (hu : un + 10 * k < cLine)
    (ret : ∀ (D : Addr) (t1 t2 t3 : Tok) (c : Nat) (h' : Heap) (tk' : Nat), Fr h₀ L h' m → News h₀ L h' ((D, ({ cls := .type "tuple", data := .seq #[.int x t1, .int y t2, .int z t3] c } : Obj)) :: news) → (∀ p ∈ news, p.1 < D) → Q (.ref D) { s with heap := h', toks := tk' }) :
    wpAny (model PySem.Challenge.rw_xm0017_01.row.prog w) (ktrTop dp un gd cn cs L a ccd cl outer) (call (.ref f) vs) Q E s :=
  C _ _ _ _ _ _ _ _ _ _ _ _ _ _ _ _ _ _ B F X N T hk hd hu ret
/-- a def's contract, for given args: a new list of these ints -/
def SaysL (k : Nat) (w : World) (mean : ExcName → Option Value) (mg mb : Str → Option Value) (f : Addr) (vs : List Value) (xs : List Int) : Prop :=
  ∀ (dp un : Nat) (gd : Option (List Code)) (cn : Str) (cs : Scope) (a : Addr) (ccd : Value) (cl : List (Str × Addr)) (outer : List Env) (A₀ : Around) (base h₀ : Heap) (L : Addr) (m : Str → Option Value) (news : List (Addr × Obj)) (s : Shared) (Q E : Value → Shared → Prop),
    Below A₀ base outer h₀ → Fr h₀ L s.heap m → (hd.heap_39 w.params).In h₀ → News h₀ L s.heap news → Top hd.view_39 (looseW hd.view_39 [Str.ofString "BasicError"]) mean mg mb h₀ → cs.kind = .function →
    dp + k < recursionLimit → un + 10 * k < cLine →
    (∀ (D : Addr) (is : List Value) (h' : Heap) (tk' : Nat), Fr h₀ L h' m → News h₀ L h' ((D, PySem.W.listOf is.toArray 0) :: news) → IntsAre is xs → (∀ p ∈ news, p.1 < D) → Q (.ref D) { s with heap := h', toks := tk' }) →
      wpAny (model PySem.Challenge.rw_xm0017_01.row.prog w) (ktrTop dp un gd cn cs L a ccd cl outer) (call (.ref f) vs) Q E s

theorem saysL_use {k : Nat} {w : World} {mean : ExcName → Option Value} {mg mb : Str → Option Value} {f : Addr} {vs : List Value} {xs : List Int} (C : SaysL k w mean mg mb f vs xs)
    {dp un : Nat} {gd : Option (List Code)} {cn : Str} {cs : Scope} {a : Addr} {ccd : Value} {cl : List (Str × Addr)} {outer : List Env} {A₀ : Around} {base h₀ : Heap} {L : Addr} {m : Str → Option Value} {news : List (Addr × Obj)} {s : Shared} {Q E : Value → Shared → Prop}
    (B : Below A₀ base outer h₀) (F : Fr h₀ L s.heap m) (X : (hd.heap_39 w.params).In h₀) (N : News h₀ L s.heap news) (T : Top hd.view_39 (looseW hd.view_39 [Str.ofString "BasicError"]) mean mg mb h₀) (hk : cs.kind = .function)
    (hd : dp + k < recursionLimit) (hu : un + 10 * k < cLine)
    (ret : ∀ (D : Addr) (is : List Value) (h' : Heap) (tk' : Nat), Fr h₀ L h' m → News h₀ L h' ((D, PySem.W.listOf is.toArray 0) :: news) → IntsAre is xs → (∀ p ∈ news, p.1 < D) → Q (.ref D) { s with heap := h', toks := tk' }) :
    wpAny (model PySem.Challenge.rw_xm0017_01.row.prog w) (ktrTop dp un gd cn cs L a ccd cl outer) (call (.ref f) vs) Q E s :=
  C _ _ _ _ _ _ _ _ _ _ _ _ _ _ _ _ _ _ B F X N T hk hd hu ret

/-- two tuples of the same three ints are not unequal -/
theorem ne_same {prog : Program} {w : World} {A : Around} {E : Value → Shared → Prop} {Q : Value → Shared → Prop} {s : Shared} {h₀ : Heap} {L : Addr} {news : List (Addr × Obj)} {x y z : Int} {D D' : Addr} {t1 t2 t3 u1 u2 u3 : Tok} {c c' : Nat}
    (N : News h₀ L s.heap news) (h1 : (D, ({ cls := .type "tuple", data := .seq #[.int x t1, .int y t2, .int z t3] c } : Obj)) ∈ news) (h2 : (D', ({ cls := .type "tuple", data := .seq #[.int x u1, .int y u2, .int z u3] c' } : Obj)) ∈ news)
    (hu : A.units + 64 < cLine) (h : Q (.bool false) s) : wpAny (model prog w) A (compareOp .NotEq (.ref D) (.ref D')) Q E s := by
  have r1 : Reads s.heap (.ref D) (.tuple [.int x, .int y, .int z]) ([] ++ ([] ++ ([] ++ []))) := reads_tuple_at (News.get N h1) rfl rfl (.cons (.int _ _) (.cons (.int _ _) (.cons (.int _ _) .nil)))
  have r2 : Reads s.heap (.ref D') (.tuple [.int x, .int y, .int z]) ([] ++ ([] ++ ([] ++ []))) := reads_tuple_at (News.get N h2) rfl rfl (.cons (.int _ _) (.cons (.int _ _) (.cons (.int _ _) .nil)))
  refine ne_dataH r1 r2 rfl rfl hu ?_
  have e : (!PyData.eqv (.tuple [.int x, .int y, .int z]) (.tuple [.int x, .int y, .int z])) = false := by simp [PyData.eqv, PyData.eqvAll]
  rw [e]
  exact h


/-- what the two ways of a drawn lot have in common -/
def Lot (b : Int) (s : Shared) (v : Value) (s' : Shared) : Prop := ∃ (x : Int) (t : Tok) (tk : Nat), v = .int x t ∧ s' = { s with toks := tk } ∧ 0 ≤ x ∧ x < b
theorem lot_join {prog : Program} {w : World} {A : Around} {E : Value → Shared → Prop} {Q : Value → Shared → Prop} {s : Shared} {c : Prop} [Decidable c] {T1 T2 : Sem Value} (b : Int)
    (h1 : c → wpAny (model prog w) A T1 (Lot b s) E s) (h2 : ¬ c → wpAny (model prog w) A T2 (Lot b s) E s)
    (h : ∀ (v : Int) (t : Tok) (tk : Nat), 0 ≤ v → v < b → Q (.int v t) { s with toks := tk }) : if decide c = true then wpAny (model prog w) A T1 Q E s else wpAny (model prog w) A T2 Q E s := by
  have j : ∀ v s', Lot b s v s' → Q v s' := by
    rintro v s' ⟨x, t, tk, rfl, rfl, a, b⟩
    exact h x t tk a b
  refine split_dec (fun hc => wpAny_mono (h1 hc) j fun _ _ e => e) (fun hc => wpAny_mono (h2 hc) j fun _ _ e => e)
/-- what the two ways to the day behind a month's last have in common -/
def Later (y n : Int) (h₀ : Heap) (L : Addr) (mm : Str → Option Value) (news : List (Addr × Obj)) (s : Shared) (v : Value) (s' : Shared) : Prop :=
  ∃ (D : Addr) (y' m' : Int) (t1 t2 t3 : Tok) (c : Nat) (h' : Heap) (tk' : Nat), v = .ref D ∧ s' = { s with heap := h', toks := tk' } ∧ Fr h₀ L h' mm ∧ News h₀ L h' ((D, ({ cls := .type "tuple", data := .seq #[.int y' t1, .int m' t2, .int 1 t3] c } : Obj)) :: news) ∧ AllLt D news ∧ y ≤ y' ∧ y' ≤ y + 1 ∧ Valid y' m' 1 ∧ cnt y' m' 1 = n
theorem later_join {prog : Program} {w : World} {A : Around} {E : Value → Shared → Prop} {Q : Value → Shared → Prop} {s : Shared} {c : Prop} [Decidable c] {T1 T2 : Sem Value} {h₀ : Heap} {L : Addr} {mm : Str → Option Value} {news : List (Addr × Obj)} (y n : Int) (_F : Fr h₀ L s.heap mm) (_N : News h₀ L s.heap news)
    (h1 : c → wpAny (model prog w) A T1 (Later y n h₀ L mm news s) E s) (h2 : ¬ c → wpAny (model prog w) A T2 (Later y n h₀ L mm news s) E s)
    (h : ∀ (D : Addr) (y' m' : Int) (t1 t2 t3 : Tok) (c : Nat) (h' : Heap) (tk' : Nat), Fr h₀ L h' mm → News h₀ L h' ((D, ({ cls := .type "tuple", data := .seq #[.int y' t1, .int m' t2, .int 1 t3] c } : Obj)) :: news) → AllLt D news → y ≤ y' → y' ≤ y + 1 → Valid y' m' 1 → cnt y' m' 1 = n → Q (.ref D) { s with heap := h', toks := tk' }) :
    if decide c = true then wpAny (model prog w) A T1 Q E s else wpAny (model prog w) A T2 Q E s := by
  have j : ∀ v s', Later y n h₀ L mm news s v s' → Q v s' := by
    rintro v s' ⟨D, y', m', t1, t2, t3, c, h', tk', rfl, rfl, F, N, l, a, b, v, e⟩
    exact h D y' m' t1 t2 t3 c h' tk' F N l a b v e
  refine split_dec (fun hc => wpAny_mono (h1 hc) j fun _ _ e => e) (fun hc => wpAny_mono (h2 hc) j fun _ _ e => e)
theorem words_B1 : True := by
  k_with_none
  k_with "call builtin:abs" => first | (with_reducible refine abs_pos (by omega) ?_; intro _ _) | (with_reducible refine abs_neg (by omega) ?_; intro _ _)
  k_with "binaryOp FloorDiv int int" => (with_reducible refine div_pos' (by first | assumption | decide | omega) (by first | assumption | decide | omega) ?_)
  k_with "binaryOp Mod int int" => (with_reducible refine mod_pos' (by first | assumption | decide | omega) ?_)
  k_with "call ref" => (k_here; k_dflt (refine wpAny_call ?_; (refine' code_def ?k1 ?k2 ?k3 ?k4 ?k5 ?kA ?kF ?kK ?k6 ?k7 ?k8 ?k9 ?kB ?_ ?c2 ?c3 ?c4 ?c5; (case kA => exact rfl); (case kF => exact rfl); (case kK => first | exact rfl | assumption); (case k1 => k_asm); (case k2 => k_asm); (case k3 => k_asm); (case k4 => k_asm); (case k5 => k_asm); (case k6 => k_is); (case k7 => k_is); (case k8 => ((try simp only [depth_under_make, depth_under_kw, depth_in1, depth_deeper, depth_caller]); (try dsimp only [ktrTop]); first | decide | exact room1 hdp (by decide) | exact room2 hdp (by decide) | exact room3 hdp (by decide) | exact room4 hdp (by decide) | omega)); (case k9 => exact BindsTo.of_eq rfl); (case c5 => decide); (case kB => exact locs rfl); (case c2 => exact rfl); (case c3 => exact rfl); (case c4 => exact rfl); k_whole; intro g' L' h' FG' F' N' B' X' T'; (try dsimp only); (try k_lift B'); (try k_fold))))
  trivial
theorem c_whole (w : World) (mean : ExcName → Option Value) (mg mb : Str → Option Value) (x : Int) (tx : Tok)  :
    Says 2 w mean mg mb 157 [.int x tx] (fun _ => .bool true) := by
  unfold Says
  k_fill
  intro dp un gd cn cs a ccd cl outer A₀ base h₀ L mm news s Q E B F X N T hk hdp hun hret
  refine wpAny_call ?_
  k_dflt cell_enter
  k_steps
  all_goals cb_end hret

theorem c_settled (w : World) (mean : ExcName → Option Value) (mg mb : Str → Option Value) (x : Int) (tx tb td : Tok) (h1 : -2147483648 ≤ x) (h2 : x < 2147483648) :
    Says 4 w mean mg mb 164 [.int x tx, .int 32 tb, .int 12 td] (fun t => .int x t) := by
  unfold Says
  k_fill
  intro dp un gd cn cs a ccd cl outer A₀ base h₀ L mm news s Q E B F X N T hk hdp hun hret
  have d1 := fit_lo h1
  have d2 := fit_hi h2
  refine wpAny_call ?_
  k_dflt cell_enter
  k_steps
  all_goals cb_end hret

theorem c_of (w : World) (mean : ExcName → Option Value) (mg mb : Str → Option Value) (x : Int) (tx tb : Tok) (h1 : -2147483648 ≤ x) (h2 : x < 2147483648) :
    Says 4 w mean mg mb 79 [.int x tx, .int 32 tb] (fun t => .int x t) := by
  unfold Says
  k_fill
  intro dp un gd cn cs a ccd cl outer A₀ base h₀ L mm news s Q E B F X N T hk hdp hun hret
  have d1 := fit_lo h1
  have d2 := fit_hi h2
  refine wpAny_call ?_
  k_dflt cell_enter
  k_steps
  all_goals cb_end hret

theorem c_quot (w : World) (mean : ExcName → Option Value) (mg mb : Str → Option Value) (x y : Int) (tx ty : Tok) (x1 : 0 ≤ x) (y1 : 0 < y) (y2 : y < 1073741824) :
    Says 2 w mean mg mb 178 [.int x tx, .int y ty] (fun t => .int (x / y) t) := by
  unfold Says
  k_fill
  intro dp un gd cn cs a ccd cl outer A₀ base h₀ L mm news s Q E B F X N T hk hdp hun hret
  have hz : (y == 0) = false := by rw [beq_eq_false_iff_ne]; omega
  have hs : (decide (x < 0) == decide (y < 0)) = true := by rw [decide_eq_false (by omega), decide_eq_false (by omega)]; rfl
  refine wpAny_call ?_
  k_dflt cell_enter
  k_steps
  all_goals cb_end hret

theorem c_quotn (w : World) (mean : ExcName → Option Value) (mg mb : Str → Option Value) (x y : Int) (tx ty : Tok) (x1 : x < 0) (y1 : 0 < y) (y2 : y < 1073741824) :
    Says 2 w mean mg mb 178 [.int x tx, .int y ty] (fun t => .int (0 - (-x) / y) t) := by
  unfold Says
  k_fill
  intro dp un gd cn cs a ccd cl outer A₀ base h₀ L mm news s Q E B F X N T hk hdp hun hret
  have hz : (y == 0) = false := by rw [beq_eq_false_iff_ne]; omega
  have hs : (decide (x < 0) == decide (y < 0)) = false := by rw [decide_eq_true x1, decide_eq_false (by omega)]; rfl
  refine wpAny_call ?_
  k_dflt cell_enter
  k_steps
  all_goals cb_end hret

theorem words_C1 : True := by
  k_with_none
  k_with "call builtin:abs" => first | (with_reducible refine abs_pos (by omega) ?_; intro _ _) | (with_reducible refine abs_neg (by omega) ?_; intro _ _)
  k_with "binaryOp FloorDiv int int" => (with_reducible refine div_pos' (by first | assumption | decide | omega) (by first | assumption | decide | omega) ?_)
  k_with "binaryOp Mod int int" => (with_reducible refine mod_pos' (by first | assumption | decide | omega) ?_)
  k_with "call ref" => (k_here; k_dflt (refine wpAny_call ?_; (refine' code_def ?k1 ?k2 ?k3 ?k4 ?k5 ?kA ?kF ?kK ?k6 ?k7 ?k8 ?k9 ?kB ?_ ?c2 ?c3 ?c4 ?c5; (case kA => exact rfl); (case kF => exact rfl); (case kK => first | exact rfl | assumption); (case k1 => k_asm); (case k2 => k_asm); (case k3 => k_asm); (case k4 => k_asm); (case k5 => k_asm); (case k6 => k_is); (case k7 => k_is); (case k8 => ((try simp only [depth_under_make, depth_under_kw, depth_in1, depth_deeper, depth_caller]); (try dsimp only [ktrTop]); first | decide | exact room1 hdp (by decide) | exact room2 hdp (by decide) | exact room3 hdp (by decide) | exact room4 hdp (by decide) | omega)); (case k9 => exact BindsTo.of_eq rfl); (case c5 => decide); (case kB => exact locs rfl); (case c2 => exact rfl); (case c3 => exact rfl); (case c4 => exact rfl); k_whole; intro g' L' h' FG' F' N' B' X' T'; (try dsimp only); (try k_lift B'); (try k_fold))))
  k_with "call ref" => (k_here; (with_reducible show wpAny _ _ (call (Value.ref 157) [Value.int _ _]) _ _ _); k_dflt (refine' says_use (c_whole _ _ _ _ _ _ ) ?kB ?kF ?kX ?kN ?kT ?kK ?kd ?ku ?_; (case kB => k_asm); (case kF => k_asm); (case kX => k_asm); (case kN => k_asm); (case kT => k_asm); (case kK => first | exact rfl | assumption); (case kd => ((try simp only [depth_under_make, depth_under_kw, depth_in1, depth_deeper, depth_caller]); (try dsimp only [ktrTop]); first | decide | exact room1 hdp (by decide) | exact room2 hdp (by decide) | exact room3 hdp (by decide) | exact room4 hdp (by decide) | omega)); (case ku => ((try simp only [units_in1, units_deeper, Around.mark_units, units_caller]); (try dsimp only [ktrTop]); first | decide | exact room1 hun (by decide) | exact room2 hun (by decide) | exact room3 hun (by decide) | exact room4 hun (by decide) | ((have hcL9 := cLine_is); omega))); k_whole; intro t' h' tk' F' N'; (try dsimp only); (try k_fold)))
  k_with "call ref" => (k_here; (with_reducible show wpAny _ _ (call (Value.ref 164) [Value.int _ _, Value.int _ _, Value.int _ _]) _ _ _); k_dflt (refine' says_use (c_settled _ _ _ _ _ _ _ _ ?h1 ?h2) ?kB ?kF ?kX ?kN ?kT ?kK ?kd ?ku ?_; (case h1 => omega); (case h2 => omega); (case kB => k_asm); (case kF => k_asm); (case kX => k_asm); (case kN => k_asm); (case kT => k_asm); (case kK => first | exact rfl | assumption); (case kd => ((try simp only [depth_under_make, depth_under_kw, depth_in1, depth_deeper, depth_caller]); (try dsimp only [ktrTop]); first | decide | exact room1 hdp (by decide) | exact room2 hdp (by decide) | exact room3 hdp (by decide) | exact room4 hdp (by decide) | omega)); (case ku => ((try simp only [units_in1, units_deeper, Around.mark_units, units_caller]); (try dsimp only [ktrTop]); first | decide | exact room1 hun (by decide) | exact room2 hun (by decide) | exact room3 hun (by decide) | exact room4 hun (by decide) | ((have hcL9 := cLine_is); omega))); k_whole; intro t' h' tk' F' N'; (try dsimp only); (try k_fold)))
  k_with "call ref" => (k_here; (with_reducible show wpAny _ _ (call (Value.ref 79) [Value.int _ _, Value.int _ _]) _ _ _); k_dflt (refine' says_use (c_of _ _ _ _ _ _ _ ?h1 ?h2) ?kB ?kF ?kX ?kN ?kT ?kK ?kd ?ku ?_; (case h1 => omega); (case h2 => omega); (case kB => k_asm); (case kF => k_asm); (case kX => k_asm); (case kN => k_asm); (case kT => k_asm); (case kK => first | exact rfl | assumption); (case kd => ((try simp only [depth_under_make, depth_under_kw, depth_in1, depth_deeper, depth_caller]); (try dsimp only [ktrTop]); first | decide | exact room1 hdp (by decide) | exact room2 hdp (by decide) | exact room3 hdp (by decide) | exact room4 hdp (by decide) | omega)); (case ku => ((try simp only [units_in1, units_deeper, Around.mark_units, units_caller]); (try dsimp only [ktrTop]); first | decide | exact room1 hun (by decide) | exact room2 hun (by decide) | exact room3 hun (by decide) | exact room4 hun (by decide) | ((have hcL9 := cLine_is); omega))); k_whole; intro t' h' tk' F' N'; (try dsimp only); (try k_fold)))
  k_with "call ref" => (k_here; (with_reducible show wpAny _ _ (call (Value.ref 178) [Value.int _ _, Value.int _ _]) _ _ _); k_dflt (refine' says_use (c_quotn _ _ _ _ _ _ _ _ ?x1 ?y1 ?y2) ?kB ?kF ?kX ?kN ?kT ?kK ?kd ?ku ?_; (case x1 => omega); (case y1 => omega); (case y2 => omega); (case kB => k_asm); (case kF => k_asm); (case kX => k_asm); (case kN => k_asm); (case kT => k_asm); (case kK => first | exact rfl | assumption); (case kd => ((try simp only [depth_under_make, depth_under_kw, depth_in1, depth_deeper, depth_caller]); (try dsimp only [ktrTop]); first | decide | exact room1 hdp (by decide) | exact room2 hdp (by decide) | exact room3 hdp (by decide) | exact room4 hdp (by decide) | omega)); (case ku => ((try simp only [units_in1, units_deeper, Around.mark_units, units_caller]); (try dsimp only [ktrTop]); first | decide | exact room1 hun (by decide) | exact room2 hun (by decide) | exact room3 hun (by decide) | exact room4 hun (by decide) | ((have hcL9 := cLine_is); omega))); k_whole; intro t' h' tk' F' N'; (try dsimp only); (try k_fold)))
  k_with "call ref" => (k_here; (with_reducible show wpAny _ _ (call (Value.ref 178) [Value.int _ _, Value.int _ _]) _ _ _); k_dflt (refine' says_use (c_quot _ _ _ _ _ _ _ _ ?x1 ?y1 ?y2) ?kB ?kF ?kX ?kN ?kT ?kK ?kd ?ku ?_; (case x1 => omega); (case y1 => omega); (case y2 => omega); (case kB => k_asm); (case kF => k_asm); (case kX => k_asm); (case kN => k_asm); (case kT => k_asm); (case kK => first | exact rfl | assumption); (case kd => ((try simp only [depth_under_make, depth_under_kw, depth_in1, depth_deeper, depth_caller]); (try dsimp only [ktrTop]); first | decide | exact room1 hdp (by decide) | exact room2 hdp (by decide) | exact room3 hdp (by decide) | exact room4 hdp (by decide) | omega)); (case ku => ((try simp only [units_in1, units_deeper, Around.mark_units, units_caller]); (try dsimp only [ktrTop]); first | decide | exact room1 hun (by decide) | exact room2 hun (by decide) | exact room3 hun (by decide) | exact room4 hun (by decide) | ((have hcL9 := cLine_is); omega))); k_whole; intro t' h' tk' F' N'; (try dsimp only); (try k_fold)))
  trivial
theorem two_add (w : World) (mean : ExcName → Option Value) (mg mb : Str → Option Value) (x y : Int) (tx tO ty : Tok) (h1 : -2147483648 ≤ x + y) (h2 : x + y < 2147483648) :
    Says 10 w mean mg mb 227 [.int x tx, .str (Str.ofString "+") tO, .int y ty] (fun t => .int (x + y) t) := by
  unfold Says
  k_fill
  intro dp un gd cn cs a ccd cl outer A₀ base h₀ L mm news s Q E B F X N T hk hdp hun hret
  refine wpAny_call ?_
  k_dflt cell_enter
  k_steps
  all_goals cb_end hret

theorem two_sub (w : World) (mean : ExcName → Option Value) (mg mb : Str → Option Value) (x y : Int) (tx tO ty : Tok) (h1 : -2147483648 ≤ x - y) (h2 : x - y < 2147483648) :
    Says 10 w mean mg mb 227 [.int x tx, .str (Str.ofString "-") tO, .int y ty] (fun t => .int (x - y) t) := by
  unfold Says
  k_fill
  intro dp un gd cn cs a ccd cl outer A₀ base h₀ L mm news s Q E B F X N T hk hdp hun hret
  refine wpAny_call ?_
  k_dflt cell_enter
  k_steps
  all_goals cb_end hret

theorem two_mul (w : World) (mean : ExcName → Option Value) (mg mb : Str → Option Value) (x y : Int) (tx tO ty : Tok) (x1 : -2147483648 ≤ x) (x2 : x < 2147483648) (y1 : -2147483648 ≤ y) (y2 : y < 2147483648) (h1 : -2147483648 ≤ x * y) (h2 : x * y < 2147483648) :
    Says 10 w mean mg mb 227 [.int x tx, .str (Str.ofString "*") tO, .int y ty] (fun t => .int (x * y) t) := by
  unfold Says
  k_fill
  intro dp un gd cn cs a ccd cl outer A₀ base h₀ L mm news s Q E B F X N T hk hdp hun hret
  refine wpAny_call ?_
  k_dflt cell_enter
  k_steps
  all_goals cb_end hret

theorem two_div (w : World) (mean : ExcName → Option Value) (mg mb : Str → Option Value) (x y : Int) (tx tO ty : Tok) (x1 : 0 ≤ x) (x2 : x < 2147483648) (y1 : 0 < y) (y2 : y < 1073741824) :
    Says 10 w mean mg mb 227 [.int x tx, .str (Str.ofString "\\") tO, .int y ty] (fun t => .int (x / y) t) := by
  unfold Says
  k_fill
  intro dp un gd cn cs a ccd cl outer A₀ base h₀ L mm news s Q E B F X N T hk hdp hun hret
  have q1 := Int.ediv_nonneg x1 (Int.le_of_lt y1)
  have q2 := Int.ediv_le_self y x1
  refine wpAny_call ?_
  k_dflt cell_enter
  k_steps
  all_goals cb_end hret

theorem two_divn (w : World) (mean : ExcName → Option Value) (mg mb : Str → Option Value) (x y : Int) (tx tO ty : Tok) (x1 : x < 0) (x2 : -2147483648 < x) (y1 : 0 < y) (y2 : y < 1073741824) :
    Says 10 w mean mg mb 227 [.int x tx, .str (Str.ofString "\\") tO, .int y ty] (fun t => .int (0 - (-x) / y) t) := by
  unfold Says
  k_fill
  intro dp un gd cn cs a ccd cl outer A₀ base h₀ L mm news s Q E B F X N T hk hdp hun hret
  have q1 := Int.ediv_nonneg (a := -x) (b := y) (by omega) (Int.le_of_lt y1)
  have q2 := Int.ediv_le_self (a := -x) y (by omega)
  refine wpAny_call ?_
  k_dflt cell_enter
  k_steps
  all_goals cb_end hret

theorem two_mod0 (w : World) (mean : ExcName → Option Value) (mg mb : Str → Option Value) (x y : Int) (tx tO ty : Tok) (x1 : 0 ≤ x) (x2 : x < 2147483648) (y1 : 0 < y) (y2 : y < 1073741824) :
    Says 10 w mean mg mb 227 [.int x tx, .str (Str.ofString "MOD") tO, .int y ty] (fun t => .int (x - y * (x / y)) t) := by
  unfold Says
  k_fill
  intro dp un gd cn cs a ccd cl outer A₀ base h₀ L mm news s Q E B F X N T hk hdp hun hret
  have q1 := Int.ediv_nonneg x1 (Int.le_of_lt y1)
  have q2 := Int.ediv_le_self y x1
  have r0 := Int.emod_def x y
  have r1 := Int.emod_nonneg x (b := y) (by omega)
  have r2 := Int.emod_lt_of_pos x y1
  have g1 : 0 ≤ x - y * (x / y) := by omega
  have g2 : x - y * (x / y) < 2147483648 := by omega
  clear r0 r1 r2
  refine wpAny_call ?_
  k_dflt cell_enter
  k_steps
  all_goals cb_end hret

theorem two_mod (w : World) (mean : ExcName → Option Value) (mg mb : Str → Option Value) (x y : Int) (tx tO ty : Tok) (x1 : 0 ≤ x) (x2 : x < 2147483648) (y1 : 0 < y) (y2 : y < 1073741824) :
    Says 10 w mean mg mb 227 [.int x tx, .str (Str.ofString "MOD") tO, .int y ty] (fun t => .int (x % y) t) := by
  rw [Int.emod_def]
  exact two_mod0 w mean mg mb x y tx tO ty x1 x2 y1 y2

/-- where a def's body stands -/
structure Ct where
  w : World
  mean : ExcName → Option Value
  mg : Str → Option Value
  mb : Str → Option Value
  dp : Nat
  un : Nat
  gd : Option (List Code)
  cn : Str
  cs : Scope
  a : Addr
  ccd : Value
  outer : List Env
  A₀ : Around
  base : Heap
  h₀ : Heap
  L : Addr
  news : List (Addr × Obj)
abbrev Ct.top (C : Ct) : Around := ktrTop C.dp C.un C.gd C.cn C.cs C.L C.a C.ccd [] C.outer
abbrev Ct.env (C : Ct) : Env := envX C.cn C.cs C.L C.a C.ccd []
structure Ct.Ok (C : Ct) : Prop where
  B : Below C.A₀ C.base C.outer C.h₀
  X : (hd.heap_39 C.w.params).In C.h₀
  T : Top hd.view_39 (looseW hd.view_39 [Str.ofString "BasicError"]) C.mean C.mg C.mb C.h₀
  hk : C.cs.kind = .function
  d : C.dp + 10 < recursionLimit
  u : C.un + 10 * 10 < cLine
  two : C.env.kindOf (Str.ofString "_law_two") = some .globalImplicit

/-- the ints that a frame's names hold -/
def Has (m : Str → Option Value) (l : List (Str × Int)) : Prop := ∀ v x, l.lookup v = some x → ∃ t, m v = some (.int x t)
theorem Has.nil (m : Str → Option Value) : Has m [] := fun _ _ h => nomatch h
theorem Has.cons {m : Str → Option Value} {l : List (Str × Int)} {v : Str} {x : Int} {t : Tok} (h : m v = some (.int x t)) (H : Has m l) : Has m ((v, x) :: l) := by
  intro u y e
  rw [List.lookup_cons] at e
  by_cases g : (u == v) = true
  · rw [g] at e
    cases e
    rw [eq_of_beq g]
    exact ⟨t, h⟩
  · rw [Bool.not_eq_true] at g
    rw [g] at e
    exact H u y e
theorem Has.put {m : Str → Option Value} {l : List (Str × Int)} {v : Str} {x : Int} {t : Tok} (H : Has m l) : Has (fun y => if y = v then some (.int x t) else m y) ((v, x) :: l) := by
  intro u y e
  rw [List.lookup_cons] at e
  by_cases g : u = v
  · subst g
    rw [beq_self_eq_true] at e
    cases e
    exact ⟨t, if_pos rfl⟩
  · rw [beq_eq_false_iff_ne.mpr g] at e
    obtain ⟨t, k⟩ := H u y e
    exact ⟨t, (if_neg g).trans k⟩

/-- an expression comes to an int and leaves the frame and the ledger as they are -/
structure Ev (C : Ct) (l : List (Str × Int)) (e : PySem.Expr) (x : Int) : Prop where
  star : ∀ rest, starEach (e :: rest) C.env = (false, eval e C.env) :: starEach rest C.env
  swap : ∀ t n, swapsWith e t n C.env = pure false
  run : C.Ok → ∀ (m : Str → Option Value) (s : Shared) (Q E : Value → Shared → Prop), Has m l → Fr C.h₀ C.L s.heap m → News C.h₀ C.L s.heap C.news → CbRet C.h₀ C.L m C.news s Q (fun t => .int x t) →
    wpAny (model PySem.Challenge.rw_xm0017_01.row.prog C.w) C.top (eval e C.env) Q E s
/-- between two written bounds -/
def Bt (lo x hi : Int) : Prop := lo ≤ x ∧ x ≤ hi
theorem bt_lit (n : Int) : Bt n n n := ⟨Int.le_refl _, Int.le_refl _⟩
theorem bt_add {a x b c y d : Int} (h : Bt a x b) (g : Bt c y d) : Bt (a + c) (x + y) (b + d) := ⟨Int.add_le_add h.1 g.1, Int.add_le_add h.2 g.2⟩
theorem bt_sub {a x b c y d : Int} (h : Bt a x b) (g : Bt c y d) : Bt (a - d) (x - y) (b - c) := ⟨Int.sub_le_sub h.1 g.2, Int.sub_le_sub h.2 g.1⟩
theorem bt_mul {c a x b : Int} (hc : decide (0 ≤ c) = true) (h : Bt a x b) : Bt (c * a) (c * x) (c * b) := ⟨Int.mul_le_mul_of_nonneg_left h.1 (of_decide_eq_true hc), Int.mul_le_mul_of_nonneg_left h.2 (of_decide_eq_true hc)⟩
theorem bt_mulr {c a x b : Int} (hc : decide (0 ≤ c) = true) (h : Bt a x b) : Bt (a * c) (x * c) (b * c) := ⟨Int.mul_le_mul_of_nonneg_right h.1 (of_decide_eq_true hc), Int.mul_le_mul_of_nonneg_right h.2 (of_decide_eq_true hc)⟩
theorem bt_div {c a x b : Int} (hc : decide (0 < c) = true) (h : Bt a x b) : Bt (a / c) (x / c) (b / c) := ⟨Int.ediv_le_ediv (of_decide_eq_true hc) h.1, Int.ediv_le_ediv (of_decide_eq_true hc) h.2⟩
theorem bt_mod {c x : Int} (hc : decide (0 < c) = true) : Bt 0 (x % c) (c - 1) := ⟨Int.emod_nonneg _ (Int.ne_of_gt (of_decide_eq_true hc)), Int.le_sub_one_of_lt (Int.emod_lt_of_pos _ (of_decide_eq_true hc))⟩
def fits (lo hi : Int) : Bool := decide (-2147483648 ≤ lo) && decide (hi < 2147483648)
def Fit (x : Int) : Prop := -2147483648 ≤ x ∧ x < 2147483648
theorem bt_fit {lo x hi : Int} (h : Bt lo x hi) (f : fits lo hi = true) : Fit x := by
  unfold fits at f
  rw [Bool.and_eq_true, decide_eq_true_eq, decide_eq_true_eq] at f
  exact ⟨Int.le_trans f.1 h.1, Int.lt_of_le_of_lt h.2 f.2⟩
/-- a dividend that is not negative, a small divisor -/
def cuts (lo hi y : Int) : Bool := decide (0 ≤ lo) && decide (hi < 2147483648) && decide (0 < y) && decide (y < 1073741824)
theorem bt_cut {lo x hi y : Int} (h : Bt lo x hi) (f : cuts lo hi y = true) : (0 ≤ x ∧ x < 2147483648) ∧ 0 < y ∧ y < 1073741824 := by
  unfold cuts at f
  rw [Bool.and_eq_true, Bool.and_eq_true, Bool.and_eq_true, decide_eq_true_eq, decide_eq_true_eq, decide_eq_true_eq, decide_eq_true_eq] at f
  exact ⟨⟨Int.le_trans f.1.1.1 h.1, Int.lt_of_le_of_lt h.2 f.1.1.2⟩, f.1.2, f.2⟩
def cutsn (lo hi y : Int) : Bool := decide (-2147483648 < lo) && decide (hi < 0) && decide (0 < y) && decide (y < 1073741824)
theorem bt_cutn {lo x hi y : Int} (h : Bt lo x hi) (f : cutsn lo hi y = true) : (-2147483648 < x ∧ x < 0) ∧ 0 < y ∧ y < 1073741824 := by
  unfold cutsn at f
  rw [Bool.and_eq_true, Bool.and_eq_true, Bool.and_eq_true, decide_eq_true_eq, decide_eq_true_eq, decide_eq_true_eq, decide_eq_true_eq] at f
  exact ⟨⟨Int.lt_of_lt_of_le f.1.1.1 h.1, Int.lt_of_le_of_lt h.2 f.1.1.2⟩, f.1.2, f.2⟩
theorem room_d {a l : Nat} (h : a + 12 < l) : a + 1 + 10 < l := room2 h (by decide)
theorem room_u {a l : Nat} (h : a + 10 * 12 < l) : a + 3 + 10 * 10 < l := room2 h (by decide)

section
variable {C : Ct} {l : List (Str × Int)} {a b : PySem.Expr} {x y n : Int} {v : Str} {k k' : Nat} {p p' p'' : Pos}
theorem ev_lit : Ev C l (.Constant (.int n) k p) n := ⟨fun _ => rfl, fun _ _ => rfl, fun _ _ _ _ _ _ F N r => wpAny_Constant_int (r _ _ _ F N)⟩
theorem ev_name (hv : l.lookup v = some x) (hx : C.env.kindOf v = some .local) (hd : (v == ("__debug__" : Str)) = false) : Ev C l (.Name v p) x := by
  refine ⟨fun _ => rfl, fun _ _ => rfl, ?_⟩
  intro ok m s Q E H F N r
  obtain ⟨t, h⟩ := H v x hv
  exact nameX_L F h (r t _ _ F N) ok.hk hx hd
theorem ev_add (ha : Ev C l a x) (hb : Ev C l b y) : Ev C l (.BinOp a .Add b p) (x + y) := ⟨fun _ => rfl, fun _ _ => rfl, fun ok m s Q E H F N r =>
  wpAny_BinOp (ha.run ok m s _ E H F N fun _ _ _ F N => hb.run ok m _ _ E H F N fun _ _ _ F N => add_int (r _ _ _ F N))⟩
theorem ev_sub (ha : Ev C l a x) (hb : Ev C l b y) : Ev C l (.BinOp a .Sub b p) (x - y) := ⟨fun _ => rfl, fun _ _ => rfl, fun ok m s Q E H F N r =>
  wpAny_BinOp (ha.run ok m s _ E H F N fun _ _ _ F N => hb.run ok m _ _ E H F N fun _ _ _ F N => sub_int (r _ _ _ F N))⟩
theorem ev_two (op : Str) (h : ∀ tx tO ty, Says 10 C.w C.mean C.mg C.mb 227 [.int x tx, .str op tO, .int y ty] (fun t => .int n t)) (ha : Ev C l a x) (hb : Ev C l b y) :
    Ev C l (.Call (.Name (Str.ofString "_law_two") p) [a, .Constant (.str op) k p', b] [] p'') n := by
  refine ⟨fun _ => rfl, fun _ _ => rfl, ?_⟩
  intro ok m s Q E H F N r
  have hq : (hd.heap_39 C.w.params).In C.h₀ ∧ PySem.Challenge.rw_xm0017_01 = PySem.Challenge.rw_xm0017_01 ∧ nsIn (hd.heap_39 C.w.params) mainGlobals (Str.ofString "_law_two") = some (some (.ref 227)) ∧ keepIn (hd.heap_39 C.w.params) (.ref 227) = true := by
    k_fill
    exact ⟨ok.X, rfl, by k_is, by k_is⟩
  refine Call_ (nameX_K F ok.X (topRead_of ok.T) hq.2.2.1 ?_ ok.hk ok.two)
  refine callWith_K ok.X hq.2.2.2 ?_ (ha.star _) (by rw [show starEach (.Constant (.str op) k p' :: [b]) C.env = (false, eval (.Constant (.str op) k p') C.env) :: starEach [b] C.env from rfl, hb.star]; rfl)
  refine spliced_more ?_ (ha.star _)
  refine ha.run ok m _ _ E H F N fun tx _ _ F N => ?_
  refine spliced_more (Calls.Constant_str (spliced_more ?_ (hb.star _)))
  refine hb.run ok m _ _ E H F N fun ty _ _ F N => ?_
  refine args_nil ⟨ok.X.keeps F.keep, ?_⟩
  exact says_use (h _ _ _) ok.B F ok.X N ok.T ok.hk ok.d ok.u r
theorem ev_tadd (ha : Ev C l a x) (hb : Ev C l b y) {i j : Int} (h : Bt i (x + y) j) (f : fits i j = true) : Ev C l (.Call (.Name (Str.ofString "_law_two") p) [a, .Constant (.str (Str.ofString "+")) k p', b] [] p'') (x + y) :=
  ev_two _ (fun _ _ _ => two_add _ _ _ _ _ _ _ _ _ (bt_fit h f).1 (bt_fit h f).2) ha hb
theorem ev_tsub (ha : Ev C l a x) (hb : Ev C l b y) {i j : Int} (h : Bt i (x - y) j) (f : fits i j = true) : Ev C l (.Call (.Name (Str.ofString "_law_two") p) [a, .Constant (.str (Str.ofString "-")) k p', b] [] p'') (x - y) :=
  ev_two _ (fun _ _ _ => two_sub _ _ _ _ _ _ _ _ _ (bt_fit h f).1 (bt_fit h f).2) ha hb
theorem ev_tmul (ha : Ev C l a x) (hb : Ev C l b y) {i j i' j' i'' j'' : Int} (hx : Bt i x j) (f : fits i j = true) (hy : Bt i' y j') (f' : fits i' j' = true) (h : Bt i'' (x * y) j'') (f'' : fits i'' j'' = true) : Ev C l (.Call (.Name (Str.ofString "_law_two") p) [a, .Constant (.str (Str.ofString "*")) k p', b] [] p'') (x * y) :=
  ev_two _ (fun _ _ _ => two_mul _ _ _ _ _ _ _ _ _ (bt_fit hx f).1 (bt_fit hx f).2 (bt_fit hy f').1 (bt_fit hy f').2 (bt_fit h f'').1 (bt_fit h f'').2) ha hb
theorem ev_tdiv (ha : Ev C l a x) (hb : Ev C l b y) {i j : Int} (h : Bt i x j) (f : cuts i j y = true) : Ev C l (.Call (.Name (Str.ofString "_law_two") p) [a, .Constant (.str (Str.ofString "\\")) k p', b] [] p'') (x / y) :=
  ev_two _ (fun _ _ _ => two_div _ _ _ _ _ _ _ _ _ (bt_cut h f).1.1 (bt_cut h f).1.2 (bt_cut h f).2.1 (bt_cut h f).2.2) ha hb
theorem ev_tdivn (ha : Ev C l a x) (hb : Ev C l b y) {i j : Int} (h : Bt i x j) (f : cutsn i j y = true) : Ev C l (.Call (.Name (Str.ofString "_law_two") p) [a, .Constant (.str (Str.ofString "\\")) k p', b] [] p'') (0 - (-x) / y) :=
  ev_two _ (fun _ _ _ => two_divn _ _ _ _ _ _ _ _ _ (bt_cutn h f).1.2 (bt_cutn h f).1.1 (bt_cutn h f).2.1 (bt_cutn h f).2.2) ha hb
theorem ev_tmod (ha : Ev C l a x) (hb : Ev C l b y) {i j : Int} (h : Bt i x j) (f : cuts i j y = true) : Ev C l (.Call (.Name (Str.ofString "_law_two") p) [a, .Constant (.str (Str.ofString "MOD")) k p', b] [] p'') (x % y) :=
  ev_two _ (fun _ _ _ => two_mod _ _ _ _ _ _ _ _ _ (bt_cut h f).1.1 (bt_cut h f).1.2 (bt_cut h f).2.1 (bt_cut h f).2.2) ha hb
end

/-- a def's body comes to an int -/
def Bd (C : Ct) (l : List (Str × Int)) (ss : List Stmt) (x : Int) : Prop :=
  C.Ok → ∀ (m : Str → Option Value) (s : Shared) (Q : Flow → Shared → Prop) (E : Value → Shared → Prop), Has m l → Fr C.h₀ C.L s.heap m → News C.h₀ C.L s.heap C.news →
    (∀ (t : Tok) (h' : Heap) (tk' : Nat) (m' : Str → Option Value), Fr C.h₀ C.L h' m' → News C.h₀ C.L h' C.news → Q (.ret (.int x t)) { s with heap := h', toks := tk' }) →
      wpAny (model PySem.Challenge.rw_xm0017_01.row.prog C.w) C.top (execs ss C.env) Q E s
/-- .. to a new tuple of three ints -/
def Bd3 (C : Ct) (l : List (Str × Int)) (ss : List Stmt) (x y z : Int) : Prop :=
  C.Ok → ∀ (m : Str → Option Value) (s : Shared) (Q : Flow → Shared → Prop) (E : Value → Shared → Prop), Has m l → Fr C.h₀ C.L s.heap m → News C.h₀ C.L s.heap C.news →
    (∀ (D : Addr) (t1 t2 t3 : Tok) (h' : Heap) (tk' : Nat) (m' : Str → Option Value), Fr C.h₀ C.L h' m' → News C.h₀ C.L h' ((D, ({ cls := .type "tuple", data := .seq #[.int x t1, .int y t2, .int z t3] } : Obj)) :: C.news) → (∀ p ∈ C.news, p.1 < D) → Q (.ret (.ref D)) { s with heap := h', toks := tk' }) →
      wpAny (model PySem.Challenge.rw_xm0017_01.row.prog C.w) C.top (execs ss C.env) Q E s
section
variable {C : Ct} {l : List (Str × Int)} {e a b c : PySem.Expr} {ss : List Stmt} {x x' y z n : Int} {v : Str} {k : Nat} {p p' : Pos}
theorem bd_let (x' : Int) (h : Ev C l e x) (hx : x = x') (hk : C.env.kindOf v = some .local) (r : Bd C ((v, x') :: l) ss n) : Bd C l (.Assign [.Name v p'] e p :: ss) n := by
  subst hx
  intro ok m s Q E H F N q
  refine wpAny_execs_cons (wpAny_Assign_Name ?_ (h.swap _ _))
  refine h.run ok m _ _ E H F N fun t _ _ F N => ?_
  refine storeX_L F N (fun h' F N => ?_) ok.hk hk
  exact r ok _ _ Q E H.put F N fun t h' tk' m' F N => q t h' tk' m' F N
theorem bd_let3 (x' : Int) (h : Ev C l e x) (hx : x = x') (hk : C.env.kindOf v = some .local) {i j o : Int} (r : Bd3 C ((v, x') :: l) ss i j o) : Bd3 C l (.Assign [.Name v p'] e p :: ss) i j o := by
  subst hx
  intro ok m s Q E H F N q
  refine wpAny_execs_cons (wpAny_Assign_Name ?_ (h.swap _ _))
  refine h.run ok m _ _ E H F N fun t _ _ F N => ?_
  refine storeX_L F N (fun h' F N => ?_) ok.hk hk
  exact r ok _ _ Q E H.put F N fun D t1 t2 t3 h' tk' m' F N l => q D t1 t2 t3 h' tk' m' F N l
theorem bd_ret (h : Ev C l e x) : Bd C l [.Return (some e) p] x := fun ok m s Q E H F N q =>
  wpAny_execs_cons (wpAny_Return_some (h.run ok m s _ E H F N fun t h' tk' F N => q t h' tk' m F N))
theorem bd_ret3 (ha : Ev C l a x) (hb : Ev C l b y) (hc : Ev C l c z) : Bd3 C l [.Return (some (.Tuple [a, b, c] k p')) p] x y z := by
  intro ok m s Q E H F N q
  refine wpAny_execs_cons (wpAny_Return_some (Tuple_ ?_))
  refine spliced_more ?_ (ha.star _)
  refine ha.run ok m _ _ E H F N fun t1 _ _ F N => ?_
  refine spliced_more ?_ (hb.star _)
  refine hb.run ok m _ _ E H F N fun t2 _ _ F N => ?_
  refine spliced_more ?_ (hc.star _)
  refine hc.run ok m _ _ E H F N fun t3 _ _ F N => ?_
  refine args_nil ?_
  exact kup_newTuple F N (fun D h' F N l => q D t1 t2 t3 h' _ m F N l) (by show 3 ≤ sizeLine; rw [sizeLine_eq]; decide)
end
section
variable {C : Ct} {l : List (Str × Int)} {e a b c d : PySem.Expr} {ss : List Stmt} {x x' y z n x1 y1 : Int} {u v : Str} {k k' : Nat} {p p1 p2 p3 p4 p5 p6 : Pos}
theorem ev_mul (ha : Ev C l a x) (hb : Ev C l b y) (h : IntMulOk x y) : Ev C l (.BinOp a .Mult b p) (x * y) := ⟨fun _ => rfl, fun _ _ => rfl, fun ok m s Q E H F N r =>
  wpAny_BinOp (ha.run ok m s _ E H F N fun _ _ _ F N => hb.run ok m _ _ E H F N fun _ _ _ F N => mul_int (r _ _ _ F N) h)⟩
theorem bd_ret' (h : Ev C l e x) (hx : x = n) : Bd C l [.Return (some e) p] n := hx ▸ bd_ret h
/-- two names set at once -/
theorem ex_let2 (ha : Ev C l a x) (hb : Ev C l b y) (hu : C.env.kindOf u = some .local) (hv : C.env.kindOf v = some .local)
    (hw : swappedStores [.Tuple [.Name u p1, .Name v p2] k p3] (.Tuple [a, b] k' p4) C.env = pure (some [u, v]))
    (ok : C.Ok) (m : Str → Option Value) (s : Shared) (Q : Flow → Shared → Prop) (E : Value → Shared → Prop) (H : Has m l) (F : Fr C.h₀ C.L s.heap m) (N : News C.h₀ C.L s.heap C.news)
    (q : ∀ (h' : Heap) (tk' : Nat) (m' : Str → Option Value), Has m' ((u, x) :: (v, y) :: l) → Fr C.h₀ C.L h' m' → News C.h₀ C.L h' C.news → Q .next { s with heap := h', toks := tk' }) :
    wpAny (model PySem.Challenge.rw_xm0017_01.row.prog C.w) C.top (exec (.Assign [.Tuple [.Name u p1, .Name v p2] k p3] (.Tuple [a, b] k' p4) p5) C.env) Q E s := by
  refine Assign_Tuple_swapped (names := [u, v]) (Tuple_ ?_) rfl hw
  refine spliced_more ?_ (ha.star _)
  refine ha.run ok m _ _ E H F N fun t1 _ _ F N => ?_
  refine spliced_more ?_ (hb.star _)
  refine hb.run ok m _ _ E H F N fun t2 _ _ F N => ?_
  refine args_nil ?_
  refine kup_newTuple F N (fun D h' F N l => ?_) (by show 2 ≤ sizeLine; rw [sizeLine_eq]; decide)
  refine unpackItemsN_ F N (N.isTup (.head _)) rfl rfl fun h' F N => ?_
  refine assignInOrder_cons (bindName_ (storeX_L F N (fun h' F N => ?_) ok.hk hv))
  refine assignInOrder_cons (bindName_ (storeX_L F N (fun h' F N => ?_) ok.hk hu))
  exact assignInOrder_nil (q _ _ _ H.put.put F (cb_drop N fun p hp => .tail _ hp))
theorem bd_let2 (ha : Ev C l a x) (hb : Ev C l b y) (hu : C.env.kindOf u = some .local) (hv : C.env.kindOf v = some .local)
    (hw : swappedStores [.Tuple [.Name u p1, .Name v p2] k p3] (.Tuple [a, b] k' p4) C.env = pure (some [u, v])) (r : Bd C ((u, x) :: (v, y) :: l) ss n) :
    Bd C l (.Assign [.Tuple [.Name u p1, .Name v p2] k p3] (.Tuple [a, b] k' p4) p5 :: ss) n := fun ok m s Q E H F N q =>
  wpAny_execs_cons (ex_let2 ha hb hu hv hw ok m s _ E H F N fun _ _ m' H F N => r ok m' _ Q E H F N fun t h' tk' m' F N => q t h' tk' m' F N)
/-- two names set at once, if an int lies below another -/
theorem bd_if2 (hc : Ev C l c z) (hd : Ev C l d n) (hm : behindInMarks .Lt d = false) (ha : Ev C l a x1) (hb : Ev C l b y1) (hu : C.env.kindOf u = some .local) (hv : C.env.kindOf v = some .local)
    (hw : swappedStores [.Tuple [.Name u p1, .Name v p2] k p3] (.Tuple [a, b] k' p4) C.env = pure (some [u, v])) (hx : l.lookup u = some x) (hy : l.lookup v = some y) {o : Int}
    (r : ∀ x' y', (z < n ∧ x' = x1 ∧ y' = y1) ∨ (¬ z < n ∧ x' = x ∧ y' = y) → Bd C ((u, x') :: (v, y') :: l) ss o) :
    Bd C l (.If (.Compare c [.Lt] [d] p) [.Assign [.Tuple [.Name u p1, .Name v p2] k p3] (.Tuple [a, b] k' p4) p5] [] p6 :: ss) o := by
  intro ok m s Q E H F N q
  refine wpAny_execs_cons (wpAny_If (wpAny_isTrue_Compare1 ?_ hm))
  refine hc.run ok m _ _ E H F N fun t1 _ _ F N => ?_
  refine hd.run ok m _ _ E H F N fun t2 _ _ F N => ?_
  refine lt_int (wpAny_truthy_bool (split_dec (fun h => ?_) fun h => ?_))
  · refine wpAny_execs_cons (ex_let2 ha hb hu hv hw ok m _ _ E H F N fun _ _ m' H F N => wpAny_execs_nil ?_)
    exact r _ _ (.inl ⟨h, rfl, rfl⟩) ok m' _ Q E H F N fun t h' tk' m' F N => q t h' tk' m' F N
  · refine wpAny_execs_nil ?_
    obtain ⟨t, g⟩ := H u x hx
    obtain ⟨t', g'⟩ := H v y hy
    exact r _ _ (.inr ⟨h, rfl, rfl⟩) ok m _ Q E (.cons g (.cons g' H)) F N fun t h' tk' m' F N => q t h' tk' m' F N
theorem bd_ret3' {x' y' z' : Int} (ha : Ev C l a x) (hb : Ev C l b y) (hc : Ev C l c z) (ex : x = x') (ey : y = y') (ez : z = z') : Bd3 C l [.Return (some (.Tuple [a, b, c] k p1)) p] x' y' z' := by
  subst ex ey ez
  exact bd_ret3 ha hb hc
end

/-- what the ways to a value have in common -/
def Vj (v : Tok → Value) (s : Shared) (v' : Value) (s' : Shared) : Prop := ∃ (t : Tok) (tk : Nat), v' = v t ∧ s' = { s with toks := tk }
theorem val_join {prog : Program} {w : World} {A : Around} {E : Value → Shared → Prop} {Q : Value → Shared → Prop} {s : Shared} {T : Sem Value} (v : Tok → Value)
    (h1 : wpAny (model prog w) A T (Vj v s) E s) (h : ∀ (t : Tok) (tk : Nat), Q (v t) { s with toks := tk }) : wpAny (model prog w) A T Q E s := by
  refine wpAny_mono h1 ?_ fun _ _ e => e
  rintro v s' ⟨t, tk, rfl, rfl⟩
  exact h t tk
theorem words_D1 : True := by
  k_with_none
  k_with "bt" => first | assumption | ((with_reducible show Bt _ (_ + _) _); exact bt_add (by k_extra "bt") (by k_extra "bt")) | ((with_reducible show Bt _ (_ - _) _); exact bt_sub (by k_extra "bt") (by k_extra "bt")) | ((with_reducible show Bt _ (_ * _) _); exact bt_mul rfl (by k_extra "bt")) | ((with_reducible show Bt _ (_ * _) _); exact bt_mulr rfl (by k_extra "bt")) | ((with_reducible show Bt _ (_ / _) _); exact bt_div rfl (by k_extra "bt")) | ((with_reducible show Bt _ (_ % _) _); exact bt_mod rfl) | exact bt_lit _
  k_with "ev" => first | ((with_reducible show Ev _ _ (PySem.Expr.Constant _ _ _) _); exact ev_lit) | ((with_reducible show Ev _ _ (PySem.Expr.Name _ _) _); exact ev_name rfl rfl (by decide)) | ((with_reducible show Ev _ _ (PySem.Expr.BinOp _ PySem.Operator.Add _ _) _); exact ev_add (by k_extra "ev") (by k_extra "ev")) | ((with_reducible show Ev _ _ (PySem.Expr.BinOp _ PySem.Operator.Sub _ _) _); exact ev_sub (by k_extra "ev") (by k_extra "ev")) | ((with_reducible show Ev _ _ (PySem.Expr.BinOp _ PySem.Operator.Mult _ _) _); exact ev_mul (by k_extra "ev") (by k_extra "ev") (by mul_fits)) | ((with_reducible show Ev _ _ (PySem.Expr.Call _ [_, PySem.Expr.Constant (PySem.Const.str (Str.ofString "+")) _ _, _] _ _) _); exact ev_tadd (by k_extra "ev") (by k_extra "ev") (by k_extra "bt") rfl) | ((with_reducible show Ev _ _ (PySem.Expr.Call _ [_, PySem.Expr.Constant (PySem.Const.str (Str.ofString "-")) _ _, _] _ _) _); exact ev_tsub (by k_extra "ev") (by k_extra "ev") (by k_extra "bt") rfl) | ((with_reducible show Ev _ _ (PySem.Expr.Call _ [_, PySem.Expr.Constant (PySem.Const.str (Str.ofString "*")) _ _, _] _ _) _); exact ev_tmul (by k_extra "ev") (by k_extra "ev") (by k_extra "bt") rfl (by k_extra "bt") rfl (by k_extra "bt") rfl) | ((with_reducible show Ev _ _ (PySem.Expr.Call _ [_, PySem.Expr.Constant (PySem.Const.str (Str.ofString "MOD")) _ _, _] _ _) _); exact ev_tmod (by k_extra "ev") (by k_extra "ev") (by k_extra "bt") rfl) | ((with_reducible show Ev _ _ (PySem.Expr.Call _ [_, PySem.Expr.Constant (PySem.Const.str (Str.ofString "\\")) _ _, _] _ _) _); exact ev_tdiv (by k_extra "ev") (by k_extra "ev") (by k_extra "bt") rfl)
  k_with "evn" => exact ev_tdivn (by k_extra "ev") (by k_extra "ev") (by k_extra "bt") rfl
  k_with "code" => (k_dflt (refine' code_def ?k1 ?k2 ?k3 ?k4 ?k5 ?kA ?kF ?kK ?k6 ?k7 ?k8 ?k9 ?kB ?_ ?c2 ?c3 ?c4 ?c5; (case kA => exact rfl); (case kF => exact rfl); (case kK => assumption); (case k1 => k_asm); (case k2 => k_asm); (case k3 => k_asm); (case k4 => k_asm); (case k5 => k_asm); (case k6 => k_is); (case k7 => k_is); (case k8 => exact Nat.lt_of_le_of_lt (Nat.le_add_right _ _) hdp); (case k9 => exact BindsTo.of_eq rfl); (case c5 => decide); (case kB => exact locs rfl); (case c2 => exact rfl); (case c3 => exact rfl); (case c4 => exact rfl); k_whole; intro g' L' h' FG' F' N' B' X' T'))
  trivial
theorem c_num (w : World) (mean : ExcName → Option Value) (mg mb : Str → Option Value) (y m d : Int) (ty tm td : Tok) (y1 : 1500 ≤ y) (y2 : y ≤ 5000) (m1 : 1 ≤ m) (m2 : m ≤ 12) (d1 : 1 ≤ d) (d2 : d ≤ 31) :
    Says 12 w mean mg mb 234 [.int y ty, .int m tm, .int d td] (fun t => .int (cnt y m d) t) := by
  have by' : Bt 1500 y 5000 := ⟨y1, y2⟩
  have bm : Bt 1 m 12 := ⟨m1, m2⟩
  have bd : Bt 1 d 31 := ⟨d1, d2⟩
  have be : Bt (-1) (nE m) 0 := ⟨(nE_bound m1 m2).1, (nE_bound m1 m2).2.1⟩
  have bk : Bt 1 (m - 2 - nE m * 12) 12 := (nE_bound m1 m2).2.2
  have bY : Bt _ (nY y m) _ := (by k_extra "bt" : Bt _ (1461 * (y + 4800 + nE m) / 4) _)
  have bM : Bt _ (nM m) _ := (by k_extra "bt" : Bt _ (367 * (m - 2 - nE m * 12) / 12) _)
  have bA : Bt _ (nA y m) _ := (by k_extra "bt" : Bt _ (3 * ((y + 4900 + nE m) / 100) / 4) _)
  unfold Says
  k_fill
  intro dp un gd cn cs a ccd cl outer A₀ base h₀ L mm news s Q E B F X N T hk hdp hun hret
  refine wpAny_call ?_
  k_extra "code"
  refine (?bd : Bd ⟨w, mean, mg, mb, dp + 1, un + 3, gd, Str.ofString "_law_number", _, _, _, envX cn cs L a ccd cl :: outer, _, base, g', L', news⟩ [(Str.ofString "year", y), (Str.ofString "month", m), (Str.ofString "day", d)] _ (cnt y m d)) ⟨B', X', T', rfl, room_d hdp, room_u hun, rfl⟩ _ _ _ _ (Has.cons rfl (Has.cons rfl (Has.cons rfl (Has.nil _)))) F' N' (fun t h' tk' m' F N => leaveK_ F N fun F N => hret t _ _ F N)
  refine bd_let (nE m) (by k_extra "evn") (by rfl) rfl ?_
  refine bd_let (nY y m) (by k_extra "ev") (by rfl) rfl ?_
  refine bd_let (nM m) (by k_extra "ev") (by rfl) rfl ?_
  refine bd_let (nA y m) (by k_extra "ev") (by rfl) rfl ?_
  exact bd_ret' (by k_extra "ev") (by exact num_cnt y m d m1 m2)

theorem c_date0 (w : World) (mean : ExcName → Option Value) (mg mb : Str → Option Value) (n : Int) (tn : Tok) (n1 : 2200000 ≤ n) (n2 : n ≤ 4000000) :
    SaysT 12 w mean mg mb 241 [.int n tn] (dY n) (dM n) (dD n) := by
  have bn : Bt 2200000 n 4000000 := ⟨n1, n2⟩
  have ba : Bt _ (age n) _ := (by k_extra "bt" : Bt _ (4 * (n + 68569) / 146097) _)
  have bl : Bt 0 (l2 n) 36524 := ⟨(l2_bound n).1, (l2_bound n).2.1⟩
  have bl' : Bt 0 (n + 68569 - (146097 * age n + 3) / 4) 36524 := bl
  have by' : Bt 0 (yr n) 99 := ⟨(yr_bound n).1, (yr_bound n).2.1⟩
  have bs : Bt 0 (l2 n - 1461 * yr n / 4) 365 := ⟨since_pos n, Int.le_trans (since_bound n) (Int.add_le_add_left (feb_bound _).2 336)⟩
  have b3 : Bt 31 (l3 n) 396 := bt_add bs (bt_lit 31)
  have bm : Bt 1 (mo n) 12 := mo_bound n
  unfold SaysT
  k_fill
  intro dp un gd cn cs a ccd cl outer A₀ base h₀ L mm news s Q E B F X N T hk hdp hun hret
  refine wpAny_call ?_
  k_extra "code"
  refine (?bd : Bd3 ⟨w, mean, mg, mb, dp + 1, un + 3, gd, Str.ofString "_law_date", _, _, _, envX cn cs L a ccd cl :: outer, _, base, g', L', news⟩ [(Str.ofString "number", n)] _ (dY n) (dM n) (dD n)) ⟨B', X', T', rfl, room_d hdp, room_u hun, rfl⟩ _ _ _ _ (Has.cons rfl (Has.nil _)) F' N' (fun D t1 t2 t3 h' tk' m' F N l => leaveK_ F N fun F N => hret D t1 t2 t3 0 _ _ F N l)
  refine bd_let3 (n + 68569) (by k_extra "ev") (by rfl) rfl ?_
  refine bd_let3 (age n) (by k_extra "ev") (by rfl) rfl ?_
  refine bd_let3 (l2 n) (by k_extra "ev") (by rfl) rfl ?_
  refine bd_let3 (yr n) (by k_extra "ev") (by rfl) rfl ?_
  refine bd_let3 (l3 n) (by k_extra "ev") (by rfl) rfl ?_
  refine bd_let3 (mo n) (by k_extra "ev") (by rfl) rfl ?_
  refine bd_let3 (dD n) (by k_extra "ev") (by rfl) rfl ?_
  refine bd_let3 (mo n / 11) (by k_extra "ev") (by rfl) rfl ?_
  exact bd_ret3' (by k_extra "ev") (by k_extra "ev") (by k_extra "ev") (by rfl) (by rfl) (by rfl)

theorem c_week (w : World) (mean : ExcName → Option Value) (mg mb : Str → Option Value) (y m d : Int) (ty tm td : Tok) (y1 : 1500 ≤ y) (y2 : y ≤ 5000) (m1 : 1 ≤ m) (m2 : m ≤ 12) (d1 : 1 ≤ d) (d2 : d ≤ 31) :
    Says 12 w mean mg mb 248 [.int y ty, .int m tm, .int d td] (fun t => .int ((cnt y m d + 2) % 7) t) := by
  have bd : Bt 1 d 31 := ⟨d1, d2⟩
  unfold Says
  k_fill
  intro dp un gd cn cs a ccd cl outer A₀ base h₀ L mm news s Q E B F X N T hk hdp hun hret
  refine wpAny_call ?_
  k_extra "code"
  refine (?bd : Bd ⟨w, mean, mg, mb, dp + 1, un + 3, gd, Str.ofString "_law_weekday", _, _, _, envX cn cs L a ccd cl :: outer, _, base, g', L', news⟩ [(Str.ofString "year", y), (Str.ofString "month", m), (Str.ofString "day", d)] _ ((cnt y m d + 2) % 7)) ⟨B', X', T', rfl, room_d hdp, room_u hun, rfl⟩ _ _ _ _ (Has.cons rfl (Has.cons rfl (Has.cons rfl (Has.nil _)))) F' N' (fun t h' tk' m' F N => leaveK_ F N fun F N => hret t _ _ F N)
  refine bd_if2 (by k_extra "ev") (by k_extra "ev") rfl (by k_extra "ev") (by k_extra "ev") rfl rfl rfl rfl rfl fun p k hpk => ?_
  have hz : zel p k d = (cnt y m d + 2) % 7 ∧ Bt 1499 p 5000 ∧ Bt 3 k 14 := by
    rcases hpk with ⟨h, e1, e2⟩ | ⟨h, e1, e2⟩ <;> rw [e1, e2]
    · exact ⟨zel_early y m d m1 h, ⟨by omega, by omega⟩, ⟨by omega, by omega⟩⟩
    · exact ⟨zel_late y m d h m2, ⟨by omega, by omega⟩, ⟨by omega, by omega⟩⟩
  obtain ⟨hz, bp, bk⟩ := hz
  refine bd_let2 (by k_extra "ev") (by k_extra "ev") rfl rfl rfl ?_
  refine bd_let (d + 13 * (k + 1) / 5 + p % 100 + p % 100 / 4) (by k_extra "ev") (by rfl) rfl ?_
  exact bd_ret' (by k_extra "ev") (by exact hz)
theorem leap_1 {y : Int} (h4 : y % 4 = 0) (h : y % 100 ≠ 0) : (y % 100 != 0) = decide (feb y = 29) := by
  rw [decide_eq_true (feb_long h4 (.inl h)), bne_iff_ne.mpr h]
theorem leap_2 {y : Int} (h4 : y % 4 = 0) (h1 : y % 100 = 0) : (y % 400 == 0) = decide (feb y = 29) := by
  by_cases h : y % 400 = 0
  · rw [decide_eq_true (feb_long h4 (.inr h)), beq_iff_eq.mpr h]
  · rw [feb_short (.inr ⟨h1, h⟩), beq_eq_false_iff_ne.mpr h]; rfl
theorem leap_3 {y : Int} (h : y % 4 ≠ 0) : (y % 4 == 0) = decide (feb y = 29) := by
  rw [feb_short (.inl h), beq_eq_false_iff_ne.mpr h]; rfl
theorem feb_not {y : Int} (h : ¬ feb y = 29) : 28 = feb y := by
  have := feb_bound y
  omega
theorem words_E1 : True := by
  k_with_none
  k_with "call builtin:abs" => first | (with_reducible refine abs_pos (by omega) ?_; intro _ _) | (with_reducible refine abs_neg (by omega) ?_; intro _ _)
  k_with "binaryOp FloorDiv int int" => (with_reducible refine div_pos' (by first | assumption | decide | omega) (by first | assumption | decide | omega) ?_)
  k_with "binaryOp Mod int int" => (with_reducible refine mod_pos' (by first | assumption | decide | omega) ?_)
  k_with "call ref" => (k_here; k_dflt (refine wpAny_call ?_; (refine' code_def ?k1 ?k2 ?k3 ?k4 ?k5 ?kA ?kF ?kK ?k6 ?k7 ?k8 ?k9 ?kB ?_ ?c2 ?c3 ?c4 ?c5; (case kA => exact rfl); (case kF => exact rfl); (case kK => first | exact rfl | assumption); (case k1 => k_asm); (case k2 => k_asm); (case k3 => k_asm); (case k4 => k_asm); (case k5 => k_asm); (case k6 => k_is); (case k7 => k_is); (case k8 => ((try simp only [depth_under_make, depth_under_kw, depth_in1, depth_deeper, depth_caller]); (try dsimp only [ktrTop]); first | decide | exact room1 hdp (by decide) | exact room2 hdp (by decide) | exact room3 hdp (by decide) | exact room4 hdp (by decide) | omega)); (case k9 => exact BindsTo.of_eq rfl); (case c5 => decide); (case kB => exact locs rfl); (case c2 => exact rfl); (case c3 => exact rfl); (case c4 => exact rfl); k_whole; intro g' L' h' FG' F' N' B' X' T'; (try dsimp only); (try k_lift B'); (try k_fold))))
  k_with "eval BoolOp" => (k_here; (with_reducible show wpAny _ _ (eval (PySem.Expr.BoolOp PySem.BoolOp.And _ _) _) _ _ _); (fail_if_success (with_reducible show wpAny _ _ _ (Vj _ _) _ _)); k_dflt (refine' val_join (fun _ => .bool (decide (feb y = 29))) ?w1 ?_; (case w1 => (k_steps; all_goals exact ⟨0, _, congrArg Value.bool (by first | exact leap_1 (by assumption) (by assumption) | exact leap_2 (by assumption) (by assumption) | exact leap_3 (by assumption)), rfl⟩)); k_whole; intro t' tk'; (try dsimp only); (try k_fold)))
  k_with "eval IfExp" => (k_here; (fail_if_success (with_reducible show wpAny _ _ _ (Vj _ _) _ _)); k_dflt (refine' val_join (fun t => .int (feb y) t) ?w1 ?_; (case w1 => (k_steps; all_goals exact ⟨_, _, congrArg (Value.int · _) (by first | exact (Eq.symm (by assumption)) | exact feb_not (by assumption)), rfl⟩)); k_whole; intro t' tk'; (try dsimp only); (try k_fold)))
  trivial
theorem c_lengths (w : World) (mean : ExcName → Option Value) (mg mb : Str → Option Value) (y : Int) (ty : Tok) :
    SaysL 8 w mean mg mb 255 [.int y ty] [31, feb y, 31, 30, 31, 30, 31, 31, 30, 31, 30, 31] := by
  unfold SaysL
  k_fill
  intro dp un gd cn cs a ccd cl outer A₀ base h₀ L mm news s Q E B F X N T hk hdp hun hret
  refine wpAny_call ?_
  k_dflt cell_enter
  k_steps
  all_goals (refine hret _ _ _ _ (by k_asm) (by k_asm) ?_ (by assumption); repeat (first | exact IntsAre.nil | refine IntsAre.cons _ _ ?_))

theorem words_E2 : True := by
  k_with_none
  k_with "call builtin:abs" => first | (with_reducible refine abs_pos (by omega) ?_; intro _ _) | (with_reducible refine abs_neg (by omega) ?_; intro _ _)
  k_with "binaryOp FloorDiv int int" => (with_reducible refine div_pos' (by first | assumption | decide | omega) (by first | assumption | decide | omega) ?_)
  k_with "binaryOp Mod int int" => (with_reducible refine mod_pos' (by first | assumption | decide | omega) ?_)
  k_with "call ref" => (k_here; k_dflt (refine wpAny_call ?_; (refine' code_def ?k1 ?k2 ?k3 ?k4 ?k5 ?kA ?kF ?kK ?k6 ?k7 ?k8 ?k9 ?kB ?_ ?c2 ?c3 ?c4 ?c5; (case kA => exact rfl); (case kF => exact rfl); (case kK => first | exact rfl | assumption); (case k1 => k_asm); (case k2 => k_asm); (case k3 => k_asm); (case k4 => k_asm); (case k5 => k_asm); (case k6 => k_is); (case k7 => k_is); (case k8 => ((try simp only [depth_under_make, depth_under_kw, depth_in1, depth_deeper, depth_caller]); (try dsimp only [ktrTop]); first | decide | exact room1 hdp (by decide) | exact room2 hdp (by decide) | exact room3 hdp (by decide) | exact room4 hdp (by decide) | omega)); (case k9 => exact BindsTo.of_eq rfl); (case c5 => decide); (case kB => exact locs rfl); (case c2 => exact rfl); (case c3 => exact rfl); (case c4 => exact rfl); k_whole; intro g' L' h' FG' F' N' B' X' T'; (try dsimp only); (try k_lift B'); (try k_fold))))
  k_with "call ref" => (k_here; (with_reducible show wpAny _ _ (call (Value.ref 227) [Value.int _ _, Value.str (Str.ofString "+") _, Value.int _ _]) _ _ _); k_dflt (refine' says_use (two_add _ _ _ _ _ _ _ _ _ ?h1 ?h2) ?kB ?kF ?kX ?kN ?kT ?kK ?kd ?ku ?_; (case h1 => omega); (case h2 => omega); (case kB => k_asm); (case kF => k_asm); (case kX => k_asm); (case kN => k_asm); (case kT => k_asm); (case kK => first | exact rfl | assumption); (case kd => ((try simp only [depth_under_make, depth_under_kw, depth_in1, depth_deeper, depth_caller]); (try dsimp only [ktrTop]); first | decide | exact room1 hdp (by decide) | exact room2 hdp (by decide) | exact room3 hdp (by decide) | exact room4 hdp (by decide) | omega)); (case ku => ((try simp only [units_in1, units_deeper, Around.mark_units, units_caller]); (try dsimp only [ktrTop]); first | decide | exact room1 hun (by decide) | exact room2 hun (by decide) | exact room3 hun (by decide) | exact room4 hun (by decide) | ((have hcL9 := cLine_is); omega))); k_whole; intro t' h' tk' F' N'; (try dsimp only); (try k_fold)))
  k_with "call ref" => (k_here; (with_reducible show wpAny _ _ (call (Value.ref 227) [Value.int _ _, Value.str (Str.ofString "-") _, Value.int _ _]) _ _ _); k_dflt (refine' says_use (two_sub _ _ _ _ _ _ _ _ _ ?h1 ?h2) ?kB ?kF ?kX ?kN ?kT ?kK ?kd ?ku ?_; (case h1 => omega); (case h2 => omega); (case kB => k_asm); (case kF => k_asm); (case kX => k_asm); (case kN => k_asm); (case kT => k_asm); (case kK => first | exact rfl | assumption); (case kd => ((try simp only [depth_under_make, depth_under_kw, depth_in1, depth_deeper, depth_caller]); (try dsimp only [ktrTop]); first | decide | exact room1 hdp (by decide) | exact room2 hdp (by decide) | exact room3 hdp (by decide) | exact room4 hdp (by decide) | omega)); (case ku => ((try simp only [units_in1, units_deeper, Around.mark_units, units_caller]); (try dsimp only [ktrTop]); first | decide | exact room1 hun (by decide) | exact room2 hun (by decide) | exact room3 hun (by decide) | exact room4 hun (by decide) | ((have hcL9 := cLine_is); omega))); k_whole; intro t' h' tk' F' N'; (try dsimp only); (try k_fold)))
  k_with "call ref" => (k_here; (with_reducible show wpAny _ _ (call (Value.ref 227) [Value.int _ _, Value.str (Str.ofString "*") _, Value.int _ _]) _ _ _); k_dflt (refine' says_use (two_mul _ _ _ _ _ _ _ _ _ ?x1 ?x2 ?y1 ?y2 ?h1 ?h2) ?kB ?kF ?kX ?kN ?kT ?kK ?kd ?ku ?_; (case x1 => omega); (case x2 => omega); (case y1 => omega); (case y2 => omega); (case h1 => omega); (case h2 => omega); (case kB => k_asm); (case kF => k_asm); (case kX => k_asm); (case kN => k_asm); (case kT => k_asm); (case kK => first | exact rfl | assumption); (case kd => ((try simp only [depth_under_make, depth_under_kw, depth_in1, depth_deeper, depth_caller]); (try dsimp only [ktrTop]); first | decide | exact room1 hdp (by decide) | exact room2 hdp (by decide) | exact room3 hdp (by decide) | exact room4 hdp (by decide) | omega)); (case ku => ((try simp only [units_in1, units_deeper, Around.mark_units, units_caller]); (try dsimp only [ktrTop]); first | decide | exact room1 hun (by decide) | exact room2 hun (by decide) | exact room3 hun (by decide) | exact room4 hun (by decide) | ((have hcL9 := cLine_is); omega))); k_whole; intro t' h' tk' F' N'; (try dsimp only); (try k_fold)))
  k_with "call ref" => (k_here; (with_reducible show wpAny _ _ (call (Value.ref 227) [Value.int _ _, Value.str (Str.ofString "MOD") _, Value.int _ _]) _ _ _); k_dflt (refine' says_use (two_mod _ _ _ _ _ _ _ _ _ ?x1 ?x2 ?y1 ?y2) ?kB ?kF ?kX ?kN ?kT ?kK ?kd ?ku ?_; (case x1 => omega); (case x2 => omega); (case y1 => omega); (case y2 => omega); (case kB => k_asm); (case kF => k_asm); (case kX => k_asm); (case kN => k_asm); (case kT => k_asm); (case kK => first | exact rfl | assumption); (case kd => ((try simp only [depth_under_make, depth_under_kw, depth_in1, depth_deeper, depth_caller]); (try dsimp only [ktrTop]); first | decide | exact room1 hdp (by decide) | exact room2 hdp (by decide) | exact room3 hdp (by decide) | exact room4 hdp (by decide) | omega)); (case ku => ((try simp only [units_in1, units_deeper, Around.mark_units, units_caller]); (try dsimp only [ktrTop]); first | decide | exact room1 hun (by decide) | exact room2 hun (by decide) | exact room3 hun (by decide) | exact room4 hun (by decide) | ((have hcL9 := cLine_is); omega))); k_whole; intro t' h' tk' F' N'; (try dsimp only); (try k_fold)))
  k_with "call ref" => (k_here; (with_reducible show wpAny _ _ (call (Value.ref 227) [Value.int _ _, Value.str (Str.ofString "\\") _, Value.int _ _]) _ _ _); k_dflt (refine' says_use (two_divn _ _ _ _ _ _ _ _ _ ?x1 ?x2 ?y1 ?y2) ?kB ?kF ?kX ?kN ?kT ?kK ?kd ?ku ?_; (case x1 => omega); (case x2 => omega); (case y1 => omega); (case y2 => omega); (case kB => k_asm); (case kF => k_asm); (case kX => k_asm); (case kN => k_asm); (case kT => k_asm); (case kK => first | exact rfl | assumption); (case kd => ((try simp only [depth_under_make, depth_under_kw, depth_in1, depth_deeper, depth_caller]); (try dsimp only [ktrTop]); first | decide | exact room1 hdp (by decide) | exact room2 hdp (by decide) | exact room3 hdp (by decide) | exact room4 hdp (by decide) | omega)); (case ku => ((try simp only [units_in1, units_deeper, Around.mark_units, units_caller]); (try dsimp only [ktrTop]); first | decide | exact room1 hun (by decide) | exact room2 hun (by decide) | exact room3 hun (by decide) | exact room4 hun (by decide) | ((have hcL9 := cLine_is); omega))); k_whole; intro t' h' tk' F' N'; (try dsimp only); (try k_fold)))
  k_with "call ref" => (k_here; (with_reducible show wpAny _ _ (call (Value.ref 227) [Value.int _ _, Value.str (Str.ofString "\\") _, Value.int _ _]) _ _ _); k_dflt (refine' says_use (two_div _ _ _ _ _ _ _ _ _ ?x1 ?x2 ?y1 ?y2) ?kB ?kF ?kX ?kN ?kT ?kK ?kd ?ku ?_; (case x1 => omega); (case x2 => omega); (case y1 => omega); (case y2 => omega); (case kB => k_asm); (case kF => k_asm); (case kX => k_asm); (case kN => k_asm); (case kT => k_asm); (case kK => first | exact rfl | assumption); (case kd => ((try simp only [depth_under_make, depth_under_kw, depth_in1, depth_deeper, depth_caller]); (try dsimp only [ktrTop]); first | decide | exact room1 hdp (by decide) | exact room2 hdp (by decide) | exact room3 hdp (by decide) | exact room4 hdp (by decide) | omega)); (case ku => ((try simp only [units_in1, units_deeper, Around.mark_units, units_caller]); (try dsimp only [ktrTop]); first | decide | exact room1 hun (by decide) | exact room2 hun (by decide) | exact room3 hun (by decide) | exact room4 hun (by decide) | ((have hcL9 := cLine_is); omega))); k_whole; intro t' h' tk' F' N'; (try dsimp only); (try k_fold)))
  k_with "call ref" => (k_here; (with_reducible show wpAny _ _ (call (Value.ref 255) [Value.int _ _]) _ _ _); k_dflt (refine' saysL_use (c_lengths _ _ _ _ _ _ ) ?kB ?kF ?kX ?kN ?kT ?kK ?kd ?ku ?_; (case kB => k_asm); (case kF => k_asm); (case kX => k_asm); (case kN => k_asm); (case kT => k_asm); (case kK => first | exact rfl | assumption); (case kd => ((try simp only [depth_under_make, depth_under_kw, depth_in1, depth_deeper, depth_caller]); (try dsimp only [ktrTop]); first | decide | exact room1 hdp (by decide) | exact room2 hdp (by decide) | exact room3 hdp (by decide) | exact room4 hdp (by decide) | omega)); (case ku => ((try simp only [units_in1, units_deeper, Around.mark_units, units_caller]); (try dsimp only [ktrTop]); first | decide | exact room1 hun (by decide) | exact room2 hun (by decide) | exact room3 hun (by decide) | exact room4 hun (by decide) | ((have hcL9 := cLine_is); omega))); k_whole; intro D' is' h' tk' F' N' hI' l1; (try k_lt l1); (try dsimp only); (try k_fold)))
  k_with "subscriptTail Name Slice ref ref" => (k_here; (with_reducible show wpAny _ _ (subscriptTail _ (PySem.Expr.Slice _ _ none _) (Value.ref _) (Value.ref _)) _ _ _); k_dflt (refine' kmk_slice_ints (s := ⟨_, _, _, _, _⟩) ?zF ?zN ?zl ?zp ?zq ?zi ?zm ?zc ?_ ?zs ?zt ?zz; (case zF => k_asm); (case zN => k_asm); (case zl => kmk_list); (case zp => kmk_part); (case zq => kmk_part); (case zi => l_ints); (case zm => kmk_nums); (case zc => kmk_len); (case zs => with_unfolding_all rfl); (case zt => kmk_pure); (case zz => kmk_size)); intro D' ws' h' F' N' l1 hI' hC' hL'; (try simp only [Int.reduceNeg, Int.neg_neg, Int.reduceToNat] at hI' hC' hL'); (try k_lt l1); (try k_sweep))
  trivial
theorem c_counted (w : World) (mean : ExcName → Option Value) (mg mb : Str → Option Value) (y m d : Int) (ty tm td : Tok) (y1 : 1500 ≤ y) (y2 : y ≤ 5000) (m1 : 1 ≤ m) (m2 : m ≤ 12) (d1 : 1 ≤ d) (d2 : d ≤ 31) :
    Says 12 w mean mg mb 262 [.int y ty, .int m tm, .int d td] (fun t => .int (cnt y m d) t) := by
  unfold Says
  k_fill
  intro dp un gd cn cs a ccd cl outer A₀ base h₀ L mm news s Q E B F X N T hk hdp hun hret
  refine wpAny_call ?_
  k_dflt cell_enter
  k_steps
  all_goals cb_end hret

theorem c_num400 (w : World) (mean : ExcName → Option Value) (mg mb : Str → Option Value) (y m d : Int) (ty tm td : Tok) (y1 : 1500 ≤ y) (y2 : y ≤ 4000) (m1 : 1 ≤ m) (m2 : m ≤ 12) (d1 : 1 ≤ d) (d2 : d ≤ 31) :
    Says 12 w mean mg mb 234 [.int (y + 400) ty, .int m tm, .int d td] (fun t => .int (cnt y m d + 146097) t) := by
  have h := c_num w mean mg mb (y + 400) m d ty tm td (by omega) (by omega) m1 m2 d1 d2
  rw [cnt_400] at h
  exact h
theorem c_dateK (w : World) (mean : ExcName → Option Value) (mg mb : Str → Option Value) (n : Int) (tn : Tok) (y m d : Int) (n1 : 2200000 ≤ n) (n2 : n ≤ 4000000) (v : Valid y m d) (h : cnt y m d = n) :
    SaysT 12 w mean mg mb 241 [.int n tn] y m d := by
  have k := c_date0 w mean mg mb n tn n1 n2
  obtain ⟨e1, e2, e3⟩ := date_eq v h
  rw [e1, e2, e3] at k
  exact k
theorem len_lo (y m : Int) (h1 : 1 ≤ m) (h2 : m ≤ 12) : 1 ≤ len y m := by
  have := len_bound y m h1 h2; omega
theorem len_hi (y m : Int) (h1 : 1 ≤ m) (h2 : m ≤ 12) : len y m ≤ 31 := by
  have := len_bound y m h1 h2; omega
theorem valid_last (y m : Int) (h1 : 1 ≤ m) (h2 : m ≤ 12) : Valid y m (len y m) := ⟨h1, h2, len_lo y m h1 h2, Int.le_refl _⟩
theorem valid_first (y m : Int) (h1 : 1 ≤ m) (h2 : m ≤ 12) : Valid y m 1 := ⟨h1, h2, by omega, len_lo y m h1 h2⟩
theorem next_month (y m : Int) (h1 : 1 ≤ m) (h2 : m < 12) : cnt y (m + 1) 1 = cnt y m (len y m) + 1 := by
  rw [cnt_start, cnt_start, cum_step y m h1 (by omega)]; omega
theorem next_year (y m : Int) (h1 : m ≤ 12) (h2 : ¬ m < 12) : cnt (y + 1) 1 1 = cnt y m (len y m) + 1 := by
  have e : m = 12 := by omega
  subst e
  rw [cnt_start, cnt_start, start_next, show cum (y + 1) 1 = 0 from rfl]; have := cum_end y; omega
/-- where the year of a number lies -/
theorem year_of {y m d : Int} (v : Valid y m d) (h1 : 2299161 ≤ cnt y m d) (h2 : cnt y m d ≤ 3100000) : 1500 ≤ y ∧ y ≤ 4000 := by
  have p := cum_pos v
  have f := feb_bound y
  rw [cnt_start] at h1 h2
  have e1 : start 1500 = 547498 := by decide
  have e2 : start 4001 = 1460970 := by decide
  constructor
  · rcases Int.lt_or_le y 1500 with g | g
    · have := start_le (show y ≤ 1499 by omega)
      have e3 : start 1499 = 547133 := by decide
      omega
    · exact g
  · rcases Int.lt_or_le 4000 y with g | g
    · have := start_le (show 4001 ≤ y by omega)
      omega
    · exact g

/-- a number's date, whatever date it is -/
theorem dateA_use {w : World} {mean : ExcName → Option Value} {mg mb : Str → Option Value} {n : Int} {tn : Tok} (n1 : 2299161 ≤ n) (n2 : n ≤ 3100000)
    {dp un : Nat} {gd : Option (List Code)} {cn : Str} {cs : Scope} {a : Addr} {ccd : Value} {cl : List (Str × Addr)} {outer : List Env} {A₀ : Around} {base h₀ : Heap} {L : Addr} {mm : Str → Option Value} {news : List (Addr × Obj)} {s : Shared} {Q E : Value → Shared → Prop}
    (B : Below A₀ base outer h₀) (F : Fr h₀ L s.heap mm) (X : (hd.heap_39 w.params).In h₀) (N : News h₀ L s.heap news) (T : Top hd.view_39 (looseW hd.view_39 [Str.ofString "BasicError"]) mean mg mb h₀) (hk : cs.kind = .function)
    (hd : dp + 12 < recursionLimit) (hu : un + 10 * 12 < cLine)
    (ret : ∀ (y m d : Int), 1500 ≤ y → y ≤ 4000 → 1 ≤ m → m ≤ 12 → 1 ≤ d → d ≤ 31 → d ≤ [31, feb y, 31, 30, 31, 30, 31, 31, 30, 31, 30, 31].getD (m - 1).toNat 0 → cnt y m d = n → ∀ (D : Addr) (t1 t2 t3 : Tok) (c : Nat) (h' : Heap) (tk' : Nat), Fr h₀ L h' mm → News h₀ L h' ((D, ({ cls := .type "tuple", data := .seq #[.int y t1, .int m t2, .int d t3] c } : Obj)) :: news) → (∀ p ∈ news, p.1 < D) → Q (.ref D) { s with heap := h', toks := tk' }) :
    wpAny (model PySem.Challenge.rw_xm0017_01.row.prog w) (ktrTop dp un gd cn cs L a ccd cl outer) (call (.ref 241) [.int n tn]) Q E s := by
  obtain ⟨v, h⟩ := date_ok n
  have b := year_of v (by omega) (by omega)
  have l := len_hi (dY n) (dM n) v.m1 v.m12
  have k := v.dl
  exact saysT_use (c_date0 w mean mg mb n tn (by omega) (by omega)) B F X N T hk hd hu (ret (dY n) (dM n) (dD n) b.1 b.2 v.m1 v.m12 v.d1 (Int.le_trans k l) k h)

theorem words_F1 : True := by
  k_with_none
  k_with "call builtin:abs" => first | (with_reducible refine abs_pos (by omega) ?_; intro _ _) | (with_reducible refine abs_neg (by omega) ?_; intro _ _)
  k_with "binaryOp FloorDiv int int" => (with_reducible refine div_pos' (by first | assumption | decide | omega) (by first | assumption | decide | omega) ?_)
  k_with "binaryOp Mod int int" => (with_reducible refine mod_pos' (by first | assumption | decide | omega) ?_)
  k_with "call ref" => (k_here; k_dflt (refine wpAny_call ?_; (refine' code_def ?k1 ?k2 ?k3 ?k4 ?k5 ?kA ?kF ?kK ?k6 ?k7 ?k8 ?k9 ?kB ?_ ?c2 ?c3 ?c4 ?c5; (case kA => exact rfl); (case kF => exact rfl); (case kK => first | exact rfl | assumption); (case k1 => k_asm); (case k2 => k_asm); (case k3 => k_asm); (case k4 => k_asm); (case k5 => k_asm); (case k6 => k_is); (case k7 => k_is); (case k8 => ((try simp only [depth_under_make, depth_under_kw, depth_in1, depth_deeper, depth_caller]); (try dsimp only [ktrTop]); first | decide | exact room1 hdp (by decide) | exact room2 hdp (by decide) | exact room3 hdp (by decide) | exact room4 hdp (by decide) | omega)); (case k9 => exact BindsTo.of_eq rfl); (case c5 => decide); (case kB => exact locs rfl); (case c2 => exact rfl); (case c3 => exact rfl); (case c4 => exact rfl); k_whole; intro g' L' h' FG' F' N' B' X' T'; (try dsimp only); (try k_lift B'); (try k_fold))))
  k_with "call ref" => (k_here; (with_reducible show wpAny _ _ (call (Value.ref 227) [Value.int _ _, Value.str (Str.ofString "+") _, Value.int _ _]) _ _ _); k_dflt (refine' says_use (two_add _ _ _ _ _ _ _ _ _ ?h1 ?h2) ?kB ?kF ?kX ?kN ?kT ?kK ?kd ?ku ?_; (case h1 => omega); (case h2 => omega); (case kB => k_asm); (case kF => k_asm); (case kX => k_asm); (case kN => k_asm); (case kT => k_asm); (case kK => first | exact rfl | assumption); (case kd => ((try simp only [depth_under_make, depth_under_kw, depth_in1, depth_deeper, depth_caller]); (try dsimp only [ktrTop]); first | decide | exact room1 hdp (by decide) | exact room2 hdp (by decide) | exact room3 hdp (by decide) | exact room4 hdp (by decide) | omega)); (case ku => ((try simp only [units_in1, units_deeper, Around.mark_units, units_caller]); (try dsimp only [ktrTop]); first | decide | exact room1 hun (by decide) | exact room2 hun (by decide) | exact room3 hun (by decide) | exact room4 hun (by decide) | ((have hcL9 := cLine_is); omega))); k_whole; intro t' h' tk' F' N'; (try dsimp only); (try k_fold)))
  k_with "call ref" => (k_here; (with_reducible show wpAny _ _ (call (Value.ref 227) [Value.int _ _, Value.str (Str.ofString "-") _, Value.int _ _]) _ _ _); k_dflt (refine' says_use (two_sub _ _ _ _ _ _ _ _ _ ?h1 ?h2) ?kB ?kF ?kX ?kN ?kT ?kK ?kd ?ku ?_; (case h1 => omega); (case h2 => omega); (case kB => k_asm); (case kF => k_asm); (case kX => k_asm); (case kN => k_asm); (case kT => k_asm); (case kK => first | exact rfl | assumption); (case kd => ((try simp only [depth_under_make, depth_under_kw, depth_in1, depth_deeper, depth_caller]); (try dsimp only [ktrTop]); first | decide | exact room1 hdp (by decide) | exact room2 hdp (by decide) | exact room3 hdp (by decide) | exact room4 hdp (by decide) | omega)); (case ku => ((try simp only [units_in1, units_deeper, Around.mark_units, units_caller]); (try dsimp only [ktrTop]); first | decide | exact room1 hun (by decide) | exact room2 hun (by decide) | exact room3 hun (by decide) | exact room4 hun (by decide) | ((have hcL9 := cLine_is); omega))); k_whole; intro t' h' tk' F' N'; (try dsimp only); (try k_fold)))
  k_with "call ref" => (k_here; (with_reducible show wpAny _ _ (call (Value.ref 227) [Value.int _ _, Value.str (Str.ofString "*") _, Value.int _ _]) _ _ _); k_dflt (refine' says_use (two_mul _ _ _ _ _ _ _ _ _ ?x1 ?x2 ?y1 ?y2 ?h1 ?h2) ?kB ?kF ?kX ?kN ?kT ?kK ?kd ?ku ?_; (case x1 => omega); (case x2 => omega); (case y1 => omega); (case y2 => omega); (case h1 => omega); (case h2 => omega); (case kB => k_asm); (case kF => k_asm); (case kX => k_asm); (case kN => k_asm); (case kT => k_asm); (case kK => first | exact rfl | assumption); (case kd => ((try simp only [depth_under_make, depth_under_kw, depth_in1, depth_deeper, depth_caller]); (try dsimp only [ktrTop]); first | decide | exact room1 hdp (by decide) | exact room2 hdp (by decide) | exact room3 hdp (by decide) | exact room4 hdp (by decide) | omega)); (case ku => ((try simp only [units_in1, units_deeper, Around.mark_units, units_caller]); (try dsimp only [ktrTop]); first | decide | exact room1 hun (by decide) | exact room2 hun (by decide) | exact room3 hun (by decide) | exact room4 hun (by decide) | ((have hcL9 := cLine_is); omega))); k_whole; intro t' h' tk' F' N'; (try dsimp only); (try k_fold)))
  k_with "call ref" => (k_here; (with_reducible show wpAny _ _ (call (Value.ref 227) [Value.int _ _, Value.str (Str.ofString "MOD") _, Value.int _ _]) _ _ _); k_dflt (refine' says_use (two_mod _ _ _ _ _ _ _ _ _ ?x1 ?x2 ?y1 ?y2) ?kB ?kF ?kX ?kN ?kT ?kK ?kd ?ku ?_; (case x1 => omega); (case x2 => omega); (case y1 => omega); (case y2 => omega); (case kB => k_asm); (case kF => k_asm); (case kX => k_asm); (case kN => k_asm); (case kT => k_asm); (case kK => first | exact rfl | assumption); (case kd => ((try simp only [depth_under_make, depth_under_kw, depth_in1, depth_deeper, depth_caller]); (try dsimp only [ktrTop]); first | decide | exact room1 hdp (by decide) | exact room2 hdp (by decide) | exact room3 hdp (by decide) | exact room4 hdp (by decide) | omega)); (case ku => ((try simp only [units_in1, units_deeper, Around.mark_units, units_caller]); (try dsimp only [ktrTop]); first | decide | exact room1 hun (by decide) | exact room2 hun (by decide) | exact room3 hun (by decide) | exact room4 hun (by decide) | ((have hcL9 := cLine_is); omega))); k_whole; intro t' h' tk' F' N'; (try dsimp only); (try k_fold)))
  k_with "call ref" => (k_here; (with_reducible show wpAny _ _ (call (Value.ref 227) [Value.int _ _, Value.str (Str.ofString "\\") _, Value.int _ _]) _ _ _); k_dflt (refine' says_use (two_divn _ _ _ _ _ _ _ _ _ ?x1 ?x2 ?y1 ?y2) ?kB ?kF ?kX ?kN ?kT ?kK ?kd ?ku ?_; (case x1 => omega); (case x2 => omega); (case y1 => omega); (case y2 => omega); (case kB => k_asm); (case kF => k_asm); (case kX => k_asm); (case kN => k_asm); (case kT => k_asm); (case kK => first | exact rfl | assumption); (case kd => ((try simp only [depth_under_make, depth_under_kw, depth_in1, depth_deeper, depth_caller]); (try dsimp only [ktrTop]); first | decide | exact room1 hdp (by decide) | exact room2 hdp (by decide) | exact room3 hdp (by decide) | exact room4 hdp (by decide) | omega)); (case ku => ((try simp only [units_in1, units_deeper, Around.mark_units, units_caller]); (try dsimp only [ktrTop]); first | decide | exact room1 hun (by decide) | exact room2 hun (by decide) | exact room3 hun (by decide) | exact room4 hun (by decide) | ((have hcL9 := cLine_is); omega))); k_whole; intro t' h' tk' F' N'; (try dsimp only); (try k_fold)))
  k_with "call ref" => (k_here; (with_reducible show wpAny _ _ (call (Value.ref 227) [Value.int _ _, Value.str (Str.ofString "\\") _, Value.int _ _]) _ _ _); k_dflt (refine' says_use (two_div _ _ _ _ _ _ _ _ _ ?x1 ?x2 ?y1 ?y2) ?kB ?kF ?kX ?kN ?kT ?kK ?kd ?ku ?_; (case x1 => omega); (case x2 => omega); (case y1 => omega); (case y2 => omega); (case kB => k_asm); (case kF => k_asm); (case kX => k_asm); (case kN => k_asm); (case kT => k_asm); (case kK => first | exact rfl | assumption); (case kd => ((try simp only [depth_under_make, depth_under_kw, depth_in1, depth_deeper, depth_caller]); (try dsimp only [ktrTop]); first | decide | exact room1 hdp (by decide) | exact room2 hdp (by decide) | exact room3 hdp (by decide) | exact room4 hdp (by decide) | omega)); (case ku => ((try simp only [units_in1, units_deeper, Around.mark_units, units_caller]); (try dsimp only [ktrTop]); first | decide | exact room1 hun (by decide) | exact room2 hun (by decide) | exact room3 hun (by decide) | exact room4 hun (by decide) | ((have hcL9 := cLine_is); omega))); k_whole; intro t' h' tk' F' N'; (try dsimp only); (try k_fold)))
  k_with "subscriptTail Name Slice ref ref" => (k_here; (with_reducible show wpAny _ _ (subscriptTail _ (PySem.Expr.Slice _ _ none _) (Value.ref _) (Value.ref _)) _ _ _); k_dflt (refine' kmk_slice_ints (s := ⟨_, _, _, _, _⟩) ?zF ?zN ?zl ?zp ?zq ?zi ?zm ?zc ?_ ?zs ?zt ?zz; (case zF => k_asm); (case zN => k_asm); (case zl => kmk_list); (case zp => kmk_part); (case zq => kmk_part); (case zi => l_ints); (case zm => kmk_nums); (case zc => kmk_len); (case zs => with_unfolding_all rfl); (case zt => kmk_pure); (case zz => kmk_size)); intro D' ws' h' F' N' l1 hI' hC' hL'; (try simp only [Int.reduceNeg, Int.neg_neg, Int.reduceToNat] at hI' hC' hL'); (try k_lt l1); (try k_sweep))
  k_with "call ref" => (k_here; (with_reducible show wpAny _ _ (call (Value.ref 234) [Value.int _ _, Value.int _ _, Value.int _ _]) _ _ _); k_dflt (refine' says_use (c_num _ _ _ _ _ _ _ _ _ _ ?y1 ?y2 ?m1 ?m2 ?d1 ?d2) ?kB ?kF ?kX ?kN ?kT ?kK ?kd ?ku ?_; (case y1 => omega); (case y2 => omega); (case m1 => omega); (case m2 => omega); (case d1 => first | omega | exact len_lo _ _ (by omega) (by omega)); (case d2 => first | omega | exact len_hi _ _ (by omega) (by omega)); (case kB => k_asm); (case kF => k_asm); (case kX => k_asm); (case kN => k_asm); (case kT => k_asm); (case kK => first | exact rfl | assumption); (case kd => ((try simp only [depth_under_make, depth_under_kw, depth_in1, depth_deeper, depth_caller]); (try dsimp only [ktrTop]); first | decide | exact room1 hdp (by decide) | exact room2 hdp (by decide) | exact room3 hdp (by decide) | exact room4 hdp (by decide) | omega)); (case ku => ((try simp only [units_in1, units_deeper, Around.mark_units, units_caller]); (try dsimp only [ktrTop]); first | decide | exact room1 hun (by decide) | exact room2 hun (by decide) | exact room3 hun (by decide) | exact room4 hun (by decide) | ((have hcL9 := cLine_is); omega))); k_whole; intro t' h' tk' F' N'; (try dsimp only); (try k_fold)))
  k_with "call ref" => (k_here; (with_reducible show wpAny _ _ (call (Value.ref 248) [Value.int _ _, Value.int _ _, Value.int _ _]) _ _ _); k_dflt (refine' says_use (c_week _ _ _ _ _ _ _ _ _ _ ?y1 ?y2 ?m1 ?m2 ?d1 ?d2) ?kB ?kF ?kX ?kN ?kT ?kK ?kd ?ku ?_; (case y1 => omega); (case y2 => omega); (case m1 => omega); (case m2 => omega); (case d1 => first | omega | exact len_lo _ _ (by omega) (by omega)); (case d2 => first | omega | exact len_hi _ _ (by omega) (by omega)); (case kB => k_asm); (case kF => k_asm); (case kX => k_asm); (case kN => k_asm); (case kT => k_asm); (case kK => first | exact rfl | assumption); (case kd => ((try simp only [depth_under_make, depth_under_kw, depth_in1, depth_deeper, depth_caller]); (try dsimp only [ktrTop]); first | decide | exact room1 hdp (by decide) | exact room2 hdp (by decide) | exact room3 hdp (by decide) | exact room4 hdp (by decide) | omega)); (case ku => ((try simp only [units_in1, units_deeper, Around.mark_units, units_caller]); (try dsimp only [ktrTop]); first | decide | exact room1 hun (by decide) | exact room2 hun (by decide) | exact room3 hun (by decide) | exact room4 hun (by decide) | ((have hcL9 := cLine_is); omega))); k_whole; intro t' h' tk' F' N'; (try dsimp only); (try k_fold)))
  k_with "call ref" => (k_here; (with_reducible show wpAny _ _ (call (Value.ref 262) [Value.int _ _, Value.int _ _, Value.int _ _]) _ _ _); k_dflt (refine' says_use (c_counted _ _ _ _ _ _ _ _ _ _ ?y1 ?y2 ?m1 ?m2 ?d1 ?d2) ?kB ?kF ?kX ?kN ?kT ?kK ?kd ?ku ?_; (case y1 => omega); (case y2 => omega); (case m1 => omega); (case m2 => omega); (case d1 => first | omega | exact len_lo _ _ (by omega) (by omega)); (case d2 => first | omega | exact len_hi _ _ (by omega) (by omega)); (case kB => k_asm); (case kF => k_asm); (case kX => k_asm); (case kN => k_asm); (case kT => k_asm); (case kK => first | exact rfl | assumption); (case kd => ((try simp only [depth_under_make, depth_under_kw, depth_in1, depth_deeper, depth_caller]); (try dsimp only [ktrTop]); first | decide | exact room1 hdp (by decide) | exact room2 hdp (by decide) | exact room3 hdp (by decide) | exact room4 hdp (by decide) | omega)); (case ku => ((try simp only [units_in1, units_deeper, Around.mark_units, units_caller]); (try dsimp only [ktrTop]); first | decide | exact room1 hun (by decide) | exact room2 hun (by decide) | exact room3 hun (by decide) | exact room4 hun (by decide) | ((have hcL9 := cLine_is); omega))); k_whole; intro t' h' tk' F' N'; (try dsimp only); (try k_fold)))
  k_with "call ref" => (k_here; (with_reducible show wpAny _ _ (call (Value.ref 255) [Value.int _ _]) _ _ _); k_dflt (refine' saysL_use (c_lengths _ _ _ _ _ _ ) ?kB ?kF ?kX ?kN ?kT ?kK ?kd ?ku ?_; (case kB => k_asm); (case kF => k_asm); (case kX => k_asm); (case kN => k_asm); (case kT => k_asm); (case kK => first | exact rfl | assumption); (case kd => ((try simp only [depth_under_make, depth_under_kw, depth_in1, depth_deeper, depth_caller]); (try dsimp only [ktrTop]); first | decide | exact room1 hdp (by decide) | exact room2 hdp (by decide) | exact room3 hdp (by decide) | exact room4 hdp (by decide) | omega)); (case ku => ((try simp only [units_in1, units_deeper, Around.mark_units, units_caller]); (try dsimp only [ktrTop]); first | decide | exact room1 hun (by decide) | exact room2 hun (by decide) | exact room3 hun (by decide) | exact room4 hun (by decide) | ((have hcL9 := cLine_is); omega))); k_whole; intro D' is' h' tk' F' N' hI' l1; (try k_lt l1); (try dsimp only); (try k_fold)))
  k_with "call ref" => (k_here; (with_reducible show wpAny _ _ (call (Value.ref 241) [Value.int _ _]) _ _ _); k_dflt (refine' saysT_use (c_dateK _ _ _ _ _ _ _ _ _ ?n1 ?n2 ?hv ?hc) ?kB ?kF ?kX ?kN ?kT ?kK ?kd ?ku ?_; (case n1 => omega); (case n2 => omega); (case hv => assumption); (case hc => assumption); (case kB => k_asm); (case kF => k_asm); (case kX => k_asm); (case kN => k_asm); (case kT => k_asm); (case kK => first | exact rfl | assumption); (case kd => ((try simp only [depth_under_make, depth_under_kw, depth_in1, depth_deeper, depth_caller]); (try dsimp only [ktrTop]); first | decide | exact room1 hdp (by decide) | exact room2 hdp (by decide) | exact room3 hdp (by decide) | exact room4 hdp (by decide) | omega)); (case ku => ((try simp only [units_in1, units_deeper, Around.mark_units, units_caller]); (try dsimp only [ktrTop]); first | decide | exact room1 hun (by decide) | exact room2 hun (by decide) | exact room3 hun (by decide) | exact room4 hun (by decide) | ((have hcL9 := cLine_is); omega))); k_whole; intro D' t1' t2' t3' c' h' tk' F' N' l1; (try k_lt l1); (try dsimp only); (try k_fold)))
  k_with "compareOp NotEq ref ref" => (k_here; (with_reducible show wpAny _ _ (compareOp CmpOp.NotEq (Value.ref _) (Value.ref _)) _ _ _); k_dflt (refine' ne_same ?zN ?zD ?zE ?zu ?_; (case zN => k_asm); (case zD => k_mem); (case zE => first | assumption | exact List.Mem.tail _ (by assumption) | exact List.Mem.tail _ (List.Mem.tail _ (by assumption)) | k_mem); (case zu => ((try simp only [units_in1, units_deeper, Around.mark_units, units_caller]); (try dsimp only [ktrTop]); first | decide | exact room1 hun (by decide) | exact room2 hun (by decide) | exact room3 hun (by decide) | exact room4 hun (by decide) | ((have hcL9 := cLine_is); omega)))))
  trivial
/-- one day is right: its number, its date, its day of the week -/
theorem c_dayright (w : World) (mean : ExcName → Option Value) (mg mb : Str → Option Value) (y m d n : Int) (D : Addr) (t1 t2 t3 tn : Tok) (c : Nat) (y1 : 1500 ≤ y) (y2 : y ≤ 4000) (v : Valid y m d) (hc : cnt y m d = n)
    {dp un : Nat} {gd : Option (List Code)} {cn : Str} {cs : Scope} {a : Addr} {ccd : Value} {cl : List (Str × Addr)} {outer : List Env} {A₀ : Around} {base h₀ : Heap} {L : Addr} {mm : Str → Option Value} {news : List (Addr × Obj)} {s : Shared} {Q E : Value → Shared → Prop}
    (B : Below A₀ base outer h₀) (F : Fr h₀ L s.heap mm) (X : (hd.heap_39 w.params).In h₀) (N : News h₀ L s.heap news) (T : Top hd.view_39 (looseW hd.view_39 [Str.ofString "BasicError"]) mean mg mb h₀) (hk : cs.kind = .function)
    (hdp : dp + 14 < recursionLimit) (hun : un + 10 * 14 < cLine) (hD : (D, ({ cls := .type "tuple", data := .seq #[.int y t1, .int m t2, .int d t3] c } : Obj)) ∈ news)
    (ret : ∀ (h' : Heap) (tk' : Nat), Fr h₀ L h' mm → News h₀ L h' news → Q (.bool true) { s with heap := h', toks := tk' }) :
    wpAny (model PySem.Challenge.rw_xm0017_01.row.prog w) (ktrTop dp un gd cn cs L a ccd cl outer) (call (.ref 269) [.ref D, .int n tn]) Q E s := by
  have hB : 2200000 ≤ n ∧ n ≤ 4000000 := by
    have p := cum_pos v
    have f := feb_bound y
    have e1 : start 1500 = 547498 := by decide
    have e2 : start 4000 = 1460604 := by decide
    have s1 := start_le y1
    have s2 := start_le y2
    rw [cnt_start] at hc
    omega
  obtain ⟨n1, n2⟩ := hB
  have m1 := v.m1
  have m2 := v.m12
  have d1 := v.d1
  have d2 := Int.le_trans v.dl (len_hi y m v.m1 v.m12)
  have hB0 : (hd.heap_39 w.params).In h₀ ∧ PySem.Challenge.rw_xm0017_01 = PySem.Challenge.rw_xm0017_01 := by
    k_fill
    exact ⟨X, rfl⟩
  refine wpAny_call ?_
  k_dflt cell_enter
  k_steps
  all_goals first
    | (exfalso; omega)
    | (rw [show ((cnt y m d + 2) % 7 == (n + 2) % 7) = true by rw [hc]; exact beq_self_eq_true _]; exact ret _ _ (by k_asm) (cb_drop (by assumption) fun p hp => List.mem_cons_of_mem _ hp))

theorem words_L1 : True := by
  k_with_none
  k_with "call builtin:abs" => first | (with_reducible refine abs_pos (by omega) ?_; intro _ _) | (with_reducible refine abs_neg (by omega) ?_; intro _ _)
  k_with "binaryOp FloorDiv int int" => (with_reducible refine div_pos' (by first | assumption | decide | omega) (by first | assumption | decide | omega) ?_)
  k_with "binaryOp Mod int int" => (with_reducible refine mod_pos' (by first | assumption | decide | omega) ?_)
  k_with "call ref" => (k_here; k_dflt (refine wpAny_call ?_; (refine' code_def ?k1 ?k2 ?k3 ?k4 ?k5 ?kA ?kF ?kK ?k6 ?k7 ?k8 ?k9 ?kB ?_ ?c2 ?c3 ?c4 ?c5; (case kA => exact rfl); (case kF => exact rfl); (case kK => first | exact rfl | assumption); (case k1 => k_asm); (case k2 => k_asm); (case k3 => k_asm); (case k4 => k_asm); (case k5 => k_asm); (case k6 => k_is); (case k7 => k_is); (case k8 => ((try simp only [depth_under_make, depth_under_kw, depth_in1, depth_deeper, depth_caller]); (try dsimp only [ktrTop]); first | decide | exact room1 hdp (by decide) | exact room2 hdp (by decide) | exact room3 hdp (by decide) | exact room4 hdp (by decide) | omega)); (case k9 => exact BindsTo.of_eq rfl); (case c5 => decide); (case kB => exact locs rfl); (case c2 => exact rfl); (case c3 => exact rfl); (case c4 => exact rfl); k_whole; intro g' L' h' FG' F' N' B' X' T'; (try dsimp only); (try k_lift B'); (try k_fold))))
  k_with "ite" => (k_here; (with_reducible show (if decide _ = true then wpAny _ _ (eval (PySem.Expr.BinOp _ _ _ _) _) _ _ _ else wpAny _ _ (eval (PySem.Expr.BinOp _ _ _ _) _) _ _ _)); (k_dflt (refine' lot_join b ?w1 ?w2 ?_; (case w1 => (intro hc; k_steps; all_goals exact ⟨_, _, _, rfl, rfl, Int.emod_nonneg _ (Int.ne_of_gt b0), Int.emod_lt_of_pos _ b0⟩)); (case w2 => (intro hc; k_steps; all_goals exact ⟨_, _, _, rfl, rfl, Int.emod_nonneg _ (Int.ne_of_gt b0), Int.emod_lt_of_pos _ b0⟩)); k_whole; intro v t' tk' hv1 hv2; (try dsimp only); (try k_fold))))
  trivial
/-- a lot is drawn: an int below the bound, the bag's place moved on -/
theorem c_lot (w : World) (mean : ExcName → Option Value) (mg mb : Str → Option Value) (Bg S : Addr) (k b : Int) (t0 tb : Tok) (ws : List Value) (ns : List Int) (hI : IntsAre ws ns) (hl : ns.length ≤ 3) (k0 : 0 ≤ k) (k3 : k ≤ 3) (b0 : 0 < b) (hS : @LT.lt Nat _ S Bg)
    {dp un : Nat} {gd : Option (List Code)} {cn : Str} {cs : Scope} {a : Addr} {ccd : Value} {cl : List (Str × Addr)} {outer : List Env} {A₀ : Around} {base h₀ : Heap} {L : Addr} {mm : Str → Option Value} {s : Shared} {Q E : Value → Shared → Prop}
    (B : Below A₀ base outer h₀) (F : Fr h₀ L s.heap mm) (X : (hd.heap_39 w.params).In h₀) (N : News h₀ L s.heap [(Bg, PySem.W.listOf #[.ref S, .int k t0] 0), (S, PySem.W.listOf ws.toArray 0)]) (T : Top hd.view_39 (looseW hd.view_39 [Str.ofString "BasicError"]) mean mg mb h₀) (hk : cs.kind = .function)
    (hdp : dp + 12 < recursionLimit) (hun : un + 10 * 12 < cLine)
    (ret : ∀ (v : Int) (t t' : Tok) (h' : Heap) (tk' : Nat), 0 ≤ v → v < b → Fr h₀ L h' mm → News h₀ L h' [(Bg, PySem.W.listOf #[.ref S, .int (k + 1) t'] 0), (S, PySem.W.listOf ws.toArray 0)] → Q (.int v t) { s with heap := h', toks := tk' }) :
    wpAny (model PySem.Challenge.rw_xm0017_01.row.prog w) (ktrTop dp un gd cn cs L a ccd cl outer) (call (.ref 220) [.ref Bg, .int b tb]) Q E s := by
  have hB0 : (hd.heap_39 w.params).In h₀ ∧ PySem.Challenge.rw_xm0017_01 = PySem.Challenge.rw_xm0017_01 := by
    k_fill
    exact ⟨X, rfl⟩
  refine wpAny_call ?_
  k_dflt cell_enter
  k_steps
  all_goals exact ret _ _ _ _ _ (by assumption) (by assumption) (by k_asm) (by k_asm)
theorem words_G1 : True := by
  k_with_none
  k_with "call builtin:abs" => first | (with_reducible refine abs_pos (by omega) ?_; intro _ _) | (with_reducible refine abs_neg (by omega) ?_; intro _ _)
  k_with "binaryOp FloorDiv int int" => (with_reducible refine div_pos' (by first | assumption | decide | omega) (by first | assumption | decide | omega) ?_)
  k_with "binaryOp Mod int int" => (with_reducible refine mod_pos' (by first | assumption | decide | omega) ?_)
  k_with "call ref" => (k_here; k_dflt (refine wpAny_call ?_; (refine' code_def ?k1 ?k2 ?k3 ?k4 ?k5 ?kA ?kF ?kK ?k6 ?k7 ?k8 ?k9 ?kB ?_ ?c2 ?c3 ?c4 ?c5; (case kA => exact rfl); (case kF => exact rfl); (case kK => first | exact rfl | assumption); (case k1 => k_asm); (case k2 => k_asm); (case k3 => k_asm); (case k4 => k_asm); (case k5 => k_asm); (case k6 => k_is); (case k7 => k_is); (case k8 => ((try simp only [depth_under_make, depth_under_kw, depth_in1, depth_deeper, depth_caller]); (try dsimp only [ktrTop]); first | decide | exact room1 hdp (by decide) | exact room2 hdp (by decide) | exact room3 hdp (by decide) | exact room4 hdp (by decide) | omega)); (case k9 => exact BindsTo.of_eq rfl); (case c5 => decide); (case kB => exact locs rfl); (case c2 => exact rfl); (case c3 => exact rfl); (case c4 => exact rfl); k_whole; intro g' L' h' FG' F' N' B' X' T'; (try dsimp only); (try k_lift B'); (try k_fold))))
  k_with "call ref" => (k_here; (with_reducible show wpAny _ _ (call (Value.ref 227) [Value.int _ _, Value.str (Str.ofString "+") _, Value.int _ _]) _ _ _); k_dflt (refine' says_use (two_add _ _ _ _ _ _ _ _ _ ?h1 ?h2) ?kB ?kF ?kX ?kN ?kT ?kK ?kd ?ku ?_; (case h1 => omega); (case h2 => omega); (case kB => k_asm); (case kF => k_asm); (case kX => k_asm); (case kN => k_asm); (case kT => k_asm); (case kK => first | exact rfl | assumption); (case kd => ((try simp only [depth_under_make, depth_under_kw, depth_in1, depth_deeper, depth_caller]); (try dsimp only [ktrTop]); first | decide | exact room1 hdp (by decide) | exact room2 hdp (by decide) | exact room3 hdp (by decide) | exact room4 hdp (by decide) | omega)); (case ku => ((try simp only [units_in1, units_deeper, Around.mark_units, units_caller]); (try dsimp only [ktrTop]); first | decide | exact room1 hun (by decide) | exact room2 hun (by decide) | exact room3 hun (by decide) | exact room4 hun (by decide) | ((have hcL9 := cLine_is); omega))); k_whole; intro t' h' tk' F' N'; (try dsimp only); (try k_fold)))
  k_with "call ref" => (k_here; (with_reducible show wpAny _ _ (call (Value.ref 227) [Value.int _ _, Value.str (Str.ofString "-") _, Value.int _ _]) _ _ _); k_dflt (refine' says_use (two_sub _ _ _ _ _ _ _ _ _ ?h1 ?h2) ?kB ?kF ?kX ?kN ?kT ?kK ?kd ?ku ?_; (case h1 => omega); (case h2 => omega); (case kB => k_asm); (case kF => k_asm); (case kX => k_asm); (case kN => k_asm); (case kT => k_asm); (case kK => first | exact rfl | assumption); (case kd => ((try simp only [depth_under_make, depth_under_kw, depth_in1, depth_deeper, depth_caller]); (try dsimp only [ktrTop]); first | decide | exact room1 hdp (by decide) | exact room2 hdp (by decide) | exact room3 hdp (by decide) | exact room4 hdp (by decide) | omega)); (case ku => ((try simp only [units_in1, units_deeper, Around.mark_units, units_caller]); (try dsimp only [ktrTop]); first | decide | exact room1 hun (by decide) | exact room2 hun (by decide) | exact room3 hun (by decide) | exact room4 hun (by decide) | ((have hcL9 := cLine_is); omega))); k_whole; intro t' h' tk' F' N'; (try dsimp only); (try k_fold)))
  k_with "call ref" => (k_here; (with_reducible show wpAny _ _ (call (Value.ref 227) [Value.int _ _, Value.str (Str.ofString "*") _, Value.int _ _]) _ _ _); k_dflt (refine' says_use (two_mul _ _ _ _ _ _ _ _ _ ?x1 ?x2 ?y1 ?y2 ?h1 ?h2) ?kB ?kF ?kX ?kN ?kT ?kK ?kd ?ku ?_; (case x1 => omega); (case x2 => omega); (case y1 => omega); (case y2 => omega); (case h1 => omega); (case h2 => omega); (case kB => k_asm); (case kF => k_asm); (case kX => k_asm); (case kN => k_asm); (case kT => k_asm); (case kK => first | exact rfl | assumption); (case kd => ((try simp only [depth_under_make, depth_under_kw, depth_in1, depth_deeper, depth_caller]); (try dsimp only [ktrTop]); first | decide | exact room1 hdp (by decide) | exact room2 hdp (by decide) | exact room3 hdp (by decide) | exact room4 hdp (by decide) | omega)); (case ku => ((try simp only [units_in1, units_deeper, Around.mark_units, units_caller]); (try dsimp only [ktrTop]); first | decide | exact room1 hun (by decide) | exact room2 hun (by decide) | exact room3 hun (by decide) | exact room4 hun (by decide) | ((have hcL9 := cLine_is); omega))); k_whole; intro t' h' tk' F' N'; (try dsimp only); (try k_fold)))
  k_with "call ref" => (k_here; (with_reducible show wpAny _ _ (call (Value.ref 227) [Value.int _ _, Value.str (Str.ofString "MOD") _, Value.int _ _]) _ _ _); k_dflt (refine' says_use (two_mod _ _ _ _ _ _ _ _ _ ?x1 ?x2 ?y1 ?y2) ?kB ?kF ?kX ?kN ?kT ?kK ?kd ?ku ?_; (case x1 => omega); (case x2 => omega); (case y1 => omega); (case y2 => omega); (case kB => k_asm); (case kF => k_asm); (case kX => k_asm); (case kN => k_asm); (case kT => k_asm); (case kK => first | exact rfl | assumption); (case kd => ((try simp only [depth_under_make, depth_under_kw, depth_in1, depth_deeper, depth_caller]); (try dsimp only [ktrTop]); first | decide | exact room1 hdp (by decide) | exact room2 hdp (by decide) | exact room3 hdp (by decide) | exact room4 hdp (by decide) | omega)); (case ku => ((try simp only [units_in1, units_deeper, Around.mark_units, units_caller]); (try dsimp only [ktrTop]); first | decide | exact room1 hun (by decide) | exact room2 hun (by decide) | exact room3 hun (by decide) | exact room4 hun (by decide) | ((have hcL9 := cLine_is); omega))); k_whole; intro t' h' tk' F' N'; (try dsimp only); (try k_fold)))
  k_with "call ref" => (k_here; (with_reducible show wpAny _ _ (call (Value.ref 227) [Value.int _ _, Value.str (Str.ofString "\\") _, Value.int _ _]) _ _ _); k_dflt (refine' says_use (two_divn _ _ _ _ _ _ _ _ _ ?x1 ?x2 ?y1 ?y2) ?kB ?kF ?kX ?kN ?kT ?kK ?kd ?ku ?_; (case x1 => omega); (case x2 => omega); (case y1 => omega); (case y2 => omega); (case kB => k_asm); (case kF => k_asm); (case kX => k_asm); (case kN => k_asm); (case kT => k_asm); (case kK => first | exact rfl | assumption); (case kd => ((try simp only [depth_under_make, depth_under_kw, depth_in1, depth_deeper, depth_caller]); (try dsimp only [ktrTop]); first | decide | exact room1 hdp (by decide) | exact room2 hdp (by decide) | exact room3 hdp (by decide) | exact room4 hdp (by decide) | omega)); (case ku => ((try simp only [units_in1, units_deeper, Around.mark_units, units_caller]); (try dsimp only [ktrTop]); first | decide | exact room1 hun (by decide) | exact room2 hun (by decide) | exact room3 hun (by decide) | exact room4 hun (by decide) | ((have hcL9 := cLine_is); omega))); k_whole; intro t' h' tk' F' N'; (try dsimp only); (try k_fold)))
  k_with "call ref" => (k_here; (with_reducible show wpAny _ _ (call (Value.ref 227) [Value.int _ _, Value.str (Str.ofString "\\") _, Value.int _ _]) _ _ _); k_dflt (refine' says_use (two_div _ _ _ _ _ _ _ _ _ ?x1 ?x2 ?y1 ?y2) ?kB ?kF ?kX ?kN ?kT ?kK ?kd ?ku ?_; (case x1 => omega); (case x2 => omega); (case y1 => omega); (case y2 => omega); (case kB => k_asm); (case kF => k_asm); (case kX => k_asm); (case kN => k_asm); (case kT => k_asm); (case kK => first | exact rfl | assumption); (case kd => ((try simp only [depth_under_make, depth_under_kw, depth_in1, depth_deeper, depth_caller]); (try dsimp only [ktrTop]); first | decide | exact room1 hdp (by decide) | exact room2 hdp (by decide) | exact room3 hdp (by decide) | exact room4 hdp (by decide) | omega)); (case ku => ((try simp only [units_in1, units_deeper, Around.mark_units, units_caller]); (try dsimp only [ktrTop]); first | decide | exact room1 hun (by decide) | exact room2 hun (by decide) | exact room3 hun (by decide) | exact room4 hun (by decide) | ((have hcL9 := cLine_is); omega))); k_whole; intro t' h' tk' F' N'; (try dsimp only); (try k_fold)))
  k_with "subscriptTail Name Slice ref ref" => (k_here; (with_reducible show wpAny _ _ (subscriptTail _ (PySem.Expr.Slice _ _ none _) (Value.ref _) (Value.ref _)) _ _ _); k_dflt (refine' kmk_slice_ints (s := ⟨_, _, _, _, _⟩) ?zF ?zN ?zl ?zp ?zq ?zi ?zm ?zc ?_ ?zs ?zt ?zz; (case zF => k_asm); (case zN => k_asm); (case zl => kmk_list); (case zp => kmk_part); (case zq => kmk_part); (case zi => l_ints); (case zm => kmk_nums); (case zc => kmk_len); (case zs => with_unfolding_all rfl); (case zt => kmk_pure); (case zz => kmk_size)); intro D' ws' h' F' N' l1 hI' hC' hL'; (try simp only [Int.reduceNeg, Int.neg_neg, Int.reduceToNat] at hI' hC' hL'); (try k_lt l1); (try k_sweep))
  k_with "call ref" => (k_here; (with_reducible show wpAny _ _ (call (Value.ref 234) [Value.int _ _, Value.int _ _, Value.int _ _]) _ _ _); k_dflt (refine' says_use (c_num _ _ _ _ _ _ _ _ _ _ ?y1 ?y2 ?m1 ?m2 ?d1 ?d2) ?kB ?kF ?kX ?kN ?kT ?kK ?kd ?ku ?_; (case y1 => omega); (case y2 => omega); (case m1 => omega); (case m2 => omega); (case d1 => first | omega | exact len_lo _ _ (by omega) (by omega)); (case d2 => first | omega | exact len_hi _ _ (by omega) (by omega)); (case kB => k_asm); (case kF => k_asm); (case kX => k_asm); (case kN => k_asm); (case kT => k_asm); (case kK => first | exact rfl | assumption); (case kd => ((try simp only [depth_under_make, depth_under_kw, depth_in1, depth_deeper, depth_caller]); (try dsimp only [ktrTop]); first | decide | exact room1 hdp (by decide) | exact room2 hdp (by decide) | exact room3 hdp (by decide) | exact room4 hdp (by decide) | omega)); (case ku => ((try simp only [units_in1, units_deeper, Around.mark_units, units_caller]); (try dsimp only [ktrTop]); first | decide | exact room1 hun (by decide) | exact room2 hun (by decide) | exact room3 hun (by decide) | exact room4 hun (by decide) | ((have hcL9 := cLine_is); omega))); k_whole; intro t' h' tk' F' N'; (try dsimp only); (try k_fold)))
  k_with "call ref" => (k_here; (with_reducible show wpAny _ _ (call (Value.ref 234) [Value.int (_ + 400) _, Value.int _ _, Value.int _ _]) _ _ _); k_dflt (refine' says_use (c_num400 _ _ _ _ _ _ _ _ _ _ ?y1 ?y2 ?m1 ?m2 ?d1 ?d2) ?kB ?kF ?kX ?kN ?kT ?kK ?kd ?ku ?_; (case y1 => omega); (case y2 => omega); (case m1 => omega); (case m2 => omega); (case d1 => first | omega | exact len_lo _ _ (by omega) (by omega)); (case d2 => first | omega | exact len_hi _ _ (by omega) (by omega)); (case kB => k_asm); (case kF => k_asm); (case kX => k_asm); (case kN => k_asm); (case kT => k_asm); (case kK => first | exact rfl | assumption); (case kd => ((try simp only [depth_under_make, depth_under_kw, depth_in1, depth_deeper, depth_caller]); (try dsimp only [ktrTop]); first | decide | exact room1 hdp (by decide) | exact room2 hdp (by decide) | exact room3 hdp (by decide) | exact room4 hdp (by decide) | omega)); (case ku => ((try simp only [units_in1, units_deeper, Around.mark_units, units_caller]); (try dsimp only [ktrTop]); first | decide | exact room1 hun (by decide) | exact room2 hun (by decide) | exact room3 hun (by decide) | exact room4 hun (by decide) | ((have hcL9 := cLine_is); omega))); k_whole; intro t' h' tk' F' N'; (try dsimp only); (try k_fold)))
  k_with "call ref" => (k_here; (with_reducible show wpAny _ _ (call (Value.ref 262) [Value.int _ _, Value.int _ _, Value.int _ _]) _ _ _); k_dflt (refine' says_use (c_counted _ _ _ _ _ _ _ _ _ _ ?y1 ?y2 ?m1 ?m2 ?d1 ?d2) ?kB ?kF ?kX ?kN ?kT ?kK ?kd ?ku ?_; (case y1 => omega); (case y2 => omega); (case m1 => omega); (case m2 => omega); (case d1 => first | omega | exact len_lo _ _ (by omega) (by omega)); (case d2 => first | omega | exact len_hi _ _ (by omega) (by omega)); (case kB => k_asm); (case kF => k_asm); (case kX => k_asm); (case kN => k_asm); (case kT => k_asm); (case kK => first | exact rfl | assumption); (case kd => ((try simp only [depth_under_make, depth_under_kw, depth_in1, depth_deeper, depth_caller]); (try dsimp only [ktrTop]); first | decide | exact room1 hdp (by decide) | exact room2 hdp (by decide) | exact room3 hdp (by decide) | exact room4 hdp (by decide) | omega)); (case ku => ((try simp only [units_in1, units_deeper, Around.mark_units, units_caller]); (try dsimp only [ktrTop]); first | decide | exact room1 hun (by decide) | exact room2 hun (by decide) | exact room3 hun (by decide) | exact room4 hun (by decide) | ((have hcL9 := cLine_is); omega))); k_whole; intro t' h' tk' F' N'; (try dsimp only); (try k_fold)))
  k_with "call ref" => (k_here; (with_reducible show wpAny _ _ (call (Value.ref 255) [Value.int _ _]) _ _ _); k_dflt (refine' saysL_use (c_lengths _ _ _ _ _ _ ) ?kB ?kF ?kX ?kN ?kT ?kK ?kd ?ku ?_; (case kB => k_asm); (case kF => k_asm); (case kX => k_asm); (case kN => k_asm); (case kT => k_asm); (case kK => first | exact rfl | assumption); (case kd => ((try simp only [depth_under_make, depth_under_kw, depth_in1, depth_deeper, depth_caller]); (try dsimp only [ktrTop]); first | decide | exact room1 hdp (by decide) | exact room2 hdp (by decide) | exact room3 hdp (by decide) | exact room4 hdp (by decide) | omega)); (case ku => ((try simp only [units_in1, units_deeper, Around.mark_units, units_caller]); (try dsimp only [ktrTop]); first | decide | exact room1 hun (by decide) | exact room2 hun (by decide) | exact room3 hun (by decide) | exact room4 hun (by decide) | ((have hcL9 := cLine_is); omega))); k_whole; intro D' is' h' tk' F' N' hI' l1; (try k_lt l1); (try dsimp only); (try k_fold)))
  k_with "call ref" => (k_here; (with_reducible show wpAny _ _ (call (Value.ref 241) [Value.int _ _]) _ _ _); k_dflt (refine' dateA_use ?n1 ?n2 ?kB ?kF ?kX ?kN ?kT ?kK ?kd ?ku ?_; (case n1 => omega); (case n2 => omega); (case kB => k_asm); (case kF => k_asm); (case kX => k_asm); (case kN => k_asm); (case kT => k_asm); (case kK => first | exact rfl | assumption); (case kd => ((try simp only [depth_under_make, depth_under_kw, depth_in1, depth_deeper, depth_caller]); (try dsimp only [ktrTop]); first | decide | exact room1 hdp (by decide) | exact room2 hdp (by decide) | exact room3 hdp (by decide) | exact room4 hdp (by decide) | omega)); (case ku => ((try simp only [units_in1, units_deeper, Around.mark_units, units_caller]); (try dsimp only [ktrTop]); first | decide | exact room1 hun (by decide) | exact room2 hun (by decide) | exact room3 hun (by decide) | exact room4 hun (by decide) | ((have hcL9 := cLine_is); omega))); k_whole; intro y' m' d' hy1' hy2' hm1' hm2' hd1' hd2' hl' hc' D' t1' t2' t3' c' h' tk' F' N' l1; (try k_lt l1); (try dsimp only); (try k_fold)))
  k_with "call ref" => (k_here; (with_reducible show wpAny _ _ (call (Value.ref 269) [Value.ref _, Value.int _ _]) _ _ _); k_dflt (refine' c_dayright _ _ _ _ _ _ _ _ _ _ _ _ _ _ ?zy1 ?zy2 ?zv ?zc ?kB ?kF ?kX ?kN ?kT ?kK ?kd ?ku ?zD ?_; (case kB => k_asm); (case kF => k_asm); (case kX => k_asm); (case kN => k_asm); (case kT => k_asm); (case kK => first | exact rfl | assumption); (case kd => ((try simp only [depth_under_make, depth_under_kw, depth_in1, depth_deeper, depth_caller]); (try dsimp only [ktrTop]); first | decide | exact room1 hdp (by decide) | exact room2 hdp (by decide) | exact room3 hdp (by decide) | exact room4 hdp (by decide) | omega)); (case ku => ((try simp only [units_in1, units_deeper, Around.mark_units, units_caller]); (try dsimp only [ktrTop]); first | decide | exact room1 hun (by decide) | exact room2 hun (by decide) | exact room3 hun (by decide) | exact room4 hun (by decide) | ((have hcL9 := cLine_is); omega))); (case zD => k_mem); (case zy1 => omega); (case zy2 => omega); (case zv => first | assumption | exact valid_last _ _ (by omega) (by omega)); (case zc => first | assumption | rfl); k_whole; intro h' tk' F' N'; (try dsimp only); (try k_fold)))
  k_with "call ref" => (k_here; (with_reducible show wpAny _ _ (call (Value.ref 220) [Value.ref _, Value.int 2000 _]) _ _ _); k_dflt (refine' c_lot _ _ _ _ _ _ _ _ _ _ _ _ ?hI ?hl ?k0 ?k3 ?b0 ?hS ?kB ?kF ?kX ?kN ?kT ?kK ?kd ?ku ?_; (case kB => k_asm); (case kF => k_asm); (case kX => k_asm); (case kN => first | k_asm | exact cb_drop (by k_asm) (List.forall_mem_cons.mpr ⟨by k_mem, List.forall_mem_cons.mpr ⟨by k_mem, List.forall_mem_nil _⟩⟩)); (case kT => k_asm); (case kK => first | exact rfl | assumption); (case kd => ((try simp only [depth_under_make, depth_under_kw, depth_in1, depth_deeper, depth_caller]); (try dsimp only [ktrTop]); first | decide | exact room1 hdp (by decide) | exact room2 hdp (by decide) | exact room3 hdp (by decide) | exact room4 hdp (by decide) | omega)); (case ku => ((try simp only [units_in1, units_deeper, Around.mark_units, units_caller]); (try dsimp only [ktrTop]); first | decide | exact room1 hun (by decide) | exact room2 hun (by decide) | exact room3 hun (by decide) | exact room4 hun (by decide) | ((have hcL9 := cLine_is); omega))); (case hI => assumption); (case hl => omega); (case k0 => omega); (case k3 => omega); (case b0 => decide); (case hS => omega); k_whole; intro vY t' t'' h' tk' hv1 hv2 F' N'; (try dsimp only); (try k_fold)))
  k_with "call ref" => (k_here; (with_reducible show wpAny _ _ (call (Value.ref 220) [Value.ref _, Value.int 12 _]) _ _ _); k_dflt (refine' c_lot _ _ _ _ _ _ _ _ _ _ _ _ ?hI ?hl ?k0 ?k3 ?b0 ?hS ?kB ?kF ?kX ?kN ?kT ?kK ?kd ?ku ?_; (case kB => k_asm); (case kF => k_asm); (case kX => k_asm); (case kN => first | k_asm | exact cb_drop (by k_asm) (List.forall_mem_cons.mpr ⟨by k_mem, List.forall_mem_cons.mpr ⟨by k_mem, List.forall_mem_nil _⟩⟩)); (case kT => k_asm); (case kK => first | exact rfl | assumption); (case kd => ((try simp only [depth_under_make, depth_under_kw, depth_in1, depth_deeper, depth_caller]); (try dsimp only [ktrTop]); first | decide | exact room1 hdp (by decide) | exact room2 hdp (by decide) | exact room3 hdp (by decide) | exact room4 hdp (by decide) | omega)); (case ku => ((try simp only [units_in1, units_deeper, Around.mark_units, units_caller]); (try dsimp only [ktrTop]); first | decide | exact room1 hun (by decide) | exact room2 hun (by decide) | exact room3 hun (by decide) | exact room4 hun (by decide) | ((have hcL9 := cLine_is); omega))); (case hI => assumption); (case hl => omega); (case k0 => omega); (case k3 => omega); (case b0 => decide); (case hS => omega); k_whole; intro vM t' t'' h' tk' hv1 hv2 F' N'; (try dsimp only); (try k_fold)))
  k_with "call ref" => (k_here; (with_reducible show wpAny _ _ (call (Value.ref 220) [Value.ref _, Value.int 730485 _]) _ _ _); k_dflt (refine' c_lot _ _ _ _ _ _ _ _ _ _ _ _ ?hI ?hl ?k0 ?k3 ?b0 ?hS ?kB ?kF ?kX ?kN ?kT ?kK ?kd ?ku ?_; (case kB => k_asm); (case kF => k_asm); (case kX => k_asm); (case kN => first | k_asm | exact cb_drop (by k_asm) (List.forall_mem_cons.mpr ⟨by k_mem, List.forall_mem_cons.mpr ⟨by k_mem, List.forall_mem_nil _⟩⟩)); (case kT => k_asm); (case kK => first | exact rfl | assumption); (case kd => ((try simp only [depth_under_make, depth_under_kw, depth_in1, depth_deeper, depth_caller]); (try dsimp only [ktrTop]); first | decide | exact room1 hdp (by decide) | exact room2 hdp (by decide) | exact room3 hdp (by decide) | exact room4 hdp (by decide) | omega)); (case ku => ((try simp only [units_in1, units_deeper, Around.mark_units, units_caller]); (try dsimp only [ktrTop]); first | decide | exact room1 hun (by decide) | exact room2 hun (by decide) | exact room3 hun (by decide) | exact room4 hun (by decide) | ((have hcL9 := cLine_is); omega))); (case hI => assumption); (case hl => omega); (case k0 => omega); (case k3 => omega); (case b0 => decide); (case hS => omega); k_whole; intro vN t' t'' h' tk' hv1 hv2 F' N'; (try dsimp only); (try k_fold)))
  k_with "ite" => (k_here; (with_reducible show (if decide _ = true then wpAny _ _ (eval (PySem.Expr.Tuple _ _ _) _) _ _ _ else wpAny _ _ (eval (PySem.Expr.Tuple _ _ _) _) _ _ _)); (k_dflt (refine' later_join (1583 + vY) (cnt (1583 + vY) (1 + vM) (len (1583 + vY) (1 + vM)) + 1) ?wF ?wN ?w1 ?w2 ?_; (case wF => k_asm); (case wN => k_asm); (case w1 => (intro hc; k_steps; all_goals exact ⟨_, _, _, _, _, _, _, _, _, rfl, rfl, by k_asm, by k_asm, by ((try simp only [AllLt, and_true]); first | assumption | omega), by omega, by omega, valid_first _ _ (by omega) (by omega), by first | exact next_month _ _ (by omega) (by omega) | exact next_year _ _ (by omega) (by omega)⟩)); (case w2 => (intro hc; k_steps; all_goals exact ⟨_, _, _, _, _, _, _, _, _, rfl, rfl, by k_asm, by k_asm, by ((try simp only [AllLt, and_true]); first | assumption | omega), by omega, by omega, valid_first _ _ (by omega) (by omega), by first | exact next_month _ _ (by omega) (by omega) | exact next_year _ _ (by omega) (by omega)⟩)); k_whole; intro D' yL mL t1' t2' t3' c' h' tk' F' N' l1 hL1 hL2 hL3 hL4; (try simp only [AllLt, and_true] at l1); (try dsimp only); (try k_fold))))
  trivial
theorem holds : PySem.Challenge.rw_xm0017_01.Holds := hd (by
  w_strict (k_go0; (all_goals try k_fold); k_steps; (all_goals (try k_data)); all_goals w_report))


end Mine

theorem PySem.Challenge.cw_xm0017_01_holds : PySem.Challenge.rw_xm0017_01.Holds :=
  Mine.holds
