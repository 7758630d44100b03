import PyProof.Rows.All
import Wide.All
import OpenK.AllK
import Wide.FinOn
import PySem.Challenge.RW_pf0116_01
set_option Elab.async false
set_option compiler.extract_closed false
set_option linter.unusedVariables false
set_option linter.unusedSectionVars false
set_option linter.unusedSimpArgs false
namespace Mine
/-- 10 ^ P -/
noncomputable abbrev ten (P : Int) : Int := 10 ^ P.toNat
-- count_digits
noncomputable def dg : Nat → Int → Int
  | 0, _ => 0
  | k+1, n => if n ≤ 0 then 0 else dg k (n / 10) + 1
@[irreducible] noncomputable def digs (n : Int) : Int := dg 9 n
-- exp_fixed
noncomputable def expT (n one : Int) : Nat → Int
  | 0 => one
  | k+1 => (expT n one k * n).fdiv (one * ((k:Int)+1))
noncomputable def expS (n one : Int) : Nat → Int
  | 0 => one
  | k+1 => expS n one k + expT n one (k+1)
@[irreducible] noncomputable def expFixed (n P : Int) : Int := expS n (ten P) 130
noncomputable abbrev ExpPre (n P : Int) : Prop := 0 ≤ P ∧ P ≤ 100 ∧ 5*n ≤ 6*ten P ∧ -(6*ten P) ≤ 5*n
-- inverse_series
noncomputable def invT (d one : Int) : Nat → Int
  | 0 => one.fdiv d
  | k+1 => (invT d one k).fdiv (d*d)
noncomputable def invS (d one turn : Int) : Nat → Int
  | 0 => 0
  | k+1 => invS d one turn k + turn^k * ((invT d one k).fdiv (2*(k:Int)+1))
@[irreducible] noncomputable def invSeries (d P turn : Int) : Int := invS d (ten P) turn 200
noncomputable abbrev InvPre (d P turn : Int) : Prop := 2 ≤ d ∧ d ≤ 400 ∧ 0 ≤ P ∧ P ≤ 110 ∧ (turn = 1 ∨ turn = -1)
-- _law_sum
noncomputable def lsS (d turn one : Int) : Nat → Int
  | 0 => 0
  | k+1 => lsS d turn one k + turn^k * (one.fdiv ((2*(k:Int)+1) * d^(2*k+1)))
@[irreducible] noncomputable def lawSum (d turn P : Int) : Int := lsS d turn (ten P) 200
noncomputable abbrev SumPre (d turn P : Int) : Prop := 2 ≤ d ∧ d ≤ 400 ∧ 0 ≤ P ∧ P ≤ 110 ∧ (turn = 1 ∨ turn = -1)
-- log_of_ten, half_turn
@[irreducible] noncomputable def logTen (P : Int) : Int := (46 * invSeries 31 (P+5) 1 + 34 * invSeries 49 (P+5) 1 + 20 * invSeries 161 (P+5) 1).fdiv 100000
@[irreducible] noncomputable def halfTurn (P : Int) : Int := (48 * invSeries 18 (P+5) (-1) + 32 * invSeries 57 (P+5) (-1) - 20 * invSeries 239 (P+5) (-1)).fdiv 100000
-- wave_fixed
noncomputable def wvT (q one f t0 : Int) : Nat → Int
  | 0 => t0
  | j+1 => (wvT q one f t0 j * q).fdiv (one * (f + 2*(j:Int) + 1) * (f + 2*(j:Int) + 2))
noncomputable def wvS (q one f t0 sg : Int) : Nat → Int
  | 0 => 0
  | j+1 => wvS q one f t0 sg j + (sg * (-1)^j) * wvT q one f t0 j
@[irreducible] noncomputable def sinFixed (r P : Int) : Int := wvS ((r*r).fdiv (ten P)) (ten P) 1 (if r < 0 then -r else r) (if r < 0 then -1 else 1) 60
@[irreducible] noncomputable def cosFixed (r P : Int) : Int := wvS ((r*r).fdiv (ten P)) (ten P) 0 (ten P) 1 60
noncomputable abbrev WavePre (r P : Int) : Prop := 0 ≤ P ∧ P ≤ 100 ∧ r ≤ ten P ∧ -(ten P) ≤ r
-- log_parts
noncomputable def lgT (q one t0 : Int) : Nat → Int
  | 0 => t0
  | j+1 => (lgT q one t0 j * q).fdiv one
noncomputable def lgS (q one t0 : Int) : Nat → Int
  | 0 => 0
  | j+1 => lgS q one t0 j + (lgT q one t0 j).fdiv (2*(j:Int)+1)
noncomputable def lgTotal (q one t0 : Int) : Int := lgS q one t0 200
theorem digs_def (n : Int) : digs n = dg 9 n := by delta digs; exact Eq.refl _
theorem expFixed_def (n P : Int) : expFixed n P = expS n (ten P) 130 := by delta expFixed; exact Eq.refl _
theorem invSeries_def (d P turn : Int) : invSeries d P turn = invS d (ten P) turn 200 := by delta invSeries; exact Eq.refl _
theorem lawSum_def (d turn P : Int) : lawSum d turn P = lsS d turn (ten P) 200 := by delta lawSum; exact Eq.refl _
theorem logTen_def (P : Int) : logTen P = (46 * invSeries 31 (P+5) 1 + 34 * invSeries 49 (P+5) 1 + 20 * invSeries 161 (P+5) 1).fdiv 100000 := by delta logTen; exact Eq.refl _
theorem halfTurn_def (P : Int) : halfTurn P = (48 * invSeries 18 (P+5) (-1) + 32 * invSeries 57 (P+5) (-1) - 20 * invSeries 239 (P+5) (-1)).fdiv 100000 := by delta halfTurn; exact Eq.refl _
theorem sinFixed_def (r P : Int) : sinFixed r P = wvS ((r*r).fdiv (ten P)) (ten P) 1 (if r < 0 then -r else r) (if r < 0 then -1 else 1) 60 := by delta sinFixed; exact Eq.refl _
theorem cosFixed_def (r P : Int) : cosFixed r P = wvS ((r*r).fdiv (ten P)) (ten P) 0 (ten P) 1 60 := by delta cosFixed; exact Eq.refl _
theorem fd_lo (a : Int) {b : Int} (hb : 0 < b) : b * (a.fdiv b) ≤ a := by
  rw [Int.fdiv_eq_ediv_of_nonneg _ (by omega)]
  have := Int.ediv_mul_le a (show b ≠ 0 by omega)
  rw [Int.mul_comm]; exact this
theorem fd_hi (a : Int) {b : Int} (hb : 0 < b) : a < b * (a.fdiv b) + b := by
  rw [Int.fdiv_eq_ediv_of_nonneg _ (by omega)]
  have := Int.lt_ediv_add_one_mul_self a hb
  rw [Int.add_mul, Int.one_mul, Int.mul_comm] at this
  exact this
theorem fd_nonneg {a b : Int} (ha : 0 ≤ a) (hb : 0 < b) : 0 ≤ a.fdiv b := by
  rw [Int.fdiv_eq_ediv_of_nonneg _ (by omega)]
  exact Int.ediv_nonneg ha (by omega)
theorem fd_le_self {a b : Int} (ha : 0 ≤ a) (hb : 0 < b) : a.fdiv b ≤ a := by
  rw [Int.fdiv_eq_ediv_of_nonneg _ (by omega)]
  exact Int.ediv_le_self _ ha
theorem fd_zero (b : Int) : (0:Int).fdiv b = 0 := Int.zero_fdiv b
theorem ten_pos (P : Int) : 0 < ten P := Int.pow_pos (by decide)
theorem fd_eq_zero {a b : Int} (h0 : 0 ≤ a) (h1 : a < b) : a.fdiv b = 0 := by
  rw [Int.fdiv_eq_ediv_of_nonneg _ (by omega)]
  exact Int.ediv_eq_zero_of_lt h0 h1
theorem fd_eq_neg {a b : Int} (h0 : a < 0) (h1 : -b ≤ a) : a.fdiv b = -1 := by
  have hb : 0 < b := by omega
  have h2 := fd_lo a hb
  have h3 := fd_hi a hb
  generalize a.fdiv b = q at *
  have : q < 0 := by
    rcases Int.lt_or_le q 0 with h | h
    · exact h
    · have := Int.mul_nonneg (Int.le_of_lt hb) h; omega
  have : -1 ≤ q := by
    rcases Int.lt_or_le q (-1) with h | h
    · have := Int.mul_le_mul_of_nonneg_left (show q ≤ -2 by omega) (Int.le_of_lt hb); omega
    · exact h
  omega
-- one step of the exponential's term
theorem q_bound {one n a A k : Int} (ho : 0 < one) (hk : 1 ≤ k) (h1 : 5*n ≤ 6*one) (h2 : -(6*one) ≤ 5*n) (a1 : a ≤ A) (a2 : -A ≤ a) :
    5*k*((a*n).fdiv (one*k)) ≤ 6*A ∧ -(6*A) - 5*k ≤ 5*k*((a*n).fdiv (one*k)) := by
  have hb : 0 < one * k := Int.mul_pos ho (by omega)
  have l := fd_lo (a*n) hb
  have u := fd_hi (a*n) hb
  generalize (a*n).fdiv (one*k) = q at *
  have e1 := Int.mul_nonneg (show 0 ≤ A - a by omega) (show 0 ≤ 6*one + 5*n by omega)
  have e2 := Int.mul_nonneg (show 0 ≤ A + a by omega) (show 0 ≤ 6*one - 5*n by omega)
  have e3 := Int.mul_nonneg (show 0 ≤ A - a by omega) (show 0 ≤ 6*one - 5*n by omega)
  have e4 := Int.mul_nonneg (show 0 ≤ A + a by omega) (show 0 ≤ 6*one + 5*n by omega)
  constructor
  · refine Int.le_of_mul_le_mul_left (a := one) ?_ ho
    grind
  · refine Int.le_of_mul_le_mul_left (a := one) ?_ ho
    grind
section
variable {n one : Int} (ho : 0 < one) (h1 : 5*n ≤ 6*one) (h2 : -(6*one) ≤ 5*n)
include ho h1 h2
theorem expT_bound (k : Nat) : expT n one k ≤ 3*one ∧ -(3*one) ≤ expT n one k := by
  induction k with
  | zero => simp only [expT]; omega
  | succ k ih =>
    rcases Nat.eq_zero_or_pos k with hk | hk
    · subst hk
      have := q_bound ho (show (1:Int) ≤ ((0:Nat):Int)+1 by omega) h1 h2 (Int.le_refl one) (show -one ≤ one by omega)
      simp only [expT]
      omega
    · have := q_bound ho (show (1:Int) ≤ (k:Int)+1 by omega) h1 h2 ih.1 ih.2
      simp only [expT]
      generalize (expT n one k * n).fdiv (one * ((k:Int)+1)) = q at *
      obtain ⟨l, u⟩ := this
      have hk' : (2:Int) ≤ (k:Int)+1 := by omega
      generalize (k:Int)+1 = c at *
      constructor
      · rcases Int.lt_or_le (3*one) q with h | h
        · have := Int.mul_le_mul (show 2 ≤ c from hk') (show 3*one+1 ≤ q from h) (by omega) (by omega)
          grind
        · exact h
      · rcases Int.lt_or_le q (-(3*one)) with h | h
        · have := Int.mul_le_mul (show 2 ≤ c from hk') (show 3*one ≤ -q-1 by omega) (by omega) (by omega)
          grind
        · exact h
/-- from the twelfth term on a term is a tenth of the last, and one -/
theorem expT_tenth {A : Int} {k : Nat} (hk : 12 ≤ k) (hA : 0 ≤ A) (a1 : expT n one k ≤ A) (a2 : -A ≤ expT n one k) : 10 * expT n one (k+1) ≤ A + 10 ∧ -(A + 10) ≤ 10 * expT n one (k+1) := by
  obtain ⟨l, u⟩ := q_bound ho (show (1:Int) ≤ (k:Int)+1 by omega) h1 h2 a1 a2
  simp only [expT]
  generalize (expT n one k * n).fdiv (one * ((k:Int)+1)) = q at *
  have hk' : (13:Int) ≤ (k:Int)+1 := by omega
  generalize (k:Int)+1 = c at *
  constructor
  · rcases Int.lt_or_le (A+10) (10*q) with h | h
    · have := Int.mul_le_mul hk' (show A+11 ≤ 10*q by omega) (by omega) (by omega)
      grind
    · exact h
  · rcases Int.lt_or_le (10*q) (-(A+10)) with h | h
    · have := Int.mul_le_mul hk' (show A+1 ≤ -(10*q)-10 by omega) (by omega) (by omega)
      grind
    · exact h
theorem expT_small (j : Nat) : 9 * 10^j * expT n one (12+j) ≤ 27*one + 10*10^j ∧ -(27*one + 10*10^j) ≤ 9 * 10^j * expT n one (12+j) := by
  induction j with
  | zero => have := expT_bound ho h1 h2 12; simp only [Nat.add_zero, Int.pow_zero]; omega
  | succ j ih =>
    have hp : (0:Int) < 10^j := Int.pow_pos (by decide)
    have e : (10:Int)^(j+1) = 10 * 10^j := by rw [Int.pow_succ, Int.mul_comm]
    have q1 := q_bound ho (show (1:Int) ≤ ((12+j:Nat):Int)+1 by omega) h1 h2 (a := expT n one (12+j)) (A := if 0 ≤ expT n one (12+j) then expT n one (12+j) else -expT n one (12+j)) (by split <;> omega) (by split <;> omega)
    have t := expT_tenth ho h1 h2 (k := 12+j) (by omega) (A := if 0 ≤ expT n one (12+j) then expT n one (12+j) else -expT n one (12+j)) (by split <;> omega) (by split <;> omega) (by split <;> omega)
    rw [show 12 + (j+1) = 12 + j + 1 by omega, e]
    generalize expT n one (12+j+1) = y at *
    generalize expT n one (12+j) = x at *
    generalize (10:Int)^j = p at *
    have hx : 9 * p * (if 0 ≤ x then x else -x) ≤ 27*one + 10*p := by split <;> grind
    generalize (if 0 ≤ x then x else -x) = A at *
    have m1 := Int.mul_le_mul_of_nonneg_left t.1 (show 0 ≤ 9*p by omega)
    have m2 := Int.mul_le_mul_of_nonneg_left t.2 (show 0 ≤ 9*p by omega)
    constructor <;> grind
theorem expT_nonneg (hn : 0 ≤ n) (k : Nat) : 0 ≤ expT n one k := by
  induction k with
  | zero => simp only [expT]; omega
  | succ k ih => simp only [expT]; exact fd_nonneg (Int.mul_nonneg ih hn) (Int.mul_pos ho (by omega))
omit h1 h2 ho in
theorem expT_stay {i : Nat} (h : expT n one i = 0) (j : Nat) : expT n one (i+j) = 0 := by
  induction j with
  | zero => exact h
  | succ j ih => rw [show i + (j+1) = i + j + 1 by omega]; simp only [expT]; rw [ih, Int.zero_mul]; exact fd_zero _
omit h1 h2 ho in
theorem expS_stay {i : Nat} (h : expT n one i = 0) (j : Nat) : expS n one (i+j) = expS n one i := by
  induction j with
  | zero => rfl
  | succ j ih =>
    have h9 := expT_stay h (j+1)
    rw [show i + (j+1) = i + j + 1 by omega] at h9 ⊢
    simp only [expS]; rw [h9, ih, Int.add_zero]
/-- a term that is one at the most in its amount is nought two steps on -/
theorem expT_dies {i : Nat} (hi : 12 ≤ i) (a1 : expT n one i ≤ 1) (a2 : -1 ≤ expT n one i) : expT n one (i+2) = 0 := by
  have hb : ∀ k : Nat, 12 ≤ k → 13 * one ≤ one * ((k:Int)+1) := fun k hk => by
    have := Int.mul_le_mul_of_nonneg_left (show (13:Int) ≤ (k:Int)+1 by omega) (Int.le_of_lt ho)
    omega
  have b1 := hb i hi
  have b2 := hb (i+1) (by omega)
  rcases (show expT n one i = 0 ∨ expT n one i = 1 ∨ expT n one i = -1 by omega) with h | h | h
  · exact expT_stay h 2
  · rcases Int.lt_or_le n 0 with hn | hn
    · have e : expT n one (i+1) = -1 := by
        simp only [expT]; rw [h, Int.one_mul]
        exact fd_eq_neg hn (by omega)
      simp only [expT]
      simp only [expT] at e
      rw [e]
      exact fd_eq_zero (by omega) (by push_cast at b2 ⊢; omega)
    · refine expT_stay (i := i+1) ?_ 1
      simp only [expT]; rw [h, Int.one_mul]
      exact fd_eq_zero hn (by omega)
  · have hn : n < 0 := by
      rcases Int.lt_or_le n 0 with hn | hn
      · exact hn
      · have := expT_nonneg ho h1 h2 hn i; omega
    refine expT_stay (i := i+1) ?_ 1
    simp only [expT]; rw [h]
    exact fd_eq_zero (by omega) (by omega)
end
theorem expT_end {n : Int} {p : Nat} (h1 : 5*n ≤ 6*10^p) (h2 : -(6*10^p) ≤ 5*n) : expT n (10^p) (p+16) = 0 := by
  have ho : (0:Int) < 10^p := Int.pow_pos (by decide)
  have h := expT_small ho h1 h2 (p+2)
  have e : (10:Int)^(p+2) = 100 * 10^p := by rw [Int.pow_add]; simp only [Int.mul_comm]; rfl
  rw [e] at h
  have e2 : 12 + (p+2) = p+14 := by omega
  rw [e2] at h
  refine expT_dies ho h1 h2 (i := p+14) (by omega) ?_ ?_
  · generalize expT n (10^p) (p+14) = x at *
    generalize (10:Int)^p = q at *
    rcases Int.lt_or_le 1 x with hx | hx
    · have := Int.mul_le_mul_of_nonneg_left (show 2 ≤ x from hx) (Int.le_of_lt ho); grind
    · exact hx
  · generalize expT n (10^p) (p+14) = x at *
    generalize (10:Int)^p = q at *
    rcases Int.lt_or_le x (-1) with hx | hx
    · have := Int.mul_le_mul_of_nonneg_left (show x ≤ -2 by omega) (Int.le_of_lt ho); grind
    · exact hx
-- inverse_series: the terms
theorem fd_fd (a : Int) {b c : Int} (hb : 0 < b) (hc : 0 < c) : (a.fdiv b).fdiv c = a.fdiv (b*c) := by
  rw [Int.fdiv_eq_ediv_of_nonneg _ (by omega), Int.fdiv_eq_ediv_of_nonneg _ (by omega), Int.fdiv_eq_ediv_of_nonneg _ (Int.le_of_lt (Int.mul_pos hb hc))]
  exact Int.ediv_ediv_of_nonneg (by omega)
section
variable {d : Int} (hd : 2 ≤ d)
include hd
theorem dpow_pos (k : Nat) : 0 < d^k := Int.pow_pos (by omega)
theorem invT_eq (one : Int) (k : Nat) : invT d one k = one.fdiv (d^(2*k+1)) := by
  induction k with
  | zero => simp [invT, Int.pow_one]
  | succ k ih =>
    simp only [invT]
    rw [ih, fd_fd _ (dpow_pos hd _) (Int.mul_pos (by omega) (by omega))]
    congr 1
    rw [show 2*(k+1)+1 = 2*k+1+1+1 by omega, Int.pow_succ, Int.pow_succ]
    grind
theorem invT_div (one : Int) (k : Nat) : (invT d one k).fdiv (2*(k:Int)+1) = one.fdiv ((2*(k:Int)+1) * d^(2*k+1)) := by
  rw [invT_eq hd, fd_fd _ (dpow_pos hd _) (by omega), Int.mul_comm]
theorem invS_eq (turn one : Int) (k : Nat) : invS d one turn k = lsS d turn one k := by
  induction k with
  | zero => rfl
  | succ k ih => simp only [invS, lsS]; rw [ih, invT_div hd]
theorem dpow_two (k : Nat) : (2:Int)^k ≤ d^k := by
  induction k with
  | zero => simp
  | succ k ih =>
    rw [Int.pow_succ, Int.pow_succ]
    exact Int.mul_le_mul ih hd (by omega) (Int.le_of_lt (dpow_pos hd k))
theorem invT_zero {one : Int} (h0 : 0 ≤ one) (h : one < 2^399) : invT d one 199 = 0 := by
  rw [invT_eq hd]
  exact fd_eq_zero h0 (Int.lt_of_lt_of_le h (dpow_two hd 399))
omit hd in
theorem invT_stay {one : Int} {i : Nat} (h : invT d one i = 0) (j : Nat) : invT d one (i+j) = 0 := by
  induction j with
  | zero => exact h
  | succ j ih => rw [show i + (j+1) = i + j + 1 by omega]; simp only [invT]; rw [ih]; exact fd_zero _
omit hd in
theorem invS_stay {one turn : Int} {i : Nat} (h : invT d one i = 0) (j : Nat) : invS d one turn (i+j) = invS d one turn i := by
  induction j with
  | zero => rfl
  | succ j ih => rw [show i + (j+1) = i + j + 1 by omega]; simp only [invS]; rw [ih, invT_stay h, fd_zero, Int.mul_zero, Int.add_zero]
theorem invT_nonneg {one : Int} (h0 : 0 ≤ one) (k : Nat) : 0 ≤ invT d one k := by
  rw [invT_eq hd]; exact fd_nonneg h0 (dpow_pos hd _)
end
theorem ipow_mono {m n : Nat} (h : m ≤ n) : (10:Int)^m ≤ 10^n := by
  obtain ⟨k, rfl⟩ : ∃ k, n = m + k := ⟨n - m, by omega⟩
  rw [Int.pow_add]
  have h1 : (0:Int) < 10^m := Int.pow_pos (by decide)
  have h2 : (0:Int) < 10^k := Int.pow_pos (by decide)
  have := Int.mul_le_mul_of_nonneg_left (show 1 ≤ (10:Int)^k by omega) (Int.le_of_lt h1)
  omega
theorem ten_lt {P : Int} (h : P ≤ 110) : ten P < 2^399 := by
  have : (10:Int)^P.toNat ≤ 10^110 := ipow_mono (by omega)
  exact Int.lt_of_le_of_lt this (by decide +kernel)
-- rational basics
theorem r_le_of_mul {a b c : Rat} (hc : 0 < c) (h : c * a ≤ c * b) : a ≤ b := Rat.le_of_mul_le_mul_left h hc
theorem r_mul_nonneg {a b : Rat} (ha : 0 ≤ a) (hb : 0 ≤ b) : 0 ≤ a * b := Rat.mul_nonneg ha hb
theorem r_mul_le {a b c d : Rat} (h1 : a ≤ b) (h2 : c ≤ d) (h3 : 0 ≤ a) (h4 : 0 ≤ d) : a * c ≤ b * d := by
  have := Rat.mul_nonneg h3 (show (0:Rat) ≤ d - c by grind)
  have := Rat.mul_nonneg (show (0:Rat) ≤ b - a by grind) h4
  grind
theorem nat_cast_nonneg (k : Nat) : (0:Rat) ≤ (k:Rat) := Rat.natCast_nonneg
theorem cast_succ (k : Nat) : ((k+1 : Nat) : Rat) = (k:Rat) + 1 := by simp
-- the exponential's terms and sums
noncomputable def pe (x : Rat) : Nat → Rat
  | 0 => 1
  | k+1 => pe x k * x / ((k:Rat)+1)
noncomputable def EE (x : Rat) : Nat → Rat
  | 0 => 1
  | k+1 => EE x k + pe x (k+1)
theorem pe_mul (x : Rat) (k : Nat) : ((k:Rat)+1) * pe x (k+1) = x * pe x k := by
  have := nat_cast_nonneg k
  simp only [pe]
  rw [Rat.mul_comm, Rat.div_mul_cancel (show (k:Rat)+1 ≠ 0 by grind), Rat.mul_comm]
theorem pe_nonneg {x : Rat} (hx : 0 ≤ x) (k : Nat) : 0 ≤ pe x k := by
  induction k with
  | zero => show (0:Rat) ≤ 1; decide
  | succ k ih =>
    have h := pe_mul x k
    have := nat_cast_nonneg k
    have h2 := r_mul_nonneg hx ih
    refine r_le_of_mul (c := (k:Rat)+1) (by grind) ?_
    grind
theorem pe_mono {a b : Rat} (ha : 0 ≤ a) (hab : a ≤ b) (k : Nat) : pe a k ≤ pe b k := by
  induction k with
  | zero => simp [pe]
  | succ k ih =>
    have h1 := pe_mul a k
    have h2 := pe_mul b k
    have := nat_cast_nonneg k
    have h3 := r_mul_le hab ih ha (pe_nonneg (show 0 ≤ b by grind) k)
    refine r_le_of_mul (c := (k:Rat)+1) (by grind) ?_
    grind
theorem pe_step {a b : Rat} (ha : 0 ≤ a) (hab : a ≤ b) (k : Nat) : (b - a) * pe a k ≤ pe b (k+1) - pe a (k+1) ∧ pe b (k+1) - pe a (k+1) ≤ (b - a) * pe b k := by
  induction k with
  | zero =>
    have h1 := pe_mul a 0
    have h2 := pe_mul b 0
    simp [pe] at h1 h2 ⊢
    grind
  | succ k ih =>
    have h1 := pe_mul a (k+1)
    have h2 := pe_mul b (k+1)
    have h3 := pe_mul a k
    have h4 := pe_mul b k
    rw [cast_succ] at h1 h2
    have hk := nat_cast_nonneg k
    have hb : 0 ≤ b := by grind
    have m := pe_mono ha hab (k+1)
    have nk := pe_nonneg hb k
    generalize pe a (k+1+1) = A2 at *
    generalize pe b (k+1+1) = B2 at *
    generalize pe a (k+1) = A1 at *
    generalize pe b (k+1) = B1 at *
    generalize pe a k = A0 at *
    generalize pe b k = B0 at *
    generalize (k:Rat) = c at *
    have d0 : 0 ≤ b - a := by grind
    have u1 := r_mul_nonneg ha (show 0 ≤ (b - a) * B0 - (B1 - A1) by grind)
    have u2 := r_mul_nonneg ha (show 0 ≤ (B1 - A1) - (b - a) * A0 by grind)
    have u3 := r_mul_nonneg d0 (r_mul_nonneg d0 nk)
    have u4 := r_mul_nonneg d0 (show 0 ≤ B1 - A1 by grind)
    have e1 : (c+1+1) * (B2 - A2) = (b - a) * B1 + a * (B1 - A1) := by grind
    have e2 : (c+1+1) * ((b - a) * A1) = (b - a) * (a * A0) + (b - a) * A1 := by grind
    have e3 : (c+1+1) * ((b - a) * B1) = (b - a) * (b * B0) + (b - a) * B1 := by grind
    constructor
    · refine r_le_of_mul (c := c+1+1) (by grind) ?_
      rw [e1, e2]; grind
    · refine r_le_of_mul (c := c+1+1) (by grind) ?_
      rw [e1, e3]; grind
theorem EE_nonneg {x : Rat} (hx : 0 ≤ x) (k : Nat) : 1 ≤ EE x k := by
  induction k with
  | zero => simp [EE]
  | succ k ih => have := pe_nonneg hx (k+1); simp only [EE]; grind
theorem EE_mono {a b : Rat} (ha : 0 ≤ a) (hab : a ≤ b) (k : Nat) : EE a k ≤ EE b k := by
  induction k with
  | zero => simp [EE]
  | succ k ih => have := pe_mono ha hab (k+1); simp only [EE]; grind
theorem EE_step {a b : Rat} (ha : 0 ≤ a) (hab : a ≤ b) (k : Nat) : (b - a) * EE a k ≤ EE b (k+1) - EE a (k+1) ∧ EE b (k+1) - EE a (k+1) ≤ (b - a) * EE b k := by
  induction k with
  | zero =>
    have h := pe_step ha hab 0
    have e : ∀ x, EE x (0+1) = 1 + pe x (0+1) := fun x => rfl
    have e0 : ∀ x, EE x 0 = 1 := fun x => rfl
    have e1 : ∀ x, pe x 0 = 1 := fun x => rfl
    rw [e a, e b, e0 a, e0 b]
    rw [e1 a, e1 b] at h
    grind
  | succ k ih =>
    have h := pe_step ha hab (k+1)
    have e : ∀ x, EE x (k+1+1) = EE x (k+1) + pe x (k+1+1) := fun x => rfl
    have e0 : ∀ x, EE x (k+1) = EE x k + pe x (k+1) := fun x => rfl
    rw [e a, e b]
    have ma : (b - a) * EE a (k+1) = (b - a) * EE a k + (b - a) * pe a (k+1) := by rw [e0 a, Rat.mul_add]
    have mb : (b - a) * EE b (k+1) = (b - a) * EE b k + (b - a) * pe b (k+1) := by rw [e0 b, Rat.mul_add]
    clear e e0
    rw [ma, mb]
    grind
noncomputable def bb : Nat → Rat
  | 0 => 0
  | k+1 => bb k * (6/5) / ((k:Rat)+1) + 1
noncomputable def BB : Nat → Rat
  | 0 => 0
  | k+1 => BB k + bb (k+1)
theorem bb_mul (k : Nat) : ((k:Rat)+1) * bb (k+1) = (6/5) * bb k + ((k:Rat)+1) := by
  have := nat_cast_nonneg k
  simp only [bb]
  rw [Rat.mul_add, Rat.mul_comm, Rat.div_mul_cancel (show (k:Rat)+1 ≠ 0 by grind)]
  grind
theorem bb_nonneg (k : Nat) : 0 ≤ bb k := by
  induction k with
  | zero => simp [bb]
  | succ k ih =>
    have h := bb_mul k
    have := nat_cast_nonneg k
    refine r_le_of_mul (c := (k:Rat)+1) (by grind) ?_
    grind
/-- a floor of a quotient, in rationals -/
theorem r_floor (a : Int) {b : Int} (hb : 0 < b) : (b:Rat) * ((a.fdiv b : Int) : Rat) ≤ (a:Rat) ∧ (a:Rat) < (b:Rat) * ((a.fdiv b : Int) : Rat) + (b:Rat) := by
  have l := Rat.intCast_le_intCast.mpr (fd_lo a hb)
  have u := Rat.intCast_lt_intCast.mpr (fd_hi a hb)
  rw [Rat.intCast_mul] at l
  rw [Rat.intCast_add, Rat.intCast_mul] at u
  exact ⟨l, u⟩
theorem r_prod_le {x e X B : Rat} (h1 : x ≤ X) (h2 : -X ≤ x) (h3 : e ≤ B) (h4 : -B ≤ e) : x * e ≤ X * B ∧ -(X * B) ≤ x * e := by
  have a1 := r_mul_nonneg (show 0 ≤ X - x by grind) (show 0 ≤ B + e by grind)
  have a2 := r_mul_nonneg (show 0 ≤ X + x by grind) (show 0 ≤ B - e by grind)
  have a3 := r_mul_nonneg (show 0 ≤ X - x by grind) (show 0 ≤ B - e by grind)
  have a4 := r_mul_nonneg (show 0 ≤ X + x by grind) (show 0 ≤ B + e by grind)
  constructor <;> grind
section
variable {n one : Int} {x : Rat} (ho : 0 < one) (hx : (n:Rat) = (one:Rat) * x) (h1 : x ≤ 6/5) (h2 : -(6/5) ≤ x)
include ho hx h1 h2
theorem expT_err (k : Nat) : (expT n one k : Rat) - (one:Rat) * pe x k ≤ bb k ∧ -(bb k) ≤ (expT n one k : Rat) - (one:Rat) * pe x k := by
  induction k with
  | zero => simp [expT, pe, bb]; grind
  | succ k ih =>
    have hk := nat_cast_nonneg k
    have hb : 0 < one * ((k:Int)+1) := Int.mul_pos ho (by omega)
    have f := r_floor (expT n one k * n) hb
    have p := pe_mul x k
    have b := bb_mul k
    have e1 : expT n one (k+1) = (expT n one k * n).fdiv (one * ((k:Int)+1)) := rfl
    rw [← e1] at f
    have c1 : ((one * ((k:Int)+1) : Int) : Rat) = (one:Rat) * ((k:Rat)+1) := by
      rw [Rat.intCast_mul, Rat.intCast_add]; rfl
    rw [c1, Rat.intCast_mul, hx] at f
    have o := Rat.intCast_lt_intCast.mpr ho
    have o : (0:Rat) < (one:Rat) := by simpa using o
    have q := r_prod_le h1 h2 ih.1 ih.2
    generalize (expT n one (k+1) : Rat) = T' at *
    generalize (expT n one k : Rat) = T at *
    generalize pe x (k+1) = p' at *
    generalize pe x k = p0 at *
    generalize bb (k+1) = b' at *
    generalize bb k = b0 at *
    generalize (one:Rat) = r at *
    generalize (k:Rat) = c at *
    have l1 : (c+1) * T' ≤ T * x := by
      refine r_le_of_mul (c := r) o ?_
      grind
    have l2 : T * x ≤ (c+1) * T' + (c+1) := by
      refine r_le_of_mul (c := r) o ?_
      grind
    have e2 : (c+1) * (T' - r * p') = (c+1) * T' - r * (x * p0) := by rw [← p]; grind
    have e3 : x * (T - r * p0) = T * x - r * (x * p0) := by grind
    constructor
    · refine r_le_of_mul (c := c+1) (by grind) ?_
      rw [e2, b]; grind
    · refine r_le_of_mul (c := c+1) (by grind) ?_
      rw [e2]
      have : (c+1) * -b' = -((c+1) * b') := by grind
      rw [this, b]; grind
theorem expS_err (k : Nat) : (expS n one k : Rat) - (one:Rat) * EE x k ≤ BB k ∧ -(BB k) ≤ (expS n one k : Rat) - (one:Rat) * EE x k := by
  induction k with
  | zero => simp [expS, EE, BB]; grind
  | succ k ih =>
    have h := expT_err ho hx h1 h2 (k+1)
    simp only [expS, EE, BB]
    rw [Rat.intCast_add, Rat.mul_add]
    grind
end
theorem BB80 : BB 80 ≤ 86 := by decide +kernel
theorem BB130 : BB 130 ≤ 137 := by decide +kernel
noncomputable def ev (x : Rat) : List Int → Rat
  | [] => 0
  | a :: r => (a:Rat) + x * ev x r
noncomputable def addp : List Int → List Int → List Int
  | [], l => l
  | l, [] => l
  | a :: r, b :: s => (a + b) :: addp r s
noncomputable def mulp : List Int → List Int → List Int
  | [], _ => []
  | a :: r, l => addp (l.map (a * ·)) (0 :: mulp r l)
noncomputable def altp : List Int → List Int
  | [] => []
  | a :: r => a :: (altp r).map (-1 * ·)
noncomputable def absp : List Int → Int
  | [] => 0
  | a :: r => (if a < 0 then -a else a) + 2 * absp r
theorem r_eq_of_mul {a b c : Rat} (hc : 0 < c) (h : c * a = c * b) : a = b :=
  Rat.le_antisymm (r_le_of_mul hc (by rw [h]; exact Rat.le_refl)) (r_le_of_mul hc (by rw [h]; exact Rat.le_refl))
theorem ev_add (x : Rat) : ∀ (l s : List Int), ev x (addp l s) = ev x l + ev x s
  | [], l => by simp [addp, ev]; grind
  | a :: r, [] => by simp [addp, ev]; grind
  | a :: r, b :: s => by
    simp only [addp, ev]
    rw [ev_add x r s, Rat.intCast_add]
    grind
theorem ev_map (x : Rat) (c : Int) : ∀ l : List Int, ev x (l.map (c * ·)) = (c:Rat) * ev x l
  | [] => by simp [ev]
  | a :: r => by
    simp only [List.map_cons, ev]
    rw [ev_map x c r, Rat.intCast_mul]
    grind
theorem ev_mul (x : Rat) : ∀ (l s : List Int), ev x (mulp l s) = ev x l * ev x s
  | [], s => by simp [mulp, ev]
  | a :: r, s => by
    simp only [mulp]
    rw [ev_add, ev_map]
    simp only [ev]
    rw [ev_mul x r s]
    simp
    grind
theorem ev_alt (x : Rat) : ∀ l : List Int, ev x (altp l) = ev (-x) l
  | [] => rfl
  | a :: r => by
    simp only [altp, ev]
    rw [ev_map, ev_alt x r]
    simp
    grind
theorem ev_snoc (x : Rat) (c : Int) : ∀ l : List Int, ev x (l ++ [c]) = ev x l + (c:Rat) * x ^ l.length
  | [] => by simp [ev]; grind
  | a :: r => by
    simp only [List.cons_append, ev, List.length_cons]
    rw [ev_snoc x c r, Rat.pow_succ]
    grind
theorem absp_nonneg : ∀ l : List Int, 0 ≤ absp l
  | [] => by simp [absp]
  | a :: r => by
    have := absp_nonneg r
    simp only [absp]
    split <;> omega
theorem ev_abs {x : Rat} (h1 : x ≤ 2) (h2 : -2 ≤ x) : ∀ l : List Int, ev x l ≤ (absp l : Rat) ∧ -(absp l : Rat) ≤ ev x l
  | [] => by simp [ev, absp]
  | a :: r => by
    have ih := ev_abs h1 h2 r
    have q := r_prod_le h1 h2 ih.1 ih.2
    simp only [ev, absp]
    rw [Rat.intCast_add, Rat.intCast_mul]
    have e2 : ((2:Int):Rat) = 2 := rfl
    rw [e2]
    have c : (a:Rat) ≤ (((if a < 0 then -a else a : Int)) : Rat) ∧ -(((if a < 0 then -a else a : Int)) : Rat) ≤ (a:Rat) := by
      constructor
      · exact Rat.intCast_le_intCast.mpr (by split <;> omega)
      · rw [← Rat.intCast_neg]; exact Rat.intCast_le_intCast.mpr (by split <;> omega)
    generalize (((if a < 0 then -a else a : Int)) : Rat) = A at *
    grind
-- scaled sums
section
variable (m s : Nat → Int)
noncomputable def gp (x : Rat) : Nat → Rat
  | 0 => 1
  | k+1 => gp x k * x / (m k : Rat)
noncomputable def gA (x : Rat) : Nat → Rat
  | 0 => (s 0 : Rat)
  | k+1 => gA x k + (s (k+1) : Rat) * gp m x (k+1)
noncomputable def gl : Nat → List Int
  | 0 => [s 0]
  | k+1 => (gl k).map (m k * ·) ++ [s (k+1)]
noncomputable def gd : Nat → Int
  | 0 => 1
  | k+1 => m k * gd k
variable {m s}
theorem gl_len (k : Nat) : (gl m s k).length = k+1 := by
  induction k with
  | zero => rfl
  | succ k ih => simp [gl, ih]
theorem gp_mul (hm : ∀ k, 0 < m k) (x : Rat) (k : Nat) : (m k : Rat) * gp m x (k+1) = x * gp m x k := by
  have := Rat.intCast_lt_intCast.mpr (hm k)
  have : (0:Rat) < (m k : Rat) := by simpa using this
  simp only [gp]
  rw [Rat.mul_comm, Rat.div_mul_cancel (show (m k : Rat) ≠ 0 by grind), Rat.mul_comm]
theorem gd_gp (hm : ∀ k, 0 < m k) (x : Rat) (k : Nat) : (gd m k : Rat) * gp m x k = x ^ k := by
  induction k with
  | zero => simp [gd, gp]
  | succ k ih =>
    have h := gp_mul hm x k
    simp only [gd]
    rw [Rat.intCast_mul, Rat.pow_succ, ← ih]
    grind
theorem gl_ev (hm : ∀ k, 0 < m k) (x : Rat) (k : Nat) : (gd m k : Rat) * gA m s x k = ev x (gl m s k) := by
  induction k with
  | zero => simp [gd, gA, gl, ev]; grind
  | succ k ih =>
    have h := gd_gp hm x (k+1)
    simp only [gl]
    rw [ev_snoc, ev_map, ← ih, List.length_map, gl_len, ← h]
    simp only [gd, gA]
    rw [Rat.intCast_mul]
    grind
theorem gd_pos (hm : ∀ k, 0 < m k) (k : Nat) : 0 < gd m k := by
  induction k with
  | zero => simp [gd]
  | succ k ih => exact Int.mul_pos (hm k) ih
end
/-- a list whose first number is D, the rest of it tiny -/
noncomputable def tinyP (D eps : Int) : List Int → Bool
  | [] => false
  | a :: r => decide (a = D) && decide (2 * absp r * eps ≤ D)
theorem tinyP_of {D eps : Int} {l : List Int} (h : tinyP D eps l = true) (hD : 0 < D) (he : 0 ≤ eps) {x y : Rat} (h1 : x ≤ 2) (h2 : -2 ≤ x) (e : (D:Rat) * y = ev x l) :
    (eps:Rat) * (y - 1) ≤ 1 ∧ -1 ≤ (eps:Rat) * (y - 1) := by
  cases l with
  | nil => simp [tinyP] at h
  | cons a r =>
    simp only [tinyP, Bool.and_eq_true, decide_eq_true_eq] at h
    obtain ⟨rfl, hb⟩ := h
    simp only [ev] at e
    have q := ev_abs h1 h2 r
    have q := r_prod_le h1 h2 q.1 q.2
    have o := Rat.intCast_lt_intCast.mpr hD
    have o : (0:Rat) < (a:Rat) := by simpa using o
    have b := Rat.intCast_le_intCast.mpr hb
    rw [Rat.intCast_mul, Rat.intCast_mul] at b
    have e2 : ((2:Int):Rat) = 2 := rfl
    rw [e2] at b
    have E0 := Rat.intCast_le_intCast.mpr he
    have E0 : (0:Rat) ≤ (eps:Rat) := by simpa using E0
    have u1 := r_mul_nonneg E0 (show 0 ≤ 2 * (absp r : Rat) - x * ev x r by grind)
    have u2 := r_mul_nonneg E0 (show 0 ≤ 2 * (absp r : Rat) + x * ev x r by grind)
    generalize (eps:Rat) = t at *
    generalize (absp r : Rat) = B at *
    generalize (a:Rat) = D at *
    have k : D * (y - 1) = x * ev x r := by grind
    generalize x * ev x r = w at *
    have k2 : D * (t * (y - 1)) = t * w := by rw [← k]; grind
    constructor
    · refine r_le_of_mul (c := D) o ?_
      rw [k2]; grind
    · refine r_le_of_mul (c := D) o ?_
      rw [k2]; grind
-- even and odd parts, in the square z of x: (f + 2k + 1)(f + 2k + 2)
noncomputable abbrev mW (f : Int) : Nat → Int := fun k => (f + 2*(k:Int) + 1) * (f + 2*(k:Int) + 2)
noncomputable abbrev sW : Nat → Int := fun k => (-1)^k
noncomputable abbrev sE : Nat → Int := fun _ => 1
theorem mW0_pos (k : Nat) : 0 < mW 0 k := Int.mul_pos (by omega) (by omega)
theorem mW1_pos (k : Nat) : 0 < mW 1 k := Int.mul_pos (by omega) (by omega)
/-- C^2 + g z S^2 is one, but for a tiny rest -/
noncomputable def sqChk (s : Nat → Int) (g : Int) (N : Nat) (eps : Int) : Bool :=
  let S := gl (mW 1) s N
  let C := gl (mW 0) s N
  let a := gd (mW 1) N * gd (mW 1) N
  let b := gd (mW 0) N * gd (mW 0) N
  tinyP (a * b) eps (addp ((0 :: mulp S S).map (g * b * ·)) ((mulp C C).map (a * ·)))
theorem sqChk_of {s : Nat → Int} {g : Int} {N : Nat} {eps : Int} (h : sqChk s g N eps = true) (he : 0 ≤ eps) {z : Rat} (h1 : z ≤ 2) (h2 : -2 ≤ z) :
    (eps:Rat) * ((g:Rat) * (z * (gA (mW 1) s z N * gA (mW 1) s z N)) + gA (mW 0) s z N * gA (mW 0) s z N - 1) ≤ 1 ∧ -1 ≤ (eps:Rat) * ((g:Rat) * (z * (gA (mW 1) s z N * gA (mW 1) s z N)) + gA (mW 0) s z N * gA (mW 0) s z N - 1) := by
  have hS := gd_pos mW1_pos N
  have hC := gd_pos mW0_pos N
  refine tinyP_of h (Int.mul_pos (Int.mul_pos hS hS) (Int.mul_pos hC hC)) he h1 h2 ?_
  rw [ev_add, ev_map, ev_map]
  simp only [ev]
  rw [ev_mul, ev_mul, ← gl_ev mW1_pos, ← gl_ev mW0_pos]
  simp only [Rat.intCast_mul]
  simp
  grind
theorem sqW : sqChk sW 1 36 (10^70) = true := by decide +kernel
theorem sqE1 : sqChk sE (-1) 40 (10^70) = true := by decide +kernel
theorem sqE2 : sqChk sE (-1) 52 (10^100) = true := by decide +kernel
-- the exponential by its parts
theorem pe_parts (x : Rat) (k : Nat) : pe x (2*k) = gp (mW 0) (x*x) k ∧ pe x (2*k+1) = x * gp (mW 1) (x*x) k := by
  induction k with
  | zero => simp [pe, gp]; grind
  | succ k ih =>
    have a := gp_mul mW0_pos (x*x) k
    have b := gp_mul mW1_pos (x*x) k
    have p1 := pe_mul x (2*k+1)
    have p2 := pe_mul x (2*k+2)
    have c1 : ((2*k+1 : Nat) : Rat) = 2*(k:Rat)+1 := by simp
    have c2 : ((2*k+2 : Nat) : Rat) = 2*(k:Rat)+2 := by simp
    have d0 : ((mW 0 k : Int) : Rat) = (2*(k:Rat)+1) * (2*(k:Rat)+2) := by
      show (((0 + 2*(k:Int) + 1) * (0 + 2*(k:Int) + 2) : Int) : Rat) = _
      rw [Int.zero_add, Rat.intCast_mul, Rat.intCast_add, Rat.intCast_add, Rat.intCast_mul]; rfl
    have d1 : ((mW 1 k : Int) : Rat) = (2*(k:Rat)+2) * (2*(k:Rat)+3) := by
      show (((1 + 2*(k:Int) + 1) * (1 + 2*(k:Int) + 2) : Int) : Rat) = _
      rw [show (1 + 2*(k:Int) + 1) = 2*(k:Int)+2 by omega, show (1 + 2*(k:Int) + 2) = 2*(k:Int)+3 by omega, Rat.intCast_mul, Rat.intCast_add, Rat.intCast_add, Rat.intCast_mul]; rfl
    rw [d0] at a
    rw [d1] at b
    rw [c1] at p1
    rw [c2] at p2
    have hk := nat_cast_nonneg k
    rw [show 2*(k+1) = 2*k+1+1 by omega]
    have p1' : (2*(k:Rat)+1+1) * pe x (2*k+1+1) = x * pe x (2*k+1) := p1
    have p2' : (2*(k:Rat)+2+1) * pe x (2*k+1+1+1) = x * pe x (2*k+1+1) := p2
    have e1 : pe x (2*k+1+1) = gp (mW 0) (x*x) (k+1) := by
      rw [ih.2] at p1'
      have q1 := pe_mul x (2*k)
      have c0 : ((2*k : Nat) : Rat) = 2*(k:Rat) := by simp
      rw [c0, ih.1, ih.2] at q1
      have h : (2*(k:Rat)+1) * (2*(k:Rat)+2) * pe x (2*k+1+1) = (2*(k:Rat)+1) * (2*(k:Rat)+2) * gp (mW 0) (x*x) (k+1) := by
        rw [a]
        have : (2*(k:Rat)+1) * (2*(k:Rat)+2) * pe x (2*k+1+1) = x * ((2*(k:Rat)+1) * (x * gp (mW 1) (x*x) k)) := by
          rw [show (2*(k:Rat)+1) * (2*(k:Rat)+2) * pe x (2*k+1+1) = (2*(k:Rat)+1) * ((2*(k:Rat)+1+1) * pe x (2*k+1+1)) by grind, p1']; grind
        rw [this, q1]; grind
      have hp := Rat.mul_pos (show (0:Rat) < 2*(k:Rat)+1 by grind) (show (0:Rat) < 2*(k:Rat)+2 by grind)
      exact r_eq_of_mul hp h
    refine ⟨e1, ?_⟩
    have h : (2*(k:Rat)+2) * (2*(k:Rat)+3) * pe x (2*k+1+1+1) = (2*(k:Rat)+2) * (2*(k:Rat)+3) * (x * gp (mW 1) (x*x) (k+1)) := by
      have t1 : (2*(k:Rat)+2) * (2*(k:Rat)+3) * (x * gp (mW 1) (x*x) (k+1)) = x * (x * x * gp (mW 1) (x*x) k) := by rw [← b]; grind
      rw [t1]
      have t2 : (2*(k:Rat)+2) * (2*(k:Rat)+3) * pe x (2*k+1+1+1) = x * ((2*(k:Rat)+1+1) * pe x (2*k+1+1)) := by rw [show (2*(k:Rat)+3) = 2*(k:Rat)+2+1 by grind, Rat.mul_assoc, p2']; grind
      rw [t2, p1', ih.2]; grind
    have hp := Rat.mul_pos (show (0:Rat) < 2*(k:Rat)+2 by grind) (show (0:Rat) < 2*(k:Rat)+3 by grind)
    exact r_eq_of_mul hp h
theorem EE_parts (x : Rat) (k : Nat) : EE x (2*k+1) = gA (mW 0) sE (x*x) k + x * gA (mW 1) sE (x*x) k := by
  induction k with
  | zero => simp [EE, gA, pe]; grind
  | succ k ih =>
    have a := pe_parts x (k+1)
    have e : EE x (2*(k+1)+1) = EE x (2*k+1) + pe x (2*(k+1)) + pe x (2*(k+1)+1) := rfl
    rw [e, ih, a.1, a.2]
    simp only [gA]
    simp
    grind
theorem EE_inv {k : Nat} {eps : Int} (h : sqChk sE (-1) k eps = true) (he : 0 ≤ eps) {x : Rat} (h1 : x ≤ 6/5) (h2 : -(6/5) ≤ x) :
    (eps:Rat) * (EE x (2*k+1) * EE (-x) (2*k+1) - 1) ≤ 1 ∧ -1 ≤ (eps:Rat) * (EE x (2*k+1) * EE (-x) (2*k+1) - 1) := by
  have q := r_prod_le h1 h2 h1 h2
  have c := sqChk_of h he (z := x*x) (by grind) (by grind)
  rw [EE_parts, EE_parts, show -x * -x = x * x by grind]
  have e : ((-1:Int):Rat) = -1 := rfl
  rw [e] at c
  generalize gA (mW 0) sE (x*x) k = C at *
  generalize gA (mW 1) sE (x*x) k = S at *
  rw [show (C + x * S) * (C + -x * S) - 1 = -1 * (x * x * (S * S)) + C * C - 1 by grind]
  exact c
theorem r_pow_nonneg {a : Rat} (h : 0 ≤ a) (n : Nat) : 0 ≤ a^n := Rat.pow_nonneg h
theorem r_pow_mono {a b : Rat} (ha : 0 ≤ a) (hab : a ≤ b) (n : Nat) : a^n ≤ b^n := by
  induction n with
  | zero => simp
  | succ n ih =>
    rw [Rat.pow_succ, Rat.pow_succ]
    exact r_mul_le ih hab (r_pow_nonneg ha n) (by grind)
theorem r_pow_step {a b : Rat} (ha : 0 ≤ a) (hab : a ≤ b) (n : Nat) : ((n:Rat)+1) * ((b - a) * a^n) ≤ b^(n+1) - a^(n+1) ∧ b^(n+1) - a^(n+1) ≤ ((n:Rat)+1) * ((b - a) * b^n) := by
  induction n with
  | zero => simp [Rat.pow_succ]; grind
  | succ n ih =>
    have m := r_pow_mono ha hab (n+1)
    have p0 := r_pow_nonneg ha n
    have q0 := r_pow_nonneg (show 0 ≤ b by grind) n
    have eb : b^(n+1) = b^n * b := Rat.pow_succ b n
    have ea : a^(n+1) = a^n * a := Rat.pow_succ a n
    have eb2 : b^(n+1+1) = b^(n+1) * b := Rat.pow_succ b (n+1)
    have ea2 : a^(n+1+1) = a^(n+1) * a := Rat.pow_succ a (n+1)
    rw [eb2, ea2, cast_succ]
    have hn := nat_cast_nonneg n
    have d0 : 0 ≤ b - a := by grind
    have u1 := r_mul_nonneg ha (show 0 ≤ ((n:Rat)+1) * ((b - a) * b^n) - (b^(n+1) - a^(n+1)) by grind)
    have u2 := r_mul_nonneg ha (show 0 ≤ (b^(n+1) - a^(n+1)) - ((n:Rat)+1) * ((b - a) * a^n) by grind)
    have u3 := r_mul_nonneg d0 (show 0 ≤ b^(n+1) - a^(n+1) by grind)
    have u4 := r_mul_nonneg (r_mul_nonneg (show (0:Rat) ≤ (n:Rat)+1 by grind) d0) (r_mul_nonneg d0 q0)
    have f1 : a * ((n+1:Rat) * ((b - a) * a^n)) = (n+1:Rat) * ((b - a) * a^(n+1)) := by rw [ea]; grind
    have f2 : a * ((n+1:Rat) * ((b - a) * b^n)) = (n+1:Rat) * ((b - a) * b^(n+1)) - ((n:Rat)+1) * (b - a) * ((b - a) * b^n) := by rw [eb]; grind
    generalize b^(n+1) = B1 at *
    generalize a^(n+1) = A1 at *
    generalize b^n = B0 at *
    generalize a^n = A0 at *
    generalize (n:Rat) = c at *
    constructor <;> grind
noncomputable def aA (z : Rat) : Nat → Rat
  | 0 => 0
  | j+1 => aA z j + z^(2*j+1) / (2*(j:Rat)+1)
noncomputable def gG (z : Rat) : Nat → Rat
  | 0 => 0
  | j+1 => gG z j + z^(2*j)
theorem aA_term (z : Rat) (j : Nat) : (2*(j:Rat)+1) * (z^(2*j+1) / (2*(j:Rat)+1)) = z^(2*j+1) := by
  have := nat_cast_nonneg j
  rw [Rat.mul_comm, Rat.div_mul_cancel (show 2*(j:Rat)+1 ≠ 0 by grind)]
theorem aA_step {a b : Rat} (ha : 0 ≤ a) (hab : a ≤ b) (J : Nat) : (b - a) * gG a J ≤ aA b J - aA a J ∧ aA b J - aA a J ≤ (b - a) * gG b J := by
  induction J with
  | zero => simp [aA, gG]; grind
  | succ j ih =>
    have s := r_pow_step ha hab (2*j)
    have c : ((2*j : Nat) : Rat) = 2*(j:Rat) := by simp
    rw [c] at s
    have ta := aA_term a j
    have tb := aA_term b j
    have hj := nat_cast_nonneg j
    simp only [aA, gG]
    rw [← ta, ← tb] at s
    generalize a^(2*j+1) / (2*(j:Rat)+1) = X at *
    generalize b^(2*j+1) / (2*(j:Rat)+1) = Y at *
    have s1 : (b - a) * a^(2*j) ≤ Y - X := by refine r_le_of_mul (c := 2*(j:Rat)+1) (by grind) ?_; grind
    have s2 : Y - X ≤ (b - a) * b^(2*j) := by refine r_le_of_mul (c := 2*(j:Rat)+1) (by grind) ?_; grind
    rw [Rat.mul_add, Rat.mul_add]
    grind
theorem gG_sum (z : Rat) (J : Nat) : gG z J * (1 - z * z) = 1 - z^(2*J) := by
  induction J with
  | zero => simp [gG]; grind
  | succ j ih =>
    have e : z^(2*(j+1)) = z^(2*j) * z * z := by rw [show 2*(j+1) = 2*j+1+1 by omega, Rat.pow_succ, Rat.pow_succ]
    simp only [gG]
    rw [e, Rat.add_mul, ih]; grind
theorem gG_nonneg {z : Rat} (hz : 0 ≤ z) (J : Nat) : 0 ≤ gG z J := by
  induction J with
  | zero => simp [gG]
  | succ j ih => have := r_pow_nonneg hz (2*j); simp only [gG]; grind
theorem aA_nonneg {z : Rat} (hz : 0 ≤ z) (J : Nat) : 0 ≤ aA z J := by
  have h := (aA_step (a := 0) (b := z) (by grind) hz J).1
  have z0 : aA 0 J = 0 := by
    clear h
    induction J with
    | zero => rfl
    | succ j ih => simp only [aA]; rw [ih, Rat.pow_succ]; simp [Rat.div_def, Rat.mul_zero, Rat.zero_mul, Rat.add_zero]
  have g := r_mul_nonneg hz (gG_nonneg (z := 0) (by grind) J)
  rw [z0] at h; grind
theorem aA_zero (J : Nat) : aA 0 J = 0 := by
  induction J with
  | zero => rfl
  | succ j ih => simp only [aA]; rw [ih, Rat.pow_succ]; simp [Rat.div_def, Rat.mul_zero, Rat.zero_mul, Rat.add_zero]
theorem r_limit {x c : Rat} (h : ∀ H : Nat, 0 < H → (H:Rat) * x ≤ c) : x ≤ 0 := by
  rcases Rat.le_total (a := x) (b := 0) with k | k
  · exact k
  · rcases Classical.em (x = 0) with e | e
    · grind
    · exfalso
      have hx : 0 < x := by grind
      have f := Rat.lt_floor_add_one (c / x)
      have b := h ((c / x).floor + 1).toNat.succ (Nat.succ_pos _)
      have n1 : ((((c / x).floor + 1 : Int)) : Rat) ≤ ((((c / x).floor + 1).toNat : Nat) : Rat) := by
        have : ((c / x).floor + 1 : Int) ≤ ((((c / x).floor + 1).toNat : Nat) : Int) := by omega
        exact Rat.intCast_le_intCast.mpr this
      have n2 : (((((c / x).floor + 1).toNat.succ : Nat)) : Rat) = (((((c / x).floor + 1).toNat : Nat)) : Rat) + 1 := cast_succ _
      rw [n2] at b
      generalize (((((c / x).floor + 1).toNat : Nat)) : Rat) = H at *
      generalize (((c / x).floor + 1 : Int) : Rat) = F at *
      have k1 := Rat.mul_lt_mul_of_pos_right (show c / x < H + 1 by grind) hx
      rw [Rat.div_mul_cancel (show x ≠ 0 by grind)] at k1
      grind
/-- steps on a grid add up -/
theorem r_grid {f : Rat → Rat} {A K Z : Rat} (hZ : 0 ≤ Z) (step : ∀ a b : Rat, 0 ≤ a → a ≤ b → b ≤ Z → f b ≤ f a + A * ((b - a) * (b - a)) + K * (b - a)) : f Z ≤ f 0 + K * Z := by
  have key : ∀ H : Nat, 0 < H → (H:Rat) * (f Z - f 0 - K * Z) ≤ A * (Z * Z) := by
    intro H hH
    have hp : (0:Rat) < (H:Rat) := by
      have := Rat.natCast_lt_natCast.mpr hH
      simpa using this
    have ed : (H:Rat) * (Z / (H:Rat)) = Z := by rw [Rat.mul_comm, Rat.div_mul_cancel (by grind)]
    have d0 : 0 ≤ Z / (H:Rat) := by refine r_le_of_mul hp ?_; rw [ed]; grind
    generalize Z / (H:Rat) = d at *
    have all : ∀ i : Nat, i ≤ H → f ((i:Rat) * d) ≤ f 0 + (i:Rat) * (A * (d * d) + K * d) := by
      intro i
      induction i with
      | zero => intro _; simp; grind
      | succ i ih =>
        intro hi
        have h := ih (by omega)
        have ii := nat_cast_nonneg i
        have iH : ((i:Rat)+1) ≤ (H:Rat) := by
          have := Rat.natCast_le_natCast.mpr hi
          rw [cast_succ] at this; exact this
        have a0 := r_mul_nonneg ii d0
        have bZ := r_mul_nonneg (show 0 ≤ (H:Rat) - ((i:Rat)+1) by grind) d0
        have s := step ((i:Rat) * d) (((i:Rat)+1) * d) a0 (by grind) (by grind)
        rw [cast_succ]
        have e : ((i:Rat)+1) * d - (i:Rat) * d = d := by grind
        rw [e] at s
        grind
    have h := all H (Nat.le_refl H)
    rw [ed] at h
    have h2 := r_mul_nonneg (show 0 ≤ (H:Rat) by grind) (show 0 ≤ f 0 + (H:Rat) * (A * (d * d) + K * d) - f Z by grind)
    have e1 : (H:Rat) * ((H:Rat) * (A * (d * d) + K * d)) = A * (Z * Z) + (H:Rat) * (K * Z) := by rw [← ed]; grind
    grind
  have := r_limit key
  grind
noncomputable abbrev JJ : Nat := 160
noncomputable abbrev NN : Nat := 105
noncomputable def LL (z : Rat) : Rat := 2 * aA z 160
noncomputable def FF (z : Rat) : Rat := EE (LL z) 105 * ((1 - z) / (1 + z))
theorem LL_bounds {z : Rat} (h0 : 0 ≤ z) (h1 : z ≤ 13/25) : 0 ≤ LL z ∧ LL z ≤ 3/2 := by
  have a := aA_nonneg h0 160
  have s := (aA_step (a := 0) (b := z) (by grind) h0 160).2
  rw [aA_zero] at s
  have g := gG_sum z 160
  have p := r_pow_nonneg h0 (2*160)
  have n := gG_nonneg h0 160
  have zz := r_mul_le h1 h1 h0 (by grind)
  have q := r_mul_nonneg n (show 0 ≤ (13/25)*(13/25) - z*z by grind)
  unfold LL
  generalize gG z 160 = G at *
  generalize aA z 160 = A at *
  generalize z^(2*160) = w at *
  -- G <= 625/456
  have G1 : G ≤ 625/456 := by grind
  have := r_mul_le h1 G1 h0 (by grind)
  constructor <;> grind
theorem E32 : EE (3/2) 105 ≤ 5 := by decide +kernel
theorem p32 : (pe (3/2) 105) * 10^100 ≤ 1 := by decide +kernel
theorem s32 : ((13/25 : Rat))^(2*160) * 10^90 ≤ 1 := by decide +kernel
theorem r_div_mul {a b : Rat} (h : b ≠ 0) : a / b * b = a := Rat.div_mul_cancel h
theorem FF_mul {z : Rat} (h0 : 0 ≤ z) : FF z * (1 + z) = EE (LL z) 105 * (1 - z) := by
  unfold FF
  rw [Rat.mul_assoc, r_div_mul (by grind)]
theorem FF_bounds {z : Rat} (h0 : 0 ≤ z) (h1 : z ≤ 13/25) : 0 ≤ FF z ∧ FF z ≤ 5 := by
  have l := LL_bounds h0 h1
  have e := EE_mono l.1 l.2 105
  have n := EE_nonneg l.1 105
  have t := E32
  have f := FF_mul h0
  generalize FF z = F at *
  generalize EE (LL z) 105 = E at *
  generalize EE (3/2) 105 = T at *
  have u1 := r_mul_nonneg (show 0 ≤ E by grind) (show 0 ≤ 1 - z by grind)
  have u2 := r_mul_nonneg (show 0 ≤ E by grind) h0
  constructor
  · refine r_le_of_mul (c := 1 + z) (by grind) ?_; grind
  · refine r_le_of_mul (c := 1 + z) (by grind) ?_; grind
theorem LL_step {a b : Rat} (ha : 0 ≤ a) (hab : a ≤ b) (hb : b ≤ 13/25) : 0 ≤ LL b - LL a ∧ (LL b - LL a) * (1 - b*b) ≤ 2 * (b - a) ∧ 2 * (b - a) * (1 - a^(2*160)) ≤ (LL b - LL a) * (1 - a*a) := by
  have s := aA_step ha hab 160
  have ga := gG_sum a 160
  have gb := gG_sum b 160
  have na := gG_nonneg ha 160
  have pb := r_pow_nonneg (show 0 ≤ b by grind) (2*160)
  have zb := r_mul_le hb hb (show 0 ≤ b by grind) (by grind)
  have za := r_mul_le (show a ≤ 13/25 by grind) (show a ≤ 13/25 by grind) ha (by grind)
  unfold LL
  have d0 : 0 ≤ b - a := by grind
  have u1 := r_mul_nonneg (show 0 ≤ (b - a) * gG b 160 - (aA b 160 - aA a 160) by grind) (show 0 ≤ 1 - b*b by grind)
  have u2 := r_mul_nonneg (show 0 ≤ (aA b 160 - aA a 160) - (b - a) * gG a 160 by grind) (show 0 ≤ 1 - a*a by grind)
  have u3 := r_mul_nonneg d0 na
  have u4 := r_mul_nonneg d0 pb
  have e1 : (b - a) * gG b 160 * (1 - b*b) = (b - a) * (1 - b^(2*160)) := by rw [← gb]; grind
  have e2 : (b - a) * gG a 160 * (1 - a*a) = (b - a) * (1 - a^(2*160)) := by rw [← ga]; grind
  generalize aA b 160 = Ab at *
  generalize aA a 160 = Aa at *
  generalize gG b 160 = Gb at *
  generalize gG a 160 = Ga at *
  generalize a^(2*160) = wa at *
  generalize b^(2*160) = wb at *
  refine ⟨by grind, by grind, by grind⟩
theorem FF_up {a b : Rat} (ha : 0 ≤ a) (hab : a ≤ b) (hb : b ≤ 13/25) : FF b ≤ FF a + 45 * ((b - a) * (b - a)) + 0 * (b - a) := by
  have l := LL_step ha hab hb
  have la := LL_bounds ha (show a ≤ 13/25 by grind)
  have es := (EE_step la.1 (show LL a ≤ LL b by grind) 104).2
  have em : EE (LL b) 104 ≤ EE (LL b) 105 := by
    have := pe_nonneg (x := LL b) (by grind) 105
    have e : EE (LL b) 105 = EE (LL b) 104 + pe (LL b) 105 := rfl
    grind
  have lb := LL_bounds (show 0 ≤ b by grind) hb
  have n := EE_nonneg lb.1 105
  have fa := FF_mul ha
  have fb := FF_mul (show 0 ≤ b by grind)
  have bb := FF_bounds (show 0 ≤ b by grind) hb
  rw [show 104 + 1 = 105 by rfl] at es
  have q := r_mul_nonneg l.1 (show 0 ≤ EE (LL b) 105 - EE (LL b) 104 by grind)
  have key : EE (LL b) 105 - EE (LL a) 105 ≤ (LL b - LL a) * EE (LL b) 105 := by grind
  clear es em q
  generalize EE (LL b) 105 = Eb at *
  generalize EE (LL a) 105 = Ea at *
  generalize LL b - LL a = D at *
  generalize FF a = Fa at *
  generalize FF b = Fb at *
  generalize hd : b - a = d at *
  have hbd : b = a + d := by grind
  have d0 : 0 ≤ d := by grind
  -- Ea (1-a)(1+b)(1-b) >= Eb (1-b)(1+a)(1-b)(1 - 9 d^2)
  have u1 := r_mul_nonneg (r_mul_nonneg (show 0 ≤ 1 - a by grind) (r_mul_nonneg (show 0 ≤ 1 + b by grind) (show 0 ≤ 1 - b by grind))) (show 0 ≤ D * Eb - (Eb - Ea) by grind)
  have u2 := r_mul_nonneg (r_mul_nonneg (show 0 ≤ 1 - a by grind) (show 0 ≤ Eb by grind)) (show 0 ≤ 2 * d - D * (1 - b*b) by grind)
  have w1 : Ea * (1 - a) * (1 + b) * (1 - b) ≥ Eb * ((1 - b) * (1 - b) * (1 + a) - 2 * (d * d)) := by
    subst hbd; grind
  have w2 : Eb * (1 - b) * (1 - b) * (1 + a) = Fb * (1 + b) * (1 - b) * (1 + a) := by rw [fb]
  have w3 : Ea * (1 - a) * (1 + b) * (1 - b) = Fa * (1 + a) * (1 + b) * (1 - b) := by rw [fa]
  -- Eb (1-b) = Fb (1+b) <= 5 (1+b)
  have dd := r_mul_nonneg d0 d0
  have v1 : Eb ≤ 5 * (1 + b) * (25/12) := by
    have := r_mul_nonneg (show 0 ≤ 5 - Fb by grind) (show 0 ≤ 1 + b by grind)
    have := r_mul_nonneg (show 0 ≤ Eb by grind) (show 0 ≤ (1 - b) - 12/25 by grind)
    grind
  have v2 := r_mul_nonneg dd (show 0 ≤ 5 * (1 + b) * (25/12) - Eb by grind)
  have P : 0 < (1 + a) * (1 + b) * (1 - b) := Rat.mul_pos (Rat.mul_pos (by grind) (by grind)) (by grind)
  have v3 := r_mul_nonneg (r_mul_nonneg dd (show 0 ≤ 1 + b by grind)) (show 0 ≤ (1 + a) * (1 - b) - 12/25 by
    have := r_mul_nonneg ha (show 0 ≤ 1 - b by grind); grind)
  have w : (1 + a) * (1 + b) * (1 - b) * Fb ≤ (1 + a) * (1 + b) * (1 - b) * Fa + 2 * (d * d * Eb) := by
    have e1 : (1 + a) * (1 + b) * (1 - b) * Fb = Eb * (1 - b) * (1 - b) * (1 + a) := by rw [w2]; grind
    have e2 : (1 + a) * (1 + b) * (1 - b) * Fa = Ea * (1 - a) * (1 + b) * (1 - b) := by rw [w3]; grind
    rw [e1, e2]
    clear fa fb w2 w3 hd hbd
    grind
  refine r_le_of_mul P ?_
  clear fa fb w1 w2 w3 hd hbd u1 u2 key bb l la lb
  have e3 : (1 + a) * (1 + b) * (1 - b) * (Fa + 45 * (d * d) + 0 * d) = (1 + a) * (1 + b) * (1 - b) * Fa + 45 * (d * d * (1 + b) * ((1 + a) * (1 - b))) := by grind
  have e4 : d * d * (1 + b) * ((1 + a) * (1 - b) - 12 / 25) = d * d * (1 + b) * ((1 + a) * (1 - b)) - 12/25 * (d * d * (1 + b)) := by grind
  have e5 : d * d * (5 * (1 + b) * (25 / 12) - Eb) = 125/12 * (d * d * (1 + b)) - d * d * Eb := by grind
  have d1 := r_mul_nonneg dd (show 0 ≤ 1 + b by grind)
  rw [e4] at v3
  rw [e5] at v2
  rw [e3]
  generalize d * d * (1 + b) * ((1 + a) * (1 - b)) = y1 at *
  generalize d * d * (1 + b) = y2 at *
  generalize d * d * Eb = y3 at *
  generalize (1 + a) * (1 + b) * (1 - b) * Fa = y4 at *
  generalize (1 + a) * (1 + b) * (1 - b) * Fb = y5 at *
  grind
noncomputable def eps90 : Rat := 1 / 10^90
theorem eps90_nonneg : 0 ≤ eps90 := by decide +kernel
theorem FF_low {a b : Rat} (ha : 0 ≤ a) (hab : a ≤ b) (hb : b ≤ 13/25) : -FF b ≤ -FF a + 45 * ((b - a) * (b - a)) + 21 * eps90 * (b - a) := by
  have l := LL_step ha hab hb
  have la := LL_bounds ha (show a ≤ 13/25 by grind)
  have es := (EE_step la.1 (show LL a ≤ LL b by grind) 104).1
  have em : EE (LL a) 105 = EE (LL a) 104 + pe (LL a) 105 := rfl
  have n := EE_nonneg la.1 104
  have pn := pe_nonneg la.1 105
  have pm := pe_mono la.1 la.2 105
  have p3 : pe (3/2) 105 ≤ eps90 / 100 := by decide +kernel
  have s3 : ((13/25 : Rat))^(2*160) ≤ eps90 := by decide +kernel
  have sm := r_pow_mono ha (show a ≤ 13/25 by grind) (2*160)
  have sn := r_pow_nonneg ha (2*160)
  have e5 := EE_mono la.1 la.2 105
  have t5 := E32
  have fa := FF_mul ha
  have fb := FF_mul (show 0 ≤ b by grind)
  have bb := FF_bounds ha (show a ≤ 13/25 by grind)
  have ee := eps90_nonneg
  rw [show 104 + 1 = 105 by rfl] at es
  have E5 : EE (LL a) 105 ≤ 5 := by grind
  clear e5 t5
  generalize EE (LL b) 105 = Eb at *
  generalize EE (LL a) 105 = Ea at *
  generalize EE (LL a) 104 = X at *
  generalize LL b - LL a = D at *
  generalize FF a = Fa at *
  generalize FF b = Fb at *
  have p1 : pe (LL a) 105 ≤ eps90 / 100 := by grind
  have s1 : a^(2*160) ≤ eps90 := by grind
  clear p3 s3 sm pm
  generalize pe (LL a) 105 = p at *
  generalize a^(2*160) = s at *
  generalize eps90 = e at *
  generalize hd : b - a = d at *
  have hbd : b = a + d := by grind
  have d0 : 0 ≤ d := by grind
  have dd := r_mul_nonneg d0 d0
  have b1 : 0 ≤ 1 - b := by grind
  -- the chain of four
  have u1 := r_mul_nonneg (r_mul_nonneg b1 (r_mul_nonneg (show 0 ≤ 1 - a by grind) (show 0 ≤ 1 + a by grind))) (show 0 ≤ Eb - Ea - D * X by grind)
  have u2 := r_mul_nonneg (r_mul_nonneg b1 (show 0 ≤ X by grind)) (show 0 ≤ D * (1 - a*a) - 2 * d * (1 - s) by grind)
  have w1 : (1 - b) * (1 - a) * (1 + a) * Eb ≥ Ea * ((1 - a) * (1 - a) * (1 + b)) - 2 * (d * d * Ea) - 2 * (d * (1 - b) * (p + s * X)) := by
    subst em; subst hbd
    clear fa fb hd
    grind
  have v1 : Ea ≤ 5 * (1 + a) * (25/12) := by
    have := r_mul_nonneg (show 0 ≤ 5 - Fa by grind) (show 0 ≤ 1 + a by grind)
    have := r_mul_nonneg (show 0 ≤ Ea by grind) (show 0 ≤ (1 - a) - 12/25 by grind)
    grind
  have v2 := r_mul_nonneg dd (show 0 ≤ 5 * (1 + a) * (25/12) - Ea by grind)
  have sx : s * X ≤ 5 * e := by
    have := r_mul_le s1 (show X ≤ 5 by grind) sn (by grind)
    grind
  have sx0 := r_mul_nonneg sn (show 0 ≤ X by grind)
  have v4 : d * (1 - b) * (p + s * X) ≤ d * (e * (501/100)) := by
    have q := r_mul_nonneg d0 (show 0 ≤ e * (501/100) - (p + s * X) by grind)
    have q2 := r_mul_nonneg (r_mul_nonneg d0 (show 0 ≤ b by grind)) (show 0 ≤ p + s * X by grind)
    grind
  have P : 0 < (1 - a) * (1 + a) * (1 + b) := Rat.mul_pos (Rat.mul_pos (by grind) (by grind)) (by grind)
  have v3 := r_mul_nonneg (r_mul_nonneg dd (show 0 ≤ 1 + a by grind)) (show 0 ≤ (1 + b) * (1 - a) - 12/25 by
    have := r_mul_nonneg (show 0 ≤ b by grind) (show 0 ≤ 1 - a by grind); grind)
  have v5 : 12/25 * (d * e) ≤ (1 - a) * (1 + a) * (1 + b) * (d * e) := by
    have de := r_mul_nonneg d0 ee
    have q1 := r_mul_nonneg (show 0 ≤ 1 - a by grind) ha
    have q2 := r_mul_nonneg (show 0 ≤ (1 - a) * (1 + a) by grind) (show 0 ≤ b by grind)
    have := r_mul_nonneg de (show 0 ≤ (1 - a) * (1 + a) * (1 + b) - 12/25 by grind)
    grind
  have w : (1 - a) * (1 + a) * (1 + b) * Fa ≤ (1 - a) * (1 + a) * (1 + b) * Fb + 2 * (d * d * Ea) + 2 * (d * (1 - b) * (p + s * X)) := by
    have e1 : (1 - a) * (1 + a) * (1 + b) * Fa = Ea * ((1 - a) * (1 - a) * (1 + b)) := by
      rw [show (1 - a) * (1 + a) * (1 + b) * Fa = (1 - a) * (1 + b) * (Fa * (1 + a)) by grind, fa]; grind
    have e2 : (1 - a) * (1 + a) * (1 + b) * Fb = (1 - b) * (1 - a) * (1 + a) * Eb := by
      rw [show (1 - a) * (1 + a) * (1 + b) * Fb = (1 - a) * (1 + a) * (Fb * (1 + b)) by grind, fb]; grind
    rw [e1, e2]
    clear fa fb hd hbd
    grind
  refine r_le_of_mul P ?_
  have e3 : (1 - a) * (1 + a) * (1 + b) * (-Fa + 45 * (d * d) + 21 * e * d) = -((1 - a) * (1 + a) * (1 + b) * Fa) + 45 * (d * d * (1 + a) * ((1 + b) * (1 - a))) + 21 * ((1 - a) * (1 + a) * (1 + b) * (d * e)) := by grind
  have e4 : d * d * (1 + a) * ((1 + b) * (1 - a) - 12 / 25) = d * d * (1 + a) * ((1 + b) * (1 - a)) - 12/25 * (d * d * (1 + a)) := by grind
  have e5 : d * d * (5 * (1 + a) * (25 / 12) - Ea) = 125/12 * (d * d * (1 + a)) - d * d * Ea := by grind
  have e6 : (1 - a) * (1 + a) * (1 + b) * -Fb = -((1 - a) * (1 + a) * (1 + b) * Fb) := by grind
  have e7 : d * (e * (501/100)) = 501/100 * (d * e) := by grind
  have d1 := r_mul_nonneg dd (show 0 ≤ 1 + a by grind)
  have d2 := r_mul_nonneg d0 ee
  rw [e4] at v3
  rw [e5] at v2
  rw [e7] at v4
  rw [e3, e6]
  clear e3 e4 e5 e6 e7 fa fb w1 u1 u2 em es l la hd hbd sx sx0 bb v1 P
  generalize (1 - a) * (1 + a) * (1 + b) * (d * e) = z1 at *
  generalize (1 - a) * (1 + a) * (1 + b) * Fa = z2 at *
  generalize (1 - a) * (1 + a) * (1 + b) * Fb = z3 at *
  generalize d * d * (1 + a) * ((1 + b) * (1 - a)) = z4 at *
  generalize d * d * (1 + a) = z5 at *
  generalize d * d * Ea = z6 at *
  generalize d * (1 - b) * (p + s * X) = z7 at *
  generalize d * e = z8 at *
  grind
theorem FF_zero : FF 0 = 1 := by
  have : LL 0 = 0 := by unfold LL; rw [aA_zero]; grind
  unfold FF
  rw [this]
  decide +kernel
/-- the exponential of the doubled arc is the ratio, but for a tiny part -/
theorem FF_one {z : Rat} (h0 : 0 ≤ z) (h1 : z ≤ 13/25) : FF z ≤ 1 ∧ 1 - 21 * eps90 * z ≤ FF z := by
  have u := r_grid (f := FF) (A := 45) (K := 0) h0 (fun a b ha hab hb => FF_up ha hab (by grind))
  have d := r_grid (f := fun z => -FF z) (A := 45) (K := 21 * eps90) h0 (fun a b ha hab hb => FF_low ha hab (by grind))
  rw [FF_zero] at u
  simp only [FF_zero] at d
  constructor <;> grind
end Mine
open PySem PySem.W PyProof.Rows
namespace Mine
theorem bits_abs {a : Int} {n : Nat} (h1 : a < 2^n) (h2 : -(2^n) < a) : Builtin.Int.intBits a ≤ n := by
  refine intBits_le ?_
  have e : ((2^n : Nat) : Int) = (2:Int)^n := by push_cast; rfl
  have : ((a.natAbs : Nat) : Int) < ((2^n : Nat) : Int) := by rw [e]; omega
  exact Int.ofNat_lt.mp this
theorem bits_ten {P : Int} (h : P ≤ 100) : Builtin.Int.intBits (10^P.toNat) ≤ 400 := by
  have h1 := ten_lt (P := P) (by omega)
  have h2 : (0:Int) < 10^P.toNat := Int.pow_pos (by decide)
  refine bits_abs (Int.lt_trans h1 (by decide +kernel)) ?_
  have : (0:Int) < 2^400 := Int.pow_pos (by decide)
  omega
theorem bits_mulOk {a b : Int} {m n : Nat} (ha : Builtin.Int.intBits a ≤ m) (hb : Builtin.Int.intBits b ≤ n) (h : m + n ≤ 134217728) : IntMulOk a b := mulOk_of_bits ha hb h
theorem pl_of_bits {x y : Int} {n : Nat} (h : Builtin.Int.intBits y ≤ n) (hn : n ≤ 9000) : Builtin.divisionGoesByPylong x y = false := by
  refine PyProof.noPylong_of_log2 ?_
  unfold Builtin.Int.intBits at h
  split at h
  · rename_i h0
    have : y = 0 := by simpa using h0
    subst this; decide +kernel
  · omega
theorem bits_small {a : Int} (h1 : -1000000000000 ≤ a) (h2 : a ≤ 1000000000000) : Builtin.Int.intBits a ≤ 64 := intBits_le_64 (by omega) (by omega)
theorem pow_pos' (k : Nat) : (0:Int) < 10^k := Int.pow_pos (by decide)
theorem pow_ne' (k : Nat) : (10:Int)^k ≠ 0 := by have := pow_pos' k; omega
theorem add_pow_ne {m : Int} {k : Nat} (h : 1 ≤ m) : m + 10^k ≠ 0 := by have := pow_pos' k; omega
-- exp_fixed
structure ExpInv (n P : Int) (total term k : Int) : Prop where
  pre : ExpPre n P
  h : ∃ j : Nat, k = j+1 ∧ j ≤ 130 ∧ term = expT n (ten P) j ∧ total = expS n (ten P) j
theorem expInv_start {n P : Int} (h : ExpPre n P) : ExpInv n P (10^P.toNat) (10^P.toNat) 1 := ⟨h, 0, by simp, by decide, rfl, rfl⟩
theorem expT_zero {n P : Int} (h : ExpPre n P) {i : Nat} (hi : P + 16 ≤ i) : expT n (ten P) i = 0 := by
  obtain ⟨h0, h1, h2, h3⟩ := h
  have e := expT_end (n := n) (p := P.toNat) h2 h3
  have := expT_stay e (i - (P.toNat + 16))
  rw [show P.toNat + 16 + (i - (P.toNat + 16)) = i by omega] at this
  exact this
theorem expInv_j {n P : Int} (h : ExpPre n P) {j : Nat} (h0 : expT n (ten P) j ≠ 0) : j < 116 := by
  rcases Nat.lt_or_ge j 116 with hj | hj
  · exact hj
  · exact absurd (expT_zero h (i := j) (by have := h.2.1; omega)) h0
theorem expInv_step {n P total term k : Int} (h : ExpInv n P total term k) (h0 : term ≠ 0) : ExpInv n P (total + (term * n).fdiv (10^P.toNat * k)) ((term * n).fdiv (10^P.toNat * k)) (k+1) := by
  obtain ⟨hp, j, rfl, hj, rfl, rfl⟩ := h
  have := expInv_j hp h0
  exact ⟨hp, j+1, by push_cast; rfl, by omega, rfl, rfl⟩
theorem expInv_end {n P total term k : Int} (h : ExpInv n P total term k) (h0 : term = 0) : total = expFixed n P := by
  obtain ⟨hp, j, rfl, hj, rfl, rfl⟩ := h
  have := expS_stay h0 (130 - j)
  rw [show j + (130 - j) = 130 by omega] at this
  rw [expFixed_def]; exact this.symm
theorem expInv_k {n P total term k : Int} (h : ExpInv n P total term k) (h0 : term ≠ 0) : 1 ≤ k ∧ k ≤ 130 := by
  obtain ⟨hp, j, rfl, hj, rfl, rfl⟩ := h
  have := expInv_j hp h0
  omega
theorem expPre_bits {n P : Int} (h : ExpPre n P) : Builtin.Int.intBits n ≤ 401 := by
  have h1 := ten_lt (P := P) (by omega)
  have e : (2:Int)^401 = 4 * 2^399 := by decide +kernel
  refine bits_abs ?_ ?_ <;> omega
theorem expT_bits {n P : Int} (h : ExpPre n P) (j : Nat) : Builtin.Int.intBits (expT n (ten P) j) ≤ 401 := by
  have h1 := ten_lt (P := P) (by omega)
  have h2 := expT_bound (ten_pos P) h.2.2.1 h.2.2.2 j
  have e : (2:Int)^401 = 4 * 2^399 := by decide +kernel
  refine bits_abs ?_ ?_ <;> omega
theorem expInv_mul {n P total term k : Int} (h : ExpInv n P total term k) : IntMulOk term n := by
  obtain ⟨hp, j, rfl, hj, rfl, rfl⟩ := h
  exact mulOk_of_bits (expT_bits hp j) (expPre_bits hp) (by decide)
theorem expInv_mul2 {n P total term k : Int} (h : ExpInv n P total term k) : IntMulOk (10^P.toNat) k := by
  obtain ⟨hp, j, rfl, hj, rfl, rfl⟩ := h
  exact IntMulOk.of_right (bits_small (by omega) (by omega))
theorem expInv_ne {n P total term k : Int} (h : ExpInv n P total term k) : (10:Int)^P.toNat * k ≠ 0 := by
  obtain ⟨hp, j, rfl, hj, rfl, rfl⟩ := h
  have := Int.mul_pos (ten_pos P) (show (0:Int) < j+1 by omega)
  exact fun e => by rw [e] at this; omega
theorem expInv_pl {n P total term k x : Int} (h : ExpInv n P total term k) : Builtin.divisionGoesByPylong x ((10:Int)^P.toNat * k) = false := by
  obtain ⟨hp, j, rfl, hj, rfl, rfl⟩ := h
  exact pl_of_bits (bits_mul (bits_ten hp.2.1) (bits_small (a := (j:Int)+1) (by omega) (by omega))) (by decide)
-- inverse_series
structure InvInv (d P turn : Int) (term total sign n : Int) : Prop where
  pre : InvPre d P turn
  h : ∃ j : Nat, n = 2*(j:Int)+1 ∧ j ≤ 200 ∧ sign = turn^j ∧ term = invT d (ten P) j ∧ total = invS d (ten P) turn j
theorem invInv_start {d P turn : Int} (h : InvPre d P turn) : InvInv d P turn ((10^P.toNat : Int).fdiv d) 0 1 1 := ⟨h, 0, by simp, by decide, by simp, rfl, rfl⟩
theorem invT_end {d P turn : Int} (h : InvPre d P turn) {i : Nat} (hi : 199 ≤ i) : invT d (ten P) i = 0 := by
  have e := invT_zero h.1 (Int.le_of_lt (ten_pos P)) (ten_lt h.2.2.2.1)
  have := invT_stay e (i - 199)
  rw [show 199 + (i - 199) = i by omega] at this
  exact this
theorem invInv_j {d P turn : Int} (h : InvPre d P turn) {j : Nat} (h0 : 0 < invT d (ten P) j) : j < 199 := by
  rcases Nat.lt_or_ge j 199 with hj | hj
  · exact hj
  · have := invT_end h hj; omega
theorem invInv_step {d P turn term total sign n : Int} (h : InvInv d P turn term total sign n) (h0 : term > 0) :
  InvInv d P turn (term.fdiv (d*d)) (total + sign * (term.fdiv n)) (sign * turn) (n+2) := by
  obtain ⟨hp, j, rfl, hj, rfl, rfl, rfl⟩ := h
  have := invInv_j hp h0
  exact ⟨hp, j+1, by push_cast; omega, by omega, by rw [Int.pow_succ], rfl, rfl⟩
theorem invInv_end {d P turn term total sign n : Int} (h : InvInv d P turn term total sign n) (h0 : ¬ 0 < term) : total = invSeries d P turn := by
  obtain ⟨hp, j, rfl, hj, rfl, rfl, rfl⟩ := h
  have := invT_nonneg hp.1 (Int.le_of_lt (ten_pos P)) j
  have := invS_stay (turn := turn) (show invT d (ten P) j = 0 by omega) (200 - j)
  rw [show j + (200 - j) = 200 by omega] at this
  rw [invSeries_def]; exact this.symm
theorem invInv_k {d P turn term total sign n : Int} (h : InvInv d P turn term total sign n) (h0 : 0 < term) : 1 ≤ n ∧ n ≤ 399 := by
  obtain ⟨hp, j, rfl, hj, rfl, rfl, rfl⟩ := h
  have := invInv_j hp h0
  omega
theorem turn_pow {turn : Int} (h : turn = 1 ∨ turn = -1) (j : Nat) : turn^j = 1 ∨ turn^j = -1 := by
  induction j with
  | zero => simp
  | succ j ih => rw [Int.pow_succ]; rcases h with h | h <;> rcases ih with i | i <;> rw [i, h] <;> simp
theorem one_bits {t : Int} (h : t = 1 ∨ t = -1) : Builtin.Int.intBits t ≤ 64 := bits_small (by omega) (by omega)
theorem invInv_mul {d P turn term total sign n x : Int} (h : InvInv d P turn term total sign n) : IntMulOk sign x := by
  obtain ⟨hp, j, rfl, hj, rfl, rfl, rfl⟩ := h
  exact IntMulOk.of_left (one_bits (turn_pow hp.2.2.2.2 j))
theorem invInv_mul2 {d P turn x : Int} (h : InvPre d P turn) : IntMulOk x turn := IntMulOk.of_right (one_bits h.2.2.2.2)
theorem invInv_mul3 {d P turn x : Int} (h : InvPre d P turn) : IntMulOk d x := IntMulOk.of_left (bits_small (by omega) (by omega))
theorem invInv_ne {d P turn term total sign n : Int} (h : InvInv d P turn term total sign n) : n ≠ 0 := by
  obtain ⟨hp, j, rfl, hj, rfl, rfl, rfl⟩ := h
  omega
theorem invInv_ne2 {d P turn : Int} (h : InvPre d P turn) : d * d ≠ 0 := by
  have := Int.mul_pos (show 0 < d by omega) (show 0 < d by omega)
  omega
theorem invInv_pl {d P turn term total sign n x : Int} (h : InvInv d P turn term total sign n) : Builtin.divisionGoesByPylong x n = false := by
  obtain ⟨hp, j, rfl, hj, rfl, rfl, rfl⟩ := h
  exact pl_of_bits (bits_small (by omega) (by omega)) (by decide)
theorem invInv_pl2 {d P turn x : Int} (h : InvPre d P turn) : Builtin.divisionGoesByPylong x (d*d) = false := by
  have b := bits_small (a := d) (by omega) (by omega)
  exact pl_of_bits (bits_mul b b) (by decide)
-- _law_sum
structure SumInv (d turn P : Int) (found k power : Int) : Prop where
  pre : SumPre d turn P
  h : ∃ j : Nat, k = j ∧ j ≤ 200 ∧ power = d^(2*j+1) ∧ found = lsS d turn (ten P) j
theorem sumInv_start {d turn P : Int} (h : SumPre d turn P) : SumInv d turn P 0 0 d := ⟨h, 0, rfl, by decide, by simp [Int.pow_one], rfl⟩
theorem sumInv_j {d turn P : Int} (h : SumPre d turn P) {j : Nat} (h0 : d^(2*j+1) ≤ ten P) : j < 199 := by
  rcases Nat.lt_or_ge j 199 with hj | hj
  · exact hj
  · have h1 := ten_lt (P := P) h.2.2.2.1
    have h2 := dpow_two h.1 (2*j+1)
    have h3 : (2:Int)^399 ≤ 2^(2*j+1) := by
      obtain ⟨k, e⟩ : ∃ k, 2*j+1 = 399 + k := ⟨2*j+1-399, by omega⟩
      rw [e, Int.pow_add]
      have h1 : (0:Int) < 2^399 := Int.pow_pos (by decide)
      have h2 : (0:Int) < 2^k := Int.pow_pos (by decide)
      have := Int.mul_le_mul_of_nonneg_left (show 1 ≤ (2:Int)^k by omega) (Int.le_of_lt h1)
      omega
    omega
theorem sumInv_step {d turn P found k power : Int} (h : SumInv d turn P found k power) (h0 : power ≤ 10^P.toNat) :
  SumInv d turn P (found + turn^k.toNat * ((10^P.toNat : Int).fdiv ((2*k+1)*power))) (k+1) (power*d*d) := by
  obtain ⟨hp, j, rfl, hj, rfl, rfl⟩ := h
  have := sumInv_j hp h0
  refine ⟨hp, j+1, by push_cast; rfl, by omega, ?_, ?_⟩
  · have e : d^(2*j+1+1+1) = d^(2*j+1)*d*d := by rw [Int.pow_succ d (2*j+1+1), Int.pow_succ d (2*j+1)]
    exact e.symm
  · simp only [lsS, Int.toNat_natCast]
theorem lsS_stay {d turn P : Int} (h : SumPre d turn P) {j : Nat} (h0 : ¬ d^(2*j+1) ≤ ten P) (i : Nat) : lsS d turn (ten P) (j+i) = lsS d turn (ten P) j := by
  have hz : ∀ i : Nat, ten P < d^(2*(j+i)+1) := fun i => by
    rw [show 2*(j+i)+1 = 2*j+1 + 2*i by omega, Int.pow_add]
    have h1 := dpow_pos h.1 (2*i)
    have h2 := dpow_pos h.1 (2*j+1)
    have := Int.mul_le_mul_of_nonneg_left (show 1 ≤ d^(2*i) by omega) (Int.le_of_lt h2)
    omega
  induction i with
  | zero => rfl
  | succ i ih =>
    rw [show j + (i+1) = j + i + 1 by omega]
    simp only [lsS]
    have h3 := hz i
    have h2 := dpow_pos h.1 (2*(j+i)+1)
    have := Int.mul_le_mul_of_nonneg_right (show 1 ≤ 2*((j+i:Nat):Int)+1 by omega) (Int.le_of_lt h2)
    rw [ih, fd_eq_zero (Int.le_of_lt (ten_pos P)) (by omega), Int.mul_zero, Int.add_zero]
theorem sumInv_end {d turn P found k power : Int} (h : SumInv d turn P found k power) (h0 : ¬ power ≤ 10^P.toNat) : found = lawSum d turn P := by
  obtain ⟨hp, j, rfl, hj, rfl, rfl⟩ := h
  have := lsS_stay hp h0 (200 - j)
  rw [show j + (200 - j) = 200 by omega] at this
  rw [lawSum_def]; exact this.symm
theorem sumInv_k {d turn P found k power : Int} (h : SumInv d turn P found k power) (h0 : power ≤ 10^P.toNat) : 0 ≤ k ∧ k ≤ 199 := by
  obtain ⟨hp, j, rfl, hj, rfl, rfl⟩ := h
  have := sumInv_j hp h0
  omega
theorem sumInv_k0 {d turn P found k power : Int} (h : SumInv d turn P found k power) : 0 ≤ k := by
  obtain ⟨hp, j, rfl, hj, rfl, rfl⟩ := h
  omega
theorem sumInv_mul {d turn P found k power x : Int} (h : SumInv d turn P found k power) : IntMulOk (2*k+1) x := by
  obtain ⟨hp, j, rfl, hj, rfl, rfl⟩ := h
  exact IntMulOk.of_left (bits_small (by omega) (by omega))
theorem sumInv_mul2 {d turn P found k power x : Int} (h : SumInv d turn P found k power) : IntMulOk (turn^k.toNat) x := IntMulOk.of_left (one_bits (turn_pow h.pre.2.2.2.2 _))
theorem sumInv_mul3 {d turn P x : Int} (h : SumPre d turn P) : IntMulOk x d := IntMulOk.of_right (bits_small (by omega) (by omega))
theorem sumInv_mul4 {d turn P found k power x : Int} (h : SumInv d turn P found k power) : IntMulOk x k := by
  obtain ⟨hp, j, rfl, hj, rfl, rfl⟩ := h
  exact IntMulOk.of_right (bits_small (by omega) (by omega))
theorem sumInv_mul5 {d turn P found k power x : Int} (h : SumInv d turn P found k power) : IntMulOk k x := by
  obtain ⟨hp, j, rfl, hj, rfl, rfl⟩ := h
  exact IntMulOk.of_left (bits_small (by omega) (by omega))
theorem sumInv_ne {d turn P found k power : Int} (h : SumInv d turn P found k power) : (2*k+1)*power ≠ 0 := by
  obtain ⟨hp, j, rfl, hj, rfl, rfl⟩ := h
  have := Int.mul_pos (show 0 < 2*(j:Int)+1 by omega) (dpow_pos hp.1 (2*j+1))
  omega
theorem dpow_bits {d : Int} (h : 2 ≤ d ∧ d ≤ 400) (k : Nat) : Builtin.Int.intBits (d^k) ≤ 9*k+1 := by
  have : ∀ k : Nat, d^k ≤ 2^(9*k) := fun k => by
    induction k with
    | zero => simp
    | succ k ih =>
      rw [Int.pow_succ, show 9*(k+1) = 9*k+9 by omega, Int.pow_add]
      exact Int.mul_le_mul ih (by omega) (by omega) (Int.pow_nonneg (by decide))
  have h1 := this k
  have h2 := dpow_pos h.1 k
  have e : (2:Int)^(9*k+1) = 2 * 2^(9*k) := by rw [Int.pow_succ, Int.mul_comm]
  exact bits_abs (by omega) (by omega)
theorem sumInv_pl {d turn P found k power x : Int} (h : SumInv d turn P found k power) : Builtin.divisionGoesByPylong x ((2*k+1)*power) = false := by
  obtain ⟨hp, j, rfl, hj, rfl, rfl⟩ := h
  exact pl_of_bits (n := 3700) (Nat.le_trans (bits_mul (bits_small (a := 2*(j:Int)+1) (by omega) (by omega)) (dpow_bits ⟨hp.1, hp.2.1⟩ (2*j+1))) (by omega)) (by decide)
theorem sumInv_pw {d turn P : Int} (h : SumPre d turn P) : (Builtin.Int.intBits 10 : Int) * P ≤ 2^27 := by
  have : (Builtin.Int.intBits 10) = 4 := by decide
  rw [this]; omega
theorem sumInv_pw2 {d turn P found k power : Int} (h : SumInv d turn P found k power) : (Builtin.Int.intBits turn : Int) * k ≤ 2^27 := by
  obtain ⟨hp, j, rfl, hj, rfl, rfl⟩ := h
  have h1 := one_bits hp.2.2.2.2
  have := Int.mul_le_mul_of_nonneg_right (show (Builtin.Int.intBits turn : Int) ≤ 64 by omega) (show (0:Int) ≤ j by omega)
  omega
-- count_digits
structure DigInv (n n' count : Int) : Prop where
  h : 0 ≤ n' ∧ n' < 1000000000 ∧ count + digs n' = digs n
theorem digInv_start {n : Int} (h : 1 ≤ n ∧ n < 1000000000) : DigInv n (if n < 0 then -n else n) 0 := by
  rw [if_neg (by omega)]; exact ⟨by omega, by omega, by omega⟩
theorem dg_more : ∀ (k : Nat) (m : Int), m < 10 ^ k → dg (k + 1) m = dg k m
  | 0, m, h => by
    rw [Int.pow_zero] at h
    show (if m ≤ 0 then 0 else dg 0 (m / 10) + 1) = 0
    rw [if_pos (by omega)]
  | k+1, m, h => by
    rw [Int.pow_succ] at h
    have ih := dg_more k (m / 10) (by omega)
    show (if m ≤ 0 then 0 else dg (k+1) (m / 10) + 1) = if m ≤ 0 then 0 else dg k (m / 10) + 1
    rw [ih]
theorem digs_step {n : Int} (h : 0 < n) (h2 : n < 1000000000) : digs (n / 10) + 1 = digs n := by
  rw [digs_def, digs_def]
  have e := dg_more 8 (n / 10) (by omega)
  rw [e]
  show _ = if n ≤ 0 then 0 else dg 8 (n / 10) + 1
  rw [if_neg (by omega)]
theorem digInv_step {n n' count : Int} (h : DigInv n n' count) (h0 : n' > 0) : DigInv n (n'.fdiv 10) (count+1) := by
  obtain ⟨h1, h2, h3⟩ := h
  rw [Int.fdiv_eq_ediv_of_nonneg _ (by decide)]
  have := digs_step h0 h2
  exact ⟨by omega, by omega, by omega⟩
theorem digInv_step9 {n n' count : Int} (h : DigInv n n' count) (h0 : 1000000000 ≤ n') : DigInv n (n'.fdiv 1000000000) (count+9) := by
  obtain ⟨h1, h2, h3⟩ := h; omega
theorem digInv_less {n n' count : Int} (h : DigInv n n' count) (h0 : n' > 0) : (n'.fdiv 10).toNat < n'.toNat := by
  rw [Int.fdiv_eq_ediv_of_nonneg _ (by decide)]; omega
theorem digInv_less9 {n n' count : Int} (h : DigInv n n' count) (h0 : 1000000000 ≤ n') : (n'.fdiv 1000000000).toNat < n'.toNat := by
  obtain ⟨h1, h2, h3⟩ := h; omega
theorem digInv_end {n n' count : Int} (h : DigInv n n' count) (h0 : ¬ 0 < n') : count = digs n := by
  obtain ⟨h1, h2, h3⟩ := h
  have : n' = 0 := by omega
  subst this
  have e : digs 0 = 0 := by rw [digs_def]; rfl
  omega
section
variable {q one f t0 : Int} (ho : 0 < one) (hq0 : 0 ≤ q) (hq : q ≤ one) (hf : f = 0 ∨ f = 1) (h0 : 0 ≤ t0) (h1 : t0 ≤ one)
include ho hq0 hq hf h0 h1
theorem wv_den (j : Nat) : 2*one ≤ one * (f + 2*(j:Int) + 1) * (f + 2*(j:Int) + 2) := by
  have a : 1 ≤ f + 2*(j:Int) + 1 := by omega
  have b : 2 ≤ f + 2*(j:Int) + 2 := by omega
  generalize f + 2*(j:Int) + 1 = x at *
  generalize f + 2*(j:Int) + 2 = y at *
  have := Int.mul_le_mul_of_nonneg_left a (Int.le_of_lt ho)
  have := Int.mul_le_mul (show one ≤ one * x by omega) b (by omega) (by omega)
  omega
theorem wvT_nonneg (j : Nat) : 0 ≤ wvT q one f t0 j := by
  induction j with
  | zero => exact h0
  | succ j ih => simp only [wvT]; exact fd_nonneg (Int.mul_nonneg ih hq0) (by have := wv_den ho hq0 hq hf h0 h1 j; omega)
/-- a term is half the one before it at the most -/
theorem wvT_half (j : Nat) : 2 * wvT q one f t0 (j+1) ≤ wvT q one f t0 j := by
  have hd := wv_den ho hq0 hq hf h0 h1 j
  have hT := wvT_nonneg ho hq0 hq hf h0 h1 j
  simp only [wvT]
  have l := fd_lo (wvT q one f t0 j * q) (b := one * (f + 2*(j:Int) + 1) * (f + 2*(j:Int) + 2)) (by omega)
  have n := fd_nonneg (Int.mul_nonneg hT hq0) (b := one * (f + 2*(j:Int) + 1) * (f + 2*(j:Int) + 2)) (by omega)
  generalize (wvT q one f t0 j * q).fdiv (one * (f + 2*(j:Int) + 1) * (f + 2*(j:Int) + 2)) = y at *
  generalize one * (f + 2*(j:Int) + 1) * (f + 2*(j:Int) + 2) = D at *
  generalize wvT q one f t0 j = x at *
  refine Int.le_of_mul_le_mul_left (a := one) ?_ ho
  have a1 := Int.mul_le_mul_of_nonneg_right hd n
  have a2 := Int.mul_le_mul_of_nonneg_left hq hT
  grind
theorem wvT_pow (j : Nat) : 2^j * wvT q one f t0 j ≤ t0 := by
  induction j with
  | zero => simp [wvT]
  | succ j ih =>
    have h := wvT_half ho hq0 hq hf h0 h1 j
    have hp : (0:Int) < 2^j := Int.pow_pos (by decide)
    have := Int.mul_le_mul_of_nonneg_left h (Int.le_of_lt hp)
    rw [Int.pow_succ]
    grind
theorem wvT_le (j : Nat) : wvT q one f t0 j ≤ one := by
  have h := wvT_pow ho hq0 hq hf h0 h1 j
  have hp : (0:Int) < 2^j := Int.pow_pos (by decide)
  have := wvT_nonneg ho hq0 hq hf h0 h1 j
  have := Int.mul_le_mul_of_nonneg_right (show 1 ≤ (2:Int)^j by omega) this
  omega
theorem wvT_hund {j : Nat} (hj : 5 ≤ j) : 100 * wvT q one f t0 (j+1) ≤ wvT q one f t0 j := by
  have hd : 100*one ≤ one * (f + 2*(j:Int) + 1) * (f + 2*(j:Int) + 2) := by
    have a : 11 ≤ f + 2*(j:Int) + 1 := by omega
    have b : 12 ≤ f + 2*(j:Int) + 2 := by omega
    generalize f + 2*(j:Int) + 1 = x at *
    generalize f + 2*(j:Int) + 2 = y at *
    have := Int.mul_le_mul_of_nonneg_left a (Int.le_of_lt ho)
    have := Int.mul_le_mul (show 11*one ≤ one * x by omega) b (by omega) (by omega)
    omega
  have hT := wvT_nonneg ho hq0 hq hf h0 h1 j
  simp only [wvT]
  have l := fd_lo (wvT q one f t0 j * q) (b := one * (f + 2*(j:Int) + 1) * (f + 2*(j:Int) + 2)) (by omega)
  have n := fd_nonneg (Int.mul_nonneg hT hq0) (b := one * (f + 2*(j:Int) + 1) * (f + 2*(j:Int) + 2)) (by omega)
  generalize (wvT q one f t0 j * q).fdiv (one * (f + 2*(j:Int) + 1) * (f + 2*(j:Int) + 2)) = y at *
  generalize one * (f + 2*(j:Int) + 1) * (f + 2*(j:Int) + 2) = D at *
  generalize wvT q one f t0 j = x at *
  refine Int.le_of_mul_le_mul_left (a := one) ?_ ho
  have a1 := Int.mul_le_mul_of_nonneg_right hd n
  have a2 := Int.mul_le_mul_of_nonneg_left hq hT
  grind
theorem wvT_hpow (i : Nat) : 100^i * wvT q one f t0 (5+i) ≤ one := by
  induction i with
  | zero => have := wvT_le ho hq0 hq hf h0 h1 5; simp; exact this
  | succ i ih =>
    have h := wvT_hund ho hq0 hq hf h0 h1 (j := 5+i) (by omega)
    have hp : (0:Int) < 100^i := Int.pow_pos (by decide)
    have := Int.mul_le_mul_of_nonneg_left h (Int.le_of_lt hp)
    rw [Int.pow_succ, show 5 + (i+1) = 5+i+1 by omega]
    grind
theorem wvT_end (hb : one ≤ 10^100) : wvT q one f t0 56 = 0 := by
  have h := wvT_hpow ho hq0 hq hf h0 h1 51
  have n := wvT_nonneg ho hq0 hq hf h0 h1 56
  rw [show 5+51 = 56 by rfl] at h
  rcases Int.lt_or_le (wvT q one f t0 56) 1 with c | c
  · omega
  · have := Int.mul_le_mul_of_nonneg_left c (show (0:Int) ≤ 100^51 from Int.pow_nonneg (by decide))
    have e : (10:Int)^100 < 100^51 * 1 := by decide +kernel
    omega
end
theorem wvT_stay {q one f t0 : Int} {i : Nat} (h : wvT q one f t0 i = 0) (j : Nat) : wvT q one f t0 (i+j) = 0 := by
  induction j with
  | zero => exact h
  | succ j ih => rw [show i + (j+1) = i + j + 1 by omega]; simp only [wvT]; rw [ih, Int.zero_mul]; exact fd_zero _
theorem wvS_stay {q one f t0 sg : Int} {i : Nat} (h : wvT q one f t0 i = 0) (j : Nat) : wvS q one f t0 sg (i+j) = wvS q one f t0 sg i := by
  induction j with
  | zero => rfl
  | succ j ih => rw [show i + (j+1) = i + j + 1 by omega]; simp only [wvS]; rw [ih, wvT_stay h, Int.mul_zero, Int.add_zero]
-- the walk's invariant
structure WvInv (f t0 sg r P : Int) (total term sign k : Int) : Prop where
  pre : WavePre r P
  hf : f = 0 ∨ f = 1
  ht : 0 ≤ t0 ∧ t0 ≤ ten P
  hs : sg = 1 ∨ sg = -1
  h : ∃ j : Nat, k = 2*(j:Int)+f ∧ j ≤ 60 ∧ sign = sg * (-1)^j ∧ term = wvT ((r*r).fdiv (ten P)) (ten P) f t0 j ∧ total = wvS ((r*r).fdiv (ten P)) (ten P) f t0 sg j
theorem sinInv_start1 {r P : Int} (h : WavePre r P) (h0 : r < 0) : WvInv 1 (if r < 0 then -r else r) (if r < 0 then -1 else 1) r P 0 (if r < 0 then -r else r) (-1) 1 :=
  ⟨h, .inr rfl, by rw [if_pos h0]; omega, by rw [if_pos h0]; exact .inr rfl, 0, by simp, by decide, by rw [if_pos h0]; simp, rfl, rfl⟩
theorem sinInv_start2 {r P : Int} (h : WavePre r P) (h0 : ¬ r < 0) : WvInv 1 (if r < 0 then -r else r) (if r < 0 then -1 else 1) r P 0 (if r < 0 then -r else r) 1 1 :=
  ⟨h, .inr rfl, by rw [if_neg h0]; omega, by rw [if_neg h0]; exact .inl rfl, 0, by simp, by decide, by rw [if_neg h0]; simp, rfl, rfl⟩
theorem cosInv_start {r P : Int} (h : WavePre r P) : WvInv 0 (ten P) 1 r P 0 (10^P.toNat) 1 0 :=
  ⟨h, .inl rfl, ⟨Int.le_of_lt (ten_pos P), Int.le_refl _⟩, .inl rfl, 0, by simp, by decide, by simp, rfl, rfl⟩
theorem wvSq {r P : Int} (h : WavePre r P) : 0 ≤ (r*r).fdiv (ten P) ∧ (r*r).fdiv (ten P) ≤ ten P := by
  obtain ⟨_, _, h1, h2⟩ := h
  have ho := ten_pos P
  have hsq : 0 ≤ r*r := by
    rcases Int.le_total 0 r with c | c
    · exact Int.mul_nonneg c c
    · have := Int.mul_nonneg (show 0 ≤ -r by omega) (show 0 ≤ -r by omega)
      grind
  have n := fd_nonneg hsq ho
  have l := fd_lo (r*r) ho
  refine ⟨n, ?_⟩
  generalize ten P = o at *
  generalize (r*r).fdiv o = y at *
  refine Int.le_of_mul_le_mul_left (a := o) ?_ ho
  have := Int.mul_nonneg (show 0 ≤ o - r by omega) (show 0 ≤ o + r by omega)
  grind
section
variable {f t0 sg r P total term sign k : Int} (h : WvInv f t0 sg r P total term sign k)
include h
theorem wvInv_j {j : Nat} (h0 : 0 < wvT ((r*r).fdiv (ten P)) (ten P) f t0 j) : j < 56 := by
  obtain ⟨hp, hf, ht, hs, _⟩ := h
  rcases Nat.lt_or_ge j 56 with c | c
  · exact c
  · have hb : ten P ≤ 10^100 := ipow_mono (by omega)
    have e := wvT_end (ten_pos P) (wvSq hp).1 (wvSq hp).2 hf ht.1 ht.2 hb
    have := wvT_stay e (j - 56)
    rw [show 56 + (j - 56) = j by omega] at this
    omega
theorem wvInv_step (h0 : term > 0) :
  WvInv f t0 sg r P (total + sign*term) ((term * (r*r).fdiv (10^P.toNat)).fdiv (10^P.toNat * (k+1) * (k+2))) (-sign) (k+2) := by
  have h' := h
  obtain ⟨hp, hf, ht, hs, j, rfl, hj, rfl, rfl, rfl⟩ := h
  have := wvInv_j h' h0
  refine ⟨hp, hf, ht, hs, j+1, by push_cast; omega, by omega, by rw [Int.pow_succ]; grind, ?_, ?_⟩
  · simp only [wvT]
    rw [show 2*(j:Int)+f+1 = f+2*(j:Int)+1 by omega, show 2*(j:Int)+f+2 = f+2*(j:Int)+2 by omega]
  · simp only [wvS]
theorem wvInv_k (h0 : term > 0) : 0 ≤ k ∧ k ≤ 199 := by
  have h' := h
  obtain ⟨hp, hf, ht, hs, j, rfl, hj, rfl, rfl, rfl⟩ := h
  have := wvInv_j h' h0
  omega
theorem wvInv_end (h0 : ¬ 0 < term) : total = wvS ((r*r).fdiv (ten P)) (ten P) f t0 sg 60 := by
  obtain ⟨hp, hf, ht, hs, j, rfl, hj, rfl, rfl, rfl⟩ := h
  have := wvT_nonneg (ten_pos P) (wvSq hp).1 (wvSq hp).2 hf ht.1 ht.2 j
  have := wvS_stay (sg := sg) (show wvT ((r*r).fdiv (ten P)) (ten P) f t0 j = 0 by omega) (60 - j)
  rw [show j + (60 - j) = 60 by omega] at this
  exact this.symm
theorem wvInv_mul1 {x : Int} : IntMulOk sign x := by
  obtain ⟨hp, hf, ht, hs, j, rfl, hj, rfl, rfl, rfl⟩ := h
  have : (-1:Int)^j = 1 ∨ (-1:Int)^j = -1 := by
    clear hj; induction j with
    | zero => simp
    | succ j ih => rw [Int.pow_succ]; rcases ih with i | i <;> rw [i] <;> simp
  refine IntMulOk.of_left (intBits_le_64 ?_ ?_) <;> rcases hs with e | e <;> rcases this with i | i <;> rw [e, i] <;> decide
end
theorem wv_bits {P x : Int} (hP : P ≤ 100) (h0 : 0 ≤ x) (h1 : x ≤ ten P) : Builtin.Int.intBits x ≤ 400 := by
  have h := ten_lt (P := P) (by omega)
  refine bits_abs (Int.lt_of_le_of_lt h1 (Int.lt_trans h (by decide +kernel))) ?_
  have : (0:Int) < 2^400 := Int.pow_pos (by decide)
  omega
section
variable {f t0 sg r P total term sign k : Int}
theorem wvInv_mul0 (h : WavePre r P) : IntMulOk r r := by
  have h1 := ten_lt (P := P) (by omega)
  have e : (2:Int)^401 = 4 * 2^399 := by decide +kernel
  have b : Builtin.Int.intBits r ≤ 401 := by refine bits_abs ?_ ?_ <;> omega
  exact mulOk_of_bits b b (by decide)
theorem wvInv_mul2 (h : WvInv f t0 sg r P total term sign k) : IntMulOk term ((r*r).fdiv (10^P.toNat)) := by
  obtain ⟨hp, hf, ht, hs, j, rfl, hj, rfl, rfl, rfl⟩ := h
  exact mulOk_of_bits (wv_bits hp.2.1 (wvT_nonneg (ten_pos P) (wvSq hp).1 (wvSq hp).2 hf ht.1 ht.2 j) (wvT_le (ten_pos P) (wvSq hp).1 (wvSq hp).2 hf ht.1 ht.2 j)) (wv_bits hp.2.1 (wvSq hp).1 (wvSq hp).2) (by decide)
theorem wvInv_kb (h : WvInv f t0 sg r P total term sign k) : 0 ≤ k ∧ k ≤ 121 := by
  obtain ⟨hp, hf, ht, hs, j, rfl, hj, rfl, rfl, rfl⟩ := h
  omega
theorem wvInv_mul3 {x : Int} (h : WvInv f t0 sg r P total term sign k) : IntMulOk x (k+1) := by
  have := wvInv_kb h; exact IntMulOk.of_right (bits_small (by omega) (by omega))
theorem wvInv_mul4 {x : Int} (h : WvInv f t0 sg r P total term sign k) : IntMulOk x (k+2) := by
  have := wvInv_kb h; exact IntMulOk.of_right (bits_small (by omega) (by omega))
theorem wvInv_ne (h : WvInv f t0 sg r P total term sign k) : (10:Int)^P.toNat * (k+1) * (k+2) ≠ 0 := by
  have := wvInv_kb h
  have := Int.mul_pos (Int.mul_pos (ten_pos P) (show 0 < k+1 by omega)) (show 0 < k+2 by omega)
  exact fun e => by rw [e] at this; omega
theorem wvInv_ne0 (_h : WavePre r P) : (10:Int)^P.toNat ≠ 0 := pow_ne' _
theorem wvInv_pl {x : Int} (h : WvInv f t0 sg r P total term sign k) : Builtin.divisionGoesByPylong x ((10:Int)^P.toNat * (k+1) * (k+2)) = false := by
  have := wvInv_kb h
  exact pl_of_bits (bits_mul (bits_mul (bits_ten h.pre.2.1) (bits_small (a := k+1) (by omega) (by omega))) (bits_small (a := k+2) (by omega) (by omega))) (by decide)
theorem wvInv_pl0 {x : Int} (h : WavePre r P) : Builtin.divisionGoesByPylong x ((10:Int)^P.toNat) = false := pl_of_bits (bits_ten h.2.1) (by decide)
end
noncomputable abbrev RestPre (m e d : Int) : Prop := 1 ≤ m ∧ m < 1000000000 ∧ -30 ≤ e ∧ e ≤ 30 ∧ 2 ≤ d ∧ d ≤ 20
noncomputable abbrev plc (m e d : Int) : Int := (d + if digs m > d then digs m else d) + 10 + if digs m + e > 0 then digs m + e else 0
noncomputable abbrev lgA (m near : Int) : Int := if m - near < 0 then -(m - near) else m - near
noncomputable abbrev lgT0 (m near P : Int) : Int := (lgA m near * 10^P.toNat).fdiv (m + near)
noncomputable abbrev lgSq (m near P : Int) : Int := (lgT0 m near P * lgT0 m near P).fdiv (10^P.toNat)
/-- what the log's loop knows of its number, the nearest power and the places -/
structure LgPre (m near P : Int) : Prop where
  hm : 1 ≤ m ∧ m < 1000000000
  hP : 14 ≤ P ∧ P ≤ 89
  hn : ∃ s : Nat, s ≤ 9 ∧ near = 10^s
  h1 : m * m ≤ 10 * (near * near)
  h2 : near * near ≤ 10 * (m * m)
structure LgInv (m near P : Int) (total n term : Int) : Prop where
  pre : LgPre m near P
  h : ∃ j : Nat, n = 2*(j:Int)+1 ∧ j ≤ 200 ∧ term = lgT (lgSq m near P) (ten P) (lgT0 m near P) j ∧ total = lgS (lgSq m near P) (ten P) (lgT0 m near P) j
theorem dg_spec : ∀ (k : Nat) (m : Int), 1 ≤ m → m < 10 ^ k → ∃ s : Nat, s + 1 ≤ k ∧ dg k m = (s:Int)+1 ∧ 10^s ≤ m ∧ m < 10^(s+1)
  | 0, m, h1, h2 => by rw [Int.pow_zero] at h2; omega
  | k+1, m, h1, h2 => by
    have e : dg (k+1) m = dg k (m / 10) + 1 := by
      show (if m ≤ 0 then 0 else dg k (m / 10) + 1) = _
      rw [if_neg (by omega)]
    rcases Int.lt_or_le m 10 with c | c
    · refine ⟨0, by omega, ?_, by rw [Int.pow_zero]; omega, by rw [Int.pow_succ, Int.pow_zero]; omega⟩
      rw [e, show m / 10 = 0 by omega]
      cases k <;> rfl
    · rw [Int.pow_succ] at h2
      obtain ⟨s, i1, i2, i3, i4⟩ := dg_spec k (m / 10) (by omega) (by omega)
      refine ⟨s+1, by omega, by rw [e, i2]; rfl, by rw [Int.pow_succ]; omega, ?_⟩
      rw [Int.pow_succ] at i4 ⊢
      rw [Int.pow_succ]
      omega
theorem digs_spec {m : Int} (h1 : 1 ≤ m) (h2 : m < 1000000000) : ∃ s : Nat, s ≤ 8 ∧ digs m = (s:Int)+1 ∧ 10^s ≤ m ∧ m < 10^(s+1) := by
  obtain ⟨s, i1, i2, i3, i4⟩ := dg_spec 9 m h1 (by omega)
  exact ⟨s, by omega, by rw [digs_def, i2], i3, i4⟩
theorem digs_bound {m e d : Int} (h : RestPre m e d) : 1 ≤ digs m ∧ digs m ≤ 9 ∧ 14 ≤ plc m e d ∧ plc m e d ≤ 89 ∧ 2*d ≤ plc m e d := by
  obtain ⟨s, hs, e1, _, _⟩ := digs_spec h.1 h.2.1
  unfold plc
  rw [e1]
  refine ⟨by omega, by omega, ?_, ?_, ?_⟩ <;> (repeat' split) <;> omega
theorem lgPre1 {m e d : Int} (h : RestPre m e d) (h0 : ¬ 10 ^ (2 * digs m - 1).toNat < m * m) : LgPre m (10 ^ (digs m - 1).toNat) (plc m e d) := by
  obtain ⟨_, _, b1, b2, _⟩ := digs_bound h
  obtain ⟨s, hs, e1, l, u⟩ := digs_spec h.1 h.2.1
  rw [e1, show (2*((s:Int)+1)-1).toNat = s+s+1 by omega, Int.pow_succ, Int.pow_add] at h0
  rw [e1, show ((s:Int)+1-1).toNat = s by omega]
  refine ⟨⟨h.1, h.2.1⟩, ⟨b1, b2⟩, ⟨s, by omega, rfl⟩, by omega, ?_⟩
  have hp : (0:Int) < 10^s := Int.pow_pos (by decide)
  have := Int.mul_le_mul l l (by omega) (by omega)
  have := Int.mul_pos hp hp
  omega
theorem lgPre2 {m e d : Int} (h : RestPre m e d) (h0 : 10 ^ (2 * digs m - 1).toNat < m * m) : LgPre m (10 ^ (digs m + 1 - 1).toNat) (plc m e d) := by
  obtain ⟨_, _, b1, b2, _⟩ := digs_bound h
  obtain ⟨s, hs, e1, l, u⟩ := digs_spec h.1 h.2.1
  rw [e1, show (2*((s:Int)+1)-1).toNat = s+s+1 by omega, Int.pow_succ, Int.pow_add] at h0
  rw [e1, show ((s:Int)+1+1-1).toNat = s+1 by omega]
  refine ⟨⟨h.1, h.2.1⟩, ⟨b1, b2⟩, ⟨s+1, by omega, rfl⟩, ?_, ?_⟩
  · have hp : (0:Int) < 10^(s+1) := Int.pow_pos (by decide)
    have := Int.mul_le_mul (Int.le_of_lt u) (Int.le_of_lt u) (by omega) (by omega)
    have := Int.mul_pos hp hp
    omega
  · rw [Int.pow_succ]; grind
section
variable {m near P : Int} (h : LgPre m near P)
include h
theorem lg_near : 0 < near := by
  obtain ⟨s, _, e⟩ := h.hn
  rw [e]; exact Int.pow_pos (by decide)
theorem lg_ratio : 6*m ≤ 19*near ∧ 6*near ≤ 19*m := by
  have hn := lg_near h
  obtain ⟨⟨h1, _⟩, _, _, a, b⟩ := h
  constructor
  · rcases Int.lt_or_le (19*near) (6*m) with c | c
    · have := Int.mul_le_mul (Int.le_of_lt c) (Int.le_of_lt c) (by omega) (by omega)
      have := Int.mul_pos hn hn
      grind
    · exact c
  · rcases Int.lt_or_le (19*m) (6*near) with c | c
    · have := Int.mul_le_mul (Int.le_of_lt c) (Int.le_of_lt c) (by omega) (by omega)
      have := Int.mul_pos (show 0 < m by omega) (show 0 < m by omega)
      grind
    · exact c
theorem lgA_bound : 0 ≤ lgA m near ∧ 25 * lgA m near ≤ 13 * (m + near) := by
  have := lg_ratio h
  unfold lgA
  split <;> omega
theorem lgT0_bound : 0 ≤ lgT0 m near P ∧ 25 * lgT0 m near P ≤ 13 * ten P := by
  have hn := lg_near h
  have hA := lgA_bound h
  have ho := ten_pos P
  have hd : 0 < m + near := by have := h.hm; omega
  have n := fd_nonneg (Int.mul_nonneg hA.1 (Int.le_of_lt ho)) hd
  have l := fd_lo (lgA m near * ten P) hd
  refine ⟨n, ?_⟩
  unfold lgT0
  generalize lgA m near = A at *
  change (m+near) * (A * ten P).fdiv (m+near) ≤ _ at l
  change 25 * (A * ten P).fdiv (m+near) ≤ _
  generalize (A * ten P).fdiv (m+near) = y at *
  generalize ten P = o at *
  generalize m + near = D at *
  refine Int.le_of_mul_le_mul_left (a := D) ?_ hd
  have := Int.mul_le_mul_of_nonneg_right hA.2 (Int.le_of_lt ho)
  grind
theorem lgSq_bound : 0 ≤ lgSq m near P ∧ 625 * lgSq m near P ≤ 169 * ten P := by
  have hT := lgT0_bound h
  have ho := ten_pos P
  unfold lgSq
  generalize lgT0 m near P = t at *
  have n := fd_nonneg (Int.mul_nonneg hT.1 hT.1) ho
  have l := fd_lo (t*t) ho
  refine ⟨n, ?_⟩
  change 625 * (t*t).fdiv (ten P) ≤ _
  generalize (t*t).fdiv (ten P) = y at *
  generalize ten P = o at *
  refine Int.le_of_mul_le_mul_left (a := o) ?_ ho
  have := Int.mul_le_mul hT.2 hT.2 (by omega) (by omega)
  grind
theorem lgT_nonneg (j : Nat) : 0 ≤ lgT (lgSq m near P) (ten P) (lgT0 m near P) j := by
  induction j with
  | zero => exact (lgT0_bound h).1
  | succ j ih => simp only [lgT]; exact fd_nonneg (Int.mul_nonneg ih (lgSq_bound h).1) (ten_pos P)
theorem lgT_fall (j : Nat) : 625 * lgT (lgSq m near P) (ten P) (lgT0 m near P) (j+1) ≤ 169 * lgT (lgSq m near P) (ten P) (lgT0 m near P) j := by
  have hq := lgSq_bound h
  have hT := lgT_nonneg h j
  have ho := ten_pos P
  simp only [lgT]
  generalize lgT (lgSq m near P) (ten P) (lgT0 m near P) j = x at *
  generalize lgSq m near P = q at *
  have l := fd_lo (x*q) ho
  generalize (x*q).fdiv (ten P) = y at *
  generalize ten P = o at *
  refine Int.le_of_mul_le_mul_left (a := o) ?_ ho
  have := Int.mul_le_mul_of_nonneg_left hq.2 hT
  grind
theorem lgT_pow (j : Nat) : 625^j * lgT (lgSq m near P) (ten P) (lgT0 m near P) j ≤ 169^j * ten P := by
  induction j with
  | zero => have := lgT0_bound h; have := ten_pos P; simp [lgT]; omega
  | succ j ih =>
    have f := lgT_fall h j
    have hp : (0:Int) < 625^j := Int.pow_pos (by decide)
    have := Int.mul_le_mul_of_nonneg_left f (Int.le_of_lt hp)
    rw [Int.pow_succ, Int.pow_succ]
    grind
theorem lgT_end : lgT (lgSq m near P) (ten P) (lgT0 m near P) 160 = 0 := by
  have p := lgT_pow h 160
  have n := lgT_nonneg h 160
  have b : ten P ≤ 10^89 := ipow_mono (by have := h.hP; omega)
  have k : (169:Int)^160 * ten P ≤ 169^160 * 10^89 := Int.mul_le_mul_of_nonneg_left b (Int.pow_nonneg (by decide))
  rcases Int.lt_or_le (lgT (lgSq m near P) (ten P) (lgT0 m near P) 160) 1 with c | c
  · omega
  · have := Int.mul_le_mul_of_nonneg_left c (show (0:Int) ≤ 625^160 from Int.pow_nonneg (by decide))
    have e : (169:Int)^160 * 10^89 < 625^160 * 1 := by decide +kernel
    omega
theorem lgT_le (j : Nat) : lgT (lgSq m near P) (ten P) (lgT0 m near P) j ≤ ten P := by
  induction j with
  | zero => have := lgT0_bound h; have := ten_pos P; simp only [lgT]; omega
  | succ j ih => have := lgT_fall h j; have := lgT_nonneg h j; have := lgT_nonneg h (j+1); omega
theorem lgS_bound (j : Nat) : 0 ≤ lgS (lgSq m near P) (ten P) (lgT0 m near P) j ∧ lgS (lgSq m near P) (ten P) (lgT0 m near P) j ≤ j * ten P := by
  induction j with
  | zero => simp [lgS]
  | succ j ih =>
    simp only [lgS]
    have n := fd_nonneg (lgT_nonneg h j) (show 0 < 2*(j:Int)+1 by omega)
    have l := fd_le_self (lgT_nonneg h j) (show 0 < 2*(j:Int)+1 by omega)
    have t := lgT_le h j
    push_cast
    rw [Int.add_mul]
    omega
end
theorem lgT_stay {q one t0 : Int} {i : Nat} (h : lgT q one t0 i = 0) (j : Nat) : lgT q one t0 (i+j) = 0 := by
  induction j with
  | zero => exact h
  | succ j ih => rw [show i + (j+1) = i + j + 1 by omega]; simp only [lgT]; rw [ih, Int.zero_mul]; exact fd_zero _
theorem lgS_stay {q one t0 : Int} {i : Nat} (h : lgT q one t0 i = 0) (j : Nat) : lgS q one t0 (i+j) = lgS q one t0 i := by
  induction j with
  | zero => rfl
  | succ j ih => rw [show i + (j+1) = i + j + 1 by omega]; simp only [lgS]; rw [ih, lgT_stay h, fd_zero, Int.add_zero]
theorem lgInv_start {m near P : Int} (h : LgPre m near P) : LgInv m near P 0 1 (lgT0 m near P) := ⟨h, 0, by simp, by decide, rfl, rfl⟩
theorem lgInv_j {m near P : Int} (h : LgPre m near P) {j : Nat} (h0 : 0 < lgT (lgSq m near P) (ten P) (lgT0 m near P) j) : j < 160 := by
  rcases Nat.lt_or_ge j 160 with c | c
  · exact c
  · have := lgT_stay (lgT_end h) (j - 160)
    rw [show 160 + (j - 160) = j by omega] at this
    omega
theorem lgInv_step {m near P total n term : Int} (h : LgInv m near P total n term) (h0 : term > 0) : LgInv m near P (total + term.fdiv n) (n+2) ((term * lgSq m near P).fdiv (10^P.toNat)) := by
  obtain ⟨hp, j, rfl, hj, rfl, rfl⟩ := h
  have := lgInv_j hp h0
  exact ⟨hp, j+1, by push_cast; omega, by omega, rfl, rfl⟩
theorem lgInv_k {m near P total n term : Int} (h : LgInv m near P total n term) (h0 : term > 0) : 1 ≤ n ∧ n ≤ 399 := by
  obtain ⟨hp, j, rfl, hj, rfl, rfl⟩ := h
  have := lgInv_j hp h0
  omega
theorem lgInv_n {m near P total n term : Int} (h : LgInv m near P total n term) : n ≠ 0 := by
  obtain ⟨hp, j, rfl, hj, rfl, rfl⟩ := h
  omega
theorem lgInv_pl {m near P total n term x : Int} (h : LgInv m near P total n term) : Builtin.divisionGoesByPylong x n = false := by
  obtain ⟨hp, j, rfl, hj, rfl, rfl⟩ := h
  exact pl_of_bits (bits_small (by omega) (by omega)) (by decide)
theorem lgInv_bits {m near P total n term : Int} (h : LgInv m near P total n term) : Builtin.Int.intBits term ≤ 400 := by
  obtain ⟨hp, j, rfl, hj, rfl, rfl⟩ := h
  have h1 := lgT_nonneg hp j
  have h2 := lgT_le hp j
  have h3 := ten_lt (P := P) (by have := hp.hP; omega)
  refine bits_abs (Int.lt_of_le_of_lt h2 (Int.lt_trans h3 (by decide +kernel))) ?_
  have : (0:Int) < 2^400 := Int.pow_pos (by decide)
  omega
theorem lgInv_bits2 {m near P total n term : Int} (h : LgInv m near P total n term) : Builtin.Int.intBits total ≤ 420 := by
  obtain ⟨hp, j, rfl, hj, rfl, rfl⟩ := h
  have h1 := lgS_bound hp j
  have h3 := ten_lt (P := P) (by have := hp.hP; omega)
  have h4 := Int.mul_le_mul_of_nonneg_right (show (j:Int) ≤ 200 by omega) (Int.le_of_lt (ten_pos P))
  have e : (2:Int)^420 = 2097152 * 2^399 := by decide +kernel
  have : (0:Int) < 2^399 := Int.pow_pos (by decide)
  refine bits_abs ?_ ?_ <;> omega
theorem lgInv_total {m near P total n term : Int} (h : LgInv m near P total n term) (h0 : ¬ 0 < term) : total = lgS (lgSq m near P) (ten P) (lgT0 m near P) 160 := by
  obtain ⟨hp, j, rfl, hj, rfl, rfl⟩ := h
  have hz : lgT (lgSq m near P) (ten P) (lgT0 m near P) j = 0 := by have := lgT_nonneg hp j; omega
  rcases Nat.lt_or_ge j 160 with c | c
  · have := lgS_stay hz (160 - j)
    rw [show j + (160 - j) = 160 by omega] at this
    exact this.symm
  · have := lgS_stay (lgT_end hp) (j - 160)
    rw [show 160 + (j - 160) = j by omega] at this
    exact this
theorem ten9 {P : Int} (h : 0 ≤ P) : ten (P+9) = 1000000000 * ten P := by
  have e : (P+9).toNat = P.toNat + 9 := by omega
  show (10:Int)^(P+9).toNat = 1000000000 * 10^P.toNat
  rw [e, Int.pow_add, Int.mul_comm]; rfl
theorem fine_term (one : Int) {D : Int} (hD : 0 < D) : 1000000000 * one.fdiv D ≤ (1000000000 * one).fdiv D ∧ (1000000000 * one).fdiv D ≤ 1000000000 * one.fdiv D + 1000000000 := by
  have l1 := fd_lo one hD
  have u1 := fd_hi one hD
  have l2 := fd_lo (1000000000*one) hD
  have u2 := fd_hi (1000000000*one) hD
  generalize one.fdiv D = a at *
  generalize (1000000000*one).fdiv D = b at *
  constructor
  · refine Int.le_of_lt_add_one (Int.lt_of_mul_lt_mul_left (a := D) ?_ (Int.le_of_lt hD))
    grind
  · refine Int.le_of_mul_le_mul_left (a := D) ?_ hD
    grind
theorem sgn_abs {t : Int} (h : t = 1 ∨ t = -1) (k : Nat) {x B : Int} (h0 : 0 ≤ x) (h1 : x ≤ B) : t^k * x ≤ B ∧ -B ≤ t^k * x := by
  rcases turn_pow h k with e | e <;> rw [e] <;> omega
section
variable {d t one : Int} (hd : 2 ≤ d) (ht : t = 1 ∨ t = -1) (ho : 0 < one)
include hd ht ho
theorem ser_den (k : Nat) : 0 < (2*(k:Int)+1) * d^(2*k+1) := Int.mul_pos (by omega) (dpow_pos hd _)
theorem ser_head (j : Nat) : lsS d t (1000000000*one) j - 1000000000 * lsS d t one j ≤ j * 1000000000 ∧ -(j * 1000000000) ≤ lsS d t (1000000000*one) j - 1000000000 * lsS d t one j := by
  induction j with
  | zero => simp [lsS]
  | succ j ih =>
    simp only [lsS]
    have f := fine_term one (ser_den hd ht ho j)
    generalize one.fdiv ((2*(j:Int)+1) * d^(2*j+1)) = a at *
    generalize (1000000000*one).fdiv ((2*(j:Int)+1) * d^(2*j+1)) = b at *
    have s := sgn_abs ht j (x := b - 1000000000*a) (B := 1000000000) (by omega) (by omega)
    generalize lsS d t (1000000000*one) j = X at *
    generalize lsS d t one j = Y at *
    generalize t^j = g at *
    push_cast
    have e : g * (b - 1000000000*a) = g*b - 1000000000*(g*a) := by grind
    rw [e] at s
    rw [Int.mul_add]
    omega
theorem ser_up (h1 : t = 1) (j : Nat) : 1000000000 * lsS d t one j ≤ lsS d t (1000000000*one) j := by
  induction j with
  | zero => simp [lsS]
  | succ j ih =>
    simp only [lsS]
    have f := fine_term one (ser_den hd ht ho j)
    subst h1
    rw [Int.one_pow]
    omega
/-- the tail: K terms are told, the finer sum goes on -/
theorem ser_tail {K : Nat} (hK : 1 ≤ K) (h : one < d^(2*K+1)) (i : Nat) :
    9 * (lsS d t (1000000000*one) (K+i) - lsS d t (1000000000*one) K) + 4 * (1000000000*one).fdiv (d^(2*(K+i)+1)) ≤ 4*1000000000 ∧
    -(4*1000000000) ≤ 9 * (lsS d t (1000000000*one) (K+i) - lsS d t (1000000000*one) K) - 4 * (1000000000*one).fdiv (d^(2*(K+i)+1)) := by
  induction i with
  | zero =>
    have hp := dpow_pos hd (2*K+1)
    have l := fd_lo (1000000000*one) hp
    have n := fd_nonneg (show 0 ≤ 1000000000*one by omega) hp
    simp only [Nat.add_zero, Int.sub_self, Int.mul_zero, Int.zero_add, Int.zero_sub]
    generalize (1000000000*one).fdiv (d^(2*K+1)) = c at *
    generalize d^(2*K+1) = D at *
    have : c ≤ 1000000000 := by
      refine Int.le_of_mul_le_mul_left (a := D) ?_ hp
      grind
    omega
  | succ i ih =>
    rw [show K + (i+1) = K+i+1 by omega]
    simp only [lsS]
    have hp := dpow_pos hd (2*(K+i)+1)
    have hk : (3:Int) ≤ 2*((K+i:Nat):Int)+1 := by omega
    have e1 : (1000000000*one).fdiv ((2*((K+i:Nat):Int)+1) * d^(2*(K+i)+1)) = ((1000000000*one).fdiv (d^(2*(K+i)+1))).fdiv (2*((K+i:Nat):Int)+1) := by
      rw [fd_fd _ hp (by omega), Int.mul_comm (d^(2*(K+i)+1))]
    have e2 : (1000000000*one).fdiv (d^(2*(K+i+1)+1)) = ((1000000000*one).fdiv (d^(2*(K+i)+1))).fdiv (d*d) := by
      rw [fd_fd _ hp (Int.mul_pos (by omega) (by omega))]
      congr 1
      have e : d^(2*(K+i)+1+1+1) = d^(2*(K+i)+1)*d*d := by rw [Int.pow_succ d (2*(K+i)+1+1), Int.pow_succ d (2*(K+i)+1)]
      rw [← Int.mul_assoc]; exact e
    rw [e1, e2]
    have cn := fd_nonneg (show 0 ≤ 1000000000*one by omega) hp
    generalize (1000000000*one).fdiv (d^(2*(K+i)+1)) = c at *
    have l1 := fd_lo c (show 0 < 2*((K+i:Nat):Int)+1 by omega)
    have n1 := fd_nonneg cn (show 0 < 2*((K+i:Nat):Int)+1 by omega)
    have hdd : 4 ≤ d*d := Int.mul_le_mul hd hd (by omega) (by omega)
    have l2 := fd_lo c (show 0 < d*d by omega)
    have n2 := fd_nonneg cn (show 0 < d*d by omega)
    generalize c.fdiv (2*((K+i:Nat):Int)+1) = b at *
    generalize c.fdiv (d*d) = c' at *
    have m1 := Int.mul_le_mul_of_nonneg_right hk n1
    have m2 := Int.mul_le_mul_of_nonneg_right hdd n2
    have s := sgn_abs ht (K+i) n1 (Int.le_refl b)
    omega
end
-- the walk's facts
noncomputable abbrev SerPre (d turn P : Int) : Prop := 2 ≤ d ∧ d ≤ 400 ∧ (turn = 1 ∨ turn = -1) ∧ 12 ≤ P ∧ P ≤ 59
structure SerInv (d P : Int) (terms : Int) : Prop where
  hd : 2 ≤ d ∧ d ≤ 400 ∧ 0 ≤ P ∧ P ≤ 59
  h : 1 ≤ terms ∧ terms ≤ 100
theorem serInv_start {d turn P : Int} (h : SerPre d turn P) : SerInv d P 1 := ⟨by omega, by omega⟩
theorem serInv_less {d P terms : Int} (h : SerInv d P terms) (h0 : d ^ (2*terms+1).toNat ≤ 10 ^ P.toNat) : 1 ≤ terms ∧ terms ≤ 99 := by
  obtain ⟨hd, h1, h2⟩ := h
  refine ⟨h1, ?_⟩
  rcases Int.lt_or_le 99 terms with c | c
  · have a := dpow_two hd.1 (2*terms+1).toNat
    rw [show (2*terms+1).toNat = 201 by omega] at a h0
    have b : (10:Int)^P.toNat ≤ 10^59 := ipow_mono (by omega)
    have e : (10:Int)^59 < 2^201 := by decide +kernel
    omega
  · exact c
theorem serInv_step {d P terms : Int} (h : SerInv d P terms) (h0 : d ^ (2*terms+1).toNat ≤ 10 ^ P.toNat) : SerInv d P (terms+1) := by
  have := serInv_less h h0
  exact ⟨h.hd, by omega, by omega⟩
theorem serInv_pw {d P terms : Int} (h : SerInv d P terms) : (Builtin.Int.intBits d : Int) * (2*terms+1) ≤ 2^27 := by
  obtain ⟨hd, h1, h2⟩ := h
  have b := bits_small (a := d) (by omega) (by omega)
  have := Int.mul_le_mul (show (Builtin.Int.intBits d : Int) ≤ 64 by omega) (show 2*terms+1 ≤ 201 by omega) (by omega) (by omega)
  omega
theorem serInv_pw2 {d turn P : Int} (h : SerPre d turn P) : (Builtin.Int.intBits 10 : Int) * P ≤ 2^27 := by
  have : (Builtin.Int.intBits 10) = 4 := by decide
  rw [this]; omega
theorem serInv_n0 {d P terms : Int} (h : SerInv d P terms) : 0 ≤ 2*terms+1 := by have := h.h; omega
theorem fdiv_M {X T : Int} {B : Int} (h1 : X - 1000000000*T ≤ B) (h2 : -B ≤ X - 1000000000*T) : 1000000000 * (T - X.fdiv 1000000000) ≤ B + 1000000000 ∧ -B ≤ 1000000000 * (T - X.fdiv 1000000000) := by
  have l := fd_lo X (show 0 < 1000000000 by decide)
  have u := fd_hi X (show 0 < 1000000000 by decide)
  omega
theorem ser_end {d turn P terms : Int} (h : SerPre d turn P) (hI : SerInv d P terms) (h0 : ¬ d ^ (2*terms+1).toNat ≤ 10 ^ P.toNat) :
  -(terms + 1) ≤ invSeries d P turn - (lawSum d turn (P+9)).fdiv (10 ^ Int.toNat 9) ∧ invSeries d P turn - (lawSum d turn (P+9)).fdiv (10 ^ Int.toNat 9) ≤ terms + 1 := by
  obtain ⟨hd, hd2, ht, hP1, hP2⟩ := h
  obtain ⟨_, t1, t2⟩ := hI
  obtain ⟨K, rfl⟩ : ∃ K : Nat, terms = K := ⟨terms.toNat, by omega⟩
  rw [show (2*(K:Int)+1).toNat = 2*K+1 by omega] at h0
  have ho := ten_pos P
  have e9 : (10:Int)^Int.toNat 9 = 1000000000 := by decide
  have eT : invSeries d P turn = lsS d turn (ten P) K := by
    rw [invSeries_def, invS_eq hd]
    have := lsS_stay (d := d) (turn := turn) (P := P) ⟨hd, hd2, by omega, by omega, ht⟩ h0 (200 - K)
    rw [show K + (200 - K) = 200 by omega] at this
    exact this
  rw [eT, e9, lawSum_def]
  rw [ten9 (show 0 ≤ P by omega)]
  have a := ser_head hd ht ho K
  have b := ser_tail hd ht ho (K := K) (by omega) (Int.not_le.mp h0) (200 - K)
  rw [show K + (200 - K) = 200 by omega] at b
  have n := fd_nonneg (show 0 ≤ 1000000000 * ten P by omega) (dpow_pos hd (2*200+1))
  have c := fdiv_M (X := lsS d turn (1000000000 * ten P) 200) (T := lsS d turn (ten P) K) (B := K*1000000000 + 450000000) (by omega) (by omega)
  omega
theorem ser_le {d turn P : Int} (h : SerPre d turn P) : turn = -1 ∨ invSeries d P turn ≤ (lawSum d turn (P+9)).fdiv (10 ^ Int.toNat 9) := by
  obtain ⟨hd, hd2, ht, hP1, hP2⟩ := h
  rcases ht with ht | ht
  · right
    have e9 : (10:Int)^Int.toNat 9 = 1000000000 := by decide
    rw [e9]
    rw [lawSum_def, invSeries_def]
    rw [invS_eq hd, ten9 (show 0 ≤ P by omega)]
    have u := ser_up (t := turn) hd (.inl ht) (ten_pos P) ht 200
    have l := fd_hi (lsS d turn (1000000000 * ten P) 200) (show 0 < 1000000000 by decide)
    omega
  · exact .inl ht
-- loops that the kernel runs well
noncomputable def invL (dd turn : Int) : Nat → Int → Int → Int → Int → Int
  | 0, _, total, _, _ => total
  | f+1, term, total, sign, n => if term = 0 then total else invL dd turn f (term.fdiv dd) (total + sign * (term.fdiv n)) (sign * turn) (n+2)
noncomputable def invQ (d P turn : Int) : Int := invL (d*d) turn 200 ((ten P).fdiv d) 0 1 1
theorem invL_eq (d one turn : Int) : ∀ (f k : Nat), invL (d*d) turn f (invT d one k) (invS d one turn k) (turn^k) (2*(k:Int)+1) = invS d one turn (k+f) := by
  intro f
  induction f with
  | zero => intro k; rfl
  | succ f ih =>
    intro k
    unfold invL
    by_cases h : invT d one k = 0
    · rw [if_pos h, invS_stay h]
    · rw [if_neg h]
      have := ih (k+1)
      rw [show k + 1 + f = k + (f+1) by omega] at this
      rw [← this]
      congr 1
      all_goals first | (rw [Int.pow_succ]; done) | (push_cast; omega)
theorem invQ_gen (d one turn : Int) (f : Nat) : invL (d*d) turn f (one.fdiv d) 0 1 1 = invS d one turn f := by
  have := invL_eq d one turn f 0
  rw [Nat.zero_add] at this
  simpa [invT, invS] using this
theorem invQ_eq (d P turn : Int) : invQ d P turn = invSeries d P turn := by rw [invSeries_def]; exact invQ_gen d (ten P) turn 200
theorem lawSum_eq {d : Int} (hd : 2 ≤ d) (P turn : Int) : lawSum d turn P = invQ d P turn := by
  rw [invQ_eq, lawSum_def, invSeries_def, invS_eq hd]
noncomputable def expL (n one : Int) : Nat → Int → Int → Int → Int
  | 0, total, _, _ => total
  | f+1, total, term, k => if term = 0 then total else
      let t := (term * n).fdiv (one * k)
      expL n one f (total + t) t (k+1)
noncomputable def expQ (n P : Int) : Int := expL n (ten P) 130 (ten P) (ten P) 1
theorem expL_eq (n one : Int) : ∀ (f k : Nat), expL n one f (expS n one k) (expT n one k) ((k:Int)+1) = expS n one (k+f) := by
  intro f
  induction f with
  | zero => intro k; rfl
  | succ f ih =>
    intro k
    unfold expL
    by_cases h : expT n one k = 0
    · rw [if_pos h, expS_stay h]
    · rw [if_neg h]
      have := ih (k+1)
      rw [show k + 1 + f = k + (f+1) by omega] at this
      rw [← this]
      simp only [expS, expT]
      push_cast
      rfl
theorem expQ_gen (n one : Int) (f : Nat) : expL n one f one one 1 = expS n one f := by
  have := expL_eq n one f 0
  rw [Nat.zero_add] at this
  exact this
theorem expQ_eq (n P : Int) : expQ n P = expFixed n P := by rw [expFixed_def]; exact expQ_gen n (ten P) 130
noncomputable def wvL (q one : Int) : Nat → Int → Int → Int → Int → Int
  | 0, total, _, _, _ => total
  | f+1, total, term, sign, k => if term = 0 then total else wvL q one f (total + sign * term) ((term * q).fdiv (one * (k+1) * (k+2))) (-sign) (k+2)
noncomputable def sinQ (r P : Int) : Int := wvL ((r*r).fdiv (ten P)) (ten P) 60 0 (if r < 0 then -r else r) (if r < 0 then -1 else 1) 1
theorem wvL_eq (q one f0 t0 sg : Int) : ∀ (f k : Nat), wvL q one f (wvS q one f0 t0 sg k) (wvT q one f0 t0 k) (sg * (-1)^k) (f0 + 2*(k:Int)) = wvS q one f0 t0 sg (k+f) := by
  intro f
  induction f with
  | zero => intro k; rfl
  | succ f ih =>
    intro k
    unfold wvL
    by_cases h : wvT q one f0 t0 k = 0
    · rw [if_pos h, wvS_stay h]
    · rw [if_neg h]
      have := ih (k+1)
      rw [show k + 1 + f = k + (f+1) by omega] at this
      rw [← this]
      congr 1
      · rw [Int.pow_succ]; grind
      · push_cast; omega
theorem sinQ_gen (q one t0 sg : Int) (f : Nat) : wvL q one f 0 t0 sg 1 = wvS q one 1 t0 sg f := by
  have := wvL_eq q one 1 t0 sg f 0
  rw [Nat.zero_add, Int.pow_zero, Int.mul_one] at this
  exact this
theorem sinQ_eq (r P : Int) : sinQ r P = sinFixed r P := by rw [sinFixed_def]; exact sinQ_gen _ _ _ _ 60
noncomputable def within (x b : Int) : Bool := decide (-b ≤ x) && decide (x ≤ b)
theorem within_def {x b : Int} (h : within x b = true) : -b ≤ x ∧ x ≤ b := by simpa [within] using h
noncomputable def logQ (P : Int) : Int := (46 * invQ 31 (P+5) 1 + 34 * invQ 49 (P+5) 1 + 20 * invQ 161 (P+5) 1).fdiv 100000
noncomputable def halfQ (P : Int) : Int := (48 * invQ 18 (P+5) (-1) + 32 * invQ 57 (P+5) (-1) - 20 * invQ 239 (P+5) (-1)).fdiv 100000
noncomputable def lowLog (P : Int) : Bool := decide (23 * ten P ≤ 10 * logQ P)
noncomputable def okAt (P : Int) : Bool :=
  let one := ten P
  let l := logQ P
  let h := halfQ P
  let root := expQ (l.fdiv 2) P
  within (h - (16 * invQ 5 (P+9) (-1) - 4 * invQ 239 (P+9) (-1)).fdiv 1000000000) 1 &&
  within (l - (6 * invQ 3 (P+9) 1 + 2 * invQ 9 (P+9) 1).fdiv 1000000000) 1 &&
  within (5 * l.fdiv 2) (6 * one) && within (h.fdiv 6) one &&
  within (root * root - 10 * one * one) (900 * one) && within (2 * sinQ (h.fdiv 6) P - one) 100
noncomputable def allIn (f : Int → Bool) (a n : Nat) : Bool := (List.range n).all fun i => f ((a:Int) + (i:Int))
theorem allIn_of {f : Int → Bool} {a n : Nat} (h : allIn f a n = true) {P : Int} (h1 : (a:Int) ≤ P) (h2 : P < (a:Int) + (n:Int)) : f P = true := by
  have := List.all_eq_true.mp h (P - a).toNat (List.mem_range.mpr (by omega))
  rw [show (a:Int) + ((P - a).toNat : Int) = P by omega] at this
  exact this
theorem ok1 : allIn okAt 12 8 = true := by decide +kernel
theorem ok2 : allIn okAt 20 8 = true := by decide +kernel
theorem ok3 : allIn okAt 28 8 = true := by decide +kernel
theorem ok4 : allIn okAt 36 8 = true := by decide +kernel
theorem ok5 : allIn okAt 44 8 = true := by decide +kernel
theorem ok6 : allIn okAt 52 8 = true := by decide +kernel
theorem low1 : allIn lowLog 14 40 = true := by decide +kernel
theorem low2 : allIn lowLog 54 36 = true := by decide +kernel
theorem okAt_of {P : Int} (h : 12 ≤ P ∧ P ≤ 59) : okAt P = true := by
  by_cases c1 : P < 20
  · exact allIn_of ok1 (by omega) (by omega)
  by_cases c2 : P < 28
  · exact allIn_of ok2 (by omega) (by omega)
  by_cases c3 : P < 36
  · exact allIn_of ok3 (by omega) (by omega)
  by_cases c4 : P < 44
  · exact allIn_of ok4 (by omega) (by omega)
  by_cases c5 : P < 52
  · exact allIn_of ok5 (by omega) (by omega)
  · exact allIn_of ok6 (by omega) (by omega)
theorem logQ_eq (P : Int) : logQ P = logTen P := by rw [logTen_def]; unfold logQ; simp only [invQ_eq]
theorem halfQ_eq (P : Int) : halfQ P = halfTurn P := by rw [halfTurn_def]; unfold halfQ; simp only [invQ_eq]
theorem log_low {P : Int} (h : 14 ≤ P ∧ P ≤ 89) : 23 * ten P ≤ 10 * logTen P := by
  have : lowLog P = true := by
    by_cases c : P < 54
    · exact allIn_of low1 (by omega) (by omega)
    · exact allIn_of low2 (by omega) (by omega)
  unfold lowLog at this
  rw [logQ_eq] at this
  exact of_decide_eq_true this
structure OkFacts (P : Int) : Prop where
  half : -1 ≤ halfTurn P - (16 * lawSum 5 (-1) (P+9) - 4 * lawSum 239 (-1) (P+9)).fdiv 1000000000 ∧ halfTurn P - (16 * lawSum 5 (-1) (P+9) - 4 * lawSum 239 (-1) (P+9)).fdiv 1000000000 ≤ 1
  log : -1 ≤ logTen P - (6 * lawSum 3 1 (P+9) + 2 * lawSum 9 1 (P+9)).fdiv 1000000000 ∧ logTen P - (6 * lawSum 3 1 (P+9) + 2 * lawSum 9 1 (P+9)).fdiv 1000000000 ≤ 1
  pre1 : -(6 * ten P) ≤ 5 * (logTen P).fdiv 2 ∧ 5 * (logTen P).fdiv 2 ≤ 6 * ten P
  pre2 : -(ten P) ≤ (halfTurn P).fdiv 6 ∧ (halfTurn P).fdiv 6 ≤ ten P
  root : -(900 * ten P) ≤ expFixed ((logTen P).fdiv 2) P * expFixed ((logTen P).fdiv 2) P - 10 * ten P * ten P ∧ expFixed ((logTen P).fdiv 2) P * expFixed ((logTen P).fdiv 2) P - 10 * ten P * ten P ≤ 900 * ten P
  sin : -100 ≤ 2 * sinFixed ((halfTurn P).fdiv 6) P - ten P ∧ 2 * sinFixed ((halfTurn P).fdiv 6) P - ten P ≤ 100
theorem okFacts {P : Int} (h : 12 ≤ P ∧ P ≤ 59) : OkFacts P := by
  have k := okAt_of h
  unfold okAt at k
  simp only [Bool.and_eq_true] at k
  obtain ⟨⟨⟨⟨⟨k1, k2⟩, k3⟩, k4⟩, k5⟩, k6⟩ := k
  rw [halfQ_eq, ← lawSum_eq (by decide), ← lawSum_eq (by decide)] at k1
  rw [logQ_eq, ← lawSum_eq (by decide), ← lawSum_eq (by decide)] at k2
  rw [logQ_eq] at k3
  rw [halfQ_eq] at k4
  rw [logQ_eq, expQ_eq] at k5
  rw [halfQ_eq, sinQ_eq] at k6
  exact ⟨within_def k1, within_def k2, within_def k3, within_def k4, within_def k5, within_def k6⟩
theorem const_half {P : Int} (h : 12 ≤ P ∧ P ≤ 59) : -1 ≤ halfTurn P - (16 * lawSum 5 (-1) (P+9) - 4 * lawSum 239 (-1) (P+9)).fdiv (10 ^ Int.toNat 9) ∧ halfTurn P - (16 * lawSum 5 (-1) (P+9) - 4 * lawSum 239 (-1) (P+9)).fdiv (10 ^ Int.toNat 9) ≤ 1 := (okFacts h).half
theorem const_log {P : Int} (h : 12 ≤ P ∧ P ≤ 59) : -1 ≤ logTen P - (6 * lawSum 3 1 (P+9) + 2 * lawSum 9 1 (P+9)).fdiv (10 ^ Int.toNat 9) ∧ logTen P - (6 * lawSum 3 1 (P+9) + 2 * lawSum 9 1 (P+9)).fdiv (10 ^ Int.toNat 9) ≤ 1 := (okFacts h).log
theorem marks_pre {P : Int} (h : 12 ≤ P ∧ P ≤ 59) : ExpPre ((logTen P).fdiv 2) P ∧ WavePre ((halfTurn P).fdiv 6) P ∧ ExpPre 0 P ∧ WavePre 0 P := by
  have k := okFacts h
  have h1 := k.pre1
  have h2 := k.pre2
  have h3 := ten_pos P
  refine ⟨⟨by omega, by omega, h1.2, h1.1⟩, ⟨by omega, by omega, h2.2, h2.1⟩, ⟨by omega, by omega, by omega, by omega⟩, ⟨by omega, by omega, by omega, by omega⟩⟩
theorem expS_bound {n P : Int} (h : ExpPre n P) (k : Nat) : expS n (ten P) k ≤ ((k:Int)+1) * (3 * ten P) ∧ -(((k:Int)+1) * (3 * ten P)) ≤ expS n (ten P) k := by
  have ho := ten_pos P
  induction k with
  | zero => simp only [expS]; omega
  | succ k ih =>
    have b := expT_bound ho h.2.2.1 h.2.2.2 (k+1)
    simp only [expS]
    push_cast
    rw [Int.add_mul ((k:Int)+1) 1]
    omega
theorem exp_bits {n P : Int} (h : ExpPre n P) : Builtin.Int.intBits (expFixed n P) ≤ 420 := by
  have b := expS_bound h 130
  have h1 := ten_lt (P := P) (by omega)
  have e : (2:Int)^420 = 2097152 * 2^399 := by decide +kernel
  have : (0:Int) < 2^399 := Int.pow_pos (by decide)
  rw [expFixed_def]
  push_cast at b
  refine bits_abs ?_ ?_ <;> omega
theorem marks_mul {P : Int} (h : 12 ≤ P ∧ P ≤ 59) : IntMulOk (expFixed ((logTen P).fdiv 2) P) (expFixed ((logTen P).fdiv 2) P) ∧ IntMulOk (10 * 10 ^ P.toNat) (10 ^ P.toNat) := by
  have b := exp_bits (marks_pre h).1
  exact ⟨mulOk_of_bits b b (by decide), mulOk_of_bits (bits_mul (bits_small (a := 10) (by decide) (by decide)) (bits_ten (by omega))) (bits_ten (by omega)) (by decide)⟩
theorem marks_root {P : Int} (h : 12 ≤ P ∧ P ≤ 59) : -(900 * 10 ^ P.toNat) ≤ expFixed ((logTen P).fdiv 2) P * expFixed ((logTen P).fdiv 2) P - 10 * 10 ^ P.toNat * 10 ^ P.toNat ∧ expFixed ((logTen P).fdiv 2) P * expFixed ((logTen P).fdiv 2) P - 10 * 10 ^ P.toNat * 10 ^ P.toNat ≤ 900 * 10 ^ P.toNat := (okFacts h).root
theorem marks_sin {P : Int} (h : 12 ≤ P ∧ P ≤ 59) : -100 ≤ 2 * sinFixed ((halfTurn P).fdiv 6) P - 10 ^ P.toNat ∧ 2 * sinFixed ((halfTurn P).fdiv 6) P - 10 ^ P.toNat ≤ 100 := (okFacts h).sin
theorem expZ (P : Int) (k : Nat) : expS 0 (ten P) k = ten P := by
  have h : expT 0 (ten P) 1 = 0 := by simp only [expT, Int.mul_zero]; exact fd_zero _
  induction k with
  | zero => rfl
  | succ k ih =>
    have := expT_stay h k
    rw [Nat.add_comm] at this
    simp only [expS]; rw [ih, this, Int.add_zero]
theorem sinZ (q one sg : Int) (k : Nat) : wvS q one 1 0 sg k = 0 := by
  induction k with
  | zero => rfl
  | succ k ih =>
    have := wvT_stay (q := q) (one := one) (f := 1) (t0 := 0) (i := 0) rfl k
    rw [Nat.zero_add] at this
    simp only [wvS]; rw [ih, this, Int.mul_zero, Int.add_zero]
theorem cosZ (one : Int) (k : Nat) : wvS 0 one 0 one 1 (k+1) = one := by
  have h : wvT 0 one 0 one 1 = 0 := by simp only [wvT, Int.mul_zero]; exact fd_zero _
  have := wvS_stay (sg := 1) h k
  rw [Nat.add_comm] at this
  rw [this]
  simp [wvS, wvT]
theorem marks_zero {P : Int} (_h : 12 ≤ P ∧ P ≤ 59) : expFixed 0 P = 10 ^ P.toNat ∧ sinFixed 0 P = 0 ∧ cosFixed 0 P = 10 ^ P.toNat := by
  rw [expFixed_def, sinFixed_def, cosFixed_def]
  refine ⟨expZ P 130, sinZ _ _ _ 60, ?_⟩
  rw [Int.zero_mul, fd_zero]
  exact cosZ (ten P) 59
noncomputable abbrev WaveArg (n P : Int) : Prop := 12 ≤ P ∧ P ≤ 59 ∧ n ≤ ten P ∧ -(ten P) ≤ n ∧ (1000000 ≤ n ∨ n ≤ -1000000)
/-- the alternating sum of k terms from the i-th on -/
noncomputable def altW (q one f t0 : Int) : Nat → Nat → Int
  | _, 0 => 0
  | i, k+1 => wvT q one f t0 i - altW q one f t0 (i+1) k
theorem wvS_alt (q one f t0 sg : Int) : ∀ (k i : Nat), wvS q one f t0 sg (i+k) = wvS q one f t0 sg i + sg * (-1)^i * altW q one f t0 i k := by
  intro k
  induction k with
  | zero => intro i; simp [altW]
  | succ k ih =>
    intro i
    have h := ih (i+1)
    rw [show i + 1 + k = i + (k+1) by omega] at h
    rw [h]
    simp only [wvS, altW]
    rw [Int.pow_succ]
    grind
theorem wvS_alt0 (q one f t0 sg : Int) (k : Nat) : wvS q one f t0 sg k = sg * altW q one f t0 0 k := by
  have := wvS_alt q one f t0 sg k 0
  rw [Nat.zero_add] at this
  rw [this]; simp [wvS]
section
variable {q one f t0 : Int} (ho : 0 < one) (hq0 : 0 ≤ q) (hq : q ≤ one) (hf : f = 0 ∨ f = 1) (h0 : 0 ≤ t0) (h1 : t0 ≤ one)
include ho hq0 hq hf h0 h1
theorem altW_bound : ∀ (k i : Nat), 0 ≤ altW q one f t0 i k ∧ altW q one f t0 i k ≤ wvT q one f t0 i := by
  intro k
  induction k with
  | zero => intro i; simp [altW]; exact wvT_nonneg ho hq0 hq hf h0 h1 i
  | succ k ih =>
    intro i
    have h := ih (i+1)
    have t := wvT_half ho hq0 hq hf h0 h1 i
    have n := wvT_nonneg ho hq0 hq hf h0 h1 i
    have n2 := wvT_nonneg ho hq0 hq hf h0 h1 (i+1)
    simp only [altW]
    omega
theorem altW_low (k : Nat) : t0 ≤ 2 * altW q one f t0 0 (k+1) ∧ altW q one f t0 0 (k+1) ≤ one := by
  have h := altW_bound ho hq0 hq hf h0 h1 k 1
  have t := wvT_half ho hq0 hq hf h0 h1 0
  have e : wvT q one f t0 0 = t0 := rfl
  simp only [altW]
  rw [Nat.zero_add] at t
  rw [e] at t ⊢
  rw [Nat.zero_add]
  omega
end
theorem wave_pre {n P : Int} (h : WaveArg n P) : WavePre n P ∧ WavePre (-n) P := ⟨⟨by omega, by omega, by omega, by omega⟩, ⟨by omega, by omega, by omega, by omega⟩⟩
theorem waves_pre {n P : Int} (h : WaveArg n P) : ExpPre n P ∧ ExpPre (-n) P ∧ WavePre n P ∧ WavePre (-n) P := by
  have := ten_pos P
  exact ⟨⟨by omega, by omega, by omega, by omega⟩, ⟨by omega, by omega, by omega, by omega⟩, (wave_pre h).1, (wave_pre h).2⟩
theorem sin_abs {n P : Int} (h : WavePre n P) : sinFixed n P = (if n < 0 then -1 else 1) * altW ((n*n).fdiv (ten P)) (ten P) 1 (if n < 0 then -n else n) 0 60 := by rw [sinFixed_def]; exact wvS_alt0 _ _ _ _ _ _
theorem cos_abs {n P : Int} : cosFixed n P = altW ((n*n).fdiv (ten P)) (ten P) 0 (ten P) 0 60 := by
  have := wvS_alt0 ((n*n).fdiv (ten P)) (ten P) 0 (ten P) 1 60
  rw [Int.one_mul] at this; rw [cosFixed_def]; exact this
theorem sin_low {n P : Int} (h : WavePre n P) : (if n < 0 then -n else n) ≤ 2 * altW ((n*n).fdiv (ten P)) (ten P) 1 (if n < 0 then -n else n) 0 60 ∧ altW ((n*n).fdiv (ten P)) (ten P) 1 (if n < 0 then -n else n) 0 60 ≤ ten P :=
  altW_low (ten_pos P) (wvSq h).1 (wvSq h).2 (.inr rfl) (by split <;> omega) (by split <;> omega) 59
theorem cos_low {n P : Int} (h : WavePre n P) : ten P ≤ 2 * altW ((n*n).fdiv (ten P)) (ten P) 0 (ten P) 0 60 ∧ altW ((n*n).fdiv (ten P)) (ten P) 0 (ten P) 0 60 ≤ ten P :=
  altW_low (ten_pos P) (wvSq h).1 (wvSq h).2 (.inl rfl) (Int.le_of_lt (ten_pos P)) (Int.le_refl _) 59
theorem waves_neg {n P : Int} (h : WaveArg n P) : sinFixed (-n) P = - sinFixed n P ∧ cosFixed (-n) P = cosFixed n P := by
  have e : -n * -n = n * n := by grind
  have hn : n ≠ 0 := by omega
  constructor
  · rw [sin_abs (wave_pre h).1, sin_abs (wave_pre h).2, e]
    by_cases c : n < 0
    · rw [if_neg (by omega), if_neg (by omega), if_pos c, if_pos c]; grind
    · rw [if_pos (by omega), if_pos (by omega), if_neg c, if_neg c, Int.neg_neg]; grind
  · rw [cos_abs, cos_abs, e]
theorem exp_up {n P : Int} (h : 0 ≤ n) (k : Nat) (hp : ExpPre n P) : ten P + n ≤ expS n (ten P) (k+1) := by
  have ho := ten_pos P
  induction k with
  | zero =>
    simp only [expS, expT]
    have : (ten P * n).fdiv (ten P * (((0:Nat):Int)+1)) = n := by
      rw [show ten P * (((0:Nat):Int)+1) = ten P by simp, Int.fdiv_eq_ediv_of_nonneg _ (by omega)]
      exact Int.mul_ediv_cancel_left _ (by omega)
    rw [this]; omega
  | succ k ih =>
    have := expT_nonneg ho hp.2.2.1 hp.2.2.2 h (k+1+1)
    rw [show expS n (ten P) (k+1+1) = expS n (ten P) (k+1) + expT n (ten P) (k+1+1) from rfl]
    omega
/-- below nought the terms go in pairs that are not positive -/
theorem exp_pair {n P : Int} (h : n < 0) (h2 : -(ten P) ≤ n) (i : Nat) : 0 ≤ expT n (ten P) (2*i) ∧ expT n (ten P) (2*i+1) ≤ 0 ∧ expT n (ten P) (2*i+1) + expT n (ten P) (2*i+2) ≤ 0 := by
  have ho := ten_pos P
  have neg : ∀ {a b : Int}, a ≤ 0 → 0 < b → a.fdiv b ≤ 0 := fun {a b} ha hb => by
    have u := fd_lo a hb
    rcases Int.lt_or_le 0 (a.fdiv b) with c | c
    · have := Int.mul_pos hb c; omega
    · exact c
  have key : ∀ i : Nat, 0 ≤ expT n (ten P) (2*i) → expT n (ten P) (2*i+1) ≤ 0 ∧ expT n (ten P) (2*i+1) + expT n (ten P) (2*i+2) ≤ 0 ∧ 0 ≤ expT n (ten P) (2*i+2) := by
    intro i h0
    have d1 : 0 < ten P * (((2*i:Nat):Int)+1) := Int.mul_pos ho (by omega)
    have d2 : 0 < ten P * (((2*i+1:Nat):Int)+1) := Int.mul_pos ho (by omega)
    have a : expT n (ten P) (2*i+1) ≤ 0 := by
      simp only [expT]
      refine neg ?_ d1
      have := Int.mul_nonneg h0 (show 0 ≤ -n by omega)
      rw [Int.mul_neg] at this; omega
    refine ⟨a, ?_, ?_⟩
    · have e : expT n (ten P) (2*i+2) = (expT n (ten P) (2*i+1) * n).fdiv (ten P * (((2*i+1:Nat):Int)+1)) := rfl
      rw [e]
      have l := fd_lo (expT n (ten P) (2*i+1) * n) d2
      generalize (expT n (ten P) (2*i+1) * n).fdiv (ten P * (((2*i+1:Nat):Int)+1)) = y at *
      generalize expT n (ten P) (2*i+1) = t at *
      have m := Int.mul_nonneg (show 0 ≤ -t by omega) (show 0 ≤ ten P + n by omega)
      have c : (1:Int) ≤ ((2*i+1:Nat):Int)+1 := by omega
      rcases Int.lt_or_le (-t) y with k | k
      · have w := Int.mul_le_mul_of_nonneg_left (show -t + 1 ≤ y from k) (Int.le_of_lt d2)
        have c2 := Int.mul_le_mul_of_nonneg_left c (Int.le_of_lt ho)
        have w2 := Int.mul_le_mul_of_nonneg_right c2 (show 0 ≤ -t + 1 by omega)
        grind
      · omega
    · rw [show 2*i+2 = 2*i+1+1 by omega]
      simp only [expT]
      refine fd_nonneg ?_ d2
      simp only [expT] at a
      have := Int.mul_nonneg (show 0 ≤ -((expT n (ten P) (2*i) * n).fdiv (ten P * (((2*i:Nat):Int)+1))) by omega) (show 0 ≤ -n by omega)
      grind
  have all : ∀ i : Nat, 0 ≤ expT n (ten P) (2*i) := by
    intro i
    induction i with
    | zero => simp only [Nat.mul_zero, expT]; omega
    | succ i ih => have := (key i ih).2.2; rw [show 2*(i+1) = 2*i+2 by omega]; exact this
  exact ⟨all i, (key i (all i)).1, (key i (all i)).2.1⟩
theorem exp_down {n P : Int} (h : n < 0) (h2 : -(ten P) ≤ n) (i : Nat) : expS n (ten P) (2*i) ≤ ten P := by
  induction i with
  | zero => simp only [Nat.mul_zero, expS]; omega
  | succ i ih =>
    have := (exp_pair h h2 i).2.2
    rw [show 2*(i+1) = 2*i+1+1 by omega]
    rw [show expS n (ten P) (2*i+1+1) = expS n (ten P) (2*i) + expT n (ten P) (2*i+1) + expT n (ten P) (2*i+2) from rfl]
    omega
theorem waves_sign {n P : Int} (h : WaveArg n P) : (n < 0 ∧ sinFixed n P < 0 ∧ expFixed n P ≤ 10 ^ P.toNat ∧ 0 < cosFixed n P) ∨ (0 < n ∧ 0 ≤ sinFixed n P ∧ 10 ^ P.toNat < expFixed n P ∧ 0 < cosFixed n P) := by
  have hw := (wave_pre h).1
  have hp := (waves_pre h).1
  have ho := ten_pos P
  have s := sin_low hw
  have c := cos_low hw
  rw [cos_abs]
  rw [sin_abs hw]
  by_cases hn : n < 0
  · left
    rw [if_pos hn] at *
    rw [if_pos hn] at *
    rw [expFixed_def]
    exact ⟨hn, by omega, exp_down hn h.2.2.2.1 65, by omega⟩
  · right
    rw [if_neg hn] at *
    rw [if_neg hn] at *
    have u : ten P + n ≤ expS n (ten P) 130 := exp_up (n := n) (P := P) (by omega) 129 hp
    refine ⟨by omega, by omega, ?_, by omega⟩
    show ten P < expFixed n P
    rw [expFixed_def]
    omega
theorem waves_sgn {n P : Int} (h : WaveArg n P) : (decide (sinFixed n P < 0) != decide (n < 0)) = false := by
  rcases waves_sign h with ⟨a, b, _, _⟩ | ⟨a, b, _, _⟩
  · rw [decide_eq_true a, decide_eq_true b]; rfl
  · rw [decide_eq_false (show ¬ n < 0 by omega), decide_eq_false (show ¬ sinFixed n P < 0 by omega)]; rfl
theorem waves_gt {n P : Int} (h : WaveArg n P) : (decide (10 ^ P.toNat < expFixed n P) == decide (0 < n)) = true := by
  rcases waves_sign h with ⟨a, _, b, _⟩ | ⟨a, _, b, _⟩
  · rw [decide_eq_false (show ¬ 0 < n by omega), decide_eq_false (show ¬ 10 ^ P.toNat < expFixed n P from Int.not_lt.mpr b)]; rfl
  · rw [decide_eq_true a, decide_eq_true b]; rfl
theorem waves_cos {n P : Int} (h : WaveArg n P) : 0 < cosFixed n P := by
  rcases waves_sign h with ⟨_, _, _, a⟩ | ⟨_, _, _, a⟩ <;> exact a
theorem waves_mul {n P : Int} (h : WaveArg n P) : IntMulOk (expFixed n P) (expFixed (-n) P) ∧ IntMulOk (10 ^ P.toNat) (10 ^ P.toNat) ∧ IntMulOk (sinFixed n P) (sinFixed n P) ∧ IntMulOk (cosFixed n P) (cosFixed n P) := by
  have hw := (wave_pre h).1
  have s := sin_low hw
  have c := cos_low hw
  have hp := waves_pre h
  have b := bits_ten (P := P) (by omega)
  have ho := ten_pos P
  have t := ten_lt (P := P) (by omega)
  have e : (2:Int)^401 = 4 * 2^399 := by decide +kernel
  have bs : Builtin.Int.intBits (sinFixed n P) ≤ 401 := by
    rw [sin_abs hw]
    by_cases hn : n < 0
    · rw [if_pos hn] at *
      rw [if_pos hn] at *
      refine bits_abs ?_ ?_ <;> omega
    · rw [if_neg hn] at *
      rw [if_neg hn] at *
      refine bits_abs ?_ ?_ <;> omega
  have bc : Builtin.Int.intBits (cosFixed n P) ≤ 401 := by
    rw [cos_abs]; refine bits_abs ?_ ?_ <;> omega
  exact ⟨mulOk_of_bits (exp_bits hp.1) (exp_bits hp.2.1) (by decide), mulOk_of_bits b b (by decide), mulOk_of_bits bs bs (by decide), mulOk_of_bits bc bc (by decide)⟩
theorem r_ten_pos (P : Int) : (0:Rat) < (ten P : Rat) := by
  have := Rat.intCast_lt_intCast.mpr (ten_pos P); simpa using this
theorem r_le {a b : Int} (h : a ≤ b) : (a:Rat) ≤ (b:Rat) := Rat.intCast_le_intCast.mpr h
theorem r_le_iff {a b : Int} (h : (a:Rat) ≤ (b:Rat)) : a ≤ b := Rat.intCast_le_intCast.mp h
/-- n as a part of one -/
theorem r_part (n : Int) {one : Int} (h : 0 < one) : ∃ x : Rat, (n:Rat) = (one:Rat) * x := by
  have : (0:Rat) < (one:Rat) := by have := Rat.intCast_lt_intCast.mpr h; simpa using this
  exact ⟨(n:Rat) / (one:Rat), by rw [Rat.mul_comm, Rat.div_mul_cancel (by grind)]⟩
theorem r_part_le {n one a b : Int} {x : Rat} (ho : 0 < one) (hx : (n:Rat) = (one:Rat) * x) (h : b * n ≤ a * one) : (b:Rat) * x ≤ (a:Rat) := by
  have o : (0:Rat) < (one:Rat) := by have := Rat.intCast_lt_intCast.mpr ho; simpa using this
  have := r_le h
  rw [Rat.intCast_mul, Rat.intCast_mul, hx] at this
  refine r_le_of_mul o ?_
  grind
theorem BB81 : BB 81 ≤ 87 := by decide +kernel
theorem E81 : EE 1 81 ≤ 3 := by decide +kernel
theorem exp_cut {n P : Int} (h : ExpPre n P) {k : Nat} (hk : P + 16 ≤ k) (hk2 : k ≤ 130) : expFixed n P = expS n (ten P) k := by
  have := expS_stay (expT_zero h hk) (130 - k)
  rw [show k + (130 - k) = 130 by omega] at this
  rw [expFixed_def]; exact this
theorem exp_close {n P : Int} {x : Rat} (h : ExpPre n P) (hx : (n:Rat) = (ten P : Rat) * x) {k : Nat} (hk : P + 16 ≤ k) (hk2 : k ≤ 130) :
    (expFixed n P : Rat) - (ten P : Rat) * EE x k ≤ BB k ∧ -(BB k) ≤ (expFixed n P : Rat) - (ten P : Rat) * EE x k := by
  rw [exp_cut h hk hk2]
  have ho := ten_pos P
  have a := r_part_le (a := 6) (b := 5) ho hx h.2.2.1
  have hx' : ((-n : Int) : Rat) = (ten P : Rat) * (-x) := by rw [Rat.intCast_neg, hx]; grind
  have b := r_part_le (a := 6) (b := 5) ho hx' (by have := h.2.2.2; omega)
  have e5 : ((5:Int):Rat) = 5 := rfl
  have e6 : ((6:Int):Rat) = 6 := rfl
  rw [e5, e6] at a b
  exact expS_err ho hx (by grind) (by grind) k
/-- the product of the two exponentials, n above nought -/
theorem exp_prod {n P : Int} (h : WaveArg n P) (hn : 0 < n) : -(400 * ten P) ≤ expFixed n P * expFixed (-n) P - ten P * ten P ∧ expFixed n P * expFixed (-n) P - ten P * ten P ≤ 400 * ten P := by
  have hp := waves_pre h
  have ho := ten_pos P
  obtain ⟨x, hx⟩ := r_part n ho
  have hx' : ((-n : Int) : Rat) = (ten P : Rat) * (-x) := by rw [Rat.intCast_neg, hx]; grind
  have a := exp_close hp.1 hx (k := 81) (by omega) (by decide)
  have b := exp_close hp.2.1 hx' (k := 81) (by omega) (by decide)
  have x1 := r_part_le (a := 1) (b := 1) ho hx (by omega)
  have x0 := r_part_le (a := 0) (b := 1) ho hx' (by omega)
  have e0 : ((0:Int):Rat) = 0 := rfl
  have e1 : ((1:Int):Rat) = 1 := rfl
  rw [e1] at x1
  rw [e0, e1] at x0
  have x1 : x ≤ 1 := by grind
  have x0 : 0 ≤ x := by grind
  have U1 := EE_nonneg x0 81
  have U3 := EE_mono x0 x1 81
  have E3 := E81
  have B := BB81
  have inv := EE_inv (k := 40) sqE1 (by decide) (x := x) (by grind) (by grind)
  rw [show 2*40+1 = 81 by rfl] at inv
  have t12 : (10:Int)^12 ≤ ten P := ipow_mono (by omega)
  have t59 : ten P ≤ (10:Int)^59 := ipow_mono (by omega)
  have t12 := r_le t12
  have t59 := r_le t59
  have c70 : (((10:Int)^70 : Int) : Rat) = 10000000000000000000000000000000000000000000000000000000000000000000000 := by decide +kernel
  have c12 : (((10:Int)^12 : Int) : Rat) = 1000000000000 := by decide +kernel
  have c59 : (((10:Int)^59 : Int) : Rat) = 100000000000000000000000000000000000000000000000000000000000 := by decide +kernel
  rw [c70] at inv
  rw [c12] at t12
  rw [c59] at t59
  have key : -(400 * (ten P : Rat)) ≤ (expFixed n P : Rat) * (expFixed (-n) P : Rat) - (ten P : Rat) * (ten P : Rat) ∧ (expFixed n P : Rat) * (expFixed (-n) P : Rat) - (ten P : Rat) * (ten P : Rat) ≤ 400 * (ten P : Rat) := by
    generalize (expFixed n P : Rat) = up at *
    generalize (expFixed (-n) P : Rat) = dn at *
    generalize EE x 81 = U at *
    generalize EE (-x) 81 = D at *
    generalize BB 81 = B0 at *
    generalize (ten P : Rat) = o at *
    have o0 : 0 < o := by grind
    -- D lies between nought and 101/100
    have d1 : D ≤ 101/100 := by
      rcases Rat.le_total (a := D) (b := 101/100) with c | c
      · exact c
      · have := r_mul_nonneg (show 0 ≤ U - 1 by grind) (show 0 ≤ D by grind); grind
    have d0 : 0 ≤ D := by
      rcases Rat.le_total (a := 0) (b := D) with c | c
      · exact c
      · have := r_mul_nonneg (show 0 ≤ U by grind) (show 0 ≤ -D by grind); grind
    have p1 := r_prod_le (X := 3) (B := 87) (x := U) (e := dn - o * D) (by grind) (by grind) (by grind) (by grind)
    have p2 := r_prod_le (X := 101/100) (B := 87) (x := D) (e := up - o * U) (by grind) (by grind) (by grind) (by grind)
    have p3 := r_prod_le (X := 87) (B := 87) (x := up - o * U) (e := dn - o * D) (by grind) (by grind) (by grind) (by grind)
    have w : o * (U * D - 1) ≤ 1 ∧ -1 ≤ o * (U * D - 1) := by
      have q := r_prod_le (X := o) (B := 1/100000000000000000000000000000000000000000000000000000000000) (x := o) (e := U * D - 1) (by grind) (by grind) (by grind) (by grind)
      grind
    have e : up * dn - o * o = o * (o * (U * D - 1)) + o * (U * (dn - o * D)) + o * (D * (up - o * U)) + (up - o * U) * (dn - o * D) := by grind
    rw [e]
    have m1 := r_prod_le (X := o) (B := 1) (x := o) (e := o * (U * D - 1)) (by grind) (by grind) w.1 w.2
    have m2 := r_prod_le (X := o) (B := 3 * 87) (x := o) (e := U * (dn - o * D)) (by grind) (by grind) (by grind) (by grind)
    have m3 := r_prod_le (X := o) (B := 101/100 * 87) (x := o) (e := D * (up - o * U)) (by grind) (by grind) (by grind) (by grind)
    generalize o * (o * (U * D - 1)) = z1 at *
    generalize o * (U * (dn - o * D)) = z2 at *
    generalize o * (D * (up - o * U)) = z3 at *
    generalize (up - o * U) * (dn - o * D) = z4 at *
    grind
  have c : ∀ {a b : Int}, (a:Rat) ≤ (b:Rat) → a ≤ b := fun h => r_le_iff h
  constructor
  · refine c ?_
    simp only [Rat.intCast_neg, Rat.intCast_mul, Rat.intCast_sub]
    exact key.1
  · refine c ?_
    simp only [Rat.intCast_mul, Rat.intCast_sub]
    exact key.2
theorem waves_exp {n P : Int} (h : WaveArg n P) : -(400 * 10 ^ P.toNat) ≤ expFixed n P * expFixed (-n) P - 10 ^ P.toNat * 10 ^ P.toNat ∧ expFixed n P * expFixed (-n) P - 10 ^ P.toNat * 10 ^ P.toNat ≤ 400 * 10 ^ P.toNat := by
  rcases Int.lt_or_le 0 n with c | c
  · exact exp_prod h c
  · have h' : WaveArg (-n) P := ⟨h.1, h.2.1, by omega, by omega, by omega⟩
    have := exp_prod h' (by omega)
    rw [Int.neg_neg, Int.mul_comm (expFixed (-n) P)] at this
    exact this
/-- a wave's term against its exact one: never above it, less than one and a half below -/
theorem wvT_err {q one f t0 : Int} {z c : Rat} (ho : 0 < one) (hq0 : 0 ≤ q) (hq : q ≤ one) (hf : f = 0 ∨ f = 1) (h0 : 0 ≤ t0) (h1 : t0 ≤ one)
    (hz0 : 0 ≤ z) (hz1 : z ≤ 1) (hqz : (q:Rat) ≤ (one:Rat) * z) (hqz2 : (one:Rat) * z ≤ (q:Rat) + 1) (hc : (t0:Rat) = (one:Rat) * c) (hm : ∀ k, 0 < mW f k) (j : Nat) :
    (wvT q one f t0 j : Rat) - (one:Rat) * (c * gp (mW f) z j) ≤ 0 ∧ -(3/2) ≤ (wvT q one f t0 j : Rat) - (one:Rat) * (c * gp (mW f) z j) ∧ (j = 0 → (wvT q one f t0 j : Rat) - (one:Rat) * (c * gp (mW f) z j) = 0) := by
  induction j with
  | zero =>
    have e : (wvT q one f t0 0 : Rat) - (one:Rat) * (c * gp (mW f) z 0) = 0 := by
      simp only [wvT, gp]; rw [hc]; grind
    rw [e]; exact ⟨by grind, by grind, fun _ => rfl⟩
  | succ j ih =>
    have T0 := wvT_nonneg ho hq0 hq hf h0 h1 j
    have T1 := wvT_le ho hq0 hq hf h0 h1 j
    have D0 := wv_den ho hq0 hq hf h0 h1 j
    have eD : one * (f + 2*(j:Int) + 1) * (f + 2*(j:Int) + 2) = one * mW f j := by show _ = one * ((f + 2*(j:Int) + 1) * (f + 2*(j:Int) + 2)); rw [Int.mul_assoc]
    have fl := r_floor (wvT q one f t0 j * q) (b := one * (f + 2*(j:Int) + 1) * (f + 2*(j:Int) + 2)) (by omega)
    have e1 : wvT q one f t0 (j+1) = (wvT q one f t0 j * q).fdiv (one * (f + 2*(j:Int) + 1) * (f + 2*(j:Int) + 2)) := rfl
    rw [← e1, eD, Rat.intCast_mul one (mW f j), Rat.intCast_mul (wvT q one f t0 j) q] at fl
    have g := gp_mul hm z j
    have m2 : (2:Rat) ≤ (mW f j : Rat) := by
      have : (2:Int) ≤ mW f j := by
        have := Int.mul_le_mul (show (1:Int) ≤ f + 2*(j:Int) + 1 by omega) (show (2:Int) ≤ f + 2*(j:Int) + 2 by omega) (by omega) (by omega)
        exact this
      have := r_le this; simpa using this
    have m12 : j ≠ 0 → (12:Rat) ≤ (mW f j : Rat) := by
      intro hj
      have : (12:Int) ≤ mW f j := by
        have := Int.mul_le_mul (show (3:Int) ≤ f + 2*(j:Int) + 1 by omega) (show (4:Int) ≤ f + 2*(j:Int) + 2 by omega) (by omega) (by omega)
        exact this
      have := r_le this; simpa using this
    have o : (0:Rat) < (one:Rat) := by have := Rat.intCast_lt_intCast.mpr ho; simpa using this
    have T0 := r_le T0
    have T1 := r_le T1
    have e00 : ((0:Int):Rat) = 0 := rfl
    rw [e00] at T0
    generalize (wvT q one f t0 (j+1) : Rat) = T' at *
    generalize (wvT q one f t0 j : Rat) = T at *
    generalize gp (mW f) z (j+1) = p' at *
    generalize gp (mW f) z j = p at *
    generalize (mW f j : Rat) = m at *
    generalize (one:Rat) = r at *
    generalize (q:Rat) = Q at *
    have a1 := r_mul_nonneg T0 (show 0 ≤ r * z - Q by grind)
    have a2 := r_mul_nonneg T0 (show 0 ≤ Q + 1 - r * z by grind)
    have l1 : m * T' ≤ T * z := by
      refine r_le_of_mul (c := r) o ?_
      grind
    have l2 : T * z ≤ m * T' + m + 1 := by
      refine r_le_of_mul (c := r) o ?_
      grind
    have e2 : m * (T' - r * (c * p')) = m * T' - r * (c * (z * p)) := by rw [← g]; grind
    have e3 : z * (T - r * (c * p)) = T * z - r * (c * (z * p)) := by grind
    have q1 := r_mul_nonneg hz0 (show 0 ≤ -(T - r * (c * p)) by grind)
    have q2 := r_mul_nonneg hz0 (show 0 ≤ (T - r * (c * p)) + 3/2 by grind)
    refine ⟨?_, ?_, fun h => absurd h (by omega)⟩
    · refine r_le_of_mul (c := m) (by grind) ?_
      rw [e2]; grind
    · refine r_le_of_mul (c := m) (by grind) ?_
      rw [e2]
      rcases Nat.eq_zero_or_pos j with hj | hj
      · have z0 := ih.2.2 hj
        rw [z0] at e3
        grind
      · have := m12 (by omega)
        grind
theorem wvS_err {q one f t0 : Int} {z c : Rat} (ho : 0 < one) (hq0 : 0 ≤ q) (hq : q ≤ one) (hf : f = 0 ∨ f = 1) (h0 : 0 ≤ t0) (h1 : t0 ≤ one)
    (hz0 : 0 ≤ z) (hz1 : z ≤ 1) (hqz : (q:Rat) ≤ (one:Rat) * z) (hqz2 : (one:Rat) * z ≤ (q:Rat) + 1) (hc : (t0:Rat) = (one:Rat) * c) (hm : ∀ k, 0 < mW f k) (k : Nat) :
    (wvS q one f t0 1 (k+1) : Rat) - (one:Rat) * (c * gA (mW f) sW z k) ≤ (3/2) * (k:Rat) ∧ -((3/2) * (k:Rat)) ≤ (wvS q one f t0 1 (k+1) : Rat) - (one:Rat) * (c * gA (mW f) sW z k) := by
  induction k with
  | zero =>
    have e : (wvS q one f t0 1 (0+1) : Rat) - (one:Rat) * (c * gA (mW f) sW z 0) = 0 := by
      simp [wvS, wvT, gA, sW]; rw [hc]; grind
    rw [e]; simp
  | succ k ih =>
    have t := wvT_err ho hq0 hq hf h0 h1 hz0 hz1 hqz hqz2 hc hm (k+1)
    have e1 : wvS q one f t0 1 (k+1+1) = wvS q one f t0 1 (k+1) + (1 * (-1)^(k+1)) * wvT q one f t0 (k+1) := rfl
    have e2 : gA (mW f) sW z (k+1) = gA (mW f) sW z k + (sW (k+1) : Rat) * gp (mW f) z (k+1) := rfl
    have e3 : sW (k+1) = (-1)^(k+1) := rfl
    rw [e1, e2, e3, Int.one_mul, Rat.intCast_add, Rat.intCast_mul, cast_succ]
    have s : (((-1:Int)^(k+1) : Int) : Rat) = 1 ∨ (((-1:Int)^(k+1) : Int) : Rat) = -1 := by
      rcases turn_pow (turn := -1) (.inr rfl) (k+1) with h | h <;> rw [h]
      · exact .inl rfl
      · exact .inr rfl
    generalize (((-1:Int)^(k+1) : Int) : Rat) = s0 at *
    generalize (wvT q one f t0 (k+1) : Rat) = T at *
    generalize gp (mW f) z (k+1) = p at *
    generalize gA (mW f) sW z k = A at *
    generalize (wvS q one f t0 1 (k+1) : Rat) = S at *
    rcases s with s | s <;> subst s <;> grind
theorem wv_cut {q one f t0 : Int} (ho : 0 < one) (hq0 : 0 ≤ q) (hq : q ≤ one) (hf : f = 0 ∨ f = 1) (h0 : 0 ≤ t0) (h1 : t0 ≤ one) (hb : one ≤ 10^59) : altW q one f t0 0 60 = wvS q one f t0 1 37 := by
  have h := wvT_hpow ho hq0 hq hf h0 h1 32
  have n := wvT_nonneg ho hq0 hq hf h0 h1 37
  rw [show 5+32 = 37 by rfl] at h
  have z : wvT q one f t0 37 = 0 := by
    rcases Int.lt_or_le (wvT q one f t0 37) 1 with c | c
    · omega
    · have := Int.mul_le_mul_of_nonneg_left c (show (0:Int) ≤ 100^32 from Int.pow_nonneg (by decide))
      have e : (10:Int)^59 < 100^32 * 1 := by decide +kernel
      omega
  have a := wvS_alt0 q one f t0 1 60
  rw [Int.one_mul] at a
  rw [← a]
  exact wvS_stay z 23
theorem sq_one {a A o : Rat} (h1 : a - o * A ≤ 54) (h2 : -54 ≤ a - o * A) (h3 : 0 ≤ a) (h4 : a ≤ o) : a * a - o * o * (A * A) ≤ 54 * (2 * o + 54) ∧ -(54 * (2 * o + 54)) ≤ a * a - o * o * (A * A) := by
  have q := r_prod_le (X := 54) (B := 2 * o + 54) (x := a - o * A) (e := a + o * A) h1 h2 (by grind) (by grind)
  have e : a * a - o * o * (A * A) = (a - o * A) * (a + o * A) := by grind
  rw [e]; exact q
theorem waves_sq {n P : Int} (h : WaveArg n P) : -(400 * 10 ^ P.toNat) ≤ sinFixed n P * sinFixed n P + cosFixed n P * cosFixed n P - 10 ^ P.toNat * 10 ^ P.toNat ∧ sinFixed n P * sinFixed n P + cosFixed n P * cosFixed n P - 10 ^ P.toNat * 10 ^ P.toNat ≤ 400 * 10 ^ P.toNat := by
  have hw := (wave_pre h).1
  have ho := ten_pos P
  have sl := sin_low hw
  have cl := cos_low hw
  have hq := wvSq hw
  have hb : ten P ≤ 10^59 := ipow_mono (by omega)
  have ht : 0 ≤ (if n < 0 then -n else n) ∧ (if n < 0 then -n else n) ≤ ten P := by split <;> omega
  have es : sinFixed n P * sinFixed n P = altW ((n*n).fdiv (ten P)) (ten P) 1 (if n < 0 then -n else n) 0 60 * altW ((n*n).fdiv (ten P)) (ten P) 1 (if n < 0 then -n else n) 0 60 := by
    rw [sin_abs hw]
    generalize altW ((n*n).fdiv (ten P)) (ten P) 1 (if n < 0 then -n else n) 0 60 = y
    by_cases c : n < 0
    · rw [if_pos c]; grind
    · rw [if_neg c]; grind
  rw [es, cos_abs]
  have cs := wv_cut ho hq.1 hq.2 (.inr rfl) ht.1 ht.2 hb
  have cc := wv_cut (f := 0) ho hq.1 hq.2 (.inl rfl) (Int.le_of_lt ho) (Int.le_refl _) hb
  have efl := r_floor (n*n) ho
  obtain ⟨x, hx⟩ := r_part n ho
  have hn2 : ((n*n : Int) : Rat) = (ten P : Rat) * ((ten P : Rat) * (x*x)) := by rw [Rat.intCast_mul, hx]; grind
  rw [hn2] at efl
  have o := r_ten_pos P
  have q1 : (((n*n).fdiv (ten P) : Int) : Rat) ≤ (ten P : Rat) * (x*x) := r_le_of_mul o efl.1
  have q2 : (ten P : Rat) * (x*x) ≤ (((n*n).fdiv (ten P) : Int) : Rat) + 1 := by refine r_le_of_mul o ?_; grind
  have z0 : 0 ≤ x*x := by
    rcases Rat.le_total (a := 0) (b := x) with c | c
    · exact r_mul_nonneg c c
    · have := r_mul_nonneg (show 0 ≤ -x by grind) (show 0 ≤ -x by grind); grind
  have x1 := r_part_le (a := 1) (b := 1) ho hx (by omega)
  have hx' : ((-n : Int) : Rat) = (ten P : Rat) * (-x) := by rw [Rat.intCast_neg, hx]; grind
  have x2 := r_part_le (a := 1) (b := 1) ho hx' (by omega)
  have e1 : ((1:Int):Rat) = 1 := rfl
  rw [e1] at x1 x2
  have z1 : x*x ≤ 1 := by have := r_mul_nonneg (show 0 ≤ 1 - x by grind) (show 0 ≤ 1 + x by grind); grind
  have hcs : (((if n < 0 then -n else n : Int)) : Rat) = (ten P : Rat) * (if n < 0 then -x else x) := by
    by_cases c : n < 0
    · rw [if_pos c, if_pos c]; exact hx'
    · rw [if_neg c, if_neg c]; exact hx
  have errS := wvS_err ho hq.1 hq.2 (.inr rfl) ht.1 ht.2 z0 z1 q1 q2 hcs mW1_pos 36
  have errC := wvS_err (f := 0) (c := 1) ho hq.1 hq.2 (.inl rfl) (Int.le_of_lt ho) (Int.le_refl _) z0 z1 q1 q2 (by grind) mW0_pos 36
  have k36 : (3/2) * ((36:Nat):Rat) = 54 := by decide +kernel
  rw [k36] at errS errC
  rw [show 36+1 = 37 by rfl, ← cs] at errS
  rw [show 36+1 = 37 by rfl, ← cc] at errC
  have inv := sqChk_of sqW (by decide) (z := x*x) (by grind) (by grind)
  have sx : (if n < 0 then -x else x) * (if n < 0 then -x else x) = x * x := by split <;> grind
  have c70 : (((10:Int)^70 : Int) : Rat) = 10000000000000000000000000000000000000000000000000000000000000000000000 := by decide +kernel
  have c59 : (((10:Int)^59 : Int) : Rat) = 100000000000000000000000000000000000000000000000000000000000 := by decide +kernel
  have c12 : (((10:Int)^12 : Int) : Rat) = 1000000000000 := by decide +kernel
  have t12 : (10:Int)^12 ≤ ten P := ipow_mono (by omega)
  have t12 := r_le t12
  have t59 := r_le hb
  rw [c70, e1] at inv
  rw [c12] at t12
  rw [c59] at t59
  have bS1 := r_le sl.2
  have bC1 := r_le cl.2
  have bS0 := r_le (show 0 ≤ altW ((n*n).fdiv (ten P)) (ten P) 1 (if n < 0 then -n else n) 0 60 by omega)
  have bC0 := r_le (show 0 ≤ altW ((n*n).fdiv (ten P)) (ten P) 0 (ten P) 0 60 by omega)
  have e00 : ((0:Int):Rat) = 0 := rfl
  rw [e00] at bS0 bC0
  generalize altW ((n*n).fdiv (ten P)) (ten P) 1 (if n < 0 then -n else n) 0 60 = s at *
  generalize altW ((n*n).fdiv (ten P)) (ten P) 0 (ten P) 0 60 = c at *
  have key : -(400 * (ten P : Rat)) ≤ (s:Rat) * (s:Rat) + (c:Rat) * (c:Rat) - (ten P : Rat) * (ten P : Rat) ∧ (s:Rat) * (s:Rat) + (c:Rat) * (c:Rat) - (ten P : Rat) * (ten P : Rat) ≤ 400 * (ten P : Rat) := by
    generalize gA (mW 1) sW (x*x) 36 = V1 at *
    generalize gA (mW 0) sW (x*x) 36 = V0 at *
    generalize (if n < 0 then -x else x) = y at *
    have aS := sq_one (a := (s:Rat)) (A := y * V1) (o := (ten P : Rat)) (by grind) (by grind) bS0 bS1
    have aC := sq_one (a := (c:Rat)) (A := 1 * V0) (o := (ten P : Rat)) (by grind) (by grind) bC0 bC1
    have ey : y * V1 * (y * V1) = x * x * (V1 * V1) := by rw [← sx]; grind
    rw [ey] at aS
    generalize (ten P : Rat) = r at *
    have w : r * (1 * (x * x * (V1 * V1)) + V0 * V0 - 1) ≤ 1 ∧ -1 ≤ r * (1 * (x * x * (V1 * V1)) + V0 * V0 - 1) := by
      have q := r_prod_le (X := r) (B := 1/100000000000000000000000000000000000000000000000000000000000) (x := r) (e := 1 * (x * x * (V1 * V1)) + V0 * V0 - 1) (by grind) (by grind) (by grind) (by grind)
      grind
    have m1 := r_prod_le (X := r) (B := 1) (x := r) (e := r * (1 * (x * x * (V1 * V1)) + V0 * V0 - 1)) (by grind) (by grind) w.1 w.2
    have e : (s:Rat) * (s:Rat) + (c:Rat) * (c:Rat) - r * r = r * (r * (1 * (x * x * (V1 * V1)) + V0 * V0 - 1)) + ((s:Rat) * (s:Rat) - r * r * (x * x * (V1 * V1))) + ((c:Rat) * (c:Rat) - r * r * (1 * V0 * (1 * V0))) := by grind
    rw [e]
    generalize r * (r * (1 * (x * x * (V1 * V1)) + V0 * V0 - 1)) = u1 at *
    generalize (s:Rat) * (s:Rat) - r * r * (x * x * (V1 * V1)) = u2 at *
    generalize (c:Rat) * (c:Rat) - r * r * (1 * V0 * (1 * V0)) = u3 at *
    grind
  constructor
  · refine r_le_iff ?_
    show ((-(400 * ten P) : Int) : Rat) ≤ ((s * s + c * c - ten P * ten P : Int) : Rat)
    simp only [Rat.intCast_neg, Rat.intCast_mul, Rat.intCast_sub, Rat.intCast_add]
    exact key.1
  · refine r_le_iff ?_
    show ((s * s + c * c - ten P * ten P : Int) : Rat) ≤ ((400 * ten P : Int) : Rat)
    simp only [Rat.intCast_mul, Rat.intCast_sub, Rat.intCast_add]
    exact key.2
theorem E1161 : (19/6 : Rat) < EE (2323/2000) 105 := by decide +kernel
theorem BB105 : BB 105 ≤ 112 := by decide +kernel
theorem log_exp {z y o M : Rat} (h0 : 0 ≤ z) (h1 : z ≤ 13/25) (y0 : 0 ≤ y) (y1 : y ≤ LL z) (y2 : o * (LL z - y) ≤ 1280) (o0 : 0 < o) (o1 : o * eps90 ≤ 1/10) (hM : M * (1 - z) = 1 + z) :
    0 ≤ o * (M - EE y 105) ∧ o * (M - EE y 105) ≤ 4060 ∧ 1 ≤ M ∧ M ≤ 19/6 ∧ LL z ≤ 2323/2000 := by
  have f := FF_one h0 h1
  have fm := FF_mul h0
  have l := LL_bounds h0 h1
  have s := (EE_step y0 y1 104).2
  rw [show 104 + 1 = 105 by rfl] at s
  have e : EE (LL z) 105 = EE (LL z) 104 + pe (LL z) 105 := rfl
  have pn := pe_nonneg l.1 105
  have n4 := EE_nonneg l.1 104
  have my := EE_mono y0 y1 105
  have ny := EE_nonneg y0 105
  have k := E1161
  have big : ¬ LL z ≤ 2323/2000 → EE (2323/2000) 105 ≤ EE (LL z) 105 := fun h => EE_mono (by decide +kernel) (by grind) 105
  have en := eps90_nonneg
  generalize EE (2323/2000) 105 = K at *
  generalize EE (LL z) 105 = EL at *
  generalize EE (LL z) 104 = E4 at *
  generalize pe (LL z) 105 = p at *
  generalize EE y 105 = E at *
  generalize FF z = F at *
  generalize eps90 = ep at *
  have z1 : 0 < 1 - z := by grind
  have u1 := r_mul_nonneg (show 0 ≤ 1 - F by grind) (show 0 ≤ 1 + z by grind)
  have a1 : EL ≤ M := by refine r_le_of_mul z1 ?_; grind
  have M1 : 1 ≤ M := by refine r_le_of_mul z1 ?_; grind
  have M2 : M ≤ 19/6 := by refine r_le_of_mul z1 ?_; grind
  have u2 := r_mul_nonneg (show 0 ≤ F - (1 - 21 * ep * z) by grind) (show 0 ≤ 1 + z by grind)
  have a2 : M - EL ≤ M * (21 * ep * z) := by
    refine r_le_of_mul z1 ?_
    have e1 : (1 - z) * (M - EL) = (1 + z) - F * (1 + z) := by rw [fm, ← hM]; grind
    have e2 : (1 - z) * (M * (21 * ep * z)) = (1 + z) * (21 * ep * z) := by rw [← hM]; grind
    rw [e1, e2]; grind
  have a3 : o * (M - EL) ≤ 4 := by
    have q := r_mul_nonneg (Rat.le_of_lt o0) (show 0 ≤ M * (21 * ep * z) - (M - EL) by grind)
    have oe := r_mul_nonneg (Rat.le_of_lt o0) en
    have q2 := r_mul_le M2 (r_mul_le h1 o1 h0 (by grind)) (by grind) (by grind)
    have e1 : o * (M * (21 * ep * z)) = 21 * (M * (z * (o * ep))) := by grind
    grind
  have a4 : o * (EL - E) ≤ 1280 * (19/6) := by
    have q := r_mul_nonneg (r_mul_nonneg (Rat.le_of_lt o0) (show 0 ≤ LL z - y by grind)) (show 0 ≤ EL - E4 by grind)
    have q2 := r_mul_nonneg (Rat.le_of_lt o0) (show 0 ≤ (LL z - y) * E4 - (EL - E) by grind)
    have q3 := r_mul_le y2 (show EL ≤ 19/6 by grind) (r_mul_nonneg (Rat.le_of_lt o0) (show 0 ≤ LL z - y by grind)) (by grind)
    grind
  have a5 := r_mul_nonneg (Rat.le_of_lt o0) (show 0 ≤ M - E by grind)
  refine ⟨a5, by grind, M1, M2, ?_⟩
  rcases Classical.em (LL z ≤ 2323/2000) with c | c
  · exact c
  · have := big c; grind
-- the errors of the logarithm's loop
section
variable {m near P : Int} (h : LgPre m near P) {z : Rat} (hz : (lgA m near : Rat) = ((m + near : Int) : Rat) * z)
include h hz
theorem lg_z : 0 ≤ z ∧ z ≤ 13/25 := by
  have hn := lg_near h
  have hA := lgA_bound h
  have hd : 0 < m + near := by have := h.hm; omega
  have a := r_part_le (a := 13) (b := 25) hd hz (by omega)
  have hz' : ((-lgA m near : Int) : Rat) = ((m + near : Int) : Rat) * (-z) := by rw [Rat.intCast_neg, hz]; grind
  have b := r_part_le (a := 0) (b := 1) hd hz' (by omega)
  have e0 : ((0:Int):Rat) = 0 := rfl
  have e1 : ((1:Int):Rat) = 1 := rfl
  have e13 : ((13:Int):Rat) = 13 := rfl
  have e25 : ((25:Int):Rat) = 25 := rfl
  rw [e13, e25] at a
  rw [e0, e1] at b
  constructor <;> grind
theorem lg_t0 : (lgT0 m near P : Rat) ≤ (ten P : Rat) * z ∧ (ten P : Rat) * z - 1 ≤ (lgT0 m near P : Rat) := by
  have hn := lg_near h
  have hd : 0 < m + near := by have := h.hm; omega
  have f := r_floor (lgA m near * ten P) hd
  have d : (0:Rat) < ((m + near : Int) : Rat) := by have := Rat.intCast_lt_intCast.mpr hd; simpa using this
  have e : (lgA m near * ten P).fdiv (m + near) = lgT0 m near P := rfl
  rw [e, Rat.intCast_mul (lgA m near) (ten P), hz] at f
  generalize (lgT0 m near P : Rat) = T at *
  generalize ((m + near : Int) : Rat) = D at *
  constructor
  · refine r_le_of_mul d ?_; grind
  · refine r_le_of_mul d ?_; grind
theorem lg_sq : (lgSq m near P : Rat) ≤ (ten P : Rat) * (z*z) ∧ (ten P : Rat) * (z*z) - 2*z - 1 ≤ (lgSq m near P : Rat) := by
  have t := lg_t0 h hz
  have zz := lg_z h hz
  have o := r_ten_pos P
  have t0 := r_le (lgT0_bound h).1
  have e0 : ((0:Int):Rat) = 0 := rfl
  rw [e0] at t0
  have f := r_floor (lgT0 m near P * lgT0 m near P) (ten_pos P)
  have e : (lgT0 m near P * lgT0 m near P).fdiv (ten P) = lgSq m near P := rfl
  rw [e, Rat.intCast_mul (lgT0 m near P) (lgT0 m near P)] at f
  generalize (lgT0 m near P : Rat) = T at *
  generalize (lgSq m near P : Rat) = Q at *
  generalize (ten P : Rat) = r at *
  have a := r_mul_le t.1 t.1 t0 (by grind)
  have b := r_mul_nonneg (show 0 ≤ 1 - (r * z - T) by grind) (show 0 ≤ r * z + T by grind)
  constructor
  · refine r_le_of_mul o ?_; grind
  · refine r_le_of_mul o ?_; grind
theorem lgT_err (j : Nat) : 0 ≤ (ten P : Rat) * z^(2*j+1) - (lgT (lgSq m near P) (ten P) (lgT0 m near P) j : Rat) ∧ (ten P : Rat) * z^(2*j+1) - (lgT (lgSq m near P) (ten P) (lgT0 m near P) j : Rat) ≤ 3 := by
  have zz := lg_z h hz
  have o := r_ten_pos P
  induction j with
  | zero =>
    have t := lg_t0 h hz
    have e : z^(2*0+1) = z := by rw [Rat.pow_succ]; simp
    rw [e]
    simp only [lgT]
    constructor <;> grind
  | succ j ih =>
    have sq := lg_sq h hz
    have T0 := r_le (lgT_nonneg h j)
    have e0 : ((0:Int):Rat) = 0 := rfl
    rw [e0] at T0
    have f := r_floor (lgT (lgSq m near P) (ten P) (lgT0 m near P) j * lgSq m near P) (ten_pos P)
    have e : (lgT (lgSq m near P) (ten P) (lgT0 m near P) j * lgSq m near P).fdiv (ten P) = lgT (lgSq m near P) (ten P) (lgT0 m near P) (j+1) := rfl
    rw [e, Rat.intCast_mul _ (lgSq m near P)] at f
    have ep : z^(2*(j+1)+1) = z^(2*j+1) * (z * z) := by rw [show 2*(j+1)+1 = 2*j+1+1+1 by omega, Rat.pow_succ, Rat.pow_succ]; grind
    have pz : z^(2*j+1) ≤ 13/25 := by
      have m := r_pow_mono zz.1 (show z ≤ 1 by grind) (2*j)
      have one : (1:Rat)^(2*j) = 1 := by
        have : ∀ n : Nat, (1:Rat)^n = 1 := fun n => by
          induction n with
          | zero => simp
          | succ n ih => rw [Rat.pow_succ, ih]; grind
        exact this _
      rw [one] at m
      rw [Rat.pow_succ]
      have := r_mul_le m zz.2 (r_pow_nonneg zz.1 _) (by grind)
      grind
    rw [ep]
    generalize (lgT (lgSq m near P) (ten P) (lgT0 m near P) (j+1) : Rat) = T' at *
    generalize (lgT (lgSq m near P) (ten P) (lgT0 m near P) j : Rat) = T at *
    generalize (lgSq m near P : Rat) = Q at *
    generalize z^(2*j+1) = w at *
    generalize (ten P : Rat) = r at *
    have a1 := r_mul_nonneg T0 (show 0 ≤ r * (z*z) - Q by grind)
    have a2 := r_mul_nonneg T0 (show 0 ≤ Q - (r * (z*z) - 2*z - 1) by grind)
    have l1 : T' ≤ T * (z*z) := by refine r_le_of_mul o ?_; grind
    have l2 : T * (2*z+1) ≤ r * (663/625) := by
      have rw' := r_mul_nonneg (Rat.le_of_lt o) (show 0 ≤ 13/25 - w by grind)
      have := r_mul_le (show T ≤ r * (13/25) by grind) (show 2*z+1 ≤ 51/25 by grind) T0 (by grind)
      grind
    have l3 : T * (z*z) - 663/625 - 1 ≤ T' := by refine r_le_of_mul o ?_; grind
    have z2 := r_mul_le zz.2 zz.2 zz.1 (by grind)
    have z3 := r_mul_nonneg zz.1 zz.1
    have b1 := r_mul_nonneg z3 (show 0 ≤ r * w - T by grind)
    have b2 := r_mul_le z2 (show r * w - T ≤ 3 by grind) z3 (by grind)
    constructor <;> grind
theorem lgS_err (k : Nat) : 0 ≤ (ten P : Rat) * aA z k - (lgS (lgSq m near P) (ten P) (lgT0 m near P) k : Rat) ∧ (ten P : Rat) * aA z k - (lgS (lgSq m near P) (ten P) (lgT0 m near P) k : Rat) ≤ 4 * (k:Rat) := by
  induction k with
  | zero => simp [aA, lgS]; grind
  | succ k ih =>
    have t := lgT_err h hz k
    have f := r_floor (lgT (lgSq m near P) (ten P) (lgT0 m near P) k) (show 0 < 2*(k:Int)+1 by omega)
    have c : ((2*(k:Int)+1 : Int) : Rat) = 2*(k:Rat)+1 := by rw [Rat.intCast_add, Rat.intCast_mul]; rfl
    rw [c] at f
    have a := aA_term z k
    have hk := nat_cast_nonneg k
    simp only [aA, lgS]
    rw [Rat.intCast_add, cast_succ]
    generalize z^(2*k+1) / (2*(k:Rat)+1) = v at *
    generalize ((lgT (lgSq m near P) (ten P) (lgT0 m near P) k).fdiv (2*(k:Int)+1) : Rat) = U at *
    generalize (lgT (lgSq m near P) (ten P) (lgT0 m near P) k : Rat) = T at *
    rw [← a] at t
    generalize (ten P : Rat) = r at *
    have v1 : 0 ≤ r * v - U := by refine r_le_of_mul (c := 2*(k:Rat)+1) (by grind) ?_; grind
    have v2 : r * v - U ≤ 4 := by refine r_le_of_mul (c := 2*(k:Rat)+1) (by grind) ?_; grind
    constructor <;> grind
end
/-- what the rest's law asks of the logarithm's parts -/
structure LgOut (m e d k rest : Int) : Prop where
  a : -9 ≤ e - k ∧ e - k ≤ 0
  b : 200 * (if rest < 0 then -rest else rest) ≤ 101 * logTen (plc m e d)
  c : ExpPre rest (plc m e d)
  d1 : e - k ≥ 0 → -5000 ≤ expFixed rest (plc m e d) - m * 10 ^ (e - k).toNat * 10 ^ (plc m e d).toNat ∧ expFixed rest (plc m e d) - m * 10 ^ (e - k).toNat * 10 ^ (plc m e d).toNat ≤ 5000
  d2 : e - k < 0 → -(5000 * 10 ^ (-(e - k)).toNat) ≤ expFixed rest (plc m e d) * 10 ^ (-(e - k)).toNat - m * 10 ^ (plc m e d).toNat ∧ expFixed rest (plc m e d) * 10 ^ (-(e - k)).toNat - m * 10 ^ (plc m e d).toNat ≤ 5000 * 10 ^ (-(e - k)).toNat
  f : Builtin.Int.intBits (expFixed rest (plc m e d)) ≤ 600
theorem r_quot (a : Int) {b : Int} (h : 0 < b) : ∃ W : Rat, W * (b:Rat) = (a:Rat) := by
  have : (0:Rat) < (b:Rat) := by have := Rat.intCast_lt_intCast.mpr h; simpa using this
  exact ⟨(a:Rat) / (b:Rat), Rat.div_mul_cancel (by grind)⟩
theorem to_int {X near m o : Int} {W : Rat} (hn : 0 < near) (hW : W * (near:Rat) = (m:Rat)) (h1 : (X:Rat) - (o:Rat) * W ≤ 5000) (h2 : -5000 ≤ (X:Rat) - (o:Rat) * W) :
    -(5000 * near) ≤ X * near - m * o ∧ X * near - m * o ≤ 5000 * near := by
  have n : (0:Rat) < (near:Rat) := by have := Rat.intCast_lt_intCast.mpr hn; simpa using this
  have a := r_mul_nonneg (Rat.le_of_lt n) (show 0 ≤ 5000 - ((X:Rat) - (o:Rat) * W) by grind)
  have b := r_mul_nonneg (Rat.le_of_lt n) (show 0 ≤ 5000 + ((X:Rat) - (o:Rat) * W) by grind)
  have e5 : ((5000:Int):Rat) = 5000 := rfl
  constructor
  · refine r_le_iff ?_
    simp only [Rat.intCast_neg, Rat.intCast_mul, Rat.intCast_sub]
    rw [e5, ← hW]; grind
  · refine r_le_iff ?_
    simp only [Rat.intCast_mul, Rat.intCast_sub]
    rw [e5, ← hW]; grind
theorem squeeze {K u : Rat} (K1 : 1 ≤ K) (up : K * u ≤ 4060 + 19/6) (lo : -(19/6) ≤ K * u) : u ≤ 4064 ∧ -4 ≤ u := by
  rcases Rat.le_total (a := u) (b := 0) with c | c
  · have := r_mul_nonneg (show 0 ≤ K - 1 by grind) (show 0 ≤ -u by grind)
    constructor <;> grind
  · have := r_mul_nonneg (show 0 ≤ K - 1 by grind) c
    constructor <;> grind
section
variable {m near P S : Int} (h : LgPre m near P) (hS : S = lgS (lgSq m near P) (ten P) (lgT0 m near P) 160)
include h hS
/-- the sum's place: y = 2S/one -/
theorem lg_sum {z : Rat} (hz : (lgA m near : Rat) = ((m + near : Int) : Rat) * z) : ∃ y : Rat, ((2 * S : Int) : Rat) = (ten P : Rat) * y ∧ 0 ≤ y ∧ y ≤ LL z ∧ (ten P : Rat) * (LL z - y) ≤ 1280 ∧ (ten P : Rat) * eps90 ≤ 1/10 := by
  obtain ⟨y, hy⟩ := r_part (2*S) (ten_pos P)
  have o := r_ten_pos P
  have er := lgS_err h hz 160
  rw [← hS] at er
  have s0 := r_le (lgS_bound h 160).1
  rw [← hS] at s0
  have e0 : ((0:Int):Rat) = 0 := rfl
  rw [e0] at s0
  have k : (4:Rat) * ((160:Nat):Rat) = 640 := by decide +kernel
  rw [k] at er
  have e2 : ((2 * S : Int) : Rat) = 2 * (S:Rat) := by rw [Rat.intCast_mul]; rfl
  rw [e2] at hy
  have hP := h.hP
  have t89 : ten P ≤ (10:Int)^89 := ipow_mono (by omega)
  have t89 := r_le t89
  have c : (((10:Int)^89 : Int) : Rat) * eps90 ≤ 1/10 := by decide +kernel
  have q := r_mul_nonneg (show 0 ≤ (((10:Int)^89 : Int) : Rat) - (ten P : Rat) by grind) eps90_nonneg
  refine ⟨y, by rw [e2]; exact hy, ?_, ?_, ?_, ?_⟩
  · refine r_le_of_mul o ?_; grind
  · refine r_le_of_mul o ?_; unfold LL; grind
  · unfold LL; grind
  · grind
theorem lg_pre_of {y : Rat} (hy : ((2 * S : Int) : Rat) = (ten P : Rat) * y) (y1 : y ≤ 2323/2000) : 0 ≤ S ∧ 2000 * (2 * S) ≤ 2323 * ten P ∧ ExpPre (2*S) P ∧ ExpPre (-2*S) P := by
  have o := r_ten_pos P
  have s0 := (lgS_bound h 160).1
  rw [← hS] at s0
  have hP := h.hP
  have hb : 2000 * (2 * S) ≤ 2323 * ten P := by
    refine r_le_iff ?_
    rw [Rat.intCast_mul 2000 (2*S), hy, Rat.intCast_mul 2323 (ten P)]
    have q := r_mul_nonneg (Rat.le_of_lt o) (show 0 ≤ 2323/2000 - y by grind)
    have a : ((2000:Int):Rat) = 2000 := rfl
    have b : ((2323:Int):Rat) = 2323 := rfl
    rw [a, b]; grind
  have t := ten_pos P
  exact ⟨s0, hb, ⟨by omega, by omega, by omega, by omega⟩, ⟨by omega, by omega, by omega, by omega⟩⟩
theorem lg_pos (hmn : ¬ m < near) : 2000 * (2 * S) ≤ 2323 * ten P ∧ 0 ≤ S ∧ ExpPre (2*S) P ∧ -(5000 * near) ≤ expFixed (2*S) P * near - m * ten P ∧ expFixed (2*S) P * near - m * ten P ≤ 5000 * near := by
  have hn := lg_near h
  have hd : 0 < m + near := by have := h.hm; omega
  obtain ⟨z, hz⟩ := r_part (lgA m near) hd
  have zz := lg_z h hz
  obtain ⟨y, hy, y0, y1, y2, o1⟩ := lg_sum h hS hz
  obtain ⟨W, hW⟩ := r_quot m hn
  have d : (0:Rat) < ((m + near : Int) : Rat) := by have := Rat.intCast_lt_intCast.mpr hd; simpa using this
  have eA : lgA m near = m - near := by unfold lgA; rw [if_neg (by omega)]
  rw [eA, Rat.intCast_sub, Rat.intCast_add] at hz
  rw [Rat.intCast_add] at d
  have hM : W * (1 - z) = 1 + z := by
    refine r_eq_of_mul d ?_
    rw [← hW] at hz ⊢
    grind
  have L := log_exp zz.1 zz.2 y0 y1 y2 (r_ten_pos P) o1 hM
  obtain ⟨s0, hb, p1, p2⟩ := lg_pre_of h hS hy (by grind)
  have hP := h.hP
  have c := exp_close p1 hy (k := 105) (by omega) (by decide)
  have B := BB105
  refine ⟨hb, s0, p1, ?_⟩
  exact to_int hn hW (by grind) (by grind)
theorem lg_neg (hmn : m < near) : 2000 * (2 * S) ≤ 2323 * ten P ∧ 0 ≤ S ∧ ExpPre (-2*S) P ∧ -(5000 * near) ≤ expFixed (-2*S) P * near - m * ten P ∧ expFixed (-2*S) P * near - m * ten P ≤ 5000 * near := by
  have hn := lg_near h
  have hm := h.hm
  have hd : 0 < m + near := by omega
  obtain ⟨z, hz⟩ := r_part (lgA m near) hd
  have zz := lg_z h hz
  obtain ⟨y, hy, y0, y1, y2, o1⟩ := lg_sum h hS hz
  obtain ⟨W, hW⟩ := r_quot m hn
  obtain ⟨M, hMm⟩ := r_quot near (show 0 < m by omega)
  have d : (0:Rat) < ((m + near : Int) : Rat) := by have := Rat.intCast_lt_intCast.mpr hd; simpa using this
  have nn : (0:Rat) < (near : Rat) := by have := Rat.intCast_lt_intCast.mpr hn; simpa using this
  have eA : lgA m near = near - m := by unfold lgA; rw [if_pos (by omega)]; omega
  rw [eA, Rat.intCast_sub, Rat.intCast_add] at hz
  rw [Rat.intCast_add] at d
  have hM : M * (1 - z) = 1 + z := by
    refine r_eq_of_mul d ?_
    rw [← hMm] at hz ⊢
    grind
  have MW : M * W = 1 := by
    refine r_eq_of_mul nn ?_
    have : (near:Rat) * (M * W) = M * (W * (near:Rat)) := by grind
    rw [this, hW, hMm]; grind
  have L := log_exp zz.1 zz.2 y0 y1 y2 (r_ten_pos P) o1 hM
  obtain ⟨s0, hb, p1, p2⟩ := lg_pre_of h hS hy (by grind)
  have hP := h.hP
  have hy' : ((-2 * S : Int) : Rat) = (ten P : Rat) * (-y) := by
    have : -2 * S = -(2*S) := by omega
    rw [this, Rat.intCast_neg, hy]; grind
  have c := exp_close p2 hy' (k := 105) (by omega) (by decide)
  have B := BB105
  have inv := EE_inv (k := 52) sqE2 (by decide) (x := y) (by grind) (by grind)
  rw [show 2*52+1 = 105 by rfl] at inv
  have ny := EE_nonneg y0 105
  have o := r_ten_pos P
  have c100 : (((10:Int)^100 : Int) : Rat) * eps90 = 10000000000 := by decide +kernel
  have en : 0 < eps90 := by decide +kernel
  have key : (ten P : Rat) * (EE (-y) 105 - W) ≤ 4064 ∧ -4 ≤ (ten P : Rat) * (EE (-y) 105 - W) := by
    generalize EE y 105 = E at *
    generalize EE (-y) 105 = E' at *
    generalize (ten P : Rat) = r at *
    generalize (((10:Int)^100 : Int) : Rat) = T at *
    generalize eps90 = ep at *
    have iv : r * (E * E' - 1) ≤ 1 ∧ -1 ≤ r * (E * E' - 1) := by
      -- T ep = 10^10, r ep <= 1/10
      have tp : 0 < T := by
        have : 0 < ep * T := by grind
        refine Rat.lt_of_mul_lt_mul_left (c := ep) ?_ (Rat.le_of_lt en)
        grind
      have rT : r ≤ T := by refine r_le_of_mul en ?_; grind
      have q1 := r_mul_nonneg (Rat.le_of_lt o) (show 0 ≤ 1 - T * (E * E' - 1) by grind)
      have q2 := r_mul_nonneg (Rat.le_of_lt o) (show 0 ≤ 1 + T * (E * E' - 1) by grind)
      constructor
      · refine r_le_of_mul tp ?_; grind
      · refine r_le_of_mul tp ?_; grind
    have K := r_mul_le L.2.2.1 ny (by grind) (by grind)
    have e1 : M * E * (r * (E' - W)) = M * (r * (E * E' - 1)) + r * (M - E) := by
      have : M * E * (r * (E' - W)) = r * (M * (E * E')) - r * E * (M * W) := by grind
      rw [this, MW]; grind
    have b1 := r_prod_le (X := 19/6) (B := 1) (x := M) (e := r * (E * E' - 1)) (by grind) (by grind) iv.1 iv.2
    generalize r * (E' - W) = u at *
    have K1 : 1 ≤ M * E := by grind
    have up : M * E * u ≤ 4060 + 19/6 := by grind
    have lo : -(19/6) ≤ M * E * u := by grind
    exact squeeze K1 up lo
  refine ⟨hb, s0, p2, ?_⟩
  exact to_int hn hW (by grind) (by grind)
end
/-- from the sum's bounds to what the law asks; near = 10 ^ s, k = e + s -/
theorem lgOut_of {m e d k rest : Int} {s : Nat} (hr : RestPre m e d) (hs : s ≤ 9) (hk : k = e + s) (hb : 2000 * (if rest < 0 then -rest else rest) ≤ 2323 * ten (plc m e d)) (hp : ExpPre rest (plc m e d))
    (h1 : -(5000 * 10^s) ≤ expFixed rest (plc m e d) * 10^s - m * ten (plc m e d)) (h2 : expFixed rest (plc m e d) * 10^s - m * ten (plc m e d) ≤ 5000 * 10^s) : LgOut m e d k rest := by
  obtain ⟨_, _, b1, b2, _⟩ := digs_bound hr
  have lw := log_low (P := plc m e d) ⟨b1, b2⟩
  subst hk
  refine ⟨by omega, by omega, hp, ?_, ?_, Nat.le_trans (exp_bits hp) (by decide)⟩
  · intro h
    have : s = 0 := by omega
    subst this
    rw [show (e - (e + ((0:Nat):Int))).toNat = 0 by omega]
    simp only [Int.pow_zero, Int.mul_one] at h1 h2 ⊢
    exact ⟨h1, h2⟩
  · intro h
    rw [show (-(e - (e + (s:Int)))).toNat = s by omega]
    exact ⟨h1, h2⟩
theorem near_pow {m near P : Int} (h : LgPre m near P) : ∃ s : Nat, s ≤ 9 ∧ near = 10^s := h.hn
theorem lgOut1n {m e d total n term : Int} (h : LgInv m (10 ^ (digs m - 1).toNat) (plc m e d) total n term) (h0 : ¬ 0 < term) (h1 : m < 10 ^ (digs m - 1).toNat) (hr : RestPre m e d) : LgOut m e d (e + digs m - 1) (-2 * total) := by
  obtain ⟨a, b, c, x, y⟩ := lg_neg h.pre (lgInv_total h h0) h1
  have db := digs_bound hr
  exact lgOut_of (s := (digs m - 1).toNat) hr (by omega) (by omega) (by split <;> omega) c x y
theorem lgOut1p {m e d total n term : Int} (h : LgInv m (10 ^ (digs m - 1).toNat) (plc m e d) total n term) (h0 : ¬ 0 < term) (h1 : ¬ m < 10 ^ (digs m - 1).toNat) (hr : RestPre m e d) : LgOut m e d (e + digs m - 1) (2 * total) := by
  obtain ⟨a, b, c, x, y⟩ := lg_pos h.pre (lgInv_total h h0) h1
  have db := digs_bound hr
  exact lgOut_of (s := (digs m - 1).toNat) hr (by omega) (by omega) (by split <;> omega) c x y
theorem lgOut2n {m e d total n term : Int} (h : LgInv m (10 ^ (digs m + 1 - 1).toNat) (plc m e d) total n term) (h0 : ¬ 0 < term) (h1 : m < 10 ^ (digs m + 1 - 1).toNat) (hr : RestPre m e d) : LgOut m e d (e + (digs m + 1) - 1) (-2 * total) := by
  obtain ⟨a, b, c, x, y⟩ := lg_neg h.pre (lgInv_total h h0) h1
  have db := digs_bound hr
  exact lgOut_of (s := (digs m + 1 - 1).toNat) hr (by omega) (by omega) (by split <;> omega) c x y
theorem lgOut2p {m e d total n term : Int} (h : LgInv m (10 ^ (digs m + 1 - 1).toNat) (plc m e d) total n term) (h0 : ¬ 0 < term) (h1 : ¬ m < 10 ^ (digs m + 1 - 1).toNat) (hr : RestPre m e d) : LgOut m e d (e + (digs m + 1) - 1) (2 * total) := by
  obtain ⟨a, b, c, x, y⟩ := lg_pos h.pre (lgInv_total h h0) h1
  have db := digs_bound hr
  exact lgOut_of (s := (digs m + 1 - 1).toNat) hr (by omega) (by omega) (by split <;> omega) c x y
-- draws
theorem draw_lo (x : Int) {m : Int} (h : 1 ≤ m) : 0 ≤ x.fmod m := by rw [Int.fmod_eq_emod_of_nonneg _ (by omega)]; exact Int.emod_nonneg _ (by omega)
theorem draw_hi (x : Int) {m : Int} (h : 1 ≤ m) : x.fmod m < m := by rw [Int.fmod_eq_emod_of_nonneg _ (by omega)]; exact Int.emod_lt_of_pos _ (by omega)
theorem wave_arg {v p : Int} (h1 : 0 ≤ v) (h2 : v < 10 ^ Int.toNat 6 + 1) (h3 : 0 ≤ p) (h4 : p < 48) (h : v * 10 ^ (12 + p - 6).toNat > 0) : 1000000 ≤ v * 10 ^ (12 + p - 6).toNat ∧ v * 10 ^ (12 + p - 6).toNat ≤ ten (12 + p) := by
  have e : (10:Int) ^ Int.toNat 6 = 1000000 := by decide
  rw [e] at h2
  have hp : (0:Int) < 10 ^ (12 + p - 6).toNat := Int.pow_pos (by decide)
  have h6 : (10:Int)^6 ≤ 10 ^ (12 + p - 6).toNat := ipow_mono (by omega)
  have et : ten (12 + p) = 1000000 * 10 ^ (12 + p - 6).toNat := by
    have : (12 + p).toNat = 6 + (12 + p - 6).toNat := by omega
    show (10:Int)^(12+p).toNat = _
    rw [this, Int.pow_add]; rfl
  have hv : 1 ≤ v := by
    rcases Int.lt_or_le 0 v with c | c
    · exact c
    · have : v = 0 := by omega
      subst this; omega
  rw [et]
  generalize (10:Int) ^ (12 + p - 6).toNat = q at *
  have a := Int.mul_le_mul_of_nonneg_right hv (Int.le_of_lt hp)
  have b := Int.mul_le_mul_of_nonneg_right (show v ≤ 1000000 by omega) (Int.le_of_lt hp)
  omega
theorem wave_pos {v p : Int} (h1 : 0 ≤ v) (h2 : v < 10 ^ Int.toNat 6 + 1) (h3 : 0 ≤ p) (h4 : p < 48) (h : v * 10 ^ (12 + p - 6).toNat > 0) : WaveArg (v * 10 ^ (12 + p - 6).toNat) (12 + p) := by
  have a := wave_arg h1 h2 h3 h4 h
  have t := ten_pos (12 + p)
  exact ⟨by omega, by omega, a.2, by omega, .inl a.1⟩
theorem wave_neg {v p : Int} (h1 : 0 ≤ v) (h2 : v < 10 ^ Int.toNat 6 + 1) (h3 : 0 ≤ p) (h4 : p < 48) (h : v * 10 ^ (12 + p - 6).toNat > 0) : WaveArg (-(v * 10 ^ (12 + p - 6).toNat)) (12 + p) := by
  have a := wave_arg h1 h2 h3 h4 h
  have t := ten_pos (12 + p)
  exact ⟨by omega, by omega, by omega, by omega, .inr (by omega)⟩
theorem mul_v {v x : Int} (h1 : 0 ≤ v) (h2 : v < 10 ^ Int.toNat 6 + 1) : IntMulOk v x := by
  have e : (10:Int) ^ Int.toNat 6 = 1000000 := by decide
  rw [e] at h2
  exact IntMulOk.of_left (intBits_le_64 (by omega) (by omega))
theorem ser_pre {a v p : Int} (h1 : 0 ≤ a) (h2 : a < 399) (h3 : 0 ≤ v) (h4 : v < 2) (h5 : 0 ≤ p) (h6 : p < 48) : SerPre (2 + a) ([1, -1].getD v.toNat 0) (12 + p) := by
  refine ⟨by omega, by omega, ?_, by omega, by omega⟩
  obtain h | h : v = 0 ∨ v = 1 := by omega
  · subst h; exact Or.inl rfl
  · subst h; exact Or.inr rfl
theorem rest_pre {a b c : Int} (h1 : 0 ≤ a) (h2 : a < 10 ^ Int.toNat 9 - 1) (h3 : 0 ≤ b) (h4 : b < 61) (h5 : 0 ≤ c) (h6 : c < 19) : RestPre (1 + a) (b - 30) (2 + c) := by
  have e : (10:Int) ^ Int.toNat 9 = 1000000000 := by decide
  rw [e] at h2
  exact ⟨by omega, by omega, by omega, by omega, by omega, by omega⟩
end Mine
set_option maxRecDepth 100000
set_option maxHeartbeats 8000000
namespace Mine
open_top hd for PySem.Challenge.rw_pf0116_01
end Mine
namespace Mine
section
open PySem.Calls PySem.Spec
noncomputable abbrev MTok := Tok
noncomputable abbrev MAddr := Addr
noncomputable abbrev MObj := Obj
noncomputable abbrev MVal := Value
noncomputable abbrev Led := List (Addr × Obj)
noncomputable abbrev MRet (h₀ : Heap) (L : Addr) (m : Str → Option Value) (news : Led) (s : Shared) (Q : Value → Shared → Prop) (R : MTok → Value) : Prop :=
  ∀ (t : MTok) (h' : Heap) (tk' : Nat), Fr h₀ L h' m → News h₀ L h' news → Q (R t) { s with heap := h', toks := tk' }
noncomputable abbrev MClaim (D : Nat) (w : World) (mean : ExcName → Option Value) (mg mb : Str → Option Value) (f : Addr) (news : Led) (pre : Prop) (vs : List Value) (R : MTok → Value) : Prop :=
  ∀ (dp un : Nat) (gd : Option (List Code)) (cn : Str) (cs : Scope) (a : Addr) (ccd : Value) (cl : List (Str × Addr)) (outer : List Env) (A₀ : Around) (base h₀ : Heap) (L : Addr) (m : Str → Option Value) (s : Shared) (Q E : Value → Shared → Prop),
    Below A₀ base outer h₀ → Fr h₀ L s.heap m → (hd.heap_39 w.params).In h₀ → News h₀ L s.heap news → Top hd.view_39 (looseW hd.view_39 []) mean mg mb h₀ → cs.kind = .function →
    pre → dp + D < recursionLimit → un + 8 * D < cLine → MRet h₀ L m news s Q R →
      wpAny (model PySem.Challenge.rw_pf0116_01.row.prog w) (ktrTop dp un gd cn cs L a ccd cl outer) (call (.ref f) vs) Q E s
theorem m_use {D : Nat} {w : World} {mean : ExcName → Option Value} {mg mb : Str → Option Value} {f : Addr} {news : Led} {pre : Prop} {vs : List Value} {R : MTok → Value}
    (C : MClaim D w mean mg mb f news pre vs R)
    {dp un : Nat} {gd : Option (List Code)} {cn : Str} {cs : Scope} {a : Addr} {ccd : Value} {cl : List (Str × Addr)} {outer : List Env} {A₀ : Around} {base h₀ : Heap} {L : Addr} {m : Str → Option Value} {s : Shared} {Q E : Value → Shared → Prop}
    (k1 : Below A₀ base outer h₀) (k2 : Fr h₀ L s.heap m) (k3 : (hd.heap_39 w.params).In h₀) (k4 : News h₀ L s.heap news) (k5 : Top hd.view_39 (looseW hd.view_39 []) mean mg mb h₀) (kK : cs.kind = .function)
    (kp : pre) (kd : dp + D < recursionLimit) (ku : un + 8 * D < cLine) (kR : MRet h₀ L m news s Q R) :
    wpAny (model PySem.Challenge.rw_pf0116_01.row.prog w) (ktrTop dp un gd cn cs L a ccd cl outer) (call (.ref f) vs) Q E s :=
  C _ _ _ _ _ _ _ _ _ _ _ _ _ _ _ _ _ k1 k2 k3 k4 k5 kK kp kd ku kR
end
-- common lines
local macro_rules | `(tactic| walk_at "call ref") => `(tactic| (k_here; refine wpAny_call ?_; k_dflt (refine' code_def ?k1 ?k2 ?k3 ?k4 ?k5 ?kA ?kF ?kK ?k6 ?k7 ?k8 ?k9 ?kB ?_ ?c2 ?c3 ?c4 ?c5; (case kA => exact rfl); (case kF => exact rfl); (case kK => first | exact rfl | assumption); (case k1 => k_asm); (case k2 => k_asm); (case k3 => k_asm); (case k4 => k_asm); (case k5 => k_asm); (case k6 => k_is); (case k7 => k_is); (case k8 => ktr_room); (case k9 => exact BindsTo.of_eq rfl); (case c5 => decide); (case kB => exact locs rfl); (case c2 => exact rfl); (case c3 => exact rfl); (case c4 => exact rfl); k_whole; intro g' L' h' FG' F' N' B' X' T'; (try dsimp only); (try k_lift B'); (try k_fold))))
local macro_rules | `(tactic| walk_at "own pre") => `(tactic| first | assumption | omega)
local macro_rules | `(tactic| walk_at "call ref") => `(tactic| (k_here; k_dflt (refine' m_use ?kC ?k1 ?k2 ?k3 ?k4 ?k5 ?kK ?kp ?kd ?ku ?_; (case k1 => k_asm); (case k2 => k_asm); (case k3 => k_asm); (case k4 => k_asm); (case k5 => k_asm); (case kK => first | exact rfl | assumption); (case kC => walk_at "own con"); (case kp => walk_at "own pre"); (case kd => ktr_room); (case ku => ktr_units)); intro t9 h9 tk9 F9 N9; (try dsimp only); (try k_fold)))
local macro_rules | `(tactic| walk_at "binaryOp FloorDiv int int") => `(tactic| (k_here; (with_reducible refine floordiv_int ?kbe ?_ (Or.inl ?kbp)); (case kbe => walk_at "own ne"); (case kbp => walk_at "own pl")))
local macro_rules | `(tactic| walk_at "inplaceOp FloorDiv int int") => `(tactic| (k_here; (with_reducible refine ifloordiv_int ?kbe ?_ (Or.inl ?kbp)); (case kbe => walk_at "own ne"); (case kbp => walk_at "own pl")))
local macro_rules | `(tactic| walk_at "binaryOp Pow int int") => `(tactic| (k_here; (with_reducible refine pow_int ?kbe ?kbp ?_); (case kbe => walk_at "own n0"); (case kbp => walk_at "own sz")))
-- end of the common lines
section
local macro_rules | `(tactic| mul_fits) => `(tactic| first | exact expInv_mul (by assumption) | exact expInv_mul2 (by assumption))
local macro_rules | `(tactic| walk_at "own ne") => `(tactic| exact expInv_ne (by assumption))
local macro_rules | `(tactic| walk_at "own pl") => `(tactic| exact expInv_pl (by assumption))
theorem exp_c (w : World) (mean : ExcName → Option Value) (mg mb : Str → Option Value) (news : Led) (n P : Int) (t_n t_P : MTok) :
    MClaim 1 w mean mg mb 63 news (ExpPre n P) [.int n t_n, .int P t_P] (fun t => .int (expFixed n P) t) := by
  k_with_none
  w_top off
  dsimp only [MClaim, MRet]
  k_fill
  k_with "exec While Compare cons nil" => k_while (fun _ total term k => ExpInv n P total term k) (fun _ _ _ k => (131 - k).toNat) "total" "term" "k"
  k_with "state" => first | exact expInv_start (by assumption) | exact expInv_step (by assumption) (by assumption)
  k_with "measure" => (have := expInv_k (by assumption) (by assumption); omega)
  k_with "tree" => exact expInv_end (by assumption) (by assumption)
  intros
  rename_i hret
  refine wpAny_call ?_
  k_dflt cell_enter
  k_steps
  all_goals cb_end hret
end
section
local macro_rules | `(tactic| mul_fits) => `(tactic| first | exact invInv_mul (by assumption) | exact invInv_mul2 (by assumption) | exact invInv_mul3 (by assumption))
local macro_rules | `(tactic| walk_at "own ne") => `(tactic| exact invInv_ne (by assumption))
local macro_rules | `(tactic| walk_at "own pl") => `(tactic| exact invInv_pl (by assumption))
local macro_rules | `(tactic| walk_at "own ne") => `(tactic| exact invInv_ne2 (by assumption))
local macro_rules | `(tactic| walk_at "own pl") => `(tactic| exact invInv_pl2 (by assumption))
theorem inv_c (w : World) (mean : ExcName → Option Value) (mg mb : Str → Option Value) (news : Led) (d P turn : Int) (t_d t_P t_turn : MTok) :
    MClaim 1 w mean mg mb 42 news (InvPre d P turn) [.int d t_d, .int P t_P, .int turn t_turn] (fun t => .int (invSeries d P turn) t) := by
  k_with_none
  w_top off
  dsimp only [MClaim, MRet]
  k_fill
  k_with "exec While Compare cons nil" => k_while (fun _ term total sign n => InvInv d P turn term total sign n) (fun _ _ _ _ n => (401 - n).toNat) "term" "total" "sign" "n"
  k_with "state" => first | exact invInv_start (by assumption) | exact invInv_step (by assumption) (by assumption)
  k_with "measure" => (have := invInv_k (by assumption) (by assumption); omega)
  k_with "tree" => exact invInv_end (by assumption) (by assumption)
  intros
  rename_i hret
  refine wpAny_call ?_
  k_dflt cell_enter
  k_steps
  all_goals cb_end hret
end
section
local macro_rules | `(tactic| walk_at "own pad") => `(tactic| fail "none")
local macro_rules | `(tactic| mul_fits) => `(tactic| first | exact sumInv_mul (by assumption) | exact sumInv_mul2 (by assumption) | exact sumInv_mul3 (by assumption) | exact sumInv_mul4 (by assumption) | exact sumInv_mul5 (by assumption))
local macro_rules | `(tactic| walk_at "own ne") => `(tactic| exact sumInv_ne (by assumption))
local macro_rules | `(tactic| walk_at "own pl") => `(tactic| exact sumInv_pl (by assumption))
local macro_rules | `(tactic| walk_at "own n0") => `(tactic| first | omega | exact sumInv_k0 (by assumption))
local macro_rules | `(tactic| walk_at "own sz") => `(tactic| first | exact sumInv_pw (by assumption) | exact sumInv_pw2 (by assumption))
theorem sum_c (w : World) (mean : ExcName → Option Value) (mg mb : Str → Option Value) (news : Led) (d turn P : Int) (t_d t_turn t_P : MTok) :
    MClaim 1 w mean mg mb 91 news (SumPre d turn P) [.int d t_d, .int turn t_turn, .int P t_P] (fun t => .int (lawSum d turn P) t) := by
  k_with_none
  w_top off
  dsimp only [MClaim, MRet]
  k_fill
  k_with "exec While Compare cons nil" => k_while (fun _ found k power => SumInv d turn P found k power) (fun _ _ k _ => (201 - k).toNat) "found" "k" "power"
  k_with "state" => first | exact sumInv_start (by assumption) | exact sumInv_step (by assumption) (by assumption)
  k_with "measure" => (have := sumInv_k (by assumption) (by assumption); omega)
  k_with "tree" => exact sumInv_end (by assumption) (by assumption)
  intros
  rename_i hret
  refine wpAny_call ?_
  k_dflt cell_enter
  k_steps
  all_goals cb_end hret
end
section
theorem dig_c (w : World) (mean : ExcName → Option Value) (mg mb : Str → Option Value) (news : Led) (n : Int) (t_n : MTok) :
    MClaim 1 w mean mg mb 21 news (1 ≤ n ∧ n < 1000000000) [.int n t_n] (fun t => .int (digs n) t) := by
  k_with_none
  w_top off
  dsimp only [MClaim, MRet]
  k_fill
  k_with "exec While Compare cons nil" => k_while (fun _ n' count => DigInv n n' count) (fun _ n' count => n'.toNat) "n" "count"
  k_with "state" => first | exact digInv_start (by assumption) | exact digInv_step (by assumption) (by assumption) | exact digInv_step9 (by assumption) (by assumption)
  k_with "measure" => first | exact digInv_less (by assumption) (by assumption) | exact digInv_less9 (by assumption) (by assumption)
  k_with "tree" => exact digInv_end (by assumption) (by assumption)
  intros
  rename_i hret
  refine wpAny_call ?_
  k_dflt cell_enter
  k_steps
  all_goals cb_end hret
end
section
local macro_rules | `(tactic| mul_fits) => `(tactic| first | exact wvInv_mul0 (by assumption) | exact wvInv_mul1 (by assumption) | exact wvInv_mul2 (by assumption) | exact wvInv_mul3 (by assumption) | exact wvInv_mul4 (by assumption))
local macro_rules | `(tactic| walk_at "own ne") => `(tactic| first | exact wvInv_ne (by assumption) | exact wvInv_ne0 (by assumption))
local macro_rules | `(tactic| walk_at "own pl") => `(tactic| first | exact wvInv_pl (by assumption) | exact wvInv_pl0 (by assumption))
theorem sin_c (w : World) (mean : ExcName → Option Value) (mg mb : Str → Option Value) (news : Led) (r P : Int) (t_r t_P t_c : MTok) :
    MClaim 1 w mean mg mb 77 news (WavePre r P) [.int r t_r, .int P t_P, .int 1 t_c] (fun t => .int (sinFixed r P) t) := by
  k_with_none
  w_top off
  dsimp only [MClaim, MRet]
  k_fill
  k_with "exec While Compare cons nil" => k_while (fun _ total term sign k => WvInv 1 (if r < 0 then -r else r) (if r < 0 then -1 else 1) r P total term sign k) (fun _ _ _ _ k => (202 - k).toNat) "total" "term" "sign" "k"
  k_with "state" => first | exact sinInv_start1 (by assumption) (by assumption) | exact sinInv_start2 (by assumption) (by assumption) | exact cosInv_start (by assumption) | exact wvInv_step (by assumption) (by assumption)
  k_with "measure" => (have := wvInv_k (by assumption) (by assumption); omega)
  k_with "tree" => (rw [sinFixed_def]; exact wvInv_end (by assumption) (by assumption))
  intros
  rename_i hret
  refine wpAny_call ?_
  k_dflt cell_enter
  k_steps
  all_goals cb_end hret
end
section
local macro_rules | `(tactic| walk_at "own pad") => `(tactic| fail "none")
local macro_rules | `(tactic| mul_fits) => `(tactic| first | exact wvInv_mul0 (by assumption) | exact wvInv_mul1 (by assumption) | exact wvInv_mul2 (by assumption) | exact wvInv_mul3 (by assumption) | exact wvInv_mul4 (by assumption))
local macro_rules | `(tactic| walk_at "own ne") => `(tactic| first | exact wvInv_ne (by assumption) | exact wvInv_ne0 (by assumption))
local macro_rules | `(tactic| walk_at "own pl") => `(tactic| first | exact wvInv_pl (by assumption) | exact wvInv_pl0 (by assumption))
theorem cos_c (w : World) (mean : ExcName → Option Value) (mg mb : Str → Option Value) (news : Led) (r P : Int) (t_r t_P t_c : MTok) :
    MClaim 1 w mean mg mb 77 news (WavePre r P) [.int r t_r, .int P t_P, .int 0 t_c] (fun t => .int (cosFixed r P) t) := by
  k_with_none
  w_top off
  dsimp only [MClaim, MRet]
  k_fill
  k_with "exec While Compare cons nil" => k_while (fun _ total term sign k => WvInv 0 (ten P) 1 r P total term sign k) (fun _ _ _ _ k => (202 - k).toNat) "total" "term" "sign" "k"
  k_with "state" => first | exact sinInv_start1 (by assumption) (by assumption) | exact sinInv_start2 (by assumption) (by assumption) | exact cosInv_start (by assumption) | exact wvInv_step (by assumption) (by assumption)
  k_with "measure" => (have := wvInv_k (by assumption) (by assumption); omega)
  k_with "tree" => (rw [cosFixed_def]; exact wvInv_end (by assumption) (by assumption))
  intros
  rename_i hret
  refine wpAny_call ?_
  k_dflt cell_enter
  k_steps
  all_goals cb_end hret
end
section
local macro_rules | `(tactic| walk_at "own con") => `(tactic| first | exact inv_c _ _ _ _ _ _ _ _ _ _ _)
theorem log_c (w : World) (mean : ExcName → Option Value) (mg mb : Str → Option Value) (news : Led) (P : Int) (t_P : MTok) :
    MClaim 2 w mean mg mb 49 news (0 ≤ P ∧ P ≤ 100) [.int P t_P] (fun t => .int (logTen P) t) := by
  k_with_none
  w_top off
  dsimp only [MClaim, MRet]
  k_fill
  k_with "tree" => exact (logTen_def _).symm
  intros
  rename_i hret
  refine wpAny_call ?_
  k_dflt cell_enter
  k_steps
  all_goals cb_end hret
theorem half_c (w : World) (mean : ExcName → Option Value) (mg mb : Str → Option Value) (news : Led) (P : Int) (t_P : MTok) :
    MClaim 2 w mean mg mb 56 news (0 ≤ P ∧ P ≤ 100) [.int P t_P] (fun t => .int (halfTurn P) t) := by
  k_with_none
  w_top off
  dsimp only [MClaim, MRet]
  k_fill
  k_with "tree" => exact (halfTurn_def _).symm
  intros
  rename_i hret
  refine wpAny_call ?_
  k_dflt cell_enter
  k_steps
  all_goals cb_end hret
end
noncomputable abbrev MRetL (h₀ : Heap) (L : Addr) (mm : Str → Option Value) (news : Led) (s : Shared) (Q : Value → Shared → Prop) (m e d : Int) : Prop :=
  ∀ (Y : MAddr) (k rest : Int) (t1 t2 t3 : MTok) (h' : Heap) (tk' : Nat), LgOut m e d k rest → Fr h₀ L h' mm → News h₀ L h' ((Y, { cls := .type "tuple", data := .seq #[.int k t1, .int rest t2, .int (plc m e d) t3] }) :: news) → Q (.ref Y) { s with heap := h', toks := tk' }
noncomputable abbrev MClaimL (D : Nat) (w : World) (mean : ExcName → Option Value) (mg mb : Str → Option Value) (f : Addr) (news : Led) (pre : Prop) (vs : List Value) (m e d : Int) : Prop :=
  ∀ (dp un : Nat) (gd : Option (List Code)) (cn : Str) (cs : Scope) (a : Addr) (ccd : Value) (cl : List (Str × Addr)) (outer : List Env) (A₀ : Around) (base h₀ : Heap) (L : Addr) (mm : Str → Option Value) (s : Shared) (Q E : Value → Shared → Prop),
    Below A₀ base outer h₀ → Fr h₀ L s.heap mm → (hd.heap_39 w.params).In h₀ → News h₀ L s.heap news → Top hd.view_39 (looseW hd.view_39 []) mean mg mb h₀ → cs.kind = .function →
    pre → dp + D < recursionLimit → un + 8 * D < cLine → MRetL h₀ L mm news s Q m e d →
      wpAny (model PySem.Challenge.rw_pf0116_01.row.prog w) (ktrTop dp un gd cn cs L a ccd cl outer) (call (.ref f) vs) Q E s
theorem m_useL {D : Nat} {w : World} {mean : ExcName → Option Value} {mg mb : Str → Option Value} {f : Addr} {news : Led} {pre : Prop} {vs : List Value} {m e d : Int}
    (C : MClaimL D w mean mg mb f news pre vs m e d)
    {dp un : Nat} {gd : Option (List Code)} {cn : Str} {cs : Scope} {a : Addr} {ccd : Value} {cl : List (Str × Addr)} {outer : List Env} {A₀ : Around} {base h₀ : Heap} {L : Addr} {mm : Str → Option Value} {s : Shared} {Q E : Value → Shared → Prop}
    (k1 : Below A₀ base outer h₀) (k2 : Fr h₀ L s.heap mm) (k3 : (hd.heap_39 w.params).In h₀) (k4 : News h₀ L s.heap news) (k5 : Top hd.view_39 (looseW hd.view_39 []) mean mg mb h₀) (kK : cs.kind = .function)
    (kp : pre) (kd : dp + D < recursionLimit) (ku : un + 8 * D < cLine) (kR : MRetL h₀ L mm news s Q m e d) :
    wpAny (model PySem.Challenge.rw_pf0116_01.row.prog w) (ktrTop dp un gd cn cs L a ccd cl outer) (call (.ref f) vs) Q E s :=
  C _ _ _ _ _ _ _ _ _ _ _ _ _ _ _ _ _ k1 k2 k3 k4 k5 kK kp kd ku kR
section
local macro_rules | `(tactic| walk_at "own con") => `(tactic| first | exact dig_c _ _ _ _ _ _ _)
local macro_rules | `(tactic| bits_by_make) => `(tactic| first | exact lgInv_bits (by assumption) | exact lgInv_bits2 (by assumption) | (with_reducible refine bits_ten ?_; omega) | (with_reducible assumption))
local macro_rules | `(tactic| walk_at "own ne") => `(tactic| first | exact lgInv_n (by assumption) | exact add_pow_ne (by omega) | exact pow_ne' _)
local macro_rules | `(tactic| walk_at "own pl") => `(tactic| first | exact lgInv_pl (by assumption) | ((with_reducible apply pl_of_bits); bits_by_make; decide))
theorem logp_c (w : World) (mean : ExcName → Option Value) (mg mb : Str → Option Value) (news : Led) (X : MAddr) (m e d : Int) (t_m t_e t_d : MTok) (sz : Nat) :
    MClaimL 5 w mean mg mb 70 ((X, { cls := .type "tuple", data := .seq #[.int m t_m, .int e t_e] sz }) :: news) (RestPre m e d) [.ref X, .int d t_d] m e d := by
  k_with_none
  w_top off
  dsimp only [MClaimL, MRetL]
  k_fill
  k_with "exec While Compare cons nil" => first | k_while (fun _ term total n => LgInv m (10 ^ (digs m - 1).toNat) (plc m e d) total n term) (fun _ _ _ n => (402 - n).toNat) "term" "total" "n" | k_while (fun _ term total n => LgInv m (10 ^ (digs m + 1 - 1).toNat) (plc m e d) total n term) (fun _ _ _ n => (402 - n).toNat) "term" "total" "n"
  k_with "state" => first | exact lgInv_step (by assumption) (by assumption) | exact lgInv_start (lgPre1 (by assumption) (by assumption)) | exact lgInv_start (lgPre2 (by assumption) (by assumption))
  k_with "measure" => (have := lgInv_k (by assumption) (by assumption); omega)
  intros
  rename_i hret
  obtain ⟨hM1, hM2, hM3, hM4, hM5⟩ := digs_bound (by assumption)
  refine wpAny_call ?_
  k_dflt cell_enter
  k_steps
  all_goals first
    | exact hret _ _ _ _ _ _ _ _ (lgOut1n (by assumption) (by assumption) (by assumption) (by assumption)) (by assumption) (by assumption)
    | exact hret _ _ _ _ _ _ _ _ (lgOut1p (by assumption) (by assumption) (by assumption) (by assumption)) (by assumption) (by assumption)
    | exact hret _ _ _ _ _ _ _ _ (lgOut2n (by assumption) (by assumption) (by assumption) (by assumption)) (by assumption) (by assumption)
    | exact hret _ _ _ _ _ _ _ _ (lgOut2p (by assumption) (by assumption) (by assumption) (by assumption)) (by assumption) (by assumption)
end
section
local macro_rules | `(tactic| walk_at "own con") => `(tactic| first | exact sum_c _ _ _ _ _ _ _ _ _ _ _ | exact half_c _ _ _ _ _ _ _ | exact log_c _ _ _ _ _ _ _)
theorem const_c (w : World) (mean : ExcName → Option Value) (mg mb : Str → Option Value) (news : Led) (P : Int) (t_P : MTok) :
    MClaim 3 w mean mg mb 98 news (12 ≤ P ∧ P ≤ 59) [.int P t_P] (fun _ => .bool (true)) := by
  k_with_none
  w_top off
  dsimp only [MClaim, MRet]
  k_fill
  intros
  rename_i hret
  refine wpAny_call ?_
  k_dflt cell_enter
  have hM1 := const_half (by assumption)
  have hM2 := const_log (by assumption)
  k_steps
  all_goals cb_end hret
end
section
local macro_rules | `(tactic| walk_at "own pad") => `(tactic| fail "none")
local macro_rules | `(tactic| walk_at "own con") => `(tactic| first | exact log_c _ _ _ _ _ _ _ | exact half_c _ _ _ _ _ _ _ | exact exp_c _ _ _ _ _ _ _ _ _ | exact sin_c _ _ _ _ _ _ _ _ _ _ | exact cos_c _ _ _ _ _ _ _ _ _ _)
theorem marks_c (w : World) (mean : ExcName → Option Value) (mg mb : Str → Option Value) (news : Led) (P : Int) (t_P : MTok) :
    MClaim 3 w mean mg mb 119 news (12 ≤ P ∧ P ≤ 59) [.int P t_P] (fun _ => .bool (true)) := by
  k_with_none
  w_top off
  dsimp only [MClaim, MRet]
  k_fill
  k_with "tree" => first | exact beq_iff_eq.mpr hM9 | exact beq_iff_eq.mpr hM10 | exact beq_iff_eq.mpr hM11
  intros
  rename_i hret
  refine wpAny_call ?_
  k_dflt cell_enter
  obtain ⟨hM1, hM2, hM3, hM4⟩ := marks_pre (by assumption)
  obtain ⟨hM5, hM6⟩ := marks_mul (by assumption)
  have hM7 := marks_root (by assumption)
  have hM8 := marks_sin (by assumption)
  obtain ⟨hM9, hM10, hM11⟩ := marks_zero (by assumption)
  k_steps
  all_goals cb_end hret
end
section
local macro_rules | `(tactic| walk_at "own con") => `(tactic| first | exact inv_c _ _ _ _ _ _ _ _ _ _ _ | exact sum_c _ _ _ _ _ _ _ _ _ _ _)
local macro_rules | `(tactic| walk_at "own n0") => `(tactic| first | omega | decide | exact serInv_n0 (by assumption))
local macro_rules | `(tactic| walk_at "own sz") => `(tactic| first | decide | exact serInv_pw (by assumption) | exact serInv_pw2 (by assumption))
theorem series_c (w : World) (mean : ExcName → Option Value) (mg mb : Str → Option Value) (news : Led) (d turn P : Int) (t_d t_turn t_P : MTok) :
    MClaim 2 w mean mg mb 105 news (SerPre d turn P) [.int d t_d, .int turn t_turn, .int P t_P] (fun _ => .bool (true)) := by
  k_with_none
  w_top off
  dsimp only [MClaim, MRet]
  k_fill
  k_with "exec While Compare cons nil" => k_while (fun _ terms => SerInv d P terms) (fun _ terms => (101 - terms).toNat) "terms"
  k_with "state" => first | exact serInv_start (by assumption) | exact serInv_step (by assumption) (by assumption)
  k_with "measure" => (have := serInv_less (by assumption) (by assumption); omega)
  intros
  rename_i hret
  refine wpAny_call ?_
  k_dflt cell_enter
  have hM1 := ser_le (by assumption)
  k_steps
  all_goals (try have hM2 := ser_end (by assumption) (by assumption) (by assumption))
  all_goals cb_end hret
end
section
local macro_rules | `(tactic| walk_at "own con") => `(tactic| first | exact exp_c _ _ _ _ _ _ _ _ _ | exact sin_c _ _ _ _ _ _ _ _ _ _ | exact cos_c _ _ _ _ _ _ _ _ _ _)
theorem waves_c (w : World) (mean : ExcName → Option Value) (mg mb : Str → Option Value) (news : Led) (n P : Int) (t_n t_P : MTok) :
    MClaim 2 w mean mg mb 112 news (WaveArg n P) [.int n t_n, .int P t_P] (fun _ => .bool (true)) := by
  k_with_none
  w_top off
  dsimp only [MClaim, MRet]
  k_fill
  k_with "tree" => first | exact absurd hM11 (by assumption) | exact absurd hM12 (by assumption) | exact hM13.symm.trans (by assumption) | exact decide_eq_true hM14 | exact hM15
  intros
  rename_i hret
  refine wpAny_call ?_
  k_dflt cell_enter
  obtain ⟨hM1, hM2, hM3, hM4⟩ := waves_pre (by assumption)
  obtain ⟨hM5, hM6, hM7, hM8⟩ := waves_mul (by assumption)
  have hM9 := waves_exp (by assumption)
  have hM10 := waves_sq (by assumption)
  obtain ⟨hM11, hM12⟩ := waves_neg (by assumption)
  have hM13 := waves_sgn (by assumption)
  have hM14 := waves_cos (by assumption)
  have hM15 := waves_gt (by assumption)
  k_steps
  all_goals cb_end hret
end
section
local macro_rules | `(tactic| bits_by_make) => `(tactic| first | exact lgInv_bits (by assumption) | exact lgInv_bits2 (by assumption) | (with_reducible refine bits_ten ?_; omega) | (with_reducible assumption))
local macro_rules | `(tactic| walk_at "own con") => `(tactic| first | exact log_c _ _ _ _ _ _ _ | exact exp_c _ _ _ _ _ _ _ _ _)
local macro_rules | `(tactic| walk_at "call ref") => `(tactic| (k_here; k_dflt (refine' m_useL (logp_c _ _ _ _ _ _ _ _ _ _ _ _ _) ?k1 ?k2 ?k3 ?k4 ?k5 ?kK ?kp ?kd ?ku ?_; (case k1 => k_asm); (case k2 => k_asm); (case k3 => k_asm); (case k4 => k_asm); (case k5 => k_asm); (case kK => first | exact rfl | assumption); (case kp => assumption); (case kd => ktr_room); (case ku => ktr_units)); intro Y9 k9 r9 t91 t92 t93 h9 tk9 O9 F9 N9; obtain ⟨O1, O2, O3, O4, O5, O6⟩ := O9; (try dsimp only); (try k_fold)))
theorem rest_c (w : World) (mean : ExcName → Option Value) (mg mb : Str → Option Value) (news : Led) (X : MAddr) (m e d : Int) (t_m t_e t_d : MTok) (sz : Nat) :
    MClaim 6 w mean mg mb 126 ((X, { cls := .type "tuple", data := .seq #[.int m t_m, .int e t_e] sz }) :: news) (RestPre m e d) [.ref X, .int d t_d] (fun _ => .bool true) := by
  k_with_none
  w_top off
  dsimp only [MClaim, MRet]
  k_fill
  intros
  rename_i hret
  obtain ⟨hM1, hM2, hM3, hM4, hM5⟩ := digs_bound (by assumption)
  refine wpAny_call ?_
  k_dflt cell_enter
  k_steps
  all_goals cb_end hret
end
section
theorem drawn_c (w : World) (mean : ExcName → Option Value) (mg mb : Str → Option Value) (d D : MAddr) (o : MObj) (ws : List MVal) (ns : List Int) (a many : Int) (t_a t_many : MTok) (dp un : Nat) (gd : Option (List Code)) (cn : Str) (cs : Scope) (a' : Addr) (ccd : Value) (cl : List (Str × Addr)) (outer : List Env) (A₀ : Around) (base h₀ : Heap) (L : Addr) (m : Str → Option Value) (s : Shared) (Q E : Value → Shared → Prop) :
    Below A₀ base outer h₀ →
    Fr h₀ L s.heap m →
    (hd.heap_39 w.params).In h₀ →
    News h₀ L s.heap [(D, W.listOf ws.toArray 0), (d, o)] →
    Top hd.view_39 (looseW hd.view_39 []) mean mg mb h₀ →
    cs.kind = .function →
    IntsAre ws ns →
    ns.length ≤ 20 →
    Obj.IsDictOf (PySem.strKind PySem.Challenge.rw_pf0116_01.row.prog w) o [(Str.ofString "row", .ref D), (Str.ofString "at", .int a t_a)] →
    (d == sysModules) = false →
    @LT.lt Nat _ d D →
    0 ≤ a →
    a ≤ 1000 →
    1 ≤ many →
    dp + 2 < recursionLimit →
    un + 8 * 2 < cLine →
    (∀ (v : Int) (t t' : MTok) (h' : Heap) (tk' : Nat) (o' : MObj), 0 ≤ v → v < many → Obj.IsDictOf (PySem.strKind PySem.Challenge.rw_pf0116_01.row.prog w) o' [(Str.ofString "row", .ref D), (Str.ofString "at", .int (a + 1) t')] → Fr h₀ L h' m → News h₀ L h' [(D, W.listOf ws.toArray 0), (d, o')] → Q (.int v t) { s with heap := h', toks := tk' }) →
    wpAny (model PySem.Challenge.rw_pf0116_01.row.prog w) (ktrTop dp un gd cn cs L a' ccd cl outer) (call (.ref 84) [.ref d, .int many t_many]) Q E s := by
  k_with_none
  w_top off
  k_fill
  intro k1 k2 k3 k4 k5 kK hI hlen hD hS hlt  ha ha2 hm kd ku hret
  refine wpAny_call ?_
  k_dflt cell_enter
  k_steps
  all_goals exact hret _ _ _ _ _ _ (draw_lo _ hm) (draw_hi _ hm) (by assumption) (by assumption) (by assumption)
theorem drawn1_c (w : World) (mean : ExcName → Option Value) (mg mb : Str → Option Value) (d D Y : MAddr) (o oY : MObj) (ws : List MVal) (ns : List Int) (a many : Int) (t_a t_many : MTok) (dp un : Nat) (gd : Option (List Code)) (cn : Str) (cs : Scope) (a' : Addr) (ccd : Value) (cl : List (Str × Addr)) (outer : List Env) (A₀ : Around) (base h₀ : Heap) (L : Addr) (m : Str → Option Value) (s : Shared) (Q E : Value → Shared → Prop) :
    Below A₀ base outer h₀ →
    Fr h₀ L s.heap m →
    (hd.heap_39 w.params).In h₀ →
    News h₀ L s.heap [(Y, oY), (D, W.listOf ws.toArray 0), (d, o)] →
    Top hd.view_39 (looseW hd.view_39 []) mean mg mb h₀ →
    cs.kind = .function →
    IntsAre ws ns →
    ns.length ≤ 20 →
    Obj.IsDictOf (PySem.strKind PySem.Challenge.rw_pf0116_01.row.prog w) o [(Str.ofString "row", .ref D), (Str.ofString "at", .int a t_a)] →
    (d == sysModules) = false →
    @LT.lt Nat _ d D →
    @Ne Nat d Y →
    0 ≤ a →
    a ≤ 1000 →
    1 ≤ many →
    dp + 2 < recursionLimit →
    un + 8 * 2 < cLine →
    (∀ (v : Int) (t t' : MTok) (h' : Heap) (tk' : Nat) (o' : MObj), 0 ≤ v → v < many → Obj.IsDictOf (PySem.strKind PySem.Challenge.rw_pf0116_01.row.prog w) o' [(Str.ofString "row", .ref D), (Str.ofString "at", .int (a + 1) t')] → Fr h₀ L h' m → News h₀ L h' [(Y, oY), (D, W.listOf ws.toArray 0), (d, o')] → Q (.int v t) { s with heap := h', toks := tk' }) →
    wpAny (model PySem.Challenge.rw_pf0116_01.row.prog w) (ktrTop dp un gd cn cs L a' ccd cl outer) (call (.ref 84) [.ref d, .int many t_many]) Q E s := by
  k_with_none
  w_top off
  k_fill
  intro k1 k2 k3 k4 k5 kK hI hlen hD hS hlt hY ha ha2 hm kd ku hret
  refine wpAny_call ?_
  k_dflt cell_enter
  k_steps
  all_goals exact hret _ _ _ _ _ _ (draw_lo _ hm) (draw_hi _ hm) (by assumption) (by assumption) (by assumption)
theorem drawn2_c (w : World) (mean : ExcName → Option Value) (mg mb : Str → Option Value) (d D Y Z : MAddr) (o oY oZ : MObj) (ws : List MVal) (ns : List Int) (a many : Int) (t_a t_many : MTok) (dp un : Nat) (gd : Option (List Code)) (cn : Str) (cs : Scope) (a' : Addr) (ccd : Value) (cl : List (Str × Addr)) (outer : List Env) (A₀ : Around) (base h₀ : Heap) (L : Addr) (m : Str → Option Value) (s : Shared) (Q E : Value → Shared → Prop) :
    Below A₀ base outer h₀ →
    Fr h₀ L s.heap m →
    (hd.heap_39 w.params).In h₀ →
    News h₀ L s.heap [(Z, oZ), (Y, oY), (D, W.listOf ws.toArray 0), (d, o)] →
    Top hd.view_39 (looseW hd.view_39 []) mean mg mb h₀ →
    cs.kind = .function →
    IntsAre ws ns →
    ns.length ≤ 20 →
    Obj.IsDictOf (PySem.strKind PySem.Challenge.rw_pf0116_01.row.prog w) o [(Str.ofString "row", .ref D), (Str.ofString "at", .int a t_a)] →
    (d == sysModules) = false →
    @LT.lt Nat _ d D →
    @Ne Nat d Y →
    @Ne Nat d Z →
    0 ≤ a →
    a ≤ 1000 →
    1 ≤ many →
    dp + 2 < recursionLimit →
    un + 8 * 2 < cLine →
    (∀ (v : Int) (t t' : MTok) (h' : Heap) (tk' : Nat) (o' : MObj), 0 ≤ v → v < many → Obj.IsDictOf (PySem.strKind PySem.Challenge.rw_pf0116_01.row.prog w) o' [(Str.ofString "row", .ref D), (Str.ofString "at", .int (a + 1) t')] → Fr h₀ L h' m → News h₀ L h' [(Z, oZ), (Y, oY), (D, W.listOf ws.toArray 0), (d, o')] → Q (.int v t) { s with heap := h', toks := tk' }) →
    wpAny (model PySem.Challenge.rw_pf0116_01.row.prog w) (ktrTop dp un gd cn cs L a' ccd cl outer) (call (.ref 84) [.ref d, .int many t_many]) Q E s := by
  k_with_none
  w_top off
  k_fill
  intro k1 k2 k3 k4 k5 kK hI hlen hD hS hlt hY hZ ha ha2 hm kd ku hret
  refine wpAny_call ?_
  k_dflt cell_enter
  k_steps
  all_goals exact hret _ _ _ _ _ _ (draw_lo _ hm) (draw_hi _ hm) (by assumption) (by assumption) (by assumption)
end
section
local macro_rules | `(tactic| mul_fits) => `(tactic| first | exact mul_v (by assumption) (by assumption))
local macro_rules | `(tactic| walk_at "call ref") => `(tactic| (k_here; k_dflt ((first | (refine' drawn_c _ _ _ _ _ _ _ _ _ _ _ _ _ _ _ _ _ _ _ _ _ _ _ _ _ _ _ _ _ _ ?k1 ?k2 ?k3 ?k4 ?k5 ?kK ?d1 ?d2 ?d3 ?d4 ?d5 ?d6 ?d7 ?d8 ?kd ?ku ?_; (case k4 => k_asm)) | (refine' drawn1_c _ _ _ _ _ _ _ _ _ _ _ _ _ _ _ _ _ _ _ _ _ _ _ _ _ _ _ _ _ _ _ _ ?k1 ?k2 ?k3 ?k4 ?k5 ?kK ?d1 ?d2 ?d3 ?d4 ?d5 ?y0 ?d6 ?d7 ?d8 ?kd ?ku ?_; (case k4 => k_asm)) | (refine' drawn2_c _ _ _ _ _ _ _ _ _ _ _ _ _ _ _ _ _ _ _ _ _ _ _ _ _ _ _ _ _ _ _ _ _ _ ?k1 ?k2 ?k3 ?k4 ?k5 ?kK ?d1 ?d2 ?d3 ?d4 ?d5 ?y0 ?y1 ?d6 ?d7 ?d8 ?kd ?ku ?_; (case k4 => k_asm))); (case k1 => k_asm); (case k2 => k_asm); (case k3 => k_asm); (case k5 => k_asm); (case kK => first | exact rfl | assumption); (case d1 => l_ints); (case d2 => first | omega | (rw [List.length_take]; omega)); (case d3 => k_asm); (case d4 => k_asm); (case d5 => first | assumption | omega); (try (case y0 => (first | assumption | (refine neN ?_; omega)))); (try (case y1 => (first | assumption | (refine neN ?_; omega)))); (case d6 => omega); (case d7 => omega); (case d8 => first | omega | decide); (case kd => ktr_room); (case ku => ktr_units)); intro v9 t9 t8 h9 tk9 o9 hv9 hw9 hD9 F9 N9; (try dsimp only); (try k_fold)))
local macro_rules | `(tactic| walk_at "own con") => `(tactic| first | exact const_c _ _ _ _ _ _ _ | exact marks_c _ _ _ _ _ _ _ | exact series_c _ _ _ _ _ _ _ _ _ _ _ | exact waves_c _ _ _ _ _ _ _ _ _ | exact rest_c _ _ _ _ _ _ _ _ _ _ _ _ _)
local macro_rules | `(tactic| walk_at "own pre") => `(tactic| first | omega | exact rest_pre (by assumption) (by assumption) (by assumption) (by assumption) (by assumption) (by assumption) | exact ser_pre (by assumption) (by assumption) (by assumption) (by assumption) (by assumption) (by assumption) | first | exact wave_pos (by assumption) (by assumption) (by assumption) (by assumption) (by assumption) | exact wave_neg (by assumption) (by assumption) (by assumption) (by assumption) (by assumption))
theorem walk : PySem.Challenge.rw_pf0116_01.Holds := hd (by
  k_with_none
  w_top off
  k_go0; (all_goals try k_fold); k_steps; (all_goals (try k_data)); all_goals w_report)
end
end Mine
theorem PySem.Challenge.cw_pf0116_01_holds : PySem.Challenge.rw_pf0116_01.Holds := by
  exact Mine.walk
