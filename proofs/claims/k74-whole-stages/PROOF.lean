import PyProof.Rows.All
import Wide.All
import OpenK.AllK
import Wide.FinOn
import HandS.ForExc
import HandS.Comp
import HandS.Iter
import HandS.Gcd
import HandS.WideBits
import HandS.IsInst
import HandS.ExcIs
import HandS.Small
import HandS.TupMul
import HandS.RaiseMore
import KE.GoesEnum
import PySem.Challenge.RW_stillplates_k74_whole_stages_of_one_fact
set_option Elab.async false
set_option linter.all false
set_option maxRecDepth 100000
set_option maxHeartbeats 4000000
set_option exponentiation.threshold 20000
/-! Plain mathematics of the law k74: fractions as pairs, what stages leave. No program here. -/
namespace K74
abbrev Q2 := Int × Int
def gd (n m : Int) : Int := ((Nat.gcd n.natAbs m.natAbs : Nat) : Int)
/-- the fraction n / m, reduced; m above 0 -/
def fr (n m : Int) : Q2 := (n / gd n m, m / gd n m)
def addF (p q : Q2) : Q2 := fr (p.1 * q.2 + q.1 * p.2) (p.2 * q.2)
def subF (p q : Q2) : Q2 := fr (p.1 * q.2 - q.1 * p.2) (p.2 * q.2)
def mulF (p q : Q2) : Q2 := fr (p.1 * q.1) (p.2 * q.2)
def divF (p q : Q2) : Q2 := fr (p.1 * q.2) (p.2 * q.1)
/-- what the gas's content is divided by, behind k stages -/
def W (A : Q2) : Nat → Q2
  | 0 => (1, 1)
  | k + 1 => addF (1, 1) (mulF A (W A k))
/-- what k + 1 stages leave -/
def row (A : Q2) (k : Nat) : Q2 := divF (1, 1) (W A (k + 1))

theorem gd_gcd (n m : Int) : gd n m = (Int.gcd n m : Int) := rfl
theorem gd_pos {n m : Int} (h : 0 < m) : 0 < gd n m := by
  have : 0 < Nat.gcd n.natAbs m.natAbs := Nat.gcd_pos_of_pos_right _ (by omega)
  unfold gd
  omega
theorem gd_dvd1 (n m : Int) : gd n m ∣ n := Int.gcd_dvd_left n m
theorem gd_dvd2 (n m : Int) : gd n m ∣ m := Int.gcd_dvd_right n m
theorem gd_le {n m : Int} (h : 0 < m) : gd n m ≤ m := Int.le_of_dvd h (gd_dvd2 n m)
theorem fr1 (n m : Int) : (fr n m).1 * gd n m = n := Int.ediv_mul_cancel (gd_dvd1 n m)
theorem fr2 (n m : Int) : (fr n m).2 * gd n m = m := Int.ediv_mul_cancel (gd_dvd2 n m)
theorem mul_pos_of {a b : Int} (h : 0 < a) (k : 0 < b) : 0 < a * b := Int.mul_pos h k
theorem pos_of_mul {a b : Int} (h : 0 < a * b) (k : 0 < b) : 0 < a := by
  have : 0 * b < a * b := by rw [Int.zero_mul]; exact h
  exact Int.lt_of_mul_lt_mul_right this (Int.le_of_lt k)
theorem fr2_pos {n m : Int} (h : 0 < m) : 0 < (fr n m).2 := pos_of_mul (by rw [fr2]; exact h) (gd_pos (n := n) h)
theorem fr1_pos {n m : Int} (hn : 0 < n) (h : 0 < m) : 0 < (fr n m).1 := pos_of_mul (by rw [fr1]; exact hn) (gd_pos (n := n) h)
theorem fr_cross (n m : Int) : (fr n m).1 * m = n * (fr n m).2 := by
  have h1 := fr1 n m
  have h2 := fr2 n m
  generalize (fr n m).1 = a at *
  generalize (fr n m).2 = b at *
  generalize gd n m = g at *
  subst h1 h2
  grind
theorem fr_red {n m : Int} (h : 0 < m) : Nat.gcd (fr n m).1.natAbs (fr n m).2.natAbs = 1 := by
  have h0 : 0 < Int.gcd n m := Nat.gcd_pos_of_pos_right _ (by omega)
  exact Int.gcd_ediv_gcd_ediv_gcd h0
theorem fr1_abs (n m : Int) : (fr n m).1.natAbs ≤ n.natAbs := Int.natAbs_ediv_le_natAbs _ _
theorem fr2_abs (n m : Int) : (fr n m).2.natAbs ≤ m.natAbs := Int.natAbs_ediv_le_natAbs _ _
theorem fr_lt {n m : Int} (h : 0 < m) (hn : n < m) : (fr n m).1 < (fr n m).2 := by
  have h1 := fr1 n m
  have h2 := fr2 n m
  refine Int.lt_of_mul_lt_mul_right (a := gd n m) ?_ (Int.le_of_lt (gd_pos h))
  rw [h1, h2]
  exact hn
theorem fr_le {n m : Int} (h : 0 < m) (hn : 0 < n) : (fr n m).1 ≤ n ∧ (fr n m).2 ≤ m := by
  have h1 := fr1_abs n m
  have h2 := fr2_abs n m
  have h3 := fr1_pos hn h
  have h4 := fr2_pos (n := n) h
  omega

/-! ### sizes -/
def Sm (p : Q2) : Prop := p.1.natAbs < 2 ^ 1000 ∧ p.2.natAbs < 2 ^ 1000
/-- a fraction as it stands: reduced, its lower number above 0, of a bounded size -/
structure Fq (p : Q2) : Prop where
  pos : 0 < p.2
  red : Nat.gcd p.1.natAbs p.2.natAbs = 1
  sm1 : p.1.natAbs < 2 ^ 1000
  sm2 : p.2.natAbs < 2 ^ 1000
def B (k : Nat) : Int := 1024 ^ k
theorem B_pos (k : Nat) : 0 < B k := Int.pow_pos (by decide)
theorem B_succ (k : Nat) : B (k + 1) = 1024 * B k := by
  unfold B
  rw [Int.pow_succ, Int.mul_comm]
theorem B_mono {j : Nat} : ∀ {k : Nat}, j ≤ k → B j ≤ B k
  | 0, h => by
    have : j = 0 := by omega
    subst this
    exact Int.le_refl _
  | k + 1, h => by
    by_cases e : j = k + 1
    · subst e
      exact Int.le_refl _
    · have ih := B_mono (j := j) (k := k) (by omega)
      have := B_pos k
      rw [B_succ]
      omega
theorem B_big {k : Nat} (h : k ≤ 99) {x : Int} (h0 : 0 ≤ x) (hx : x ≤ B k) : x.natAbs < 2 ^ 1000 := by
  have h1 := B_mono h
  have h2 : B 99 = ((2 ^ 990 : Nat) : Int) := by decide +kernel
  have h3 : (2 : Nat) ^ 990 < 2 ^ 1000 := Nat.pow_lt_pow_right (by decide) (by decide)
  rw [h2] at h1
  generalize (2 : Nat) ^ 990 = u at *
  generalize (2 : Nat) ^ 1000 = v at *
  omega

/-- a factor -/
structure Fac (A : Q2) : Prop where
  p1 : 0 < A.1
  p2 : 0 < A.2
  l1 : A.1 ≤ 400
  l2 : A.2 ≤ 400
  red : Nat.gcd A.1.natAbs A.2.natAbs = 1

structure Wk (A : Q2) (k : Nat) : Prop where
  p1 : 0 < (W A k).1
  p2 : 0 < (W A k).2
  l1 : (W A k).1 ≤ B k
  l2 : (W A k).2 ≤ B k
theorem mul_le_of {a b c d : Int} (h0 : 0 ≤ a) (h : a ≤ c) (k0 : 0 ≤ b) (k : b ≤ d) : a * b ≤ c * d := Int.mul_le_mul h k k0 (Int.le_trans h0 h)

theorem rise_num {p q n0 d0 n1 d1 n2 d2 : Int} (hp : 0 < p) (hq : 0 < q) (h0 : 0 < d0) (h1 : 0 < d1) (h2 : 0 < d2)
    (c1 : n1 * (q * d0) = (q * d0 + p * n0) * d1) (c2 : n2 * (q * d1) = (q * d1 + p * n1) * d2) (ih : n0 * d1 < n1 * d0) : n1 * d2 < n2 * d1 := by
  have a : 0 < q * d0 * d1 := mul_pos_of (mul_pos_of hq h0) h1
  refine Int.lt_of_mul_lt_mul_right (a := q * d0 * d1) ?_ (Int.le_of_lt a)
  have b : 0 < p * d1 * d2 * (n1 * d0 - n0 * d1) := mul_pos_of (mul_pos_of (mul_pos_of hp h1) h2) (by omega)
  have e1 : n1 * d2 * (q * d0 * d1) = (n1 * (q * d0)) * (d1 * d2) := by grind
  have e2 : n2 * d1 * (q * d0 * d1) = (n2 * (q * d1)) * (d0 * d1) := by grind
  rw [e1, e2, c1, c2]
  have e3 : (q * d1 + p * n1) * d2 * (d0 * d1) = (q * d0 + p * n0) * d1 * (d1 * d2) + p * d1 * d2 * (n1 * d0 - n0 * d1) := by grind
  omega

section
variable {A : Q2} (hA : Fac A)
include hA
theorem w_all : ∀ k, Wk A k
  | 0 => ⟨(by decide : (0 : Int) < 1), (by decide : (0 : Int) < 1), (by decide : (1 : Int) ≤ 1), (by decide : (1 : Int) ≤ 1)⟩
  | k + 1 => by
    have ih := w_all k
    have q1 := mul_pos_of hA.p1 ih.p1
    have q2 := mul_pos_of hA.p2 ih.p2
    have l1 := mul_le_of (Int.le_of_lt hA.p1) hA.l1 (Int.le_of_lt ih.p1) ih.l1
    have l2 := mul_le_of (Int.le_of_lt hA.p2) hA.l2 (Int.le_of_lt ih.p2) ih.l2
    have t1 := fr1_pos q1 q2
    have t2 := fr2_pos (n := A.1 * (W A k).1) q2
    obtain ⟨t3, t4⟩ := fr_le q2 q1
    have e : W A (k + 1) = fr (1 * (mulF A (W A k)).2 + (mulF A (W A k)).1 * 1) (1 * (mulF A (W A k)).2) := rfl
    have eT : mulF A (W A k) = fr (A.1 * (W A k).1) (A.2 * (W A k).2) := rfl
    rw [← eT] at t1 t2 t3 t4
    generalize mulF A (W A k) = t at *
    have b := B_pos k
    have bs := B_succ k
    have u1 : 0 < 1 * t.2 + t.1 * 1 := by omega
    have u2 : 0 < 1 * t.2 := by omega
    have w1 := fr1_pos u1 u2
    have w2 := fr2_pos (n := 1 * t.2 + t.1 * 1) u2
    obtain ⟨w3, w4⟩ := fr_le u2 u1
    rw [← e] at w1 w2 w3 w4
    exact ⟨w1, w2, by omega, by omega⟩
theorem w_red : ∀ k, Nat.gcd (W A k).1.natAbs (W A k).2.natAbs = 1
  | 0 => (by decide : Nat.gcd (1 : Int).natAbs (1 : Int).natAbs = 1)
  | k + 1 => by
    have h := w_all hA k
    have t2 := fr2_pos (n := A.1 * (W A k).1) (mul_pos_of hA.p2 h.p2)
    exact fr_red (show (0 : Int) < 1 * (mulF A (W A k)).2 by
      have : (mulF A (W A k)).2 = (fr (A.1 * (W A k).1) (A.2 * (W A k).2)).2 := rfl
      omega)
theorem w_fq {k : Nat} (hk : k ≤ 99) : Fq (W A k) := by
  have h := w_all hA k
  exact ⟨h.p2, w_red hA k, B_big hk (Int.le_of_lt h.p1) h.l1, B_big hk (Int.le_of_lt h.p2) h.l2⟩
/-- the step from k to k + 1, crosswise -/
theorem w_step (k : Nat) : (W A (k + 1)).1 * (A.2 * (W A k).2) = (A.2 * (W A k).2 + A.1 * (W A k).1) * (W A (k + 1)).2 := by
  have h := w_all hA k
  have t2 := fr2_pos (n := A.1 * (W A k).1) (mul_pos_of hA.p2 h.p2)
  have c1 := fr_cross (A.1 * (W A k).1) (A.2 * (W A k).2)
  have c2 := fr_cross (1 * (mulF A (W A k)).2 + (mulF A (W A k)).1 * 1) (1 * (mulF A (W A k)).2)
  have e : W A (k + 1) = fr (1 * (mulF A (W A k)).2 + (mulF A (W A k)).1 * 1) (1 * (mulF A (W A k)).2) := rfl
  have eT : mulF A (W A k) = fr (A.1 * (W A k).1) (A.2 * (W A k).2) := rfl
  rw [← e] at c2
  rw [← eT] at c1 t2
  generalize mulF A (W A k) = t at *
  generalize W A (k + 1) = w' at *
  generalize W A k = w at *
  refine Int.eq_of_mul_eq_mul_right (a := t.2) (by omega) ?_
  have e1 : w'.1 * (A.2 * w.2) * t.2 = (w'.1 * (1 * t.2)) * (A.2 * w.2) := by grind
  have e2 : (A.2 * w.2 + A.1 * w.1) * w'.2 * t.2 = (A.2 * w.2 * t.2 + A.1 * w.1 * t.2) * w'.2 := by grind
  rw [e1, e2, c2, ← c1]
  grind
theorem w_above (k : Nat) : (W A (k + 1)).2 < (W A (k + 1)).1 := by
  have h := w_all hA k
  have h' := w_all hA (k + 1)
  have c := w_step hA k
  have q1 := mul_pos_of hA.p1 h.p1
  have q2 := mul_pos_of hA.p2 h.p2
  refine Int.lt_of_mul_lt_mul_right (a := A.2 * (W A k).2) ?_ (Int.le_of_lt q2)
  rw [c]
  have : 0 < A.1 * (W A k).1 * (W A (k + 1)).2 := mul_pos_of q1 h'.p2
  have e : (A.2 * (W A k).2 + A.1 * (W A k).1) * (W A (k + 1)).2 = (W A (k + 1)).2 * (A.2 * (W A k).2) + A.1 * (W A k).1 * (W A (k + 1)).2 := by grind
  omega
theorem w_rise : ∀ k, (W A k).1 * (W A (k + 1)).2 < (W A (k + 1)).1 * (W A k).2
  | 0 => by
    have h : (W A 1).2 < (W A 1).1 := w_above hA 0
    show 1 * (W A 1).2 < (W A 1).1 * 1
    omega
  | k + 1 => rise_num hA.p1 hA.p2 (w_all hA k).p2 (w_all hA (k + 1)).p2 (w_all hA (k + 2)).p2 (w_step hA k) (w_step hA (k + 1)) (w_rise k)
end
/-! ### what stages leave -/
theorem row_eq (A : Q2) (k : Nat) : row A k = fr (1 * (W A (k + 1)).2) (1 * (W A (k + 1)).1) := rfl
/-- an inner share as it stands -/
structure Inn (g : Q2) : Prop where
  fq : Fq g
  p1 : 0 < g.1
  lt : g.1 < g.2
theorem B_le {k : Nat} (h : k ≤ 99) {x : Int} (h0 : 0 ≤ x) (hx : x ≤ B k) : x.natAbs < 2 ^ 1000 := B_big h h0 hx
theorem fr_inn {n m : Int} {k : Nat} (hk : k ≤ 99) (h0 : 0 < n) (h : n < m) (hm : m ≤ B k) : Inn (fr n m) := by
  have hm0 : 0 < m := Int.lt_trans h0 h
  have a := fr1_pos h0 hm0
  have b := fr_lt hm0 h
  obtain ⟨c, d⟩ := fr_le hm0 h0
  exact ⟨⟨Int.lt_trans a b, fr_red hm0, B_big hk (by omega) (by omega), B_big hk (by omega) (by omega)⟩, a, b⟩
theorem fr_fq {n m : Int} {k : Nat} (hk : k ≤ 99) (h0 : 0 < n) (h : 0 < m) (hn : n ≤ B k) (hm : m ≤ B k) : Fq (fr n m) := by
  have a := fr1_pos h0 h
  have b := fr2_pos (n := n) h
  obtain ⟨c, d⟩ := fr_le h h0
  exact ⟨b, fr_red h, B_big hk (by omega) (by omega), B_big hk (by omega) (by omega)⟩
section
variable {A : Q2} (hA : Fac A)
include hA
theorem row_inn {k : Nat} (hk : k ≤ 98) : Inn (row A k) := by
  have h := w_all hA (k + 1)
  have h2 := w_above hA k
  have l1 := h.l1
  have p2 := h.p2
  rw [row_eq]
  exact fr_inn (k := k + 1) (by omega) (by omega) (by omega) (by omega)
theorem row_le (k : Nat) : (row A k).1 ≤ B (k + 1) ∧ (row A k).2 ≤ B (k + 1) := by
  have h := w_all hA (k + 1)
  have h2 := w_above hA k
  have l1 := h.l1
  have p2 := h.p2
  have e : row A k = fr (1 * (W A (k + 1)).2) (1 * (W A (k + 1)).1) := rfl
  obtain ⟨a, b⟩ := fr_le (n := 1 * (W A (k + 1)).2) (m := 1 * (W A (k + 1)).1) (by omega) (by omega)
  rw [← e] at a b
  omega
/-- less with each stage -/
theorem row_falls (k : Nat) : (row A (k + 1)).1 * (row A k).2 < (row A k).1 * (row A (k + 1)).2 := by
  have c0 := fr_cross (1 * (W A (k + 1)).2) (1 * (W A (k + 1)).1)
  have c1 := fr_cross (1 * (W A (k + 2)).2) (1 * (W A (k + 2)).1)
  have e0 : row A k = fr (1 * (W A (k + 1)).2) (1 * (W A (k + 1)).1) := rfl
  have e1 : row A (k + 1) = fr (1 * (W A (k + 2)).2) (1 * (W A (k + 2)).1) := rfl
  have h0 := w_all hA (k + 1)
  have h1 := w_all hA (k + 2)
  have r0 : 0 < (row A k).2 := by
    rw [e0]
    exact fr2_pos (by have := h0.p1; omega)
  have r1 : 0 < (row A (k + 1)).2 := by
    rw [e1]
    exact fr2_pos (by have := h1.p1; omega)
  have up := w_rise hA (k + 1)
  rw [← e0] at c0
  rw [← e1] at c1
  have n0 := h0.p1
  have n1 := h1.p1
  generalize row A k = x at *
  generalize row A (k + 1) = y at *
  generalize hw : W A (k + 1) = w at *
  generalize hv : W A (k + 1 + 1) = v at *
  have a : 0 < w.1 * v.1 := mul_pos_of n0 n1
  refine Int.lt_of_mul_lt_mul_right (a := w.1 * v.1) ?_ (Int.le_of_lt a)
  have b : 0 < x.2 * y.2 * (v.1 * w.2 - w.1 * v.2) := mul_pos_of (mul_pos_of r0 r1) (by omega)
  have z1 : y.1 * x.2 * (w.1 * v.1) = (y.1 * (1 * v.1)) * (x.2 * w.1) := by grind
  have z2 : x.1 * y.2 * (w.1 * v.1) = (x.1 * (1 * w.1)) * (y.2 * v.1) := by grind
  rw [z1, z2, c0, c1]
  have z3 : 1 * w.2 * x.2 * (y.2 * v.1) = 1 * v.2 * y.2 * (x.2 * w.1) + x.2 * y.2 * (v.1 * w.2 - w.1 * v.2) := by grind
  omega
/-! ### the goals -/
theorem B6 : B 10 = 1267650600228229401496703205376 := by decide
theorem goal_part {k : Nat} (hk : k ≤ 5) : Inn (mulF (row A k) (99, 100)) := by
  have h := row_inn hA (k := k) (by omega)
  obtain ⟨a, b⟩ := row_le hA k
  have m : B (k + 1) ≤ B 6 := B_mono (by omega)
  have s : B 7 = 1024 * B 6 := B_succ 6
  have p1 := h.p1
  have l := h.lt
  exact fr_inn (n := (row A k).1 * 99) (m := (row A k).2 * 100) (k := 7) (by decide) (by omega) (by omega) (by omega)
theorem bound_inn (hl : A.1 < A.2) : Inn (subF (1, 1) A) := by
  have := hA.p1
  have := hA.l2
  exact fr_inn (n := 1 * A.2 - A.1 * 1) (m := 1 * A.2) (k := 1) (by decide) (by omega) (by omega) (by show 1 * A.2 ≤ 1024; omega)
/-- the bound, and a part of the factor above it -/
theorem above_inn (hl : A.1 < A.2) {c : Int} {j : Nat} (hj : j ≤ 20) (h1 : 1 < c) (hc : c ≤ B j) : Inn (addF (subF (1, 1) A) (mulF A (1, c))) := by
  have hp1 := hA.p1
  have hp2 := hA.p2
  have hl2 := hA.l2
  have q : 0 < 1 * A.2 := by omega
  have q' : 0 < 1 * A.2 - A.1 * 1 := by omega
  have u : 0 < A.2 * c := mul_pos_of hp2 (by omega)
  have b1 : 0 < (subF (1, 1) A).1 := fr1_pos q' q
  have b2 : 0 < (subF (1, 1) A).2 := fr2_pos q
  obtain ⟨b3, b4⟩ : (subF (1, 1) A).1 ≤ 1 * A.2 - A.1 * 1 ∧ (subF (1, 1) A).2 ≤ 1 * A.2 := fr_le q q'
  have cb : (subF (1, 1) A).1 * (1 * A.2) = (1 * A.2 - A.1 * 1) * (subF (1, 1) A).2 := fr_cross _ _
  have t1 : 0 < (mulF A (1, c)).1 := fr1_pos (show 0 < A.1 * 1 by omega) u
  have t2 : 0 < (mulF A (1, c)).2 := fr2_pos u
  obtain ⟨t3, t4⟩ : (mulF A (1, c)).1 ≤ A.1 * 1 ∧ (mulF A (1, c)).2 ≤ A.2 * c := fr_le u (show 0 < A.1 * 1 by omega)
  have ct : (mulF A (1, c)).1 * (A.2 * c) = A.1 * 1 * (mulF A (1, c)).2 := fr_cross _ _
  have e : addF (subF (1, 1) A) (mulF A (1, c)) = fr ((subF (1, 1) A).1 * (mulF A (1, c)).2 + (mulF A (1, c)).1 * (subF (1, 1) A).2) ((subF (1, 1) A).2 * (mulF A (1, c)).2) := rfl
  rw [e]
  generalize subF (1, 1) A = b at *
  generalize mulF A (1, c) = t at *
  have s1 : 0 < b.1 * t.2 := mul_pos_of b1 t2
  have s2 : 0 < t.1 * b.2 := mul_pos_of t1 b2
  have s3 : 0 < b.2 * t.2 := mul_pos_of b2 t2
  have lt : b.1 * t.2 + t.1 * b.2 < b.2 * t.2 := by
    refine Int.lt_of_mul_lt_mul_right (a := A.2 * c) ?_ (Int.le_of_lt u)
    have z1 : (b.1 * t.2 + t.1 * b.2) * (A.2 * c) = (b.1 * (1 * A.2)) * (t.2 * c) + (t.1 * (A.2 * c)) * b.2 := by grind
    have z2 : 0 < A.1 * (b.2 * t.2) * (c - 1) := mul_pos_of (mul_pos_of hp1 s3) (by omega)
    rw [z1, cb, ct]
    have z3 : b.2 * t.2 * (A.2 * c) = (1 * A.2 - A.1 * 1) * b.2 * (t.2 * c) + A.1 * 1 * t.2 * b.2 + A.1 * (b.2 * t.2) * (c - 1) := by grind
    omega
  have Bj := B_pos j
  have w1 : A.2 * c ≤ 1024 * B j := mul_le_of (Int.le_of_lt hp2) (by omega) (by omega) hc
  have w2 : b.2 * t.2 ≤ 1024 * (1024 * B j) := mul_le_of (Int.le_of_lt b2) (by omega) (Int.le_of_lt t2) (by omega)
  have k1 := B_succ j
  have k2 := B_succ (j + 1)
  exact fr_inn (k := j + 2) (by omega) (by omega) lt (by
    show _ ≤ B (j + 1 + 1)
    omega)
end
/-! ### the second sum -/
def Pt (A : Q2) : Nat → Q2
  | 0 => (0, 1)
  | k + 1 => addF (1, 1) (mulF A (Pt A k))
structure Nn (p : Q2) (b : Int) : Prop where
  n1 : 0 ≤ p.1
  p2 : 0 < p.2
  l1 : p.1 ≤ b
  l2 : p.2 ≤ b
theorem fr_nn {n m b : Int} (h : 0 < m) (hn : 0 ≤ n) (hb : n ≤ b) (hm : m ≤ b) : Nn (fr n m) b := by
  have h1 := fr1_abs n m
  have h2 := fr2_abs n m
  have h3 : 0 ≤ (fr n m).1 := Int.ediv_nonneg hn (Int.le_of_lt (gd_pos h))
  have h4 := fr2_pos (n := n) h
  exact ⟨h3, h4, by omega, by omega⟩
theorem pt_all {A : Q2} (hA : Fac A) : ∀ k, Nn (Pt A k) (B k)
  | 0 => ⟨(by decide : (0 : Int) ≤ 0), (by decide : (0 : Int) < 1), (by decide : (0 : Int) ≤ 1), (by decide : (1 : Int) ≤ 1)⟩
  | k + 1 => by
    have ih := pt_all hA k
    have q1 : 0 ≤ A.1 * (Pt A k).1 := Int.mul_nonneg (Int.le_of_lt hA.p1) ih.n1
    have q2 := mul_pos_of hA.p2 ih.p2
    have l1 := mul_le_of (Int.le_of_lt hA.p1) hA.l1 ih.n1 ih.l1
    have l2 := mul_le_of (Int.le_of_lt hA.p2) hA.l2 (Int.le_of_lt ih.p2) ih.l2
    have t : Nn (mulF A (Pt A k)) (400 * B k) := fr_nn q2 q1 l1 l2
    have b := B_pos k
    have bs := B_succ k
    have t1 := t.n1
    have t2 := t.p2
    have t3 := t.l1
    have t4 := t.l2
    exact fr_nn (n := 1 * (mulF A (Pt A k)).2 + (mulF A (Pt A k)).1 * 1) (m := 1 * (mulF A (Pt A k)).2) (by omega) (by omega) (by omega) (by omega)
/-- numbers of at most 600 bits are small -/
theorem nn_sm {p : Q2} {b : Int} {k : Nat} (hk : k ≤ 99) (h : Nn p b) (hb : b ≤ B k) : p.1.natAbs < 2 ^ 1000 ∧ p.2.natAbs < 2 ^ 1000 := by
  have a := h.n1
  have c := h.p2
  have d := h.l1
  have e := h.l2
  exact ⟨B_big hk a (by omega), B_big hk (by omega) (by omega)⟩
theorem B_add (j k : Nat) : B (j + k) = B j * B k := by
  unfold B
  exact Int.pow_add ..
/-- the difference of two such numbers -/
theorem sub_sm {p q : Q2} {j : Nat} (hj : j ≤ 40) (hp : Nn p (B j)) (hq : Nn q (B j)) : 0 < (subF p q).2 ∧ (subF p q).1.natAbs < 2 ^ 1000 ∧ (subF p q).2.natAbs < 2 ^ 1000 := by
  have m : 0 < p.2 * q.2 := mul_pos_of hp.p2 hq.p2
  have e : B (j + j) = B j * B j := B_add j j
  have k1 : p.1 * q.2 ≤ B j * B j := mul_le_of hp.n1 hp.l1 (Int.le_of_lt hq.p2) hq.l2
  have k2 : q.1 * p.2 ≤ B j * B j := mul_le_of hq.n1 hq.l1 (Int.le_of_lt hp.p2) hp.l2
  have k3 : p.2 * q.2 ≤ B j * B j := mul_le_of (Int.le_of_lt hp.p2) hp.l2 (Int.le_of_lt hq.p2) hq.l2
  have g1 : 0 ≤ p.1 * q.2 := Int.mul_nonneg hp.n1 (Int.le_of_lt hq.p2)
  have g2 : 0 ≤ q.1 * p.2 := Int.mul_nonneg hq.n1 (Int.le_of_lt hp.p2)
  have a1 := fr1_abs (p.1 * q.2 - q.1 * p.2) (p.2 * q.2)
  have a2 := fr2_abs (p.1 * q.2 - q.1 * p.2) (p.2 * q.2)
  have b1 : (p.1 * q.2 - q.1 * p.2).natAbs < 2 ^ 1000 := by
    by_cases h : q.1 * p.2 ≤ p.1 * q.2
    · exact B_big (k := j + j) (by omega) (by omega) (by omega)
    · have := B_big (k := j + j) (x := q.1 * p.2 - p.1 * q.2) (by omega) (by omega) (by omega)
      generalize (2 : Nat) ^ 1000 = u at *
      omega
  have b2 : (p.2 * q.2).natAbs < 2 ^ 1000 := B_big (k := j + j) (by omega) (by omega) (by omega)
  exact ⟨fr2_pos m, Nat.lt_of_le_of_lt a1 b1, Nat.lt_of_le_of_lt a2 b2⟩
theorem w_nn {A : Q2} (hA : Fac A) (k : Nat) : Nn (W A k) (B k) := by
  have h := w_all hA k
  exact ⟨Int.le_of_lt h.p1, h.p2, h.l1, h.l2⟩
theorem tiny_inn : Inn (1, 10 ^ 30) := by
  refine ⟨⟨by decide, by decide, ?_, ?_⟩, by decide, by decide⟩
  · exact B_big (k := 10) (by decide) (by decide) (by decide)
  · exact B_big (k := 10) (by decide) (by decide) (by decide)
end K74

/-! Rules that the hand layer lacks and this law wants: a call by keywords alone, a tuple times 1, enumerate of a tuple, repr, defs that are run where no repr is under way. -/
namespace Kx
open PySem PySem.Spec PyProof.Rows L2

/-! ### f(a = x, b = y) -/
/-- keywords alone, one for each parameter, in the parameters' order -/
def KwB (K : PySem.W.Frag) (fd : FuncData) (ps ks : List PySem.Str) : Prop :=
  ∀ (s : Shared) (ws : List Value), K.In s.heap → ws.length = ps.length → BindsTo s fd ⟨[], ks.zip ws⟩ (ps.zip ws)
def tKw (sp : Sp) (E : L2.St → XK) (tk : TA) : TE := fun σ H Q => tk σ H fun zs H2 => sp zs H2 Q (E σ)
section
variable {X : Cx} {CX : CXT} {k : Nat} {f : Addr} {fd : FuncData} {ps ks : List PySem.Str} {sp : Sp} {E : L2.St → XK} {x : PySem.Str} {p pos : Pos} {kws : List Keyword} {tk : TA}
theorem pe_kw (F : FnOk X.prog X.w X.K X.mg X.base CX k f fd ps sp) (hr : Room k X.A) (hg : Gl X x) (hm : X.mg x = some (.ref f)) (hk : PySem.W.keepIn X.K (.ref f) = true) (hb : KwB X.K fd ps ks)
    (hx : ∀ σ, PassesAt CX X σ (E σ)) (hkw : PK X kws tk) (hall : (backToKw pos (keywordEach kws X.env)).all (·.1.isSome) = true := by rfl)
    (hks : (backToKw pos (keywordEach kws X.env)).filterMap (·.1) = ks := by rfl) (hdb : (x == ("__debug__" : PySem.Str)) = false := by decide)
    (hpl : ((backTo pos (starEach [] X.env)).any (·.1) || (backToKw pos (keywordEach kws X.env)).any (·.1.isNone)) = false := by rfl) :
    PE X (.Call (.Name x p) [] kws pos) (tKw sp E tk) := by
  constructor
  intro pins s σ H Q I h
  refine wpAny_Call_Name_kw (ld_glob I hg hm ?_ hdb)
  refine PySem.W.callWith_KW0 (h₀ := X.base) I.ok.mod.kin hk hall ?_ hpl
  refine thn (hkw.run pos pins s σ H _ I h) ?_
  intro ws s2 z
  obtain ⟨zs, H2, I2, rz, q2⟩ := z
  refine ⟨I2.kIn, ?_⟩
  rw [hks]
  have l : ws.length = ps.length := by
    rw [← rz.length]
    exact F.len _ _ _ _ q2
  have body := F.run X.A X.stack s2 H2 ⟨[], ks.zip ws⟩ ws zs Q (E σ) hr I2.env0 (hb s2 ws I2.kIn l) rz q2
  refine wpAny_call (codeAny_mono body ?_)
  intro r s' hq
  match r, hq with
  | .error e, hq => exact hx σ pins H2 s2 e s' I2 hq
  | .ok (.ret u), hq => exact I2.after hq
  | .ok .next, hq => exact False.elim hq
  | .ok .brk, hq => exact False.elim hq
  | .ok .cont, hq => exact False.elim hq
theorem passA0 (σ : L2.St) : PassesAt CX0 X σ E0 := fun _ _ _ _ _ _ h => h.elim
end

/-! ### a tuple times a number from 1 on -/
theorem tuple_mul_one (l : Addr) (items : Array Value) (n : Nat) (dd : Option Addr) (sl : Array (Option Value)) (u : Tok) :
    Meets (Builtin.«tuple.__mul__» ⟨[.ref l, .int 1 u], []⟩) (fun _ R s => s.heap.get? l = some { cls := .type "tuple", dict := dd, data := .seq items n, slots := sl } ∧ R (.ok (.ret (Value.ref l))) s) :=
  .of_wp fun prog w A R s h => by
    obtain ⟨hp, g, d, tk, os⟩ := s
    obtain ⟨hl, h⟩ := h
    have f1 := AutoSeq1.idx_int
    have c0 : (decide ((1 : Int) < -(2 ^ 63)) || decide ((1 : Int) ≥ 2 ^ 63)) = false := by decide
    have c1 : (items.isEmpty || (1 : Int) == 1) = true := by simp
    wp_walk using wpAny_loadPart' hl
    repeat (first
      | (refine wpAny_ite_false (decide_eq_false (by rw [c0]; exact Bool.false_ne_true)) ?_; wp_walk using wpAny_loadPart' hl)
      | (refine wpAny_ite_true (decide_eq_true c1) ?_; wp_walk using wpAny_loadPart' hl))
    exact ⟨_, rfl, h⟩
def rRep1 (K : PySem.W.Frag) : R2 := fun x y H Q => ∃ (l : Addr) (k : Int) (xs : List V), x = .ref l ∧ y = .int k ∧ SqT K H l xs ∧ xs ≠ [] ∧ 1 ≤ k ∧ k ≤ 1000 ∧ xs.length ≤ 1000 ∧
  (k = 1 → Q (.ref l) H) ∧ (2 ≤ k → ∀ p, H p = none → Q (.ref p) (upd H p (.tup (List.replicate k.toNat xs).flatten)))
theorem op_rep1 {X : Cx} : OpR X (binaryOp .Mult) (rRep1 X.K) := by
  intro pins s σ H x y v u Q I rx ry h
  obtain ⟨l, k, xs, ex, ey, hT, hne, k1, k2, hz, q1, q2⟩ := h
  by_cases e : k = 1
  · subst ex ey e
    obtain rfl : v = Value.ref l := rx
    obtain ⟨t, rfl⟩ := ry
    obtain ⟨its, r, ht, hs⟩ := I.tuple hT
    obtain ⟨⟨cls, dd, data, sl⟩, ho, hc, n, hd⟩ := ht
    dsimp only at hc hd
    subst hc hd
    have fin : EP X pins σ Q (.ref l) s := ⟨.ref l, H, I, rfl, q1 rfl⟩
    exact wpAny_binaryOp_repeat_ref (T := "tuple") (U := "int") (by decide) ⟨_, ho, rfl⟩ (fun s' => typeIs_int s' 1 t) noFill_tuple_mul F.fills_int_mul F.slot_int_rmul repeat_tuple F.slot_int_index.lookup
      (call_meets F.slot_int_rmul (typeIs_int s 1 t) F.entry_int_rmul (F.args_int_rmul_2 _ _) (int_rmul_tuple 1 t l its.toArray n dd sl) ⟨ho, rfl, ⟨_, ho, rfl⟩,
        call_meets F.slot_tuple_mul ⟨_, ho, rfl⟩ F.entry_tuple_mul (F.args_tuple_mul_2 _ _) (tuple_mul_one l its.toArray n dd sl t) ⟨ho, fin⟩⟩)
  · exact op_repT pins s σ H x y v u Q I rx ry ⟨l, k, xs, ex, ey, hT, hne, by omega, k2, hz, q2 (by omega)⟩

/-! ### repr -/
/-- what repr says of a value that is no object -/
def shw : V → Option PySem.Str
  | .non => some "None"
  | .int i => if i.natAbs.log2 < 1920 then some (toString i) else none
  | .str z => if (reprText z).length ≤ sizeLine then some (reprText z) else none
  | _ => none
def rShw : List V → Hp → VK → Prop := fun xs H Q => ∃ (x : V) (t : PySem.Str), xs = [x] ∧ shw x = some t ∧ Q (.str t) H
theorem call_shw {X : Cx} : CallR X (.builtin "repr") rShw := by
  intro pins s σ H xs us Q I r h
  obtain ⟨x, t, rfl, e, q⟩ := h
  obtain ⟨u, rfl, ru⟩ := vals1 r
  cases x with
  | non =>
    obtain rfl : u = Value.none := ru
    obtain rfl : ("None" : PySem.Str) = t := Option.some.inj e
    exact PySem.P.repr_of_none ⟨.str _, H, I.tok _, ⟨_, rfl⟩, q⟩
  | int i =>
    obtain ⟨tk, rfl⟩ := ru
    have e' : (if i.natAbs.log2 < 1920 then some (PySem.Str.ofString (toString i)) else none) = some t := e
    by_cases hz : i.natAbs.log2 < 1920
    · rw [if_pos hz] at e'
      obtain rfl := Option.some.inj e'
      exact PySem.P.repr_of_int hz ⟨.str _, H, I.tok _, ⟨_, rfl⟩, q⟩
    · rw [if_neg hz] at e'
      cases e'
  | str z =>
    obtain ⟨tk, rfl⟩ := ru
    have e' : (if (reprText z).length ≤ sizeLine then some (reprText z) else none) = some t := e
    by_cases hz : (reprText z).length ≤ sizeLine
    · rw [if_pos hz] at e'
      obtain rfl := Option.some.inj e'
      exact PySem.P.repr_of_str ⟨.str _, H, I.tok _, ⟨_, rfl⟩, q⟩ hz
    · rw [if_neg hz] at e'
      cases e'
  | _ => cases e
/-- a list of two truth values -/
def shwB (b c : Bool) : PySem.Str := PyData.shown (.list [.bool b, .bool c])
def rShwB : List V → Hp → VK → Prop := fun xs H Q => ∃ (a : Addr) (b c : Bool), xs = [.ref a] ∧ H a = some (.lst [.bl b, .bl c]) ∧ Q (.str (shwB b c)) H
theorem call_shwB {X : Cx} (hg : X.A.guards = some []) (hu : X.A.units + 64 < cLine) : CallR X (.builtin "repr") rShwB := by
  intro pins s σ H xs us Q I r h
  obtain ⟨a, b, c, rfl, ha, q⟩ := h
  obtain rfl := Vals.ref1 r
  obtain ⟨_, its, n, rv, ho⟩ := I.hok a _ ha
  obtain ⟨u1, u2, rfl, r1, r2⟩ := vals2 rv
  obtain rfl : u1 = Value.bool b := r1
  obtain rfl : u2 = Value.bool c := r2
  have rd : Reads s.heap (.ref a) (.list [.bool b, .bool c]) [a] := Reads.list ho rfl rfl (.cons (.bool b) (.cons (.bool c) .nil))
  have sh : PyData.showable (.list [.bool b, .bool c]) = true := rfl
  have dp : PyData.depth (.list [.bool b, .bool c]) ≤ 2 := by cases b <;> cases c <;> decide
  refine repr_of_reads' rd sh (fun z => by cases z) hg (by omega) (fun _ _ e => e) (fun h' u tk k => ?_) ?_
  · exact ⟨.str _, H, I.kept k, ⟨_, rfl⟩, q⟩
  · cases b <;> cases c <;> decide +kernel
/-! ### X(), X an own class of errors without __init__ -/
theorem pmk_own0 {X : Cx} {C : Addr} {bmB : List Value} {B newId initId : String} {x : PySem.Str} {p pos : Pos} (F : ExcBaseFacts B newId initId bmB) (q : PySem.W.excIn X.K C bmB newId = true) (gC : X.mg x = some (.ref C))
    (kC : PySem.W.keepIn X.K (.ref C) = true) (r : Raises X (.ref C)) (hg : Gl X x) (hdb : (x == ("__debug__" : PySem.Str)) = false := by decide) :
    PMk X (.Call (.Name x p) [] [] pos) (fun _ H Q => Q (.ref C) none H) := by
  intro pins s σ H Q I h
  refine wpAny_Call_Name_kw (ld_glob I hg gC ?_ hdb)
  refine PySem.W.callWith_K0 I.kIn kC ?_
  show wpAny _ _ (call (.ref C) []) _ _ _
  obtain ⟨bm, N, nm, qn, bs, hdct, sn, sub, ab, col, dd, k0, k1, k2, k3, k5, mN, hC, hN, hni, T⟩ := exc_obj I.kIn q
  refine wpAny_call_exc_subT F T hC hN hni ?_ (Nat.zero_le _)
  intro h' e hm
  exact mk_of I hm r h (I.hok.gone hm.new)

/-! ### for at, each in enumerate(t), t a tuple -/
theorem enum_new_tuple (t : Addr) (items : Array Value) :
    Meets (Builtin.«enumerate.__new__» ⟨[.type "enumerate", .ref t], []⟩) (fun _ R s => s.heap.IsTuple t items ∧
      R (.ok (.ret (.ref (s.heap.push { cls := .type "tuple_iterator", data := .fields #[.ref t, .int 0 0] }).objs.size)))
        { s with heap := (s.heap.push { cls := .type "tuple_iterator", data := .fields #[.ref t, .int 0 0] }).push { cls := .type "enumerate", data := .fields #[.none, .bool false, .ref s.heap.objs.size, rawInt 0, .none, .none] } }) :=
  .of_wp fun prog w A R s h => by
    obtain ⟨hp, g, d, tk, os⟩ := s
    obtain ⟨hT, h⟩ := h
    have sb := sub_enumerate
    have it : ∀ {A' : Around} {E : Value → Shared → Prop} {Q : Value → Shared → Prop}, Q (.ref hp.objs.size) ⟨hp.push { cls := .type "tuple_iterator", data := .fields #[.ref t, .int 0 0] }, g, d, tk, os⟩ →
        wpAny (model prog w) A' (pyIter (.ref t)) Q E ⟨hp, g, d, tk, os⟩ := fun q => wpAny_pyIter_tuple hT q
    wp_walk using it
    refine wpAny_stack_any fun st => wpAny_pure ?_
    split
    · rename_i c _ _ _ _ _
      cases (c == Value.type "enumerate") <;> (wp_walk using it; exact ⟨_, rfl, h⟩)
    · wp_walk using it
      exact ⟨_, rfl, h⟩
theorem enum_call_tuple {prog : Program} {w : World} {A : Around} {E : Value → Shared → Prop} {s : Shared} {t : Addr} {items : Array Value} {Q : Value → Shared → Prop} (hT : s.heap.IsTuple t items)
    (h : ∀ h', IsEnum h' (s.heap.objs.size + 1) s.heap.objs.size 0 .none → h'.IsTupleIter s.heap.objs.size t 0 →
      (∀ b o, s.heap.get? b = some o → h'.get? b = some o) → Q (.ref (s.heap.objs.size + 1)) { s with heap := h' }) :
    wpAny (model prog w) A (call (.type "enumerate") [.ref t]) Q E s := by
  refine callType_new F.called_enumerate (by decide) (F.typeCall_enumerate_1 _) (F.newCall_enumerate_1 _) (fun obj => F.args_object_init_2 obj _) F.entry_enumerate_new (enum_new_tuple t items) ⟨hT, ?_⟩
  have z : (s.heap.push { cls := .type "tuple_iterator", data := .fields #[.ref t, .int 0 0] }).objs.size = s.heap.objs.size + 1 := Heap.size_push ..
  show _ ∧ _
  rw [z]
  have he := Heap.get?_push_size (s.heap.push { cls := .type "tuple_iterator", data := .fields #[.ref t, .int 0 0] }) (o := { cls := .type "enumerate", data := .fields #[.none, .bool false, .ref s.heap.objs.size, rawInt 0, .none, .none] }) rfl
  rw [z] at he
  refine ⟨⟨_, he, rfl⟩, h _ he ?_ ?_⟩
  · exact ⟨_, Heap.get?_push_of_some _ (Heap.get?_push_size _ rfl), rfl, rfl⟩
  · intro b o e
    exact Heap.get?_push_of_some _ (Heap.get?_push_of_some _ e)
/-- the tuple at a, each item in a new pair with its place -/
def ItU (K : PySem.W.Frag) (a : Addr) : It where
  go := fun i H => ∃ (xs : List V) (x : V), SqT K H a xs ∧ xs[i]? = some x
  yld := fun i H v H' => ∃ (T : Addr) (x : V), v = .ref T ∧ H T = none ∧ H' = upd H T (.tup [.int (i : Nat), x]) ∧ ∀ xs, SqT K H a xs → xs[i]? = some x
  stop := fun i H => ∃ xs : List V, SqT K H a xs ∧ xs.length = i
theorem cls_ne {h : Heap} {a b : Addr} {o u : Obj} {x y : String} (ha : h.get? a = some o) (hb : h.get? b = some u) (ca : o.cls = .type x) (cb : u.cls = .type y) (n : x ≠ y) : a ≠ b := by
  intro e
  subst e
  rw [ha] at hb
  obtain rfl := Option.some.inj hb
  rw [ca] at cb
  injection cb with z
  exact n z
theorem turn_enumU {P : Program} {w : World} {K : PySem.W.Frag} {elts : List Expr} {kk : Nat} {tpos : Pos} (a e it : Addr) :
    Turn P w K (.Tuple elts kk tpos) (ItU K a) [e, it] e (fun i h => (∃ old, IsEnum h e it ((i : Nat) : Int) old) ∧ h.IsTupleIter it a i ∧ e ≠ it) where
  mem := List.mem_cons_self ..
  obj := by
    intro i h st b hb
    obtain ⟨⟨old, he⟩, ⟨o, ho, hc, hd⟩, _⟩ := st
    rcases List.mem_cons.mp hb with rfl | hb
    · exact ⟨_, he, fun v q => by cases q⟩
    · obtain rfl := List.mem_singleton.mp hb
      exact ⟨o, ho, fun v q => by rw [hd] at q; cases q⟩
  keep := by
    intro i h h' st k
    obtain ⟨⟨old, he⟩, hi, hne⟩ := st
    exact ⟨⟨old, k e (List.mem_cons_self ..) _ he⟩, hi.at fun o q => k it (by simp) o q, hne⟩
  item := by
    intro X hP hw hK hc i pins s σ H E I hf st hg
    subst hP hw hK
    obtain ⟨⟨old, he⟩, hit, hne⟩ := st
    obtain ⟨xs, x, hq, hx⟩ := hg
    obtain ⟨its, rv, p, hz⟩ := I.tuple hq
    obtain ⟨u, hu, ru⟩ := rv.get hx
    have p' : s.heap.IsTuple a its.toArray := p
    have el : e < s.heap.objs.size := Heap.lt_size he
    have il : it < s.heap.objs.size := by
      obtain ⟨_, q, _⟩ := hit
      exact Heap.lt_size q
    have ha : a ≠ it := by
      obtain ⟨o1, h1, c1, _⟩ := hit
      obtain ⟨o2, h2, c2, _⟩ := p'
      exact cls_ne h2 h1 c2 c1 (by decide)
    have hea : e ≠ a := by
      obtain ⟨o2, h2, c2, _⟩ := p'
      exact cls_ne he h2 rfl c2 (by decide)
    have hi : i < its.toArray.size := by
      rw [List.size_toArray]
      exact (List.getElem?_eq_some_iff.mp hu).1
    have hd : X.A.in1.handled = none := I.ok.hd hc
    refine wpAny_pyNext_enum_itemD (Draws.tuple hd it a ha its.toArray) he ⟨hit, p'⟩ hi hne (by simp [hne, hea]) ?_
    intro y h' tk hy ho hs' hT hsz hk
    obtain rfl : y = u := by
      have z : its.toArray[i]? = some u := by simpa using hu
      exact Option.some.inj (hy.symm.trans z)
    refine ⟨_, rfl, wpAny_letOwnedTupleGo_enum (s := { s with heap := h', toks := tk + 1 }) ho ?_⟩
    intro h'' he' sb
    have hT2 : h''.get? s.heap.objs.size = some { cls := .type "tuple", data := .seq #[.int i tk, y] } := (sb.2 _ (Nat.ne_of_gt el)).trans hT
    have new : ObjOk X.prog X.w (upd H s.heap.objs.size (.tup [.int (i : Nat), x])) h'' s.heap.objs.size (.tup [.int (i : Nat), x]) :=
      ⟨(by show 2 ≤ sizeLine; decide), [.int i tk, y], .cons ⟨_, rfl⟩ (.cons ru .nil), ⟨_, hT2, rfl, _, rfl⟩⟩
    have kk : ∀ b ob, b ∉ [e, it] → s.heap.get? b = some ob → h''.get? b = some ob := by
      intro b ob hb q
      have n1 : b ≠ e := fun z => hb (by simp [z])
      have n2 : b ≠ it := fun z => hb (by simp [z])
      exact (sb.2 b n1).trans (hk b ob n1 n2 q)
    have I1 : L2.Inv X pins σ (upd H s.heap.objs.size (.tup [.int (i : Nat), x])) { s with heap := h'', toks := tk + 1 } := I.turnedNew (ch := [e, it]) kk hf (Nat.le_refl _) new
    refine ⟨.ref s.heap.objs.size, _, I1, rfl, ⟨_, x, rfl, I.hok.fresh (Nat.le_refl _), rfl, ?_⟩, ⟨⟨y, ?_⟩, ?_, hne⟩, ?_⟩
    · intro ys hy'
      rw [I.tuple_inj hy' hq]
      exact hx
    · have e1 : ((i + 1 : Nat) : Int) = (i : Int) + 1 := by omega
      rw [e1]
      exact he'
    · exact hs'.1.at fun o q => (sb.2 it (Ne.symm hne)).trans q
    · intro b hb
      have lt : b < s.heap.objs.size := by
        rcases List.mem_cons.mp hb with rfl | hb
        · exact el
        · obtain rfl := List.mem_singleton.mp hb
          exact il
      rw [upd_ne (Nat.ne_of_lt lt)]
      exact (hf b hb).1
  done := by
    intro X hP hw hK hc i pins s σ H E I hf st hg
    subst hP hw hK
    obtain ⟨⟨old, he⟩, hit, hne⟩ := st
    obtain ⟨xs, hq, hx⟩ := hg
    obtain ⟨its, rv, p, hz⟩ := I.tuple hq
    have p' : s.heap.IsTuple a its.toArray := p
    obtain ⟨f0, f1, f2, f3, f4, f5⟩ := hf it (by simp)
    have ha : a ≠ it := by
      obtain ⟨o1, h1, c1, _⟩ := hit
      obtain ⟨o2, h2, c2, _⟩ := p'
      exact cls_ne h2 h1 c2 c1 (by decide)
    have hd : X.A.in1.handled = none := I.ok.hd hc
    have hn : its.toArray.size = i := by
      rw [List.size_toArray, ← rv.length]
      exact hx
    subst hn
    refine wpAny_pyNext_enum_endD (Draws.tuple hd it a ha its.toArray) he ⟨hit, p'⟩ ?_
    intro h' eb
    exact ⟨rfl, I.turned (t' := s.toks) (fun b o hb q => eb b o hb q) f0 f1 f3 f4 f5⟩
  self := by
    intro A i s Q E st h
    obtain ⟨⟨_, he⟩, _⟩ := st
    exact wpAny_pyIter_enum he h
def iEnumT (K : PySem.W.Frag) (ta : TA) : TI := fun σ H R => ta σ H fun vs H1 => ∃ (a : Addr) (xs : List V), vs = [.ref a] ∧ SqT K H1 a xs ∧ R (ItU K a) H1
theorem pi_enumT {X : Cx} {e : Expr} {ta : TA} {p pos tpos : Pos} {elts : List Expr} {kk : Nat} (hg : Gl X "enumerate") (hm : X.mg "enumerate" = none) (ha : PA X [e] ta) (hs : starEach [e] X.env = [(false, eval e X.env)] := by rfl) :
    PI X (.Tuple elts kk tpos) (.Call (.Name "enumerate" p) [e] [] pos) (iEnumT X.K ta) := by
  constructor
  intro pins s σ H R I h
  refine Call_ (ld_blt I hg hm PyProof.Rows.boot_enumerate (PyProof.Rows.callWith_type1 (thn (ha.run pos pins s σ H _ I h) ?_) hs rfl))
  intro us s1 z
  obtain ⟨vs, H1, I1, r1, a, xs, ex, hq, q⟩ := z
  subst ex
  obtain rfl := Vals.ref1 r1
  obtain ⟨its, rv, p', hz⟩ := I1.tuple hq
  have p'' : s1.heap.IsTuple a its.toArray := p'
  refine enum_call_tuple p'' ?_
  intro h' he hit hk
  refine wpAny_pyIter_enum he ?_
  have I2 : L2.Inv X pins σ H1 { s1 with heap := h' } := I1.kept (t' := s1.toks) hk
  refine ⟨s1.heap.objs.size + 1, [s1.heap.objs.size + 1, s1.heap.objs.size], _, _, H1, rfl, I2, turn_enumU a (s1.heap.objs.size + 1) s1.heap.objs.size, ⟨⟨.none, he⟩, hit, Nat.succ_ne_self _⟩, ?_, q⟩
  intro b hb
  have le : s1.heap.objs.size ≤ b := by
    rcases List.mem_cons.mp hb with rfl | hb
    · exact Nat.le_succ _
    · obtain rfl := List.mem_singleton.mp hb
      exact Nat.le_refl _
  exact I1.fpOk le (I1.hok.fresh le)
/-- the loop over it: Pv by the turn -/
theorem for_enumT {K : PySem.W.Frag} {a : Addr} {xs : List V} {g : TG} {tb : TS} {D : Ends} {σ : L2.St} {H : Hp} (Pv : Nat → L2.St → Hp → Prop) (h0 : Pv 0 σ H) (hl : ∀ i σ H, i ≤ xs.length → Pv i σ H → SqT K H a xs)
    (hs : ∀ i x σ H T, xs[i]? = some x → Pv i σ H → H T = none → g (.ref T) σ (upd H T (.tup [.int (i : Nat), x])) fun σ2 H2 => tb { D with nx := Pv (i + 1), ct := Pv (i + 1), bk := D.nx } σ2 H2)
    (hd : ∀ σ H, Pv xs.length σ H → D.nx σ H) :
    ∃ W : Nat → Nat → L2.St → Hp → Prop, (∃ m, W 0 m σ H) ∧ ∀ i m σ H, W i m σ H → ((ItU K a).stop i H ∧ D.nx σ H) ∨
      ((ItU K a).go i H ∧ ∃ N : L2.St → Hp → Prop, (∀ σ' H', N σ' H' → ∃ m', m' < m ∧ W (i + 1) m' σ' H') ∧ ∀ x H', (ItU K a).yld i H x H' → g x σ H' fun σ2 H2 => tb { D with nx := N, ct := N, bk := D.nx } σ2 H2) := by
  refine ⟨fun i m σ H => i + m = xs.length ∧ Pv i σ H, ⟨xs.length, Nat.zero_add _, h0⟩, ?_⟩
  intro i m σ H w
  obtain ⟨e, p⟩ := w
  have hT := hl i σ H (by omega) p
  by_cases hi : i < xs.length
  · refine .inr ⟨⟨xs, xs[i], hT, List.getElem?_eq_getElem hi⟩, Pv (i + 1), fun σ' H' p' => ⟨m - 1, by omega, by omega, p'⟩, ?_⟩
    intro v H' y
    obtain ⟨T, x, rfl, hn, rfl, hx⟩ := y
    exact hs i x σ H T (hx xs hT) p hn
  · have e2 : i = xs.length := by omega
    subst e2
    exact .inl ⟨⟨xs, hT, rfl⟩, hd σ H p⟩
end Kx

/-! Defs that are run where no repr is under way: the same promise as FnOk, asked only around guards [] (repr of an object looks at these). -/
namespace Kx
open PySem PySem.Spec PyProof.Rows L2
structure FnG (P : Program) (w : World) (K : PySem.W.Frag) (mg : PySem.Str → Option Value) (base : Heap) (k : Nat) (f : Addr) (fd : FuncData) (ps : List PySem.Str) (sp : Sp) : Prop where
  len : ∀ vs H Q E, sp vs H Q E → vs.length = ps.length
  run : ∀ (A : Around) (outer : List Env) (s : Shared) (H : Hp) (args : Args) (us : List Value) (vs : List V) (Q : VK) (E : XK), Room k A → A.guards = some [] → Env0 P w K mg base A outer s H →
    BindsTo s fd args (ps.zip us) → Vals vs us → sp vs H Q E → codeAny (model P w) A (.call (.ref f) args) (CR CX0 outer P w H s Q E) s

/-! ### a def's body -/
section
variable {P : Program} {w : World} {K : PySem.W.Frag} {mg : PySem.Str → Option Value} {base : Heap}
theorem fun_okG {x qual : PySem.Str} {st : Stmt} {f : Addr} {fd : FuncData} {N ps : List PySem.Str} {k : Nat} {sp : Sp} (F : Fun K x qual st f fd) (S : FnScope N ps (defScope st)) (len : ∀ vs H Q E, sp vs H Q E → vs.length = ps.length)
    (hbody : ∀ (cdv : Value) (A : Around) (outer : List Env) (s : Shared) (H : Hp) (vs : List V) (Q : VK) (E : XK),
      Room k (A.deeper (envOfC qual (defScope st) s.heap.objs.size f cdv)) → (A.deeper (envOfC qual (defScope st) s.heap.objs.size f cdv)).guards = some [] → sp vs H Q E →
      ∃ t, PSs (cxOf CX0 P w K mg base N qual (defScope st) f cdv A outer s H E).nox (defBody st) t ∧ t { nx := fun _ H' => Q .non H', rt := Q } (start N vs) H) :
    FnG P w K mg base (k + 1) f fd ps sp := by
  obtain ⟨oc, od, kV, doc, pm, an, cdv, ct, osl, rfl, lk, hcd⟩ := F.ex
  refine ⟨len, ?_⟩
  intro A outer s H args us vs Q E hr hgd e0 hb r hsp
  have old : ∀ b o, base.get? b = some o → s.heap.get? b = some o := fun b o e => (e0.bs b o e).1
  have KX : K.In s.heap := e0.mod.kin.keeps old
  have lim : s.heap.NoLimit := e0.mod.nolimit.keeps old
  have kinds : ∀ y ∈ ps.zip us, (defScope st).names.lookup y.1 = some .local ∨ ((defScope st).names.lookup y.1 = some .cell ∧ ((cellsFrom (s.heap.objs.size + 1) (defScope st).names []).lookup y.1).isSome = true) := by
    intro y hy
    rcases S.par y.1 (List.of_mem_zip hy).1 with q | q
    · exact .inl q
    · exact .inr ⟨q, PySem.W.cellsFrom_some _ _ _ (.inl q)⟩
  refine codeAny_call_function hr.depth (KX _ _ lk) rfl S.co S.gen rfl (PySem.W.codeRec_of KX hcd) (hb _ _ _ _ ?_)
  refine wpAny_newFunctionEnv_cells S.kind kinds ?_
  intro env he s1 x
  subst he
  refine ⟨lim.keeps x.toInCall.keep, codeAny_func ?_⟩
  obtain ⟨t, ht, hq⟩ := hbody cdv A outer s H vs Q E (hr.deeper _) hgd hsp
  have hl := len _ _ _ _ hsp
  have I := inv_start (CX := CX0) (P := P) (w := w) (K := K) (mg := mg) (base := base) (E := E) (f := f) S hr.hd e0 hl r x
  refine wpAny_mono (ht.nox.run [] s1 (start N vs) H _ I hq) ?_ fun e s' hs => hs
  intro fl s' hs
  match fl, hs with
  | .ret u, ⟨v, σ', H', J, rv, q⟩ => exact ⟨v, H', J.os, J.bare, J.base, J.hok, rv, q⟩
  | .next, ⟨σ', H', J, q⟩ => exact ⟨.non, H', J.os, J.bare, J.base, J.hok, rfl, q⟩
  | .brk, ⟨_, _, _, q⟩ => exact q.elim
  | .cont, ⟨_, _, _, q⟩ => exact q.elim
end

/-! ### a call -/
section
variable {X : Cx} {k : Nat} {f : Addr} {fd : FuncData} {ps : List PySem.Str} {sp : Sp} {x : PySem.Str} {p pos : Pos} {e : Expr} {es : List Expr} {t : TA}
theorem pe_callG (F : FnG X.prog X.w X.K X.mg X.base k f fd ps sp) (hr : Room k X.A) (hgd : X.A.guards = some []) (hg : Gl X x) (hm : X.mg x = some (.ref f)) (hk : PySem.W.keepIn X.K (.ref f) = true) (hb : Binds X.K fd ps [])
    (ha : PA X (e :: es) t) (hdb : (x == ("__debug__" : PySem.Str)) = false := by decide) (he : starEach (e :: es) X.env = (false, eval e X.env) :: starEach es X.env := by rfl)
    (hpl : (backTo pos (starEach es X.env)).any (·.1) = false := by rfl) : PE X (.Call (.Name x p) (e :: es) [] pos) (tCall sp [] E0 t) := by
  constructor
  intro pins s σ H Q I h
  refine wpAny_Call_Name_kw (ld_glob I hg hm ?_ hdb)
  refine PySem.W.callWith_K (h₀ := X.base) I.ok.mod.kin hk (thn (ha.run pos pins s σ H _ I h) ?_) he hpl
  intro us s1 z
  obtain ⟨vs, H1, I1, r, q⟩ := z
  refine ⟨I1.kIn, ?_⟩
  have q' : sp vs H1 Q E0 := by
    have e : vs ++ [] = vs := List.append_nil vs
    rw [e] at q
    exact q
  have l : us.length = ps.length := by
    rw [← r.length]
    exact F.len _ _ _ _ q'
  have b := hb s1 us I1.kIn (by rw [List.append_nil]; exact l)
  rw [List.append_nil] at b
  refine wpAny_call (codeAny_mono (F.run X.A X.stack s1 H1 ⟨us, []⟩ us vs Q E0 hr hgd I1.env0 b r q') ?_)
  intro r s' hq
  match r, hq with
  | .error e, hq => exact False.elim hq
  | .ok (.ret u), hq => exact I1.after hq
  | .ok .next, hq => exact False.elim hq
  | .ok .brk, hq => exact False.elim hq
  | .ok .cont, hq => exact False.elim hq
end

/-! ### the law's own call -/
/-- the abstract heap that knows the script alone, or nothing -/
theorem law_core {P : Program} {w : World} {K : PySem.W.Frag} {mg mb : PySem.Str → Option Value} {k : Nat} {fa a : Addr} {fd : FuncData} {x : PySem.Str} {sp : Sp} {s : Shared} {vs : List Value} {H : Hp}
    (KX : K.In s.heap) (hns : s.heap.Ns mainGlobals mg) (hb : s.heap.Ns builtinsNs mb) (hbb : ∀ y : PySem.Str, y ≠ "__name__" → mb y = bootBuiltins y) (hlim : s.heap.NoLimit) (hg : s.gens = #[])
    (ha : s.heap.get? a = some { cls := .type "list", data := .seq vs.toArray }) (hr : Room k callerA)
    (F : ∀ base : Heap, K.In base → base.Ns mainGlobals mg → FnG P w K mg base k fa fd [x] sp) (hbind : ∀ (s : Shared) (u : Value), BindsTo s fd ⟨[u], []⟩ [(x, u)])
    (hO : Only H) (hsp : sp [.ref a] H (fun v _ => v = .bl true) fun _ _ _ => False) (ok : HOk P w H s.heap) (hA : ∀ b, H b ≠ none → b = a) (hK : H a ≠ none → K.lookup a = none) :
    codeAny (model P w) callerA (.call (.ref fa) ⟨[.ref a], []⟩) (fun r s' => r = .ok (.ret (.bool true)) ∧ OldK s.heap s'.heap ∧ s'.os = s.os ∧ AllBare s'.gens) s := by
  have free : ∀ b o es ep, s.heap.get? b = some o → o.data = .dict es ep → H b = none := by
    intro b o es ep e d
    cases q : H b with
    | none => rfl
    | some u =>
      have z := hA b (by rw [q]; exact Option.some_ne_none u)
      subst z
      rw [ha] at e
      obtain rfl := Option.some.inj e
      cases d
  have ns : ∀ b m, s.heap.Ns b m → (hidT s.heap H).Ns b m := by
    intro b m z
    obtain ⟨o, es, ep, e, d, r⟩ := z
    exact ⟨o, es, ep, hidT_get e (free b o es ep e d), d, r⟩
  have kb : K.In (hidT s.heap H) := by
    intro b o e
    refine hidT_get (KX b o e) ?_
    cases q : H b with
    | none => rfl
    | some u =>
      have z := hA b (by rw [q]; exact Option.some_ne_none u)
      subst z
      rw [hK (by rw [q]; exact Option.some_ne_none u)] at e
      cases e
  obtain ⟨mc, l1, l2⟩ := hlim
  have mod : Mod K mg (hidT s.heap H) := ⟨kb, ns _ _ hns, ⟨mb, ns _ _ hb, hbb⟩, mc, ns _ _ l1, l2⟩
  have nofr : ∀ b : Addr, b ∉ frs ([] : List Env) := fun b z => by cases z
  have e0 : Env0 P w K mg (hidT s.heap H) callerA [] s H := ⟨rfl, mod, fun b o e => of_hidT e, Nat.le_of_eq (hidT_size _ _), trivial, fun b z => absurd z (nofr b), ok, .of_eq hg⟩
  have run := (F _ kb (ns _ _ hns)).run callerA [] s H ⟨[.ref a], []⟩ [.ref a] [.ref a] _ _ hr rfl e0 (hbind s (.ref a)) (.cons rfl .nil) hsp
  refine codeAny_mono run ?_
  intro r s' h
  match r, h with
  | .error e, h => exact False.elim h
  | .ok .next, h => exact False.elim h
  | .ok .brk, h => exact False.elim h
  | .ok .cont, h => exact False.elim h
  | .ok (.ret u), ⟨v, H', os, bare, un, hok', r', q⟩ =>
    obtain rfl : v = .bl true := q
    obtain rfl : u = Value.bool true := r'
    refine ⟨rfl, OldK.of_keep ?_, os, bare⟩
    intro b o e
    rcases hO b with z | ⟨ob, xs, z⟩
    · exact un.keep b o e z (nofr b) (fun z => by cases z)
    · obtain ⟨e1, _⟩ := ok b _ z
      obtain ⟨e2, _⟩ := hok' b _ (un.frzs b ob _ z)
      rw [e] at e1
      obtain rfl := Option.some.inj e1
      exact e2
/-- the head's goal, from the law's promise -/
theorem walk_ofG {l : PySem.W.OpenLaw} {n k : Nat} {q : Program} {loose : List PySem.Str} {XP : (PySem.Str → Option Value) → Heap → Prop} {YP : World → Heap → Prop} {d : DefRec} {K : Params → PySem.W.Frag} {sp : PySem.W.Frag → Sp} {x : PySem.Str}
    (hn : l.most = some n) (hn2 : n ≤ sizeLine) (hdf : d.params.defaults = []) (hr : Room k callerA) (hY : ∀ (w : World) (h : Heap), YP w h → (K w.params).In h)
    (F : ∀ (w : World) (mg : PySem.Str → Option Value) (fa : Addr) (h : Heap), (K w.params).In h → h.Ns mainGlobals mg → mg d.name = some (.ref fa) →
      ∃ fd : FuncData, (∀ (s : Shared) (u : Value), BindsTo s fd ⟨[u], []⟩ [(x, u)]) ∧ ∀ base : Heap, (K w.params).In base → base.Ns mainGlobals mg → FnG l.prog w (K w.params) mg base k fa fd [x] (sp (K w.params)))
    (hsp : ∀ (K : PySem.W.Frag) (H : Hp) (a : Addr) (ns : List Int), ns.length ≤ n → SqL K H a (ns.map V.int) → sp K [.ref a] H (fun v _ => v = .bl true) fun _ _ _ => False) :
    PySem.W.WalkO q loose XP YP l.row.toRowW d [] (fun f vs => PySem.call f vs) := by
  refine Att.attach_call hn hdf ?_
  intro w s0 s mg mb fa o pm cd doc a vs ns G Y ho hd hcd hmg hobj hints hlen hg
  have KX := hY w _ Y
  obtain ⟨fd, hb, hF⟩ := F w mg fa _ KX G.T.g hmg
  have rv := vals_ints hints
  have lenV := hints.length
  have big : ns.length ≤ sizeLine := Nat.le_trans hlen hn2
  cases hk : (K w.params).lookup a with
  | some ob =>
    have e := KX a ob hk
    rw [hobj] at e
    obtain rfl := Option.some.inj e
    have hS : SqL (K w.params) (fun _ => none) a (ns.map V.int) := by
      refine .inr ⟨_, vs.toArray, _, hk, rfl, rfl, rfl, ?_, ?_⟩
      · rw [List.size_toArray, lenV]
        exact big
      · simpa using rv
    exact law_core (H := fun _ => none) KX G.T.g G.T.b G.T.builtins G.T.nolimit hg hobj hr hF hb (fun _ => .inl rfl) (hsp _ _ a ns hlen hS) (fun b u z => by cases z) (fun b z => absurd rfl z) (fun z => absurd rfl z)
  | none =>
    let H : Hp := fun b => if b = a then some (.frz { cls := .type "list", data := .seq vs.toArray } (.lst (ns.map V.int))) else none
    have Ha : H a = some (.frz { cls := .type "list", data := .seq vs.toArray } (.lst (ns.map V.int))) := if_pos rfl
    have Hn : ∀ b, b ≠ a → H b = none := fun b n => if_neg n
    refine law_core (H := H) KX G.T.g G.T.b G.T.builtins G.T.nolimit hg hobj hr hF hb ?_ (hsp _ _ a ns hlen (.inl (.inr ⟨_, Ha⟩))) ?_ ?_ (fun _ => hk)
    · intro b
      by_cases e : b = a
      · subst e
        exact .inr ⟨_, _, Ha⟩
      · exact .inl (Hn b e)
    · intro b u z
      by_cases e : b = a
      · subst e
        rw [Ha] at z
        obtain rfl := Option.some.inj z
        refine ⟨hobj, ?_, vs, _, rv, hobj⟩
        rw [List.length_map]
        exact big
      · rw [Hn b e] at z
        cases z
    · intro b z
      by_cases e : b = a
      · exact e
      · exact absurd (Hn b e) z
end Kx

/-! Readings by what they give: Hv te σ H P says that te, read at any heap that keeps what H tracks, gives a value with P and keeps all that stood. -/
namespace Kx
open PySem PySem.Spec PyProof.Rows L2
abbrev VP := V → Hp → Prop
def Mo (P : VP) : Prop := ∀ v H H', Same H H' → P v H → P v H'
def Is (x : V) : VP := fun v _ => v = x
theorem mo_is {x : V} : Mo (Is x) := fun _ _ _ _ h => h
theorem sqT_mo {K : PySem.W.Frag} {H H' : Hp} {a : Addr} {xs : List V} (e : Same H H') (h : SqT K H a xs) : SqT K H' a xs := by
  rcases h with (h | ⟨o, h⟩) | h
  · exact .inl (.inl (e _ _ h))
  · exact .inl (.inr ⟨o, e _ _ h⟩)
  · exact .inr h
theorem sqL_mo {K : PySem.W.Frag} {H H' : Hp} {a : Addr} {xs : List V} (e : Same H H') (h : SqL K H a xs) : SqL K H' a xs := e.seq h
theorem same_new {H : Hp} {p : Addr} {o : HO} (h : H p = none) : Same H (upd H p o) := fun b u e => by
  rw [upd_ne (ne_of_none e h)]
  exact e
/-- a value is a tuple of these -/
def Tup (K : PySem.W.Frag) (xs : List V) : VP := fun v H => ∃ a, v = .ref a ∧ SqT K H a xs
def Lst (K : PySem.W.Frag) (xs : List V) : VP := fun v H => ∃ a, v = .ref a ∧ SqL K H a xs
theorem mo_tup {K : PySem.W.Frag} {xs : List V} : Mo (Tup K xs) := fun _ _ _ e ⟨a, h, s⟩ => ⟨a, h, sqT_mo e s⟩
theorem mo_lst {K : PySem.W.Frag} {xs : List V} : Mo (Lst K xs) := fun _ _ _ e ⟨a, h, s⟩ => ⟨a, h, sqL_mo e s⟩
/-- a fraction as it stands in the heap -/
def Fr (K : PySem.W.Frag) (p : K74.Q2) : VP := Tup K [.int p.1, .int p.2]
theorem mo_fr {K : PySem.W.Frag} {p : K74.Q2} : Mo (Fr K p) := mo_tup

def Hv (te : TE) (σ : L2.St) (H : Hp) (P : VP) : Prop := ∀ H1, Same H H1 → ∀ Q : VK, (∀ v H2, Same H1 H2 → P v H2 → Q v H2) → te σ H1 Q
def HvT (tt : TT) (σ : L2.St) (H : Hp) (b : Bool) : Prop := ∀ H1, Same H H1 → ∀ Q : Bool → Hp → Prop, (∀ H2, Same H1 H2 → Q b H2) → tt σ H1 Q
def HvA (ta : TA) (σ : L2.St) (H : Hp) (P : List V → Hp → Prop) : Prop := ∀ H1, Same H H1 → ∀ Q : List V → Hp → Prop, (∀ vs H2, Same H1 H2 → P vs H2 → Q vs H2) → ta σ H1 Q
section
variable {K : PySem.W.Frag} {σ : L2.St} {H H' : Hp} {ta tb te : TE} {t u : TT} {x y z : V} {P R S : VP}
theorem Hv.mono (e : Same H H') (h : Hv te σ H P) : Hv te σ H' P := fun H1 a Q q => h H1 (e.trans a) Q q
theorem HvT.mono {b : Bool} (e : Same H H') (h : HvT t σ H b) : HvT t σ H' b := fun H1 a Q q => h H1 (e.trans a) Q q
theorem Hv.to (h : Hv te σ H P) (f : ∀ v H1, Same H H1 → P v H1 → R v H1) : Hv te σ H R := fun H1 e Q q => h H1 e Q fun v H2 e2 p => q v H2 e2 (f v H2 (e.trans e2) p)
theorem HvT.to {a b : Bool} (h : HvT t σ H a) (e : a = b) : HvT t σ H b := e ▸ h
theorem Hv.run (h : Hv te σ H P) {Q : VK} (q : ∀ v H2, Same H H2 → P v H2 → Q v H2) : te σ H Q := h H (Same.refl H) Q q
theorem hv_var {i : Nat} (h : σ[i]? = some (some x)) : Hv (tVar i) σ H (Is x) := fun H1 _ _ q => ⟨x, h, q x H1 (Same.refl H1) rfl⟩
theorem hv_varP {i : Nat} (h : σ[i]? = some (some x)) (m : Mo P) (p : P x H) : Hv (tVar i) σ H P := fun H1 e _ q => ⟨x, h, q x H1 (Same.refl H1) (m _ _ _ e p)⟩
theorem hv_c : Hv (tC x) σ H (Is x) := fun H1 _ _ q => q x H1 (Same.refl H1) rfl
theorem hv_cP (p : ∀ H1, Same H H1 → P x H1) : Hv (tC x) σ H P := fun H1 e _ q => q x H1 (Same.refl H1) (p H1 e)
theorem hv_op {r : R2} (ha : Hv ta σ H P) (m : Mo P) (hb : Hv tb σ H R) (hr : ∀ x y H1, Same H H1 → P x H1 → R y H1 → ∀ Q : VK, (∀ v H2, Same H1 H2 → S v H2 → Q v H2) → r x y H1 Q) : Hv (tOp r ta tb) σ H S := fun H1 e Q q =>
  ha H1 e _ fun x H2 e2 px => hb H2 (e.trans e2) _ fun y H3 e3 py => hr x y H3 ((e.trans e2).trans e3) (m _ _ _ e3 px) py Q fun v H4 e4 s => q v H4 ((e2.trans e3).trans e4) s
theorem hv_op0 {r : R2} (ha : Hv ta σ H P) (m : Mo P) (hb : Hv tb σ H R) (hr : ∀ x y H1, Same H H1 → P x H1 → R y H1 → ∀ Q : VK, Q z H1 → r x y H1 Q) : Hv (tOp r ta tb) σ H (Is z) :=
  hv_op ha m hb fun x y H1 e px py Q q => hr x y H1 e px py Q (q z H1 (Same.refl H1) rfl)
theorem hv_I0 {g : Int → Int → V} {i j : Int} (ha : Hv ta σ H (Is (.int i))) (hb : Hv tb σ H (Is (.int j))) : Hv (tOp (rI0 g) ta tb) σ H (Is (g i j)) :=
  hv_op0 ha mo_is hb fun _ _ _ _ px py _ q => ⟨i, j, px, py, q⟩
theorem hv_I {C : Int → Int → Prop} {g : Int → Int → V} {i j : Int} (ha : Hv ta σ H (Is (.int i))) (hb : Hv tb σ H (Is (.int j))) (c : C i j) : Hv (tOp (rI C g) ta tb) σ H (Is (g i j)) :=
  hv_op0 ha mo_is hb fun _ _ _ _ px py _ q => ⟨i, j, px, py, c, q⟩
theorem hv_eq (ha : Hv ta σ H (Is x)) (hb : Hv tb σ H (Is y)) (s : scal x y = true) : Hv (tOp rEq ta tb) σ H (Is (.bl (decide (x = y)))) :=
  hv_op0 ha mo_is hb fun _ _ _ _ px py _ q => by
    subst px py
    exact ⟨s, q⟩
theorem hv_ne (ha : Hv ta σ H (Is x)) (hb : Hv tb σ H (Is y)) (s : scal x y = true) : Hv (tOp rNe ta tb) σ H (Is (.bl (!decide (x = y)))) :=
  hv_op0 ha mo_is hb fun _ _ _ _ px py _ q => by
    subst px py
    exact ⟨s, q⟩
theorem hv_ixT {xs : List V} {i : Int} (ha : Hv ta σ H (Tup K xs)) (hb : Hv tb σ H (Is (.int i))) (hx : atI xs i = some z) : Hv (tOp (rIxT K) ta tb) σ H (Is z) :=
  hv_op0 ha mo_tup hb fun _ _ _ _ px py _ q => by
    obtain ⟨a, rfl, s⟩ := px
    subst py
    exact ⟨a, xs, i, z, rfl, rfl, s, hx, q⟩
theorem hv_ixL {xs : List V} {i : Int} (ha : Hv ta σ H (Lst K xs)) (hb : Hv tb σ H (Is (.int i))) (hx : atI xs i = some z) : Hv (tOp (rIxL K) ta tb) σ H (Is z) :=
  hv_op0 ha mo_lst hb fun _ _ _ _ px py _ q => by
    obtain ⟨a, rfl, s⟩ := px
    subst py
    exact ⟨a, xs, i, z, rfl, rfl, s, hx, q⟩
theorem at0 {a b : V} : atI [a, b] 0 = some a := atI_nat (j := 0) rfl
theorem at1 {a b : V} : atI [a, b] 1 = some b := atI_nat (j := 1) rfl
/-- p[0], p[1] of a fraction -/
theorem hv_p0 {p : K74.Q2} (ha : Hv ta σ H (Fr K p)) : Hv (tOp (rIxT K) ta (tC (.int 0))) σ H (Is (.int p.1)) := hv_ixT ha hv_c at0
theorem hv_p1 {p : K74.Q2} (ha : Hv ta σ H (Fr K p)) : Hv (tOp (rIxT K) ta (tC (.int 1))) σ H (Is (.int p.2)) := hv_ixT ha hv_c at1
theorem hv_un {r : V → Hp → VK → Prop} (ha : Hv ta σ H P) (hr : ∀ x H1, Same H H1 → P x H1 → ∀ Q : VK, Q z H1 → r x H1 Q) : Hv (tUn r ta) σ H (Is z) := fun H1 e Q q =>
  ha H1 e _ fun x H2 e2 px => hr x H2 (e.trans e2) px Q (q z H2 e2 rfl)
theorem hv_neg {i : Int} (ha : Hv ta σ H (Is (.int i))) : Hv (tUn (fun x H Q => ∃ i, x = .int i ∧ Q (.int (-i)) H) ta) σ H (Is (.int (-i))) := hv_un ha fun _ _ _ px _ q => ⟨i, px, q⟩
/-! ### tests and truth values -/
theorem ht_test {b : Bool} (h : Hv te σ H (Is (.bl b))) : HvT (tTest te) σ H b := fun H1 e _ q => h H1 e _ fun _ H2 e2 p => ⟨b, p, q H2 e2⟩
theorem ht_B {b : Bool} (h : Hv te σ H (Is (.bl b))) : HvT (tB te) σ H b := fun H1 e _ q => h H1 e _ fun _ H2 e2 p => ⟨b, p, q H2 e2⟩
theorem ht_not {a : Bool} (h : HvT t σ H a) : HvT (tNot t) σ H (!a) := fun H1 e _ q => h H1 e _ fun H2 e2 => q H2 e2
theorem ht_and {a b : Bool} (h1 : HvT t σ H a) (h2 : a = true → HvT u σ H b) : HvT (tAnd t u) σ H (a && b) := fun H1 e Q q => h1 H1 e _ fun H2 e2 => by
  cases a with
  | true =>
    rw [if_pos rfl]
    exact h2 rfl H2 (e.trans e2) Q fun H3 e3 => q H3 (e2.trans e3)
  | false =>
    rw [if_neg Bool.false_ne_true]
    exact q H2 e2
theorem ht_or {a b : Bool} (h1 : HvT t σ H a) (h2 : a = false → HvT u σ H b) : HvT (tOr t u) σ H (a || b) := fun H1 e Q q => h1 H1 e _ fun H2 e2 => by
  cases a with
  | true =>
    rw [if_pos rfl]
    exact q H2 e2
  | false =>
    rw [if_neg Bool.false_ne_true]
    exact h2 rfl H2 (e.trans e2) Q fun H3 e3 => q H3 (e2.trans e3)
theorem hv_andV {a b : Bool} (h1 : Hv ta σ H (Is (.bl a))) (h2 : a = true → Hv tb σ H (Is (.bl b))) : Hv (tAndV ta tb) σ H (Is (.bl (a && b))) := fun H1 e Q q => h1 H1 e _ fun v H2 e2 p => ⟨a, p, by
  cases a with
  | true =>
    rw [if_pos rfl]
    exact h2 rfl H2 (e.trans e2) Q fun v H3 e3 => q v H3 (e2.trans e3)
  | false =>
    rw [if_neg Bool.false_ne_true]
    exact q _ H2 e2 rfl⟩
theorem hv_orV {a b : Bool} (h1 : Hv ta σ H (Is (.bl a))) (h2 : a = false → Hv tb σ H (Is (.bl b))) : Hv (tOrV ta tb) σ H (Is (.bl (a || b))) := fun H1 e Q q => h1 H1 e _ fun v H2 e2 p => ⟨a, p, by
  cases a with
  | true =>
    rw [if_pos rfl]
    exact q _ H2 e2 rfl
  | false =>
    rw [if_neg Bool.false_ne_true]
    exact h2 rfl H2 (e.trans e2) Q fun v H3 e3 => q v H3 (e2.trans e3)⟩
theorem hv_notV {a : Bool} (h : Hv ta σ H (Is (.bl a))) : Hv (tNotV ta) σ H (Is (.bl (!a))) := fun H1 e _ q => h H1 e _ fun _ H2 e2 p => ⟨a, p, q _ H2 e2 rfl⟩
theorem hv_if {b : Bool} (h : HvT t σ H b) (h1 : b = true → Hv ta σ H P) (h2 : b = false → Hv tb σ H P) : Hv (tIf t ta tb) σ H P := fun H1 e Q q => h H1 e _ fun H2 e2 => by
  cases b with
  | true =>
    rw [if_pos rfl]
    exact h1 rfl H2 (e.trans e2) Q fun v H3 e3 => q v H3 (e2.trans e3)
  | false =>
    rw [if_neg Bool.false_ne_true]
    exact h2 rfl H2 (e.trans e2) Q fun v H3 e3 => q v H3 (e2.trans e3)
/-! ### arguments, displays -/
def One (P : VP) : List V → Hp → Prop := fun vs H => ∃ x, vs = [x] ∧ P x H
def Two (P R : VP) : List V → Hp → Prop := fun vs H => ∃ x y, vs = [x, y] ∧ P x H ∧ R y H
theorem ha_nil : HvA tNil σ H (fun vs _ => vs = []) := fun H1 _ _ q => q [] H1 (Same.refl H1) rfl
theorem ha_cons {tr : TA} {A : List V → Hp → Prop} (h : Hv ta σ H P) (m : Mo P) (hr : HvA tr σ H A) : HvA (tCons ta tr) σ H (fun vs H => ∃ x xs, vs = x :: xs ∧ P x H ∧ A xs H) := fun H1 e _ q =>
  h H1 e _ fun x H2 e2 p => hr H2 (e.trans e2) _ fun xs H3 e3 a => q _ H3 (e2.trans e3) ⟨x, xs, rfl, m _ _ _ e3 p, a⟩
theorem ha_one (h : Hv ta σ H P) : HvA (tCons ta tNil) σ H (One P) := fun H1 e _ q => h H1 e _ fun x H2 e2 p => q [x] H2 e2 ⟨x, rfl, p⟩
theorem ha_two (h : Hv ta σ H P) (m : Mo P) (hb : Hv tb σ H R) : HvA (tCons ta (tCons tb tNil)) σ H (Two P R) := fun H1 e _ q =>
  h H1 e _ fun x H2 e2 p => hb H2 (e.trans e2) _ fun y H3 e3 r => q [x, y] H3 (e2.trans e3) ⟨x, y, rfl, m _ _ _ e3 p, r⟩
theorem small_line {n : Nat} (h : n ≤ 1000) : n ≤ sizeLine := Nat.le_of_lt (small1000 h)
/-- (i, j) -/
theorem hv_pair (ha : Hv ta σ H (Is x)) (hb : Hv tb σ H (Is y)) : Hv (tTup (tCons ta (tCons tb tNil))) σ H (Tup K [x, y]) := fun H1 e _ q =>
  ha_two ha mo_is hb H1 e _ fun vs H2 e2 ⟨a, b, ev, pa, pb⟩ => by
    subst ev pa pb
    exact ⟨small_line (by show 2 ≤ 1000; decide), fun p hp => q _ _ (e2.trans (same_new hp)) ⟨p, rfl, .inl (.inl upd_same)⟩⟩
def PairOf (K : PySem.W.Frag) (P R : VP) : VP := fun v H => ∃ v1 v2, P v1 H ∧ R v2 H ∧ Tup K [v1, v2] v H
theorem hv_tup2 (ha : Hv ta σ H P) (mp : Mo P) (hb : Hv tb σ H R) (mr : Mo R) : Hv (tTup (tCons ta (tCons tb tNil))) σ H (PairOf K P R) := fun H1 e _ q =>
  ha_two ha mp hb H1 e _ fun vs H2 e2 ⟨a, b, ev, pa, pb⟩ => by
    subst ev
    exact ⟨small_line (by show 2 ≤ 1000; decide), fun p hp => q _ _ (e2.trans (same_new hp)) ⟨a, b, mp _ _ _ (same_new hp) pa, mr _ _ _ (same_new hp) pb, p, rfl, .inl (.inl upd_same)⟩⟩
/-! ### calls -/
/-- a promise of a def that changes nothing: what its arguments are, what comes back -/
def spP {α : Type} (pre : α → List V → Hp → Prop) (post : α → VP) : Sp := fun vs H Q _ => ∃ a, pre a vs H ∧ ∀ v H', Same H H' → post a v H' → Q v H'
theorem hv_call {α : Type} {pre : α → List V → Hp → Prop} {post : α → VP} {tr : TA} (a : α) (h : HvA tr σ H (pre a)) : Hv (tCall (spP pre post) [] E0 tr) σ H (post a) := fun H1 e Q q =>
  h H1 e _ fun vs H2 e2 p => by
    have n : vs ++ [] = vs := List.append_nil vs
    rw [n]
    exact ⟨a, p, fun v H3 e3 r => q v H3 (e2.trans e3) r⟩
theorem hv_kw {α : Type} {pre : α → List V → Hp → Prop} {post : α → VP} {tr : TA} (a : α) (h : HvA tr σ H (pre a)) : Hv (tKw (spP pre post) (fun _ => E0) tr) σ H (post a) := fun H1 e Q q =>
  h H1 e _ fun vs H2 e2 p => ⟨a, p, fun v H3 e3 r => q v H3 (e2.trans e3) r⟩
theorem hv_cb {r : List V → Hp → VK → Prop} {tr : TA} {A : List V → Hp → Prop} (h : HvA tr σ H A) (hr : ∀ vs H1, Same H H1 → A vs H1 → ∀ Q : VK, (∀ v H2, Same H1 H2 → S v H2 → Q v H2) → r vs H1 Q) : Hv (tCB r tr) σ H S := fun H1 e Q q =>
  h H1 e _ fun vs H2 e2 a => hr vs H2 (e.trans e2) a Q fun v H3 e3 s => q v H3 (e2.trans e3) s
theorem hv_cb0 {r : List V → Hp → VK → Prop} {tr : TA} {A : List V → Hp → Prop} (h : HvA tr σ H A) (hr : ∀ vs H1, Same H H1 → A vs H1 → ∀ Q : VK, Q z H1 → r vs H1 Q) : Hv (tCB r tr) σ H (Is z) :=
  hv_cb h fun vs H1 e a Q q => hr vs H1 e a Q (q z H1 (Same.refl H1) rfl)
/-! ### statements -/
variable {D : Ends} {tz ts tw : TS} {tr0 : TA}
theorem s_ret (h : Hv te σ H P) (k : ∀ v H1, Same H H1 → P v H1 → D.rt v H1) : tRet te D σ H := h H (Same.refl H) _ k
theorem s_set {i : Nat} (h : Hv te σ H P) (k : ∀ v H1, Same H H1 → P v H1 → tz D (σ.set i (some v)) H1) : tSeq (tAsg te (gName i)) tz D σ H := h H (Same.refl H) _ k
theorem s_set1 {i : Nat} (h : Hv te σ H P) (k : ∀ v H1, Same H H1 → P v H1 → D.nx (σ.set i (some v)) H1) : tAsg te (gName i) D σ H := h H (Same.refl H) _ k
theorem s_par {i j : Nat} (ha : HvA tr0 σ H (Two P R)) (k : ∀ v z H1, Same H H1 → P v H1 → R z H1 → D.nx ((σ.set i (some v)).set j (some z)) H1) : tPar i j tr0 D σ H :=
  ha H (Same.refl H) _ fun vs H1 e ⟨v, z, ev, pv, pz⟩ => ⟨v, z, ev, k v z H1 e pv pz⟩
theorem s_drop (h : Hv te σ H P) (k : ∀ v H1, Same H H1 → P v H1 → tz D σ H1) : tSeq (tDrop te) tz D σ H := h H (Same.refl H) _ k
theorem s_if {b : Bool} (h : HvT t σ H b) (h1 : b = true → ∀ H1, Same H H1 → ts { D with nx := tz D } σ H1) (h2 : b = false → ∀ H1, Same H H1 → tw { D with nx := tz D } σ H1) : tSeq (tIfS t ts tw) tz D σ H := h H (Same.refl H) _ fun H1 e => by
  cases b with
  | true =>
    rw [if_pos rfl]
    exact h1 rfl H1 e
  | false =>
    rw [if_neg Bool.false_ne_true]
    exact h2 rfl H1 e
theorem s_if1 {b : Bool} (h : HvT t σ H b) (h1 : b = true → ∀ H1, Same H H1 → ts D σ H1) (h2 : b = false → ∀ H1, Same H H1 → tw D σ H1) : tIfS t ts tw D σ H := h H (Same.refl H) _ fun H1 e => by
  cases b with
  | true =>
    rw [if_pos rfl]
    exact h1 rfl H1 e
  | false =>
    rw [if_neg Bool.false_ne_true]
    exact h2 rfl H1 e
end

/-! ### defs of the text -/
def topS (i : Nat) : Stmt := PySem.Challenge.pw_stillplates_k74_whole_stages_of_one_fact.main.body.getD i (.Pass ⟨0, 0, 0, 0⟩)
/-- a def stands behind the top, by its name -/
structure DefAt (K : PySem.W.Frag) (mg : PySem.Str → Option Value) (x : PySem.Str) (st : Stmt) : Prop where
  ex : ∃ (f : Addr) (fd : FuncData), Fun K x x st f fd ∧ mg x = some (.ref f)
/-- a def that may be called: it keeps its promise -/
structure Cal (P : Program) (w : World) (K : PySem.W.Frag) (mg : PySem.Str → Option Value) (base : Heap) (CX : CXT) (k : Nat) (x : PySem.Str) (ps : List PySem.Str) (sp : Sp) : Prop where
  ex : ∃ (f : Addr) (fd : FuncData), FnOk P w K mg base CX k f fd ps sp ∧ mg x = some (.ref f) ∧ PySem.W.keepIn K (.ref f) = true ∧ Binds K fd ps [] ∧ KwB K fd ps ps
section
variable {P : Program} {w : World} {K : PySem.W.Frag} {mg : PySem.Str → Option Value} {base : Heap} {CX : CXT} {k j : Nat} {x : PySem.Str} {ps N : List PySem.Str} {sp : Sp} {st : Stmt}
theorem Cal.mono (c : Cal P w K mg base CX k x ps sp) (h : k ≤ j) : Cal P w K mg base CX j x ps sp := by
  obtain ⟨f, fd, F, r⟩ := c.ex
  exact ⟨f, fd, F.mono h, r⟩
/-- how the parameters bind: positions, and keywords in the parameters' order -/
def Bnd (x : PySem.Str) (st : Stmt) (ps : List PySem.Str) : Prop :=
  (∀ (kV doc pm : Value) (an : Option Addr) (cdv ct : Value) (us : List Value), us.length = ps.length → bindArgs (PySem.W.fnOf x x (defArgs st) (defBody st) (defScope st) .none kV doc pm an cdv ct) ⟨us, []⟩ = pure (ps.zip us)) ∧
  (∀ (kV doc pm : Value) (an : Option Addr) (cdv ct : Value) (us : List Value), us.length = ps.length → bindArgs (PySem.W.fnOf x x (defArgs st) (defBody st) (defScope st) .none kV doc pm an cdv ct) ⟨[], ps.zip us⟩ = pure (ps.zip us))
theorem kwb_of {f : Addr} {fd : FuncData} (F : Fun K x x st f fd) (b : Bnd x st ps) : KwB K fd ps ps := by
  obtain ⟨oc, od, kV, doc, pm, an, cdv, ct, osl, rfl, lk, hcd⟩ := F.ex
  intro s ws _ l
  exact BindsTo.of_eq (b.2 kV doc pm an cdv ct ws l)
theorem cal_of (D : DefAt K mg x st) (S : FnScope N ps (defScope st)) (b : Bnd x st ps) (len : ∀ vs H Q E, sp vs H Q E → vs.length = ps.length)
    (body : ∀ (cdv : Value) (f : Addr) (A : Around) (outer : List Env) (s : Shared) (H : Hp) (vs : List V) (Q : VK) (E : XK), Room k (A.deeper (envOfC x (defScope st) s.heap.objs.size f cdv)) → sp vs H Q E →
      ∃ t, PSs (cxOf CX0 P w K mg base N x (defScope st) f cdv A outer s H E).nox (defBody st) t ∧ t { nx := fun _ H' => Q .non H', rt := Q } (start N vs) H) :
    Cal P w K mg base CX0 (k + 1) x ps sp := by
  obtain ⟨f, fd, F, g⟩ := D.ex
  exact ⟨f, fd, F.ok S len fun cdv A outer s H vs Q E hr h => body cdv f A outer s H vs Q E hr h, g, F.kp, F.binds b.1, kwb_of F b⟩
end
section
variable {X : Cx} {k : Nat} {x : PySem.Str} {ps : List PySem.Str} {sp : Sp} {p pos : Pos} {e : Expr} {es : List Expr} {t : TA}
theorem pe_cal (c : Cal X.prog X.w X.K X.mg X.base CX0 k x ps sp) (hr : Room k X.A) (hg : Gl X x) (ha : PA X (e :: es) t) (hdb : (x == ("__debug__" : PySem.Str)) = false := by decide)
    (he : starEach (e :: es) X.env = (false, eval e X.env) :: starEach es X.env := by rfl) (hpl : (backTo pos (starEach es X.env)).any (·.1) = false := by rfl) :
    PE X (.Call (.Name x p) (e :: es) [] pos) (tCall sp [] E0 t) := by
  obtain ⟨f, fd, F, hm, hk, hb, _⟩ := c.ex
  exact pe_call F hr hg hm hk hb .nil pass0 ha hdb he hpl
theorem pe_calK {kws : List Keyword} {tk : TA} (c : Cal X.prog X.w X.K X.mg X.base CX0 k x ps sp) (hr : Room k X.A) (hg : Gl X x) (hkw : PK X kws tk) (hall : (backToKw pos (keywordEach kws X.env)).all (·.1.isSome) = true := by rfl)
    (hks : (backToKw pos (keywordEach kws X.env)).filterMap (·.1) = ps := by rfl) (hdb : (x == ("__debug__" : PySem.Str)) = false := by decide)
    (hpl : ((backTo pos (starEach [] X.env)).any (·.1) || (backToKw pos (keywordEach kws X.env)).any (·.1.isNone)) = false := by rfl) :
    PE X (.Call (.Name x p) [] kws pos) (tKw sp (fun _ => E0) tk) := by
  obtain ⟨f, fd, F, hm, hk, _, hb⟩ := c.ex
  exact pe_kw F hr hg hm hk hb passA0 hkw hall hks hdb hpl
end
/-! ### comprehensions -/
/-- a list of the call's own -/
def LstT (xs : List V) : VP := fun v H => ∃ a, v = .ref a ∧ H a = some (.lst xs)
theorem mo_lstT {xs : List V} : Mo (LstT xs) := fun _ _ _ e ⟨a, h, s⟩ => ⟨a, h, e _ _ s⟩
theorem lst_of {K : PySem.W.Frag} {xs : List V} {v : V} {H : Hp} (h : LstT xs v H) : Lst K xs v H := by
  obtain ⟨a, e, s⟩ := h
  exact ⟨a, e, .inl (.inl s)⟩
def picked (i : Nat) (f : Nat → Bool) (v : Nat → V) : List V := ((List.range i).filter f).map v
theorem picked_yes {i : Nat} {f : Nat → Bool} {v : Nat → V} (h : f i = true) : picked (i + 1) f v = picked i f v ++ [v i] := by
  unfold picked
  rw [List.range_succ, List.filter_append, List.map_append, List.filter_cons, if_pos h]
  rfl
theorem picked_no {i : Nat} {f : Nat → Bool} {v : Nat → V} (h : f i = false) : picked (i + 1) f v = picked i f v := by
  unfold picked
  rw [List.range_succ, List.filter_append, List.map_append, List.filter_cons, if_neg (by rw [h]; exact Bool.false_ne_true)]
  show _ ++ [] = _
  rw [List.append_nil]
theorem picked_len (i : Nat) (f : Nat → Bool) (v : Nat → V) : (picked i f v).length ≤ i := by
  unfold picked
  rw [List.length_map]
  have h := List.length_filter_le f (List.range i)
  rw [List.length_range] at h
  exact h
theorem picked_all (i : Nat) (v : Nat → V) : picked i (fun _ => true) v = (List.range i).map v := by
  unfold picked
  congr 1
  exact List.filter_eq_self.mpr fun _ _ => rfl
def Grown (H : Hp) (f : Nat → Bool) (v : Nat → V) (D : Addr) (i : Nat) (H' : Hp) : Prop := H D = none ∧ Same H H' ∧ H' D = some (.lst (picked i f v))
section
variable {K : PySem.W.Frag} {σ : L2.St} {H H' : Hp} {te tl : TE} {t : TT} {f : Nat → Bool} {v : Nat → V} {D : Addr} {i j : Nat} {vs : List Nat}
theorem grown_turn {σ2 : L2.St} (p : Grown H f v D i H') (hi : i < 1000) (ht : HvT t σ2 H (f i)) (he : f i = true → Hv te σ2 H (Is (v i))) :
    t σ2 H' fun b H3 => if b = true then te σ2 H3 fun y H4 => ∃ acc, H4 D = some (.lst acc) ∧ acc.length < sizeLine ∧ Grown H f v D (i + 1) (upd H4 D (.lst (acc ++ [y]))) else Grown H f v D (i + 1) H3 := by
  obtain ⟨p1, p2, p3⟩ := p
  refine ht H' p2 _ fun H3 e3 => ?_
  cases hf : f i with
  | false =>
    rw [if_neg Bool.false_ne_true]
    refine ⟨p1, p2.trans e3, ?_⟩
    rw [picked_no hf]
    exact e3 D _ p3
  | true =>
    rw [if_pos rfl]
    refine he hf H3 (p2.trans e3) _ fun y H4 e4 py => ⟨picked i f v, e4 D _ (e3 D _ p3), small1000 (Nat.le_trans (picked_len i f v) (by omega)), p1, ?_, ?_⟩
    · intro b o hb
      rw [upd_ne (ne_of_none hb p1)]
      exact e4 b o (e3 b o (p2 b o hb))
    · obtain rfl : y = v i := py
      rw [picked_yes hf]
      exact upd_same
theorem hv_lcT {xs : List V} (h : Hv tl σ H (Tup K xs)) (hw : ∀ x, wipe ((wipe σ vs).set j (some x)) vs = wipe σ vs) (hz : xs.length ≤ 1000)
    (he : ∀ (i : Nat) (x : V), xs[i]? = some x → Hv te ((wipe σ vs).set j (some x)) H (Is (v i))) : Hv (tLc (iTup K tl) (gName j) tYes te vs) σ H (LstT ((List.range xs.length).map v)) := fun H0 e Q q =>
  h H0 e _ fun x H1 e1 p => by
    obtain ⟨a, rfl, sq⟩ := p
    refine ⟨a, rfl, ⟨xs, sq⟩, fun D hD => ?_⟩
    refine lc_tup (xs := xs) (Grown H1 (fun _ => true) v D) ⟨hD, same_new hD, upd_same⟩ (fun i H' _ p => sqT_mo p.2.1 sq) (fun i x H' hi p => ⟨hw x, ?_⟩) fun H' p => ?_
    · have hl : i < xs.length := (List.getElem?_eq_some_iff.mp hi).1
      exact grown_turn (t := tYes) p (by omega) (fun H1 _ _ q => q H1 (Same.refl H1)) fun _ => (he i x hi).mono (e.trans e1)
    · refine q _ H' (e1.trans p.2.1) ⟨D, rfl, ?_⟩
      rw [p.2.2, picked_all]
theorem hv_lcR {ta : TA} {n : Nat} (h : HvA ta σ H (One (Is (.int (n : Int))))) (hw : ∀ x, wipe ((wipe σ vs).set j (some x)) vs = wipe σ vs) (hz : n ≤ 1000)
    (ht : ∀ i : Nat, i < n → HvT t ((wipe σ vs).set j (some (.int (i : Int)))) H (f i)) (he : ∀ i : Nat, i < n → f i = true → Hv te ((wipe σ vs).set j (some (.int (i : Int)))) H (Is (v i))) :
    Hv (tLc (iRng1 ta) (gName j) t te vs) σ H (LstT (picked n f v)) := fun H0 e Q q =>
  h H0 e _ fun xs H1 e1 p => by
    obtain ⟨x, rfl, px⟩ := p
    obtain rfl : x = .int (n : Int) := px
    refine ⟨(n : Int), rfl, by omega, by omega, fun D hD => ?_⟩
    have en : (n : Int).toNat = n := Int.toNat_natCast n
    rw [en]
    refine lc_range (lo := 0) (n := n) (Grown H1 f v D) ⟨hD, same_new hD, upd_same⟩ (fun i H' hi p => ?_) fun H' p => q _ H' (e1.trans p.2.1) ⟨D, rfl, p.2.2⟩
    have z : (0 : Int) + (i : Int) = (i : Int) := Int.zero_add _
    rw [z]
    exact ⟨hw _, grown_turn p (by omega) ((ht i hi).mono (e.trans e1)) fun hf => (he i hi hf).mono (e.trans e1)⟩
theorem ht_yes : HvT tYes σ H true := fun H1 _ _ q => q H1 (Same.refl H1)
end
end Kx

/-! The program's values, ratios, shares: each def and its promise. -/
namespace Kx
open PySem PySem.Spec PyProof.Rows L2
/-- the names that stay the built-in ones, and gcd -/
structure Top (K : PySem.W.Frag) (mg : PySem.Str → Option Value) : Prop where
  isi : mg "isinstance" = none
  int : mg "int" = none
  bool : mg "bool" = none
  tup : mg "tuple" = none
  len : mg "len" = none
  all : mg "all" = none
  enum : mg "enumerate" = none
  range : mg "range" = none
  sum : mg "sum" = none
  abs : mg "abs" = none
  divmod : mg "divmod" = none
  repr : mg "repr" = none
  gcd : mg "gcd" = some (.builtin "math.gcd")
theorem tyx_tup {K : PySem.W.Frag} {H : Hp} {a : Addr} {xs : List V} (h : SqT K H a xs) : TyX K H (.ref a) (.type "tuple") := by
  rcases h with (h | ⟨o, h⟩) | ⟨o, its, n, h, c, _⟩
  · exact .base (.tup h)
  · exact .fTuple h
  · exact .kTuple h c
section
variable {K : PySem.W.Frag} {σ : L2.St} {H : Hp} {ta tb te : TE}
theorem hv_isiI {i : Int} {n : String} {b : Bool} (h : Hv ta σ H (Is (.int i))) (hb : kitB "int" n = some b) : Hv (tCB (rIsi K) (tCons ta (tCons (tC (.ty n)) tNil))) σ H (Is (.bl b)) :=
  hv_cb0 (ha_two h mo_is hv_c) fun vs H1 e p Q q => by
    obtain ⟨x, y, rfl, px, py⟩ := p
    subst px py
    exact ⟨.int i, .ty n, .type "int", .type n, b, rfl, .ty n, .base (.int i), kit_ty hb, q⟩
theorem hv_isiT {xs : List V} {n : String} {b : Bool} (h : Hv ta σ H (Tup K xs)) (hb : kitB "tuple" n = some b) : Hv (tCB (rIsi K) (tCons ta (tCons (tC (.ty n)) tNil))) σ H (Is (.bl b)) :=
  hv_cb0 (ha_two h mo_tup hv_c) fun vs H1 e p Q q => by
    obtain ⟨x, y, rfl, ⟨a, rfl, s⟩, py⟩ := p
    subst py
    exact ⟨.ref a, .ty n, .type "tuple", .type n, b, rfl, .ty n, tyx_tup s, kit_ty hb, q⟩
abbrev rLen (K : PySem.W.Frag) : List V → Hp → VK → Prop := fun xs H Q => ∃ p ys, xs = [.ref p] ∧ (SqL K H p ys ∨ SqT K H p ys) ∧ Q (.int ys.length) H
theorem hv_lenT {xs : List V} (h : Hv ta σ H (Tup K xs)) : Hv (tCB (rLen K) (tCons ta tNil)) σ H (Is (.int xs.length)) :=
  hv_cb0 (ha_one h) fun vs H1 e p Q q => by
    obtain ⟨x, rfl, a, rfl, s⟩ := p
    exact ⟨a, xs, rfl, .inr s, q⟩
theorem hv_lenL {xs : List V} (h : Hv ta σ H (Lst K xs)) : Hv (tCB (rLen K) (tCons ta tNil)) σ H (Is (.int xs.length)) :=
  hv_cb0 (ha_one h) fun vs H1 e p Q q => by
    obtain ⟨x, rfl, a, rfl, s⟩ := p
    exact ⟨a, xs, rfl, .inl s, q⟩
theorem hv_all {bs : List Bool} (h : Hv ta σ H (LstT (bs.map V.bl))) : Hv (tCB (rAll K) (tCons ta tNil)) σ H (Is (.bl (bs.all id))) :=
  hv_cb0 (ha_one h) fun vs H1 e p Q q => by
    obtain ⟨x, rfl, a, rfl, s⟩ := p
    exact ⟨a, bs, rfl, .inl (.inl s), q⟩
abbrev rTupOf (K : PySem.W.Frag) : List V → Hp → VK → Prop := fun xs H Q => ∃ p ys, xs = [.ref p] ∧ ((SqL K H p ys ∧ ∀ l, H l = none → Q (.ref l) (upd H l (.tup ys))) ∨ (SqT K H p ys ∧ Q (.ref p) H))
theorem hv_tupL {xs : List V} (h : Hv ta σ H (LstT xs)) : Hv (tCB (rTupOf K) (tCons ta tNil)) σ H (Tup K xs) :=
  hv_cb (ha_one h) fun vs H1 e p Q q => by
    obtain ⟨x, rfl, a, rfl, s⟩ := p
    exact ⟨a, xs, rfl, .inl ⟨.inl (.inl s), fun l hl => q _ _ (same_new hl) ⟨l, rfl, .inl (.inl upd_same)⟩⟩⟩
theorem hv_tupT {xs : List V} (h : Hv ta σ H (Tup K xs)) : Hv (tCB (rTupOf K) (tCons ta tNil)) σ H (Tup K xs) :=
  hv_cb (ha_one h) fun vs H1 e p Q q => by
    obtain ⟨x, rfl, a, rfl, s⟩ := p
    exact ⟨a, xs, rfl, .inr ⟨s, q _ _ (Same.refl H1) ⟨a, rfl, s⟩⟩⟩
end

section
variable {P : Program} {w : World} {K : PySem.W.Frag} {mg : PySem.Str → Option Value} {base : Heap}
/-! ### is_whole -/
abbrev spWhole : Sp := spP (fun i : Int => One (Is (.int i))) (fun _ => Is (.bl true))
theorem sc8 : FnScope ["value"] ["value"] (defScope (topS 8)) := ⟨rfl, rfl, rfl, by decide +kernel, rfl, by decide +kernel, by decide +kernel⟩
theorem bd8 : Bnd "is_whole" (topS 8) ["value"] := ⟨fun _ _ _ _ _ _ us hl => match us, hl with | [_], _ => rfl, fun _ _ _ _ _ _ us hl => match us, hl with | [_], _ => rfl⟩
theorem c_whole (T : Top K mg) (D : DefAt K mg "is_whole" (topS 8)) : Cal P w K mg base CX0 1 "is_whole" ["value"] spWhole := by
  refine cal_of D sc8 bd8 ?_ ?_
  · rintro vs H Q E ⟨i, ⟨x, rfl, _⟩, _⟩
    rfl
  · intro cdv f A outer s H vs Q E hr h
    obtain ⟨i, ⟨x, rfl, px⟩, k⟩ := h
    subst px
    refine ⟨_, pss_one (ps_ret (pe_and (pe_callB call_isi (by rfl) T.isi (by decide +kernel) (pa_cons (pv 0) (pa_cons (pe_bltn (v := .ty "int") (by rfl) T.int (by decide +kernel) rfl) pa_nil)))
      (pe_one (pe_not (pe_callB call_isi (by rfl) T.isi (by decide +kernel) (pa_cons (pv 0) (pa_cons (pe_bltn (v := .ty "bool") (by rfl) T.bool (by decide +kernel) rfl) pa_nil))))))), ?_⟩
    refine s_ret (hv_andV (hv_isiI (hv_var rfl) (b := true) (by decide +kernel)) fun _ => hv_notV (hv_isiI (hv_var rfl) (b := false) (by decide +kernel))) ?_
    intro v H1 e p
    exact k v H1 e p
/-! ### are_wholes -/
abbrev spWholes (K : PySem.W.Frag) : Sp := spP (fun ns : List Int => fun vs H => ns.length ≤ 1000 ∧ Two (Tup K (ns.map V.int)) (Is (.int ns.length)) vs H) (fun _ => Is (.bl true))
theorem sc9 : FnScope ["value", "many", "each"] ["value", "many"] (defScope (topS 9)) := ⟨rfl, rfl, rfl, by decide +kernel, rfl, by decide +kernel, by decide +kernel⟩
theorem bd9 : Bnd "are_wholes" (topS 9) ["value", "many"] := ⟨fun _ _ _ _ _ _ us hl => match us, hl with | [_, _], _ => rfl, fun _ _ _ _ _ _ us hl => match us, hl with | [_, _], _ => rfl⟩
theorem c_wholes (T : Top K mg) (D : DefAt K mg "are_wholes" (topS 9)) (cW : Cal P w K mg base CX0 1 "is_whole" ["value"] spWhole) : Cal P w K mg base CX0 2 "are_wholes" ["value", "many"] (spWholes K) := by
  refine cal_of D sc9 bd9 ?_ ?_
  · rintro vs H Q E ⟨ns, ⟨_, x, y, rfl, _⟩, _⟩
    rfl
  · intro cdv f A outer s H vs Q E hr h
    obtain ⟨ns, ⟨hz, x, y, rfl, px, py⟩, k⟩ := h
    subst py
    refine ⟨_, pss_one (ps_ret (pe_and (pe_callB call_isi (by rfl) T.isi (by decide +kernel) (pa_cons (pv 0) (pa_cons (pe_bltn (v := .ty "tuple") (by rfl) T.tup (by decide +kernel) rfl) pa_nil)))
      (pe_and (pe_cmpR op_eq (pe_callB call_len_seq (by rfl) T.len PySem.boot_len (pa_cons (pv 0) pa_nil)) (pv 1) (nomark _))
      (pe_one (pe_callB (cr_all rfl) (by rfl) T.all (by decide +kernel) (pa_cons (pe_lc (own := [("each", 2)]) (g := gName 2) (tt := tYes) rfl sc9.nd (pi_tup (pv 0)) (blkOk_by (N := ["value", "many", "each"]) (sc := defScope (topS 9)) (by decide +kernel))
        (fun _ _ _ _ _ => pg_name (i := 2) sc9.nd rfl (Or.inl rfl)) (fun _ _ _ _ _ => pts_nil) (fun _ _ _ _ _ => pe_cal cW hr (by rfl) (pa_cons (pv 2) pa_nil))) pa_nil)))))), ?_⟩
    have hx : Hv (tVar 0) (start ["value", "many", "each"] [x, .int ns.length]) H (Tup K (ns.map V.int)) := hv_varP rfl mo_tup px
    have el : Hv (tLc (iTup K (tVar 0)) (gName 2) tYes (tCall spWhole [] E0 (tCons (tVar 2) tNil)) [2]) (start ["value", "many", "each"] [x, .int ns.length]) H (LstT ((List.replicate ns.length true).map V.bl)) := by
      refine (hv_lcT hx (fun _ => rfl) (by rw [List.length_map]; exact hz) (v := fun _ => .bl true) ?_).to ?_
      · intro i z hi
        rw [List.getElem?_map] at hi
        cases e : ns[i]? with
        | none =>
          rw [e] at hi
          cases hi
        | some n =>
          rw [e] at hi
          obtain rfl := Option.some.inj hi
          exact hv_call n (ha_one (hv_var rfl))
      · intro v H1 _ p
        have e : (List.range (ns.map V.int).length).map (fun _ => V.bl true) = (List.replicate ns.length true).map V.bl := by
          rw [List.map_replicate, List.length_map, List.map_const', List.length_range]
        rw [e] at p
        exact p
    refine s_ret (hv_andV (hv_isiT hx (b := true) (by decide +kernel)) fun _ => hv_andV (hv_eq (hv_lenT hx) (hv_var rfl) rfl) fun _ => hv_all el) ?_
    intro v H1 e p
    refine k v H1 e ?_
    have e1 : ((ns.map V.int).length : Int) = (ns.length : Int) := by rw [List.length_map]
    have e2 : (List.replicate ns.length true).all id = true := by simp
    rw [e1, e2, decide_eq_true rfl] at p
    exact p
/-! ### divisor_of -/
abbrev spDiv (K : PySem.W.Frag) : Sp := spP (fun p : Int × Int => One (Tup K [.int p.1, .int p.2])) (fun p => Is (.int (K74.gd p.1 p.2)))
theorem sc10 : FnScope ["numbers", "found", "number"] ["numbers"] (defScope (topS 10)) := ⟨rfl, rfl, rfl, by decide +kernel, rfl, by decide +kernel, by decide +kernel⟩
theorem bd10 : Bnd "divisor_of" (topS 10) ["numbers"] := ⟨fun _ _ _ _ _ _ us hl => match us, hl with | [_], _ => rfl, fun _ _ _ _ _ _ us hl => match us, hl with | [_], _ => rfl⟩
def gAt (p : Int × Int) : Nat → Int
  | 0 => 0
  | 1 => ((p.1.natAbs : Nat) : Int)
  | _ => K74.gd p.1 p.2
theorem c_div (T : Top K mg) (D : DefAt K mg "divisor_of" (topS 10)) : Cal P w K mg base CX0 1 "divisor_of" ["numbers"] (spDiv K) := by
  refine cal_of D sc10 bd10 ?_ ?_
  · rintro vs H Q E ⟨p, ⟨x, rfl, _⟩, _⟩
    rfl
  · intro cdv f A outer s H vs Q E hr h
    obtain ⟨p, ⟨x, rfl, a, rfl, px⟩, k⟩ := h
    refine ⟨_, pss_cons (L2.ps_set (i := 1) sc10.nd rfl (Or.inl rfl) pe_int) (pss_cons (ps_for PassesOwn.never rfl (pi_tup (pv 0)) (pg_name (i := 2) sc10.nd rfl (Or.inl rfl))
      (pss_one (L2.ps_set (i := 1) sc10.nd rfl (Or.inl rfl) (pe_callBfun cr_gcd (by rfl) T.gcd (pa_cons (pv 1) (pa_cons (pv 2) pa_nil)))))) (pss_one (ps_ret (pv 1)))), ?_⟩
    refine ⟨.ref a, rfl, a, rfl, ⟨_, px⟩, ?_⟩
    refine for_tup (K := K) (a := a) (xs := [.int p.1, .int p.2]) (fun i σ H' => H' = H ∧ ∃ y, σ = [some (.ref a), some (.int (gAt p i)), y]) ⟨rfl, none, rfl⟩ ?_ ?_ ?_
    · rintro i σ H' _ ⟨rfl, _⟩
      exact px
    · rintro i y σ H' hi ⟨rfl, z, rfl⟩
      match i, hi with
      | 0, hi =>
        obtain rfl : V.int p.1 = y := Option.some.inj hi
        refine ⟨_, rfl, _, rfl, 0, p.1, rfl, rfl, some (.int p.1), ?_⟩
        show [some (V.ref a), some (V.int ((Nat.gcd (0 : Int).natAbs p.1.natAbs : Nat) : Int)), some (V.int p.1)] = _
        have e : Nat.gcd (0 : Int).natAbs p.1.natAbs = p.1.natAbs := Nat.gcd_zero_left _
        rw [e]
        rfl
      | 1, hi =>
        obtain rfl : V.int p.2 = y := Option.some.inj hi
        refine ⟨_, rfl, _, rfl, ((p.1.natAbs : Nat) : Int), p.2, rfl, rfl, some (.int p.2), ?_⟩
        show [some (V.ref a), some (V.int ((Nat.gcd ((p.1.natAbs : Nat) : Int).natAbs p.2.natAbs : Nat) : Int)), some (V.int p.2)] = _
        rw [Int.natAbs_natCast]
        rfl
      | i + 2, hi => cases hi
    · rintro σ H' ⟨rfl, z, rfl⟩
      exact ⟨_, rfl, k _ _ (Same.refl _) rfl⟩
end
end Kx

/-! lowest, is_ratio, ratio, the four operations, is_below, is_inner, is_amount, the checks. -/
namespace Kx
open PySem PySem.Spec PyProof.Rows L2
section
variable {P : Program} {w : World} {K : PySem.W.Frag} {mg : PySem.Str → Option Value} {base : Heap}
theorem ite_b {α : Prop} {b : Bool} (h : b = true) (x : α) : α := x
/-! ### lowest -/
def okM (m : Int) : Prop := 0 < m ∧ m.natAbs < 2 ^ 8000
theorem okM_g {n m : Int} (h : okM m) : CDivW n (K74.gd n m) := by
  have g := K74.gd_pos (n := n) h.1
  have l := K74.gd_le (n := n) h.1
  have h2 := h.2
  refine wide_div (b := 8000) g ?_ (by decide) (by decide)
  generalize (2 : Nat) ^ 8000 = u at *
  omega
theorem okM_g2 {n m : Int} (h : okM m) : CDivW m (K74.gd n m) := okM_g (n := n) h
abbrev spLow (K : PySem.W.Frag) : Sp := spP (fun p : Int × Int => fun vs H => okM p.2 ∧ One (Tup K [.int p.1, .int p.2]) vs H) (fun p => Fr K (K74.fr p.1 p.2))
theorem sc11 : FnScope ["numbers", "part", "number"] ["numbers"] (defScope (topS 11)) := ⟨rfl, rfl, rfl, by decide +kernel, rfl, by decide +kernel, by decide +kernel⟩
theorem bd11 : Bnd "lowest" (topS 11) ["numbers"] := ⟨fun _ _ _ _ _ _ us hl => match us, hl with | [_], _ => rfl, fun _ _ _ _ _ _ us hl => match us, hl with | [_], _ => rfl⟩
theorem c_low (T : Top K mg) (D : DefAt K mg "lowest" (topS 11)) (cD : Cal P w K mg base CX0 1 "divisor_of" ["numbers"] (spDiv K)) : Cal P w K mg base CX0 2 "lowest" ["numbers"] (spLow K) := by
  refine cal_of D sc11 bd11 ?_ ?_
  · rintro vs H Q E ⟨p, ⟨_, x, rfl, _⟩, _⟩
    rfl
  · intro cdv f A outer s H vs Q E hr h
    obtain ⟨⟨n, m⟩, ⟨ok, x, rfl, px⟩, k⟩ := h
    refine ⟨_, pss_cons (L2.ps_set (i := 1) sc11.nd rfl (Or.inr rfl) (pe_cal cD hr (by rfl) (pa_cons (pv 0) pa_nil)))
      (pss_one (ps_ret (pe_ifExp (pt_cmpR op_eq (pv 1) pe_int (nomark _)) (pe_callTy call_tuple_of (by rfl) T.tup (by decide +kernel) (pa_cons (pv 0) pa_nil))
        (pe_callTy call_tuple_of (by rfl) T.tup (by decide +kernel) (pa_cons (pe_lc (own := [("number", 2)]) (g := gName 2) (tt := tYes) rfl sc11.nd (pi_tup (pv 0)) (blkOk_by (N := ["numbers", "part", "number"]) (sc := defScope (topS 11)) (by decide +kernel))
          (fun _ _ _ _ _ => pg_name (i := 2) sc11.nd rfl (Or.inl rfl)) (fun _ _ _ _ _ => pts_nil) (fun _ _ _ _ _ => pe_op op_fdivW (pv 2) (pv 1))) pa_nil))))), ?_⟩
    have hx : Hv (tVar 0) (start ["numbers", "part", "number"] [x]) H (Tup K [.int n, .int m]) := hv_varP rfl mo_tup px
    refine Kx.s_set (hv_call (n, m) (ha_one hx)) ?_
    intro g H1 e1 pg
    obtain rfl : g = .int (K74.gd n m) := pg
    have gp : 0 < K74.gd n m := K74.gd_pos (n := n) ok.1
    refine s_ret (P := Fr K (K74.fr n m)) (hv_if (b := false) (ht_test ((hv_eq (hv_var rfl) hv_c rfl).to ?_)) (fun z => by cases z) fun _ => ?_) fun v H2 e2 p => k v H2 (e1.trans e2) p
    · intro v H' _ pv
      rw [show decide (V.int (K74.gd n m) = V.int 0) = false from decide_eq_false fun z => by injection z; omega] at pv
      exact pv
    · have hx1 : Hv (tVar 0) [some x, some (.int (K74.gd n m)), none] H1 (Tup K [.int n, .int m]) := hv_varP rfl mo_tup (mo_tup _ _ _ e1 px)
      have l := hv_lcT (te := tOp (rI CDivW fun i j => .int (i / j)) (tVar 2) (tVar 1)) (j := 2) (vs := [2]) hx1 (fun _ => rfl) (by show 2 ≤ 1000; decide) (v := fun i => .int ((if i = 0 then n else m) / K74.gd n m)) ?_
      · exact hv_tupL (xs := [.int (K74.fr n m).1, .int (K74.fr n m).2]) l
      · intro i z hi
        match i, hi with
        | 0, hi =>
          obtain rfl : V.int n = z := Option.some.inj hi
          exact hv_I (hv_var rfl) (hv_var rfl) (okM_g ok)
        | 1, hi =>
          obtain rfl : V.int m = z := Option.some.inj hi
          exact hv_I (hv_var rfl) (hv_var rfl) (okM_g2 ok)
        | i + 2, hi => cases hi
/-! ### is_ratio -/
def okF (p : K74.Q2) : Prop := 0 < p.2 ∧ Nat.gcd p.1.natAbs p.2.natAbs = 1
abbrev spIsR (K : PySem.W.Frag) : Sp := spP (fun p : K74.Q2 => fun vs H => okF p ∧ One (Fr K p) vs H) (fun _ => Is (.bl true))
theorem sc15 : FnScope ["value"] ["value"] (defScope (topS 15)) := ⟨rfl, rfl, rfl, by decide +kernel, rfl, by decide +kernel, by decide +kernel⟩
theorem bd15 : Bnd "is_ratio" (topS 15) ["value"] := ⟨fun _ _ _ _ _ _ us hl => match us, hl with | [_], _ => rfl, fun _ _ _ _ _ _ us hl => match us, hl with | [_], _ => rfl⟩
theorem c_isr (T : Top K mg) (D : DefAt K mg "is_ratio" (topS 15)) (cW : Cal P w K mg base CX0 2 "are_wholes" ["value", "many"] (spWholes K)) (cD : Cal P w K mg base CX0 1 "divisor_of" ["numbers"] (spDiv K)) :
    Cal P w K mg base CX0 3 "is_ratio" ["value"] (spIsR K) := by
  refine cal_of D sc15 bd15 ?_ ?_
  · rintro vs H Q E ⟨p, ⟨_, x, rfl, _⟩, _⟩
    rfl
  · intro cdv f A outer s H vs Q E hr h
    obtain ⟨p, ⟨ok, x, rfl, px⟩, k⟩ := h
    refine ⟨_, pss_one (ps_ret (pe_and (pe_cal cW hr (by rfl) (pa_cons (pv 0) (pa_cons pe_int pa_nil)))
      (pe_and (pe_cmpR op_gt (pe_ix ix_tup (pv 0) pe_int (fun _ _ => rfl)) pe_int (nomark _))
      (pe_one (pe_cmpR op_eq (pe_cal (cD.mono (by decide)) hr (by rfl) (pa_cons (pv 0) pa_nil)) pe_int (nomark _)))))), ?_⟩
    have hx : Hv (tVar 0) (start ["value"] [x]) H (Fr K p) := hv_varP rfl mo_fr px
    refine s_ret (hv_andV (hv_call [p.1, p.2] ?_) fun _ => hv_andV (hv_I0 (hv_p1 hx) hv_c) fun _ => hv_eq (hv_call p (ha_one hx)) hv_c rfl) ?_
    · intro H1 e Q q
      exact ha_two hx mo_fr hv_c H1 e Q fun vs H2 e2 z => q vs H2 e2 ⟨by show 2 ≤ 1000; decide, z⟩
    · intro v H1 e pv
      refine k v H1 e ?_
      have e1 : decide ((0 : Int) < p.2) = true := decide_eq_true ok.1
      have e2 : decide (V.int (K74.gd p.1 p.2) = V.int 1) = true := decide_eq_true (by
        unfold K74.gd
        rw [ok.2]
        rfl)
      rw [e1, e2] at pv
      exact pv
/-! ### ratio -/
abbrev spRat (K : PySem.W.Frag) : Sp := spP (fun p : Int × Int => fun vs H => okM p.2 ∧ Two (Is (.int p.1)) (Is (.int p.2)) vs H) (fun p => Fr K (K74.fr p.1 p.2))
theorem sc16 : FnScope ["top", "low"] ["top", "low"] (defScope (topS 16)) := ⟨rfl, rfl, rfl, by decide +kernel, rfl, by decide +kernel, by decide +kernel⟩
theorem bd16 : Bnd "ratio" (topS 16) ["top", "low"] := ⟨fun _ _ _ _ _ _ us hl => match us, hl with | [_, _], _ => rfl, fun _ _ _ _ _ _ us hl => match us, hl with | [_, _], _ => rfl⟩
theorem c_rat (D : DefAt K mg "ratio" (topS 16)) (cL : Cal P w K mg base CX0 2 "lowest" ["numbers"] (spLow K)) : Cal P w K mg base CX0 3 "ratio" ["top", "low"] (spRat K) := by
  refine cal_of D sc16 bd16 ?_ ?_
  · rintro vs H Q E ⟨p, ⟨_, x, y, rfl, _⟩, _⟩
    rfl
  · intro cdv f A outer s H vs Q E hr h
    obtain ⟨⟨n, m⟩, ⟨ok, x, y, rfl, px, py⟩, k⟩ := h
    subst px py
    refine ⟨_, pss_one (ps_ret (pe_ifExp (pt_cmpR op_gt (pv 1) pe_int (nomark _)) (pe_cal cL hr (by rfl) (pa_cons (pe_tup (pa_cons (pv 0) (pa_cons (pv 1) pa_nil))) pa_nil))
      (pe_cal cL hr (by rfl) (pa_cons (pe_tup (pa_cons (pe_un un_neg (pv 0)) (pa_cons (pe_un un_neg (pv 1)) pa_nil))) pa_nil)))), ?_⟩
    refine s_ret (P := Fr K (K74.fr n m)) (hv_if (b := true) (ht_test ((hv_I0 (hv_var rfl) hv_c).to ?_)) (fun _ => hv_call (n, m) ?_) (fun z => by cases z)) fun v H1 e p => k v H1 e p
    · intro v H' _ pv
      have e1 : decide ((0 : Int) < m) = true := decide_eq_true ok.1
      rw [e1] at pv
      exact pv
    · intro H1 e Q q
      exact ha_one (hv_pair (hv_var rfl) (hv_var rfl)) H1 e Q fun vs H2 e2 z => q vs H2 e2 ⟨ok, z⟩
/-! ### the four operations, by one promise -/
abbrev spBin (K : PySem.W.Frag) (C : K74.Q2 → K74.Q2 → Prop) (g : K74.Q2 → K74.Q2 → K74.Q2) : Sp := spP (fun pq : K74.Q2 × K74.Q2 => fun vs H => C pq.1 pq.2 ∧ Two (Fr K pq.1) (Fr K pq.2) vs H) (fun pq => Fr K (g pq.1 pq.2))
/-- both lower numbers above 0, all numbers of a bounded size -/
structure C2 (p q : K74.Q2) : Prop where
  p2 : 0 < p.2
  q2 : 0 < q.2
  s1 : p.1.natAbs < 2 ^ 1000
  s2 : p.2.natAbs < 2 ^ 1000
  s3 : q.1.natAbs < 2 ^ 1000
  s4 : q.2.natAbs < 2 ^ 1000
/-- .. and the second fraction above 0 -/
structure C3 (p q : K74.Q2) : Prop extends C2 p q where
  q1 : 0 < q.1
theorem mulx {i j : Int} (a : i.natAbs < 2 ^ 1000) (b : j.natAbs < 2 ^ 1000) : CMulX i j := mulx_ok a b (by decide)
theorem okM_mul {i j : Int} (i0 : 0 < i) (j0 : 0 < j) (a : i.natAbs < 2 ^ 1000) (b : j.natAbs < 2 ^ 1000) : okM (i * j) := by
  refine ⟨Int.mul_pos i0 j0, ?_⟩
  have h := wide_lt a b
  have l : (2 : Nat) ^ (1000 + 1000) ≤ 2 ^ 8000 := Nat.pow_le_pow_right (by decide) (by decide)
  exact Nat.lt_of_lt_of_le h l
section
variable {σ : L2.St} {H : Hp} {ta tb : TE} {p q : K74.Q2}
theorem hv_mul {i j : Int} (ha : Hv ta σ H (Is (.int i))) (hb : Hv tb σ H (Is (.int j))) (a : i.natAbs < 2 ^ 1000) (b : j.natAbs < 2 ^ 1000) :
    Hv (tOp (rI CMulX fun i j => .int (i * j)) ta tb) σ H (Is (.int (i * j))) := hv_I (g := fun i j => .int (i * j)) ha hb (mulx a b)
theorem hv_add {i j : Int} (ha : Hv ta σ H (Is (.int i))) (hb : Hv tb σ H (Is (.int j))) : Hv (tOp (rI0 fun i j => .int (i + j)) ta tb) σ H (Is (.int (i + j))) := hv_I0 (g := fun i j => .int (i + j)) ha hb
theorem hv_sub {i j : Int} (ha : Hv ta σ H (Is (.int i))) (hb : Hv tb σ H (Is (.int j))) : Hv (tOp (rI0 fun i j => .int (i - j)) ta tb) σ H (Is (.int (i - j))) := hv_I0 (g := fun i j => .int (i - j)) ha hb
theorem hv_rat {n m : Int} (ha : Hv ta σ H (Is (.int n))) (hb : Hv tb σ H (Is (.int m))) (ok : okM m) : Hv (tCall (spRat K) [] E0 (tCons ta (tCons tb tNil))) σ H (Fr K (K74.fr n m)) :=
  hv_call (n, m) fun H1 e Q q => ha_two ha mo_is hb H1 e Q fun vs H2 e2 z => q vs H2 e2 ⟨ok, z⟩
theorem hv_bin {C : K74.Q2 → K74.Q2 → Prop} {g : K74.Q2 → K74.Q2 → K74.Q2} (ha : Hv ta σ H (Fr K p)) (hb : Hv tb σ H (Fr K q)) (c : C p q) : Hv (tCall (spBin K C g) [] E0 (tCons ta (tCons tb tNil))) σ H (Fr K (g p q)) :=
  hv_call (p, q) fun H1 e Q q => ha_two ha mo_fr hb H1 e Q fun vs H2 e2 z => q vs H2 e2 ⟨c, z⟩
end
theorem sc17 : FnScope ["one", "two"] ["one", "two"] (defScope (topS 17)) := ⟨rfl, rfl, rfl, by decide +kernel, rfl, by decide +kernel, by decide +kernel⟩
theorem sc18 : FnScope ["one", "two"] ["one", "two"] (defScope (topS 18)) := ⟨rfl, rfl, rfl, by decide +kernel, rfl, by decide +kernel, by decide +kernel⟩
theorem sc19 : FnScope ["one", "two"] ["one", "two"] (defScope (topS 19)) := ⟨rfl, rfl, rfl, by decide +kernel, rfl, by decide +kernel, by decide +kernel⟩
theorem sc20 : FnScope ["one", "two"] ["one", "two"] (defScope (topS 20)) := ⟨rfl, rfl, rfl, by decide +kernel, rfl, by decide +kernel, by decide +kernel⟩
theorem bd17 : Bnd "plus" (topS 17) ["one", "two"] := ⟨fun _ _ _ _ _ _ us hl => match us, hl with | [_, _], _ => rfl, fun _ _ _ _ _ _ us hl => match us, hl with | [_, _], _ => rfl⟩
theorem bd18 : Bnd "minus" (topS 18) ["one", "two"] := ⟨fun _ _ _ _ _ _ us hl => match us, hl with | [_, _], _ => rfl, fun _ _ _ _ _ _ us hl => match us, hl with | [_, _], _ => rfl⟩
theorem bd19 : Bnd "times" (topS 19) ["one", "two"] := ⟨fun _ _ _ _ _ _ us hl => match us, hl with | [_, _], _ => rfl, fun _ _ _ _ _ _ us hl => match us, hl with | [_, _], _ => rfl⟩
theorem bd20 : Bnd "over" (topS 20) ["one", "two"] := ⟨fun _ _ _ _ _ _ us hl => match us, hl with | [_, _], _ => rfl, fun _ _ _ _ _ _ us hl => match us, hl with | [_, _], _ => rfl⟩
theorem c_plus (D : DefAt K mg "plus" (topS 17)) (cR : Cal P w K mg base CX0 3 "ratio" ["top", "low"] (spRat K)) : Cal P w K mg base CX0 4 "plus" ["one", "two"] (spBin K C2 K74.addF) := by
  refine cal_of D sc17 bd17 ?_ ?_
  · rintro vs H Q E ⟨p, ⟨_, x, y, rfl, _⟩, _⟩
    rfl
  · intro cdv f A outer s H vs Q E hr h
    obtain ⟨⟨p, q⟩, ⟨c, x, y, rfl, px, py⟩, k⟩ := h
    refine ⟨_, pss_one (ps_ret (pe_cal cR hr (by rfl) (pa_cons (pe_op op_add (pe_op op_mulX (pe_ix ix_tup (pv 0) pe_int (fun _ _ => rfl)) (pe_ix ix_tup (pv 1) pe_int (fun _ _ => rfl)))
      (pe_op op_mulX (pe_ix ix_tup (pv 1) pe_int (fun _ _ => rfl)) (pe_ix ix_tup (pv 0) pe_int (fun _ _ => rfl)))) (pa_cons (pe_op op_mulX (pe_ix ix_tup (pv 0) pe_int (fun _ _ => rfl)) (pe_ix ix_tup (pv 1) pe_int (fun _ _ => rfl))) pa_nil)))), ?_⟩
    have h0 : Hv (tVar 0) (start ["one", "two"] [x, y]) H (Fr K p) := hv_varP rfl mo_fr px
    have h1 : Hv (tVar 1) (start ["one", "two"] [x, y]) H (Fr K q) := hv_varP rfl mo_fr py
    exact s_ret (hv_rat (hv_add (hv_mul (hv_p0 h0) (hv_p1 h1) c.s1 c.s4) (hv_mul (hv_p0 h1) (hv_p1 h0) c.s3 c.s2)) (hv_mul (hv_p1 h0) (hv_p1 h1) c.s2 c.s4) (okM_mul c.p2 c.q2 c.s2 c.s4)) fun v H1 e p => k v H1 e p
theorem c_minus (D : DefAt K mg "minus" (topS 18)) (cR : Cal P w K mg base CX0 3 "ratio" ["top", "low"] (spRat K)) : Cal P w K mg base CX0 4 "minus" ["one", "two"] (spBin K C2 K74.subF) := by
  refine cal_of D sc18 bd18 ?_ ?_
  · rintro vs H Q E ⟨p, ⟨_, x, y, rfl, _⟩, _⟩
    rfl
  · intro cdv f A outer s H vs Q E hr h
    obtain ⟨⟨p, q⟩, ⟨c, x, y, rfl, px, py⟩, k⟩ := h
    refine ⟨_, pss_one (ps_ret (pe_cal cR hr (by rfl) (pa_cons (pe_op op_sub (pe_op op_mulX (pe_ix ix_tup (pv 0) pe_int (fun _ _ => rfl)) (pe_ix ix_tup (pv 1) pe_int (fun _ _ => rfl)))
      (pe_op op_mulX (pe_ix ix_tup (pv 1) pe_int (fun _ _ => rfl)) (pe_ix ix_tup (pv 0) pe_int (fun _ _ => rfl)))) (pa_cons (pe_op op_mulX (pe_ix ix_tup (pv 0) pe_int (fun _ _ => rfl)) (pe_ix ix_tup (pv 1) pe_int (fun _ _ => rfl))) pa_nil)))), ?_⟩
    have h0 : Hv (tVar 0) (start ["one", "two"] [x, y]) H (Fr K p) := hv_varP rfl mo_fr px
    have h1 : Hv (tVar 1) (start ["one", "two"] [x, y]) H (Fr K q) := hv_varP rfl mo_fr py
    exact s_ret (hv_rat (hv_sub (hv_mul (hv_p0 h0) (hv_p1 h1) c.s1 c.s4) (hv_mul (hv_p0 h1) (hv_p1 h0) c.s3 c.s2)) (hv_mul (hv_p1 h0) (hv_p1 h1) c.s2 c.s4) (okM_mul c.p2 c.q2 c.s2 c.s4)) fun v H1 e p => k v H1 e p
theorem c_times (D : DefAt K mg "times" (topS 19)) (cR : Cal P w K mg base CX0 3 "ratio" ["top", "low"] (spRat K)) : Cal P w K mg base CX0 4 "times" ["one", "two"] (spBin K C2 K74.mulF) := by
  refine cal_of D sc19 bd19 ?_ ?_
  · rintro vs H Q E ⟨p, ⟨_, x, y, rfl, _⟩, _⟩
    rfl
  · intro cdv f A outer s H vs Q E hr h
    obtain ⟨⟨p, q⟩, ⟨c, x, y, rfl, px, py⟩, k⟩ := h
    refine ⟨_, pss_one (ps_ret (pe_cal cR hr (by rfl) (pa_cons (pe_op op_mulX (pe_ix ix_tup (pv 0) pe_int (fun _ _ => rfl)) (pe_ix ix_tup (pv 1) pe_int (fun _ _ => rfl)))
      (pa_cons (pe_op op_mulX (pe_ix ix_tup (pv 0) pe_int (fun _ _ => rfl)) (pe_ix ix_tup (pv 1) pe_int (fun _ _ => rfl))) pa_nil)))), ?_⟩
    have h0 : Hv (tVar 0) (start ["one", "two"] [x, y]) H (Fr K p) := hv_varP rfl mo_fr px
    have h1 : Hv (tVar 1) (start ["one", "two"] [x, y]) H (Fr K q) := hv_varP rfl mo_fr py
    exact s_ret (hv_rat (hv_mul (hv_p0 h0) (hv_p0 h1) c.s1 c.s3) (hv_mul (hv_p1 h0) (hv_p1 h1) c.s2 c.s4) (okM_mul c.p2 c.q2 c.s2 c.s4)) fun v H1 e p => k v H1 e p
theorem c_over (D : DefAt K mg "over" (topS 20)) (cR : Cal P w K mg base CX0 3 "ratio" ["top", "low"] (spRat K)) : Cal P w K mg base CX0 4 "over" ["one", "two"] (spBin K C3 K74.divF) := by
  refine cal_of D sc20 bd20 ?_ ?_
  · rintro vs H Q E ⟨p, ⟨_, x, y, rfl, _⟩, _⟩
    rfl
  · intro cdv f A outer s H vs Q E hr h
    obtain ⟨⟨p, q⟩, ⟨c, x, y, rfl, px, py⟩, k⟩ := h
    refine ⟨_, pss_one (ps_ret (pe_cal cR hr (by rfl) (pa_cons (pe_op op_mulX (pe_ix ix_tup (pv 0) pe_int (fun _ _ => rfl)) (pe_ix ix_tup (pv 1) pe_int (fun _ _ => rfl)))
      (pa_cons (pe_op op_mulX (pe_ix ix_tup (pv 0) pe_int (fun _ _ => rfl)) (pe_ix ix_tup (pv 1) pe_int (fun _ _ => rfl))) pa_nil)))), ?_⟩
    have h0 : Hv (tVar 0) (start ["one", "two"] [x, y]) H (Fr K p) := hv_varP rfl mo_fr px
    have h1 : Hv (tVar 1) (start ["one", "two"] [x, y]) H (Fr K q) := hv_varP rfl mo_fr py
    exact s_ret (hv_rat (hv_mul (hv_p0 h0) (hv_p1 h1) c.s1 c.s4) (hv_mul (hv_p1 h0) (hv_p0 h1) c.s2 c.s3) (okM_mul c.p2 c.q1 c.s2 c.s3)) fun v H1 e p => k v H1 e p
/-! ### is_below -/
/-- the first fraction is below the second one -/
def bel (p q : K74.Q2) : Bool := decide (p.1 * q.2 < q.1 * p.2)
abbrev spBel (K : PySem.W.Frag) : Sp := spP (fun pq : K74.Q2 × K74.Q2 => fun vs H => C2 pq.1 pq.2 ∧ Two (Fr K pq.1) (Fr K pq.2) vs H) (fun pq => Is (.bl (bel pq.1 pq.2)))
theorem sc21 : FnScope ["one", "two"] ["one", "two"] (defScope (topS 21)) := ⟨rfl, rfl, rfl, by decide +kernel, rfl, by decide +kernel, by decide +kernel⟩
theorem bd21 : Bnd "is_below" (topS 21) ["one", "two"] := ⟨fun _ _ _ _ _ _ us hl => match us, hl with | [_, _], _ => rfl, fun _ _ _ _ _ _ us hl => match us, hl with | [_, _], _ => rfl⟩
theorem c_bel (D : DefAt K mg "is_below" (topS 21)) : Cal P w K mg base CX0 1 "is_below" ["one", "two"] (spBel K) := by
  refine cal_of D sc21 bd21 ?_ ?_
  · rintro vs H Q E ⟨p, ⟨_, x, y, rfl, _⟩, _⟩
    rfl
  · intro cdv f A outer s H vs Q E hr h
    obtain ⟨⟨p, q⟩, ⟨c, x, y, rfl, px, py⟩, k⟩ := h
    refine ⟨_, pss_one (ps_ret (pe_cmpR op_lt (pe_op op_mulX (pe_ix ix_tup (pv 0) pe_int (fun _ _ => rfl)) (pe_ix ix_tup (pv 1) pe_int (fun _ _ => rfl)))
      (pe_op op_mulX (pe_ix ix_tup (pv 1) pe_int (fun _ _ => rfl)) (pe_ix ix_tup (pv 0) pe_int (fun _ _ => rfl))) (nomark _))), ?_⟩
    have h0 : Hv (tVar 0) (start ["one", "two"] [x, y]) H (Fr K p) := hv_varP rfl mo_fr px
    have h1 : Hv (tVar 1) (start ["one", "two"] [x, y]) H (Fr K q) := hv_varP rfl mo_fr py
    exact s_ret (hv_I0 (g := fun i j => .bl (decide (i < j))) (hv_mul (hv_p0 h0) (hv_p1 h1) c.s1 c.s4) (hv_mul (hv_p0 h1) (hv_p1 h0) c.s3 c.s2)) fun v H1 e p => k v H1 e p
theorem hv_bel {σ : L2.St} {H : Hp} {ta tb : TE} {p q : K74.Q2} (ha : Hv ta σ H (Fr K p)) (hb : Hv tb σ H (Fr K q)) (c : C2 p q) : Hv (tCall (spBel K) [] E0 (tCons ta (tCons tb tNil))) σ H (Is (.bl (bel p q))) :=
  hv_call (p, q) fun H1 e Q q => ha_two ha mo_fr hb H1 e Q fun vs H2 e2 z => q vs H2 e2 ⟨c, z⟩
/-! ### is_inner, is_amount, the checks -/
def okI (p : K74.Q2) : Prop := okF p ∧ 0 < p.1 ∧ p.1 < p.2
def okA (p : K74.Q2) : Prop := okF p ∧ 0 < p.1
abbrev spInn (K : PySem.W.Frag) : Sp := spP (fun p : K74.Q2 => fun vs H => okI p ∧ One (Fr K p) vs H) (fun _ => Is (.bl true))
abbrev spAmt (K : PySem.W.Frag) : Sp := spP (fun p : K74.Q2 => fun vs H => okA p ∧ One (Fr K p) vs H) (fun _ => Is (.bl true))
abbrev spCkI (K : PySem.W.Frag) : Sp := spP (fun p : K74.Q2 => fun vs H => okI p ∧ One (Fr K p) vs H) (fun _ => Is .non)
abbrev spCkA (K : PySem.W.Frag) : Sp := spP (fun p : K74.Q2 => fun vs H => okA p ∧ One (Fr K p) vs H) (fun _ => Is .non)
theorem hv_one {α : Type} {pr : α → Prop} {R : α → VP} {post : α → VP} {σ : L2.St} {H : Hp} {ta : TE} (a : α) (c : pr a) (ha : Hv ta σ H (R a)) :
    Hv (tCall (spP (fun a : α => fun vs H => pr a ∧ One (R a) vs H) post) [] E0 (tCons ta tNil)) σ H (post a) :=
  hv_call a fun H1 e Q q => ha_one ha H1 e Q fun vs H2 e2 z => q vs H2 e2 ⟨c, z⟩
theorem sc23 : FnScope ["value"] ["value"] (defScope (topS 23)) := ⟨rfl, rfl, rfl, by decide +kernel, rfl, by decide +kernel, by decide +kernel⟩
theorem sc24 : FnScope ["value"] ["value"] (defScope (topS 24)) := ⟨rfl, rfl, rfl, by decide +kernel, rfl, by decide +kernel, by decide +kernel⟩
theorem sc26 : FnScope ["value"] ["value"] (defScope (topS 26)) := ⟨rfl, rfl, rfl, by decide +kernel, rfl, by decide +kernel, by decide +kernel⟩
theorem sc30 : FnScope ["value"] ["value"] (defScope (topS 30)) := ⟨rfl, rfl, rfl, by decide +kernel, rfl, by decide +kernel, by decide +kernel⟩
theorem bd23 : Bnd "is_inner" (topS 23) ["value"] := ⟨fun _ _ _ _ _ _ us hl => match us, hl with | [_], _ => rfl, fun _ _ _ _ _ _ us hl => match us, hl with | [_], _ => rfl⟩
theorem bd24 : Bnd "is_amount" (topS 24) ["value"] := ⟨fun _ _ _ _ _ _ us hl => match us, hl with | [_], _ => rfl, fun _ _ _ _ _ _ us hl => match us, hl with | [_], _ => rfl⟩
theorem bd26 : Bnd "check_amount" (topS 26) ["value"] := ⟨fun _ _ _ _ _ _ us hl => match us, hl with | [_], _ => rfl, fun _ _ _ _ _ _ us hl => match us, hl with | [_], _ => rfl⟩
theorem bd30 : Bnd "check_inner" (topS 30) ["value"] := ⟨fun _ _ _ _ _ _ us hl => match us, hl with | [_], _ => rfl, fun _ _ _ _ _ _ us hl => match us, hl with | [_], _ => rfl⟩
theorem c_inn (D : DefAt K mg "is_inner" (topS 23)) (cR : Cal P w K mg base CX0 3 "is_ratio" ["value"] (spIsR K)) : Cal P w K mg base CX0 4 "is_inner" ["value"] (spInn K) := by
  refine cal_of D sc23 bd23 ?_ ?_
  · rintro vs H Q E ⟨p, ⟨_, x, rfl, _⟩, _⟩
    rfl
  · intro cdv f A outer s H vs Q E hr h
    obtain ⟨p, ⟨ok, x, rfl, px⟩, k⟩ := h
    refine ⟨_, pss_one (ps_ret (pe_and (pe_cal cR hr (by rfl) (pa_cons (pv 0) pa_nil)) (pe_and (pe_cmpR op_lt pe_int (pe_ix ix_tup (pv 0) pe_int (fun _ _ => rfl)) (nomark _))
      (pe_one (pe_cmpR op_lt (pe_ix ix_tup (pv 0) pe_int (fun _ _ => rfl)) (pe_ix ix_tup (pv 0) pe_int (fun _ _ => rfl)) (nomark _)))))), ?_⟩
    have hx : Hv (tVar 0) (start ["value"] [x]) H (Fr K p) := hv_varP rfl mo_fr px
    refine s_ret (hv_andV (hv_one p ok.1 hx) fun _ => hv_andV (hv_I0 hv_c (hv_p0 hx)) fun _ => hv_I0 (hv_p0 hx) (hv_p1 hx)) ?_
    intro v H1 e pv
    refine k v H1 e ?_
    rw [show decide ((0 : Int) < p.1) = true from decide_eq_true ok.2.1, show decide (p.1 < p.2) = true from decide_eq_true ok.2.2] at pv
    exact pv
theorem c_amt (D : DefAt K mg "is_amount" (topS 24)) (cR : Cal P w K mg base CX0 3 "is_ratio" ["value"] (spIsR K)) : Cal P w K mg base CX0 4 "is_amount" ["value"] (spAmt K) := by
  refine cal_of D sc24 bd24 ?_ ?_
  · rintro vs H Q E ⟨p, ⟨_, x, rfl, _⟩, _⟩
    rfl
  · intro cdv f A outer s H vs Q E hr h
    obtain ⟨p, ⟨ok, x, rfl, px⟩, k⟩ := h
    refine ⟨_, pss_one (ps_ret (pe_and (pe_cal cR hr (by rfl) (pa_cons (pv 0) pa_nil)) (pe_one (pe_cmpR op_gt (pe_ix ix_tup (pv 0) pe_int (fun _ _ => rfl)) pe_int (nomark _))))), ?_⟩
    have hx : Hv (tVar 0) (start ["value"] [x]) H (Fr K p) := hv_varP rfl mo_fr px
    refine s_ret (hv_andV (hv_one p ok.1 hx) fun _ => hv_I0 (hv_p0 hx) hv_c) ?_
    intro v H1 e pv
    refine k v H1 e ?_
    rw [show decide ((0 : Int) < p.1) = true from decide_eq_true ok.2] at pv
    exact pv
theorem c_ckA (D : DefAt K mg "check_amount" (topS 26)) (cR : Cal P w K mg base CX0 4 "is_amount" ["value"] (spAmt K)) : Cal P w K mg base CX0 5 "check_amount" ["value"] (spCkA K) := by
  refine cal_of D sc26 bd26 ?_ ?_
  · rintro vs H Q E ⟨p, ⟨_, x, rfl, _⟩, _⟩
    rfl
  · intro cdv f A outer s H vs Q E hr h
    obtain ⟨p, ⟨ok, x, rfl, px⟩, k⟩ := h
    refine ⟨_, pss_one (ps_if (pt_not (pt_val (pe_cal cR hr (by rfl) (pa_cons (pv 0) pa_nil)))) (pss_one ps_never) pss_nil), ?_⟩
    have hx : Hv (tVar 0) (start ["value"] [x]) H (Fr K p) := hv_varP rfl mo_fr px
    exact s_if1 (ht_not (ht_B (hv_one p ok hx))) (fun z => by cases z) fun _ H1 e => k _ H1 e rfl
theorem c_ckI (D : DefAt K mg "check_inner" (topS 30)) (cR : Cal P w K mg base CX0 4 "is_inner" ["value"] (spInn K)) : Cal P w K mg base CX0 5 "check_inner" ["value"] (spCkI K) := by
  refine cal_of D sc30 bd30 ?_ ?_
  · rintro vs H Q E ⟨p, ⟨_, x, rfl, _⟩, _⟩
    rfl
  · intro cdv f A outer s H vs Q E hr h
    obtain ⟨p, ⟨ok, x, rfl, px⟩, k⟩ := h
    refine ⟨_, pss_one (ps_if (pt_not (pt_val (pe_cal cR hr (by rfl) (pa_cons (pv 0) pa_nil)))) (pss_one ps_never) pss_nil), ?_⟩
    have hx : Hv (tVar 0) (start ["value"] [x]) H (Fr K p) := hv_varP rfl mo_fr px
    exact s_if1 (ht_not (ht_B (hv_one p ok hx))) (fun z => by cases z) fun _ H1 e => k _ H1 e rfl
end
end Kx

/-! The scrubbers. -/
namespace Kx
open PySem PySem.Spec PyProof.Rows L2
/-- the module's constants, and the class that is raised -/
structure Top2 (K : PySem.W.Frag) (mg : PySem.Str → Option Value) (aO aZ CT CP : Addr) : Prop where
  one : mg "ONE" = some (.ref aO)
  oneV : ∀ H, SqT K H aO [.int 1, .int 1]
  zero : mg "ZERO" = some (.ref aZ)
  zeroV : ∀ H, SqT K H aZ [.int 0, .int 1]
  most : ∃ t, mg "MOST_STAGES" = some (.int 60 t)
  gT : mg "TooMany" = some (.ref CT)
  xT : PySem.W.excIn K CT [.type "ValueError", .type "Exception", .type "BaseException", .type "object"] "ValueError.__new__" = true
  kT : PySem.W.keepIn K (.ref CT) = true
  bT : PySem.W.subIn K (.ref CT) (.type "BaseException") = some true
  tT : PySem.W.typeIn K (.ref CT) = some (.type "type")
  gP : mg "PlateError" = some (.ref CP)
section
variable {P : Program} {w : World} {K : PySem.W.Frag} {mg : PySem.Str → Option Value} {base : Heap} {aO aZ CT CP : Addr}
theorem one_fr (T : Top2 K mg aO aZ CT CP) {σ : L2.St} {H : Hp} : Hv (tC (.ref aO)) σ H (Fr K (1, 1)) := hv_cP fun H1 _ => ⟨aO, rfl, T.oneV H1⟩
theorem zero_fr (T : Top2 K mg aO aZ CT CP) {σ : L2.St} {H : Hp} : Hv (tC (.ref aZ)) σ H (Fr K (0, 1)) := hv_cP fun H1 _ => ⟨aZ, rfl, T.zeroV H1⟩
/-! ### check_factors -/
structure PreF (A : K74.Q2) (n : Nat) : Prop where
  a : okA A
  n1 : 1 ≤ n
  n2 : n ≤ 40
def Cop (K : PySem.W.Frag) (A : K74.Q2) (n : Nat) : VP := fun v H => ∃ v0, Fr K A v0 H ∧ Tup K (List.replicate n v0) v H
theorem mo_cop {A : K74.Q2} {n : Nat} : Mo (Cop K A n) := fun _ _ _ e ⟨v0, h1, h2⟩ => ⟨v0, mo_fr _ _ _ e h1, mo_tup _ _ _ e h2⟩
abbrev spCkF (K : PySem.W.Frag) : Sp := spP (fun p : K74.Q2 × Nat => fun vs H => PreF p.1 p.2 ∧ One (Cop K p.1 p.2) vs H) (fun _ => Is .non)
theorem sc29 : FnScope ["value", "at", "each"] ["value"] (defScope (topS 29)) := ⟨rfl, rfl, rfl, by decide +kernel, rfl, by decide +kernel, by decide +kernel⟩
theorem bd29 : Bnd "check_factors" (topS 29) ["value"] := ⟨fun _ _ _ _ _ _ us hl => match us, hl with | [_], _ => rfl, fun _ _ _ _ _ _ us hl => match us, hl with | [_], _ => rfl⟩
theorem rep_at {n i : Nat} {v x : V} (h : (List.replicate n v)[i]? = some x) : i < n ∧ x = v := by
  rw [List.getElem?_replicate] at h
  split at h
  · rename_i hi
    exact ⟨hi, (Option.some.inj h).symm⟩
  · cases h
theorem c_ckF (T : Top K mg) (T2 : Top2 K mg aO aZ CT CP) (D : DefAt K mg "check_factors" (topS 29)) (cA : Cal P w K mg base CX0 4 "is_amount" ["value"] (spAmt K)) : Cal P w K mg base CX0 5 "check_factors" ["value"] (spCkF K) := by
  obtain ⟨tM, hM⟩ := T2.most
  refine cal_of D sc29 bd29 ?_ ?_
  · rintro vs H Q E ⟨p, ⟨_, x, rfl, _⟩, _⟩
    rfl
  · intro cdv f A outer s H vs Q E hr h
    obtain ⟨⟨a, n⟩, ⟨pre, x, rfl, v0, p0, ad, rfl, sq⟩, k⟩ := h
    refine ⟨_, pss_cons (ps_if (pw_or (pt_not (pt_val (pe_callB call_isi (by rfl) T.isi (by decide +kernel) (pa_cons (pv 0) (pa_cons (pe_bltn (v := .ty "tuple") (by rfl) T.tup (by decide +kernel) rfl) pa_nil)))))
        (pw_or1 (pt_cmpR op_eq (pe_callB call_len_seq (by rfl) T.len PySem.boot_len (pa_cons (pv 0) pa_nil)) pe_int (nomark _)))).pt (pss_one ps_never) pss_nil)
      (pss_one (ps_for PassesOwn.never rfl (pi_enumT (by rfl) T.enum (pa_cons (pv 0) pa_nil)) (pg_tup rfl (pgs_cons (pg_name (i := 1) sc29.nd rfl (Or.inl rfl)) (pgs_cons (pg_name (i := 2) sc29.nd rfl (Or.inl rfl)) pgs_nil)))
        (pss_one (ps_if (pw_or (pt_cmpR op_eq (pv 1) (pe_glob (v := .int 60) (by rfl) hM ⟨_, rfl⟩) (nomark _)) (pw_or1 (pt_not (pt_val (pe_cal cA hr (by rfl) (pa_cons (pv 2) pa_nil)))))).pt (pss_one ps_never) pss_nil)))), ?_⟩
    have n1 : 1 ≤ n := pre.n1
    have n2 : n ≤ 40 := pre.n2
    have hx : Hv (tVar 0) (start ["value", "at", "each"] [.ref ad]) H (Tup K (List.replicate n v0)) := hv_varP rfl mo_tup ⟨ad, rfl, sq⟩
    refine s_if (b := false) ((ht_or (ht_not (ht_B (hv_isiT hx (b := true) (by decide +kernel)))) fun _ => ht_test (hv_eq (hv_lenT hx) hv_c rfl)).to ?_) (fun z => by cases z) ?_
    · have e : decide (V.int ((List.replicate n v0).length : Int) = V.int 0) = false := decide_eq_false fun z => by
        injection z with z
        rw [List.length_replicate] at z
        omega
      rw [e]
      rfl
    · intro _ H1 e1
      refine ⟨_, rfl, ad, List.replicate n v0, rfl, sqT_mo e1 sq, ?_⟩
      refine for_enumT (K := K) (a := ad) (xs := List.replicate n v0) (fun i σ H' => Same H H' ∧ ∃ y z, σ = [some (.ref ad), y, z]) ⟨e1, none, none, rfl⟩ ?_ ?_ ?_
      · rintro i σ H' _ ⟨e, _⟩
        exact sqT_mo e sq
      · rintro i y σ H' t hy ⟨e, u1, u2, rfl⟩ ht
        obtain ⟨hi, rfl⟩ := rep_at hy
        refine ⟨t, [.int i, y], rfl, .inl (.inl upd_same), rfl, .int i, [y], rfl, y, [], rfl, rfl, ?_⟩
        have e2 : Same H (upd H' t (.tup [.int (i : Nat), y])) := e.trans (same_new ht)
        have hy0 : Hv (tVar 2) [some (.ref ad), some (.int (i : Nat)), some y] (upd H' t (.tup [.int (i : Nat), y])) (Fr K a) := hv_varP rfl mo_fr (mo_fr _ _ _ e2 p0)
        refine s_if1 (b := false) ((ht_or (ht_test (hv_eq (hv_var rfl) hv_c rfl)) fun _ => ht_not (ht_B (hv_one a pre.a hy0))).to ?_) (fun z => by cases z) fun _ H3 e3 => ⟨e2.trans e3, _, _, rfl⟩
        have e4 : decide (V.int (i : Int) = V.int 60) = false := decide_eq_false fun z => by
          injection z with z
          omega
        rw [e4]
        rfl
      · rintro σ H' ⟨e, _⟩
        exact k _ _ e rfl
/-! ### sums_by -/
structure PreS (A : K74.Q2) (n : Nat) : Prop where
  a : K74.Fac A
  n2 : n ≤ 40
def Sums (K : PySem.W.Frag) (A : K74.Q2) (n : Nat) : VP := fun v H => ∃ v1 v2, Fr K (K74.W A n) v1 H ∧ Fr K (K74.Pt A n) v2 H ∧ Tup K [v1, v2] v H
abbrev spSum (K : PySem.W.Frag) : Sp := spP (fun p : K74.Q2 × Nat => fun vs H => PreS p.1 p.2 ∧ One (Cop K p.1 p.2) vs H) (fun p => Sums K p.1 p.2)
theorem sc31 : FnScope ["factors", "whole", "part", "factor"] ["factors"] (defScope (topS 31)) := ⟨rfl, rfl, rfl, by decide +kernel, rfl, by decide +kernel, by decide +kernel⟩
theorem bd31 : Bnd "sums_by" (topS 31) ["factors"] := ⟨fun _ _ _ _ _ _ us hl => match us, hl with | [_], _ => rfl, fun _ _ _ _ _ _ us hl => match us, hl with | [_], _ => rfl⟩
/-- what the operations ask, of numbers that are bounded -/
theorem c2_of {p q : K74.Q2} {i j : Nat} (hp : K74.Nn p (K74.B i)) (hq : K74.Nn q (K74.B j)) (hi : i ≤ 99) (hj : j ≤ 99) : C2 p q := by
  obtain ⟨a, b⟩ := K74.nn_sm hi hp (Int.le_refl _)
  obtain ⟨c, d⟩ := K74.nn_sm hj hq (Int.le_refl _)
  exact ⟨hp.p2, hq.p2, a, b, c, d⟩
theorem nn_one : K74.Nn (1, 1) (K74.B 0) := ⟨(by decide : (0 : Int) ≤ 1), (by decide : (0 : Int) < 1), (by decide : (1 : Int) ≤ 1), (by decide : (1 : Int) ≤ 1)⟩
theorem nn_fac {A : K74.Q2} (h : K74.Fac A) : K74.Nn A (K74.B 1) := by
  have b : K74.B 1 = 1024 := by decide
  have h1 := h.l1
  have h2 := h.l2
  have h3 := h.p1
  exact ⟨by omega, h.p2, by omega, by omega⟩
theorem nn_mul {A q : K74.Q2} {k : Nat} (h : K74.Fac A) (hq : K74.Nn q (K74.B k)) : K74.Nn (K74.mulF A q) (K74.B (k + 1)) := by
  have l1 := K74.mul_le_of (Int.le_of_lt h.p1) h.l1 hq.n1 hq.l1
  have l2 := K74.mul_le_of (Int.le_of_lt h.p2) h.l2 (Int.le_of_lt hq.p2) hq.l2
  have b := K74.B_pos k
  have bs := K74.B_succ k
  exact K74.fr_nn (K74.mul_pos_of h.p2 hq.p2) (Int.mul_nonneg (Int.le_of_lt h.p1) hq.n1) (by omega) (by omega)
section
variable {σ : L2.St} {H : Hp} {ta tb tc : TE} {A q : K74.Q2} {k : Nat}
/-- 1 + A * q, as the program and the law reckon it -/
theorem hv_up {spA spM : Sp} (hO : Hv tc σ H (Fr K (1, 1))) (hA : Hv ta σ H (Fr K A)) (hq : Hv tb σ H (Fr K q)) (fA : K74.Fac A) (nq : K74.Nn q (K74.B k)) (hk : k ≤ 90) (eA : spA = spBin K C2 K74.addF) (eM : spM = spBin K C2 K74.mulF) :
    Hv (tCall spA [] E0 (tCons tc (tCons (tCall spM [] E0 (tCons ta (tCons tb tNil))) tNil))) σ H (Fr K (K74.addF (1, 1) (K74.mulF A q))) := by
  subst eA eM
  exact hv_bin hO (hv_bin hA hq (c2_of (nn_fac fA) nq (by decide) (by omega))) (c2_of nn_one (nn_mul fA nq) (by decide) (by omega))
end
theorem c_sum (T2 : Top2 K mg aO aZ CT CP) (D : DefAt K mg "sums_by" (topS 31)) (cP : Cal P w K mg base CX0 4 "plus" ["one", "two"] (spBin K C2 K74.addF)) (cT : Cal P w K mg base CX0 4 "times" ["one", "two"] (spBin K C2 K74.mulF)) :
    Cal P w K mg base CX0 5 "sums_by" ["factors"] (spSum K) := by
  refine cal_of D sc31 bd31 ?_ ?_
  · rintro vs H Q E ⟨p, ⟨_, x, rfl, _⟩, _⟩
    rfl
  · intro cdv f A outer s H vs Q E hr h
    obtain ⟨⟨a, n⟩, ⟨pre, x, rfl, v0, p0, ad, rfl, sq⟩, k⟩ := h
    refine ⟨_, pss_cons (ps_par (i := 1) (j := 2) rfl sc31.nd rfl rfl (by decide) rfl rfl (pa_cons (pe_glob (v := .ref aO) (by rfl) T2.one rfl) (pa_cons (pe_glob (v := .ref aZ) (by rfl) T2.zero rfl) pa_nil)) (by rfl))
      (pss_cons (ps_for PassesOwn.never rfl (pi_tup (pv 0)) (pg_name (i := 3) sc31.nd rfl (Or.inl rfl))
        (pss_one (ps_par (i := 1) (j := 2) rfl sc31.nd rfl rfl (by decide) rfl rfl
          (pa_cons (pe_cal cP hr (by rfl) (pa_cons (pe_glob (v := .ref aO) (by rfl) T2.one rfl) (pa_cons (pe_cal cT hr (by rfl) (pa_cons (pv 3) (pa_cons (pv 1) pa_nil))) pa_nil)))
            (pa_cons (pe_cal cP hr (by rfl) (pa_cons (pe_glob (v := .ref aO) (by rfl) T2.one rfl) (pa_cons (pe_cal cT hr (by rfl) (pa_cons (pv 3) (pa_cons (pv 2) pa_nil))) pa_nil))) pa_nil)) (by rfl))))
      (pss_one (ps_ret (pe_tup (pa_cons (pv 1) (pa_cons (pv 2) pa_nil)))))), ?_⟩
    refine ⟨_, _, rfl, ?_⟩
    refine ⟨.ref ad, rfl, ad, rfl, ⟨_, sq⟩, ?_⟩
    refine for_tup (K := K) (a := ad) (xs := List.replicate n v0) (fun i σ H' => Same H H' ∧ ∃ v1 v2 y, σ = [some (.ref ad), some v1, some v2, y] ∧ Fr K (K74.W a i) v1 H' ∧ Fr K (K74.Pt a i) v2 H')
      ⟨Same.refl H, .ref aO, .ref aZ, none, rfl, ⟨aO, rfl, T2.oneV H⟩, ⟨aZ, rfl, T2.zeroV H⟩⟩ ?_ ?_ ?_
    · rintro i σ H' _ ⟨e, _⟩
      exact sqT_mo e sq
    · rintro i y σ H' hy ⟨e, v1, v2, u, rfl, f1, f2⟩
      obtain ⟨hi, rfl⟩ := rep_at hy
      have n2 := pre.n2
      have hA : ∀ {H2 : Hp}, Same H' H2 → Hv (tVar 3) [some (.ref ad), some v1, some v2, some y] H2 (Fr K a) := fun e2 => hv_varP rfl mo_fr (mo_fr _ _ _ (e.trans e2) p0)
      have h1 : Hv (tVar 1) [some (.ref ad), some v1, some v2, some y] H' (Fr K (K74.W a i)) := hv_varP rfl mo_fr f1
      have h2 : Hv (tVar 2) [some (.ref ad), some v1, some v2, some y] H' (Fr K (K74.Pt a i)) := hv_varP rfl mo_fr f2
      have g1 := hv_up (one_fr T2) (hA (Same.refl H')) h1 pre.a (K74.w_nn pre.a i) (by omega) rfl rfl
      have g2 := hv_up (one_fr T2) (hA (Same.refl H')) h2 pre.a (K74.pt_all pre.a i) (by omega) rfl rfl
      refine s_par (σ := [some (.ref ad), some v1, some v2, some y]) (ha_two g1 mo_fr g2) ?_
      intro z1 z2 H2 e2 q1 q2
      exact ⟨e.trans e2, z1, z2, some y, rfl, q1, q2⟩
    · rintro σ H' ⟨e, v1, v2, u, rfl, f1, f2⟩
      rw [List.length_replicate] at f1 f2
      have g := hv_pair (K := K) (σ := [some (.ref ad), some v1, some v2, u]) (H := H') (hv_var (i := 1) rfl) (hv_var (i := 2) rfl)
      exact s_ret g fun v H2 e2 p => k v H2 (e.trans e2) ⟨v1, v2, mo_fr _ _ _ e2 f1, mo_fr _ _ _ e2 f2, p⟩
/-! ### stays_by, stays -/
def Stays (K : PySem.W.Frag) (A : K74.Q2) (n : Nat) : VP := fun v H => ∃ v1 v2, Fr K (K74.divF (1, 1) (K74.W A n)) v1 H ∧ Tup K [v1, v2] v H
abbrev spStB (K : PySem.W.Frag) : Sp := spP (fun p : K74.Q2 × Nat => fun vs H => PreS p.1 p.2 ∧ One (Cop K p.1 p.2) vs H) (fun p => Stays K p.1 p.2)
theorem sc32 : FnScope ["factors", "whole", "part"] ["factors"] (defScope (topS 32)) := ⟨rfl, rfl, rfl, by decide +kernel, rfl, by decide +kernel, by decide +kernel⟩
theorem bd32 : Bnd "stays_by" (topS 32) ["factors"] := ⟨fun _ _ _ _ _ _ us hl => match us, hl with | [_], _ => rfl, fun _ _ _ _ _ _ us hl => match us, hl with | [_], _ => rfl⟩
theorem sc33 : FnScope ["factors"] ["factors"] (defScope (topS 33)) := ⟨rfl, rfl, rfl, by decide +kernel, rfl, by decide +kernel, by decide +kernel⟩
theorem bd33 : Bnd "stays" (topS 33) ["factors"] := ⟨fun _ _ _ _ _ _ us hl => match us, hl with | [_], _ => rfl, fun _ _ _ _ _ _ us hl => match us, hl with | [_], _ => rfl⟩
theorem c3_one {A : K74.Q2} (h : K74.Fac A) {k : Nat} (hk : k ≤ 90) : C3 (1, 1) (K74.W A k) := { c2_of nn_one (K74.w_nn h k) (by decide) (by omega) with q1 := (K74.w_all h k).p1 }
theorem c3_sub {A : K74.Q2} (h : K74.Fac A) {k : Nat} (hk : k ≤ 40) : C3 (K74.subF (K74.W A k) (K74.Pt A k)) (K74.W A k) := by
  obtain ⟨a, b, c⟩ := K74.sub_sm hk (K74.w_nn h k) (K74.pt_all h k)
  have d := c3_one h (k := k) (by omega)
  exact ⟨⟨a, d.q2, b, c, d.s3, d.s4⟩, d.q1⟩
theorem c_stB (T2 : Top2 K mg aO aZ CT CP) (D : DefAt K mg "stays_by" (topS 32)) (cS : Cal P w K mg base CX0 5 "sums_by" ["factors"] (spSum K)) (cO : Cal P w K mg base CX0 4 "over" ["one", "two"] (spBin K C3 K74.divF))
    (cM : Cal P w K mg base CX0 4 "minus" ["one", "two"] (spBin K C2 K74.subF)) : Cal P w K mg base CX0 6 "stays_by" ["factors"] (spStB K) := by
  refine cal_of D sc32 bd32 ?_ ?_
  · rintro vs H Q E ⟨p, ⟨_, x, rfl, _⟩, _⟩
    rfl
  · intro cdv f A outer s H vs Q E hr h
    obtain ⟨⟨a, n⟩, ⟨pre, x, rfl, px⟩, k⟩ := h
    have hr4 : Room 4 _ := hr.mono (by decide)
    refine ⟨_, pss_cons (ps_asg (pe_cal cS hr (by rfl) (pa_cons (pv 0) pa_nil)) (pg_tup rfl (pgs_cons (pg_name (i := 1) sc32.nd rfl (Or.inl rfl)) (pgs_cons (pg_name (i := 2) sc32.nd rfl (Or.inl rfl)) pgs_nil))))
      (pss_one (ps_ret (pe_tup (pa_cons (pe_cal cO hr4 (by rfl) (pa_cons (pe_glob (v := .ref aO) (by rfl) T2.one rfl) (pa_cons (pv 1) pa_nil)))
        (pa_cons (pe_cal cO hr4 (by rfl) (pa_cons (pe_cal cM hr4 (by rfl) (pa_cons (pv 1) (pa_cons (pv 2) pa_nil))) (pa_cons (pv 1) pa_nil))) pa_nil))))), ?_⟩
    have hx : Hv (tVar 0) (start ["factors", "whole", "part"] [x]) H (Cop K a n) := hv_varP rfl mo_cop px
    refine (hv_one (R := fun p : K74.Q2 × Nat => Cop K p.1 p.2) (pr := fun p => PreS p.1 p.2) (a, n) pre hx).run ?_
    rintro v H1 e1 ⟨v1, v2, f1, f2, ad, rfl, sq⟩
    refine ⟨ad, [v1, v2], rfl, sq, rfl, v1, [v2], rfl, v2, [], rfl, rfl, ?_⟩
    have n2 := pre.n2
    have h1 : Hv (tVar 1) [some x, some v1, some v2] H1 (Fr K (K74.W a n)) := hv_varP rfl mo_fr f1
    have h2 : Hv (tVar 2) [some x, some v1, some v2] H1 (Fr K (K74.Pt a n)) := hv_varP rfl mo_fr f2
    have g1 := hv_bin (C := C3) (g := K74.divF) (one_fr T2) h1 (c3_one pre.a (by omega))
    have g2 := hv_bin (C := C3) (g := K74.divF) (hv_bin (C := C2) (g := K74.subF) h1 h2 (c2_of (K74.w_nn pre.a n) (K74.pt_all pre.a n) (by omega) (by omega))) h1 (c3_sub pre.a n2)
    refine s_ret (σ := [some x, some v1, some v2]) (hv_tup2 (K := K) g1 mo_fr g2 mo_fr) ?_
    rintro v H2 e2 ⟨z1, z2, q1, q2, q⟩
    exact k v H2 (e1.trans e2) ⟨z1, z2, q1, q⟩
theorem okA_of {A : K74.Q2} (h : K74.Fac A) : okA A := ⟨⟨h.p2, h.red⟩, h.p1⟩
structure PreN (A : K74.Q2) (n : Nat) : Prop where
  a : K74.Fac A
  n1 : 1 ≤ n
  n2 : n ≤ 40
abbrev spSt (K : PySem.W.Frag) : Sp := spP (fun p : K74.Q2 × Nat => fun vs H => PreN p.1 p.2 ∧ One (Cop K p.1 p.2) vs H) (fun p => Stays K p.1 p.2)
theorem c_st (D : DefAt K mg "stays" (topS 33)) (cF : Cal P w K mg base CX0 5 "check_factors" ["value"] (spCkF K)) (cB : Cal P w K mg base CX0 6 "stays_by" ["factors"] (spStB K)) : Cal P w K mg base CX0 7 "stays" ["factors"] (spSt K) := by
  refine cal_of D sc33 bd33 ?_ ?_
  · rintro vs H Q E ⟨p, ⟨_, x, rfl, _⟩, _⟩
    rfl
  · intro cdv f A outer s H vs Q E hr h
    obtain ⟨⟨a, n⟩, ⟨pre, x, rfl, px⟩, k⟩ := h
    have hr5 : Room 5 _ := hr.mono (by decide)
    refine ⟨_, pss_cons (ps_expr (pe_cal cF hr5 (by rfl) (pa_cons (pv 0) pa_nil))) (pss_one (ps_ret (pe_cal cB hr (by rfl) (pa_cons (pv 0) pa_nil)))), ?_⟩
    have hx : Hv (tVar 0) (start ["factors"] [x]) H (Cop K a n) := hv_varP rfl mo_cop px
    refine s_drop (hv_one (R := fun p : K74.Q2 × Nat => Cop K p.1 p.2) (pr := fun p => PreF p.1 p.2) (a, n) ⟨okA_of pre.a, pre.n1, pre.n2⟩ hx) ?_
    intro _ H1 e1 _
    exact s_ret (hv_one (R := fun p : K74.Q2 × Nat => Cop K p.1 p.2) (pr := fun p => PreS p.1 p.2) (a, n) ⟨pre.a, pre.n2⟩ (hx.mono e1)) fun v H2 e2 p => k v H2 (e1.trans e2) p
end
end Kx

/-! is_ever, ever_left, fewest_stages. -/
namespace Kx
open PySem PySem.Spec PyProof.Rows L2
/-- some number of stages leaves at most the share, as the program tells it -/
def ever (A g : K74.Q2) : Bool := !bel A (1, 1) || bel (K74.subF (1, 1) A) g
/-- k + 1 stages leave at most the share -/
def hits (A g : K74.Q2) (k : Nat) : Bool := !bel g (K74.row A k)
structure PreE (A g : K74.Q2) : Prop where
  a : K74.Fac A
  g : K74.Inn g
theorem c2_fac_one {A : K74.Q2} (h : K74.Fac A) : C2 A (1, 1) := c2_of (nn_fac h) nn_one (by decide) (by decide)
theorem c2_one_fac {A : K74.Q2} (h : K74.Fac A) : C2 (1, 1) A := c2_of nn_one (nn_fac h) (by decide) (by decide)
theorem c2_any {p q : K74.Q2} (h1 : 0 < p.2) (h2 : p.1.natAbs < 2 ^ 1000) (h3 : p.2.natAbs < 2 ^ 1000) (q0 : K74.Fq q) : C2 p q := ⟨h1, q0.pos, h2, h3, q0.sm1, q0.sm2⟩
theorem c2_bound {A g : K74.Q2} (h : K74.Fac A) (hg : K74.Inn g) : C2 (K74.subF (1, 1) A) g := by
  have o : K74.Nn (1, 1) (K74.B 1) := ⟨by decide, by decide, by decide, by decide⟩
  obtain ⟨a, b, c⟩ := K74.sub_sm (j := 1) (by decide) o (nn_fac h)
  exact c2_any a b c hg.fq
theorem okI_of {g : K74.Q2} (h : K74.Inn g) : okI g := ⟨⟨h.fq.pos, h.fq.red⟩, h.p1, h.lt⟩
theorem c2_row {A g : K74.Q2} (h : K74.Fac A) (hg : K74.Inn g) {k : Nat} (hk : k ≤ 98) : C2 g (K74.row A k) := by
  have r := K74.row_inn h hk
  exact ⟨hg.fq.pos, r.fq.pos, hg.fq.sm1, hg.fq.sm2, r.fq.sm1, r.fq.sm2⟩
section
variable {P : Program} {w : World} {K : PySem.W.Frag} {mg : PySem.Str → Option Value} {base : Heap} {aO aZ CT CP : Addr}
abbrev spEv (K : PySem.W.Frag) : Sp := spP (fun p : K74.Q2 × K74.Q2 => fun vs H => PreE p.1 p.2 ∧ Two (Fr K p.1) (Fr K p.2) vs H) (fun p => Is (.bl (ever p.1 p.2)))
theorem sc34 : FnScope ["factor", "share"] ["factor", "share"] (defScope (topS 34)) := ⟨rfl, rfl, rfl, by decide +kernel, rfl, by decide +kernel, by decide +kernel⟩
theorem sc35 : FnScope ["factor", "share"] ["factor", "share"] (defScope (topS 35)) := ⟨rfl, rfl, rfl, by decide +kernel, rfl, by decide +kernel, by decide +kernel⟩
theorem sc36 : FnScope ["factor", "share", "whole", "many"] ["factor", "share"] (defScope (topS 36)) := ⟨rfl, rfl, rfl, by decide +kernel, rfl, by decide +kernel, by decide +kernel⟩
theorem bd34 : Bnd "is_ever" (topS 34) ["factor", "share"] := ⟨fun _ _ _ _ _ _ us hl => match us, hl with | [_, _], _ => rfl, fun _ _ _ _ _ _ us hl => match us, hl with | [_, _], _ => rfl⟩
theorem bd35 : Bnd "ever_left" (topS 35) ["factor", "share"] := ⟨fun _ _ _ _ _ _ us hl => match us, hl with | [_, _], _ => rfl, fun _ _ _ _ _ _ us hl => match us, hl with | [_, _], _ => rfl⟩
theorem bd36 : Bnd "fewest_stages" (topS 36) ["factor", "share"] := ⟨fun _ _ _ _ _ _ us hl => match us, hl with | [_, _], _ => rfl, fun _ _ _ _ _ _ us hl => match us, hl with | [_, _], _ => rfl⟩
theorem hv_two {α : Type} {pr : α → Prop} {R S : α → VP} {post : α → VP} {σ : L2.St} {H : Hp} {ta tb : TE} (a : α) (c : pr a) (m : Mo (R a)) (ha : Hv ta σ H (R a)) (hb : Hv tb σ H (S a)) :
    Hv (tCall (spP (fun a : α => fun vs H => pr a ∧ Two (R a) (S a) vs H) post) [] E0 (tCons ta (tCons tb tNil))) σ H (post a) :=
  hv_call a fun H1 e Q q => ha_two ha m hb H1 e Q fun vs H2 e2 z => q vs H2 e2 ⟨c, z⟩
theorem hv_twoK {α : Type} {pr : α → Prop} {R S : α → VP} {post : α → VP} {σ : L2.St} {H : Hp} {ta tb : TE} (a : α) (c : pr a) (m : Mo (R a)) (ha : Hv ta σ H (R a)) (hb : Hv tb σ H (S a)) :
    Hv (tKw (spP (fun a : α => fun vs H => pr a ∧ Two (R a) (S a) vs H) post) (fun _ => E0) (tCons ta (tCons tb tNil))) σ H (post a) :=
  hv_kw a fun H1 e Q q => ha_two ha m hb H1 e Q fun vs H2 e2 z => q vs H2 e2 ⟨c, z⟩
theorem hv_ev {σ : L2.St} {H : Hp} {ta tb : TE} {a g : K74.Q2} (c : PreE a g) (ha : Hv ta σ H (Fr K a)) (hb : Hv tb σ H (Fr K g)) : Hv (tCall (spEv K) [] E0 (tCons ta (tCons tb tNil))) σ H (Is (.bl (ever a g))) :=
  hv_two (R := fun p : K74.Q2 × K74.Q2 => Fr K p.1) (S := fun p : K74.Q2 × K74.Q2 => Fr K p.2) (pr := fun p => PreE p.1 p.2) (a, g) c mo_fr ha hb
theorem c_ev (T2 : Top2 K mg aO aZ CT CP) (D : DefAt K mg "is_ever" (topS 34)) (cB : Cal P w K mg base CX0 1 "is_below" ["one", "two"] (spBel K)) (cM : Cal P w K mg base CX0 4 "minus" ["one", "two"] (spBin K C2 K74.subF)) :
    Cal P w K mg base CX0 5 "is_ever" ["factor", "share"] (spEv K) := by
  refine cal_of D sc34 bd34 ?_ ?_
  · rintro vs H Q E ⟨p, ⟨_, x, y, rfl, _⟩, _⟩
    rfl
  · intro cdv f A outer s H vs Q E hr h
    obtain ⟨⟨a, g⟩, ⟨pre, x, y, rfl, px, py⟩, k⟩ := h
    have hr1 : Room 1 _ := hr.mono (by decide)
    refine ⟨_, pss_one (ps_ret (pe_or (pe_not (pe_cal cB hr1 (by rfl) (pa_cons (pv 0) (pa_cons (pe_glob (v := .ref aO) (by rfl) T2.one rfl) pa_nil))))
      (pe_one (pe_cal cB hr1 (by rfl) (pa_cons (pe_cal cM hr (by rfl) (pa_cons (pe_glob (v := .ref aO) (by rfl) T2.one rfl) (pa_cons (pv 0) pa_nil))) (pa_cons (pv 1) pa_nil)))))), ?_⟩
    have h0 : Hv (tVar 0) (start ["factor", "share"] [x, y]) H (Fr K a) := hv_varP rfl mo_fr px
    have h1 : Hv (tVar 1) (start ["factor", "share"] [x, y]) H (Fr K g) := hv_varP rfl mo_fr py
    exact s_ret (hv_orV (hv_notV (hv_bel h0 (one_fr T2) (c2_fac_one pre.a))) fun _ => hv_bel (hv_bin (C := C2) (g := K74.subF) (one_fr T2) h0 (c2_one_fac pre.a)) h1 (c2_bound pre.a pre.g)) fun v H1 e p => k v H1 e p
theorem c_evL (D : DefAt K mg "ever_left" (topS 35)) (cA : Cal P w K mg base CX0 5 "check_amount" ["value"] (spCkA K)) (cI : Cal P w K mg base CX0 5 "check_inner" ["value"] (spCkI K)) (cE : Cal P w K mg base CX0 5 "is_ever" ["factor", "share"] (spEv K)) :
    Cal P w K mg base CX0 6 "ever_left" ["factor", "share"] (spEv K) := by
  refine cal_of D sc35 bd35 ?_ ?_
  · rintro vs H Q E ⟨p, ⟨_, x, y, rfl, _⟩, _⟩
    rfl
  · intro cdv f A outer s H vs Q E hr h
    obtain ⟨⟨a, g⟩, ⟨pre, x, y, rfl, px, py⟩, k⟩ := h
    refine ⟨_, pss_cons (ps_expr (pe_cal cA hr (by rfl) (pa_cons (pv 0) pa_nil))) (pss_cons (ps_expr (pe_cal cI hr (by rfl) (pa_cons (pv 1) pa_nil)))
      (pss_one (ps_ret (pe_cal cE hr (by rfl) (pa_cons (pv 0) (pa_cons (pv 1) pa_nil)))))), ?_⟩
    have h0 : Hv (tVar 0) (start ["factor", "share"] [x, y]) H (Fr K a) := hv_varP rfl mo_fr px
    have h1 : Hv (tVar 1) (start ["factor", "share"] [x, y]) H (Fr K g) := hv_varP rfl mo_fr py
    refine s_drop (hv_one a (okA_of pre.a) h0) fun _ H1 e1 _ => s_drop (hv_one g (okI_of pre.g) (h1.mono e1)) fun _ H2 e2 _ => ?_
    exact s_ret (hv_ev pre (h0.mono (e1.trans e2)) (h1.mono (e1.trans e2))) fun v H3 e3 p => k v H3 ((e1.trans e2).trans e3) p
/-! ### fewest_stages -/
/-- the least number that hits, of sixty -/
def first (A g : K74.Q2) : Option Nat := (List.range 60).find? (hits A g)
def spFew (K : PySem.W.Frag) (CT : Addr) : Sp := fun vs H Q E => ∃ (a g : K74.Q2) (x y : V), vs = [x, y] ∧ PreE a g ∧ Fr K a x H ∧ Fr K g y H ∧ (ever a g = false → ∀ H', Same H H' → Q .non H') ∧
  (∀ k, ever a g = true → first a g = some k → ∀ H', Same H H' → Q (.int ((k : Int) + 1)) H') ∧ (ever a g = true → first a g = none → ∀ H', Same H H' → E (.ref CT) none H')
theorem find_of {f : Nat → Bool} : ∀ {n i : Nat}, i < n → (∀ j, j < i → f j = false) → f i = true → (List.range n).find? f = some i := by
  intro n i hi hj hf
  rw [List.find?_range_eq_some]
  refine ⟨hf, List.mem_range.mpr hi, fun j hlt => ?_⟩
  rw [hj j hlt]
  rfl
theorem find_none {f : Nat → Bool} {n : Nat} (hj : ∀ j, j < n → f j = false) : (List.range n).find? f = none := by
  rw [List.find?_eq_none]
  intro j hm
  rw [hj j (List.mem_range.mp hm)]
  exact Bool.false_ne_true
theorem c_few (T : Top K mg) (T2 : Top2 K mg aO aZ CT CP) (D : DefAt K mg "fewest_stages" (topS 36)) (cA : Cal P w K mg base CX0 5 "check_amount" ["value"] (spCkA K)) (cI : Cal P w K mg base CX0 5 "check_inner" ["value"] (spCkI K))
    (cE : Cal P w K mg base CX0 5 "is_ever" ["factor", "share"] (spEv K)) (cP : Cal P w K mg base CX0 4 "plus" ["one", "two"] (spBin K C2 K74.addF)) (cT : Cal P w K mg base CX0 4 "times" ["one", "two"] (spBin K C2 K74.mulF))
    (cO : Cal P w K mg base CX0 4 "over" ["one", "two"] (spBin K C3 K74.divF)) (cB : Cal P w K mg base CX0 1 "is_below" ["one", "two"] (spBel K)) : Cal P w K mg base (L2.CX P w) 6 "fewest_stages" ["factor", "share"] (spFew K CT) := by
  obtain ⟨f, fd, F, g⟩ := D.ex
  obtain ⟨tM, hM⟩ := T2.most
  refine ⟨f, fd, F.okX sc36 ?_ ?_, g, F.kp, F.binds bd36.1, kwb_of F bd36⟩
  · rintro vs H Q E ⟨_, _, x, y, rfl, _⟩
    rfl
  · intro cdv A outer s H vs Q E hr h
    obtain ⟨a, g, x, y, rfl, pre, px, py, k1, k2, k3⟩ := h
    have hr1 : Room 1 _ := hr.mono (by decide)
    have hr4 : Room 4 _ := hr.mono (by decide)
    refine ⟨_, pss_cons (ps_expr (pe_cal cA hr (by rfl) (pa_cons (pv 0) pa_nil))) (pss_cons (ps_expr (pe_cal cI hr (by rfl) (pa_cons (pv 1) pa_nil)))
      (pss_cons (ps_if (pt_not (pt_val (pe_cal cE hr (by rfl) (pa_cons (pv 0) (pa_cons (pv 1) pa_nil))))) (pss_one (ps_ret pe_non)) pss_nil)
      (pss_cons (L2.ps_set (i := 2) sc36.nd rfl (Or.inl rfl) (pe_glob (v := .ref aO) (by rfl) T2.one rfl))
      (pss_cons (ps_for (passes_of rfl) rfl (pi_range2 (by rfl) T.range (pa_cons pe_int (pa_cons (pe_op op_add (pe_glob (v := .int 60) (by rfl) hM ⟨_, rfl⟩) pe_int) pa_nil))) (pg_name (i := 3) sc36.nd rfl (Or.inl rfl))
        (pss_cons (L2.ps_set (i := 2) sc36.nd rfl (Or.inl rfl) (pe_cal cP hr4 (by rfl) (pa_cons (pe_glob (v := .ref aO) (by rfl) T2.one rfl) (pa_cons (pe_cal cT hr4 (by rfl) (pa_cons (pv 0) (pa_cons (pv 2) pa_nil))) pa_nil))))
          (pss_one (ps_if (pt_not (pt_val (pe_cal cB hr1 (by rfl) (pa_cons (pv 1) (pa_cons (pe_cal cO hr4 (by rfl) (pa_cons (pe_glob (v := .ref aO) (by rfl) T2.one rfl) (pa_cons (pv 2) pa_nil))) pa_nil))))) (pss_one (ps_ret (pv 3))) pss_nil))))
      (pss_one (ps_raise rfl (takes_of rfl rfl rfl rfl) (pmk_own0 PySem.F.excBase_ValueError T2.xT T2.gT T2.kT (raises_own T2.bT T2.tT) rfl))))))), ?_⟩
    have h0 : Hv (tVar 0) (start ["factor", "share", "whole", "many"] [x, y]) H (Fr K a) := hv_varP rfl mo_fr px
    have h1 : Hv (tVar 1) (start ["factor", "share", "whole", "many"] [x, y]) H (Fr K g) := hv_varP rfl mo_fr py
    refine s_drop (hv_one a (okA_of pre.a) h0) fun _ H1 e1 _ => s_drop (hv_one g (okI_of pre.g) (h1.mono e1)) fun _ H2 e2 _ => ?_
    have e12 := e1.trans e2
    refine s_if (ht_not (ht_B (hv_ev pre (h0.mono e12) (h1.mono e12)))) ?_ ?_
    · intro z H3 e3
      have z' : ever a g = false := by
        cases hz : ever a g with
        | false => rfl
        | true =>
          rw [hz] at z
          cases z
      exact k1 z' _ (e12.trans e3)
    · intro z H3 e3
      have z' : ever a g = true := by
        cases hz : ever a g with
        | true => rfl
        | false =>
          rw [hz] at z
          cases z
      have e123 := e12.trans e3
      refine Kx.s_set (one_fr T2) ?_
      intro v0 H4 e4 f0
      have e14 := e123.trans e4
      refine ⟨60, 1, rfl, rfl, 1, 61, rfl, by decide, ?_⟩
      refine for_range (lo := 1) (n := 60) (fun i σ H' => Same H H' ∧ (∀ j, j < i → hits a g j = false) ∧ ∃ v u, σ = [some x, some y, some v, u] ∧ Fr K (K74.W a i) v H') ⟨e14, fun j hj => by omega, v0, none, rfl, f0⟩ ?_ ?_
      · rintro i σ H' hi ⟨e, hm, v, u, rfl, fv⟩
        have q0 : Hv (tVar 0) [some x, some y, some v, some (.int (1 + i))] H' (Fr K a) := hv_varP rfl mo_fr (mo_fr _ _ _ e px)
        have q2 : Hv (tVar 2) [some x, some y, some v, some (.int (1 + i))] H' (Fr K (K74.W a i)) := hv_varP rfl mo_fr fv
        refine Kx.s_set (σ := [some x, some y, some v, some (.int (1 + i))]) (hv_up (one_fr T2) q0 q2 pre.a (K74.w_nn pre.a i) (by omega) rfl rfl) ?_
        intro v2 H5 e5 f2
        have e5' := e.trans e5
        have w1 : Hv (tVar 1) [some x, some y, some v2, some (.int (1 + i))] H5 (Fr K g) := hv_varP rfl mo_fr (mo_fr _ _ _ e5' py)
        have w2 : Hv (tVar 2) [some x, some y, some v2, some (.int (1 + i))] H5 (Fr K (K74.W a (i + 1))) := hv_varP rfl mo_fr f2
        have w3 : Hv _ [some x, some y, some v2, some (.int (1 + i))] H5 (Fr K (K74.row a i)) := hv_bin (C := C3) (g := K74.divF) (one_fr T2) w2 (c3_one pre.a (by omega))
        refine s_if1 (σ := [some x, some y, some v2, some (.int (1 + i))]) (ht_not (ht_B (hv_bel w1 w3 (c2_row pre.a pre.g (by omega))))) ?_ ?_
        · intro hz H6 e6
          refine s_ret (hv_var (i := 3) rfl) ?_
          intro v6 H7 e7 p7
          obtain rfl : v6 = .int (1 + i) := p7
          have fi : first a g = some i := find_of hi hm hz
          have r := k2 i z' fi H7 ((e5'.trans e6).trans e7)
          rw [Int.add_comm] at r
          exact r
        · intro hz H6 e6
          refine ⟨e5'.trans e6, ?_, v2, some (.int (1 + i)), rfl, mo_fr _ _ _ e6 f2⟩
          intro j hj
          by_cases ej : j = i
          · subst ej
            exact hz
          · exact hm j (by omega)
      · rintro σ H' ⟨e, hm, v, u, rfl, fv⟩
        exact k3 z' (find_none hm) H' e
end
end Kx

/-! The law's own fractions. -/
namespace Kx
open PySem PySem.Spec PyProof.Rows L2
section
variable {P : Program} {w : World} {K : PySem.W.Frag} {mg : PySem.Str → Option Value} {base : Heap}
abbrev rAbs : List V → Hp → VK → Prop := fun xs H Q => ∃ i, xs = [.int i] ∧ Q (.int (if i < 0 then -i else i)) H
abbrev rInt : List V → Hp → VK → Prop := fun xs H Q => (∃ i, xs = [.int i] ∧ Q (.int i) H) ∨ ∃ k, xs = [.bl k] ∧ Q (.int (if k then 1 else 0)) H
theorem hv_abs {σ : L2.St} {H : Hp} {ta : TE} {i : Int} (h : Hv ta σ H (Is (.int i))) : Hv (tCB rAbs (tCons ta tNil)) σ H (Is (.int ((i.natAbs : Nat) : Int))) :=
  hv_cb0 (ha_one h) fun vs H1 e p Q q => by
    obtain ⟨x, rfl, px⟩ := p
    subst px
    refine ⟨i, rfl, ?_⟩
    have ei : (if i < 0 then -i else i) = ((i.natAbs : Nat) : Int) := by split <;> omega
    rw [ei]
    exact q
theorem hv_intI {σ : L2.St} {H : Hp} {ta : TE} {i : Int} (h : Hv ta σ H (Is (.int i))) : Hv (tCB rInt (tCons ta tNil)) σ H (Is (.int i)) :=
  hv_cb0 (ha_one h) fun vs H1 e p Q q => by
    obtain ⟨x, rfl, px⟩ := p
    subst px
    exact .inl ⟨i, rfl, q⟩
/-! ### _law_gcd -/
abbrev spGcd : Sp := spP (fun p : Int × Int => Two (Is (.int p.1)) (Is (.int p.2))) (fun p => Is (.int (K74.gd p.1 p.2)))
theorem sc41 : FnScope ["_law_one", "_law_two"] ["_law_one", "_law_two"] (defScope (topS 41)) := ⟨rfl, rfl, rfl, by decide +kernel, rfl, by decide +kernel, by decide +kernel⟩
theorem bd41 : Bnd "_law_gcd" (topS 41) ["_law_one", "_law_two"] := ⟨fun _ _ _ _ _ _ us hl => match us, hl with | [_, _], _ => rfl, fun _ _ _ _ _ _ us hl => match us, hl with | [_, _], _ => rfl⟩
theorem c_gcd (T : Top K mg) (D : DefAt K mg "_law_gcd" (topS 41)) : Cal P w K mg base CX0 1 "_law_gcd" ["_law_one", "_law_two"] spGcd := by
  refine cal_of D sc41 bd41 ?_ ?_
  · rintro vs H Q E ⟨p, ⟨x, y, rfl, _⟩, _⟩
    rfl
  · intro cdv f A outer s H vs Q E hr h
    obtain ⟨⟨a, b⟩, ⟨x, y, rfl, px, py⟩, k⟩ := h
    subst px py
    refine ⟨_, pss_cons (ps_par (i := 0) (j := 1) rfl sc41.nd rfl rfl (by decide) rfl rfl (pa_cons (pe_callB call_abs (by rfl) T.abs (by decide +kernel) (pa_cons (pv 0) pa_nil)) (pa_cons (pe_callB call_abs (by rfl) T.abs (by decide +kernel) (pa_cons (pv 1) pa_nil)) pa_nil)) (by rfl))
      (pss_cons (ps_while PassesOwn.never (pt_cmpR op_gt (pv 1) pe_int (nomark _))
        (pss_one (ps_par (i := 0) (j := 1) rfl sc41.nd rfl rfl (by decide) rfl rfl (pa_cons (pv 1) (pa_cons (pe_op op_modN (pe_callTy call_int1 (by rfl) T.int (by decide +kernel) (pa_cons (pv 0) pa_nil)) (pv 1)) pa_nil)) (by rfl))))
      (pss_one (ps_ret (pv 0)))), ?_⟩
    refine s_par (ha_two (hv_abs (hv_var rfl)) mo_is (hv_abs (hv_var rfl))) ?_
    intro v1 v2 H1 e1 p1 p2
    subst p1 p2
    refine ⟨fun m σ H' => Same H H' ∧ ∃ u v : Nat, σ = [some (.int u), some (.int v)] ∧ Nat.gcd u v = Nat.gcd a.natAbs b.natAbs ∧ v = m, ⟨b.natAbs, e1, a.natAbs, b.natAbs, rfl, rfl, rfl⟩, ?_⟩
    rintro m σ H' ⟨e, u, v, rfl, hg, rfl⟩
    have t : HvT _ [some (.int (u : Int)), some (.int (v : Int))] H' (decide ((0 : Int) < (v : Int))) := ht_test (hv_I0 (g := fun i j => .bl (decide (j < i))) (hv_var (i := 1) rfl) hv_c)
    refine t H' (Same.refl H') _ ?_
    intro H2 e2
    by_cases hv : 0 < v
    · rw [decide_eq_true (show (0 : Int) < (v : Int) by omega), if_pos rfl]
      refine ⟨_, fun σ' H' q => q, ?_⟩
      have md := hv_I (C := fun _ j => j ≠ 0) (g := fun i j => .int (i.fmod j)) (σ := [some (.int (u : Int)), some (.int (v : Int))]) (H := H2) (hv_intI (hv_var (i := 0) rfl)) (hv_var (i := 1) rfl) (show (v : Int) ≠ 0 by omega)
      refine s_par (ha_two (hv_var (i := 1) rfl) mo_is md) ?_
      intro z1 z2 H3 e3 q1 q2
      subst q1 q2
      have em : (u : Int).fmod (v : Int) = ((u % v : Nat) : Int) := by
        rw [Int.fmod_eq_emod_of_nonneg _ (by omega)]
        exact (Int.natCast_emod u v).symm
      rw [em]
      refine ⟨u % v, Nat.mod_lt u hv, e.trans (e2.trans e3), v, u % v, rfl, ?_, rfl⟩
      rw [← hg, Nat.gcd_comm v (u % v), Nat.gcd_comm u v]
      exact (Nat.gcd_rec v u).symm
    · rw [decide_eq_false (show ¬ (0 : Int) < (v : Int) by omega), if_neg Bool.false_ne_true]
      have v0 : v = 0 := by omega
      subst v0
      rw [Nat.gcd_zero_right] at hg
      refine s_ret (hv_var (i := 0) rfl) ?_
      intro z H3 e3 pz
      refine k z H3 (e.trans (e2.trans e3)) ?_
      have eg : K74.gd a b = (u : Int) := by
        unfold K74.gd
        rw [← hg]
      show z = .int (K74.gd a b)
      rw [eg]
      exact pz
/-! ### _law_thin -/
theorem sc42 : FnScope ["_law_some", "_law_deep", "_law_each"] ["_law_some"] (defScope (topS 42)) := ⟨rfl, rfl, rfl, by decide +kernel, rfl, by decide +kernel, by decide +kernel⟩
theorem bd42 : Bnd "_law_thin" (topS 42) ["_law_some"] := ⟨fun _ _ _ _ _ _ us hl => match us, hl with | [_], _ => rfl, fun _ _ _ _ _ _ us hl => match us, hl with | [_], _ => rfl⟩
theorem gd_zero (n : Int) : K74.gd 0 n = ((n.natAbs : Nat) : Int) := by
  unfold K74.gd
  have e : Nat.gcd (0 : Int).natAbs n.natAbs = n.natAbs := Nat.gcd_zero_left _
  rw [e]
theorem gd_abs (n m : Int) : K74.gd ((n.natAbs : Nat) : Int) m = K74.gd n m := by
  unfold K74.gd
  rw [Int.natAbs_natCast]
theorem gd_one {n : Int} (m : Int) (h : ((n.natAbs : Nat) : Int) = 1) : K74.gd n m = 1 := by
  unfold K74.gd
  have e : n.natAbs = 1 := by omega
  rw [e, Nat.gcd_one_left]
  rfl
theorem c_thin (T : Top K mg) (D : DefAt K mg "_law_thin" (topS 42)) (cG : Cal P w K mg base CX0 1 "_law_gcd" ["_law_one", "_law_two"] spGcd) : Cal P w K mg base CX0 2 "_law_thin" ["_law_some"] (spLow K) := by
  refine cal_of D sc42 bd42 ?_ ?_
  · rintro vs H Q E ⟨p, ⟨_, x, rfl, _⟩, _⟩
    rfl
  · intro cdv f A outer s H vs Q E hr h
    obtain ⟨⟨n, m⟩, ⟨ok, x, rfl, a, rfl, px⟩, k⟩ := h
    refine ⟨_, pss_cons (L2.ps_set (i := 1) sc42.nd rfl (Or.inr rfl) pe_int) (pss_cons (ps_for PassesOwn.never rfl (pi_tup (pv 0)) (pg_name (i := 2) sc42.nd rfl (Or.inl rfl))
      (pss_one (L2.ps_set (i := 1) sc42.nd rfl (Or.inr rfl) (pe_ifExp (pt_cmpR op_ne (pv 1) pe_int (nomark _)) (pe_cal cG hr (by rfl) (pa_cons (pv 1) (pa_cons (pv 2) pa_nil))) pe_int))))
      (pss_one (ps_ret (pe_ifExp (pt_cmpR op_gt (pv 1) pe_int (nomark _))
        (pe_callTy call_tuple_of (by rfl) T.tup (by decide +kernel) (pa_cons (pe_lc (own := [("_law_each", 2)]) (g := gName 2) (tt := tYes) rfl sc42.nd (pi_tup (pv 0)) (blkOk_by (N := ["_law_some", "_law_deep", "_law_each"]) (sc := defScope (topS 42)) (by decide +kernel))
          (fun _ _ _ _ _ => pg_name (i := 2) sc42.nd rfl (Or.inl rfl)) (fun _ _ _ _ _ => pts_nil) (fun _ _ _ _ _ => pe_op op_fdivW (pv 2) (pv 1))) pa_nil))
        (pe_callTy call_tuple_of (by rfl) T.tup (by decide +kernel) (pa_cons (pv 0) pa_nil)))))), ?_⟩
    have gp : 0 < K74.gd n m := K74.gd_pos (n := n) ok.1
    refine ⟨.ref a, rfl, a, rfl, ⟨_, px⟩, ?_⟩
    refine for_tup (K := K) (a := a) (xs := [.int n, .int m]) (fun i σ H' => Same H H' ∧ ∃ y, σ = [some (.ref a), some (.int (gAt (n, m) i)), y]) ⟨Same.refl H, none, rfl⟩ ?_ ?_ ?_
    · rintro i σ H' _ ⟨e, _⟩
      exact sqT_mo e px
    · rintro i y σ H' hi ⟨e, z, rfl⟩
      match i, hi with
      | 0, hi =>
        obtain rfl : V.int n = y := Option.some.inj hi
        refine s_set1 (σ := [some (.ref a), some (.int 0), some (.int n)]) (hv_if (P := Is (.int (K74.gd 0 n))) (ht_test (hv_ne (x := .int 0) (y := .int 1) (hv_var (i := 1) rfl) hv_c rfl)) (fun _ => hv_call (0, n) (ha_two (hv_var (i := 1) rfl) mo_is (hv_var (i := 2) rfl))) (fun z => absurd z (by decide))) ?_
        intro v H2 e2 p
        obtain rfl : v = .int (K74.gd 0 n) := p
        rw [gd_zero]
        exact ⟨e.trans e2, some (.int n), rfl⟩
      | 1, hi =>
        obtain rfl : V.int m = y := Option.some.inj hi
        refine s_set1 (σ := [some (.ref a), some (.int ((n.natAbs : Nat) : Int)), some (.int m)]) (hv_if (P := Is (.int (K74.gd n m))) (ht_test (hv_ne (hv_var (i := 1) rfl) hv_c rfl)) (fun _ => ?_) (fun z => ?_)) ?_
        · rw [← gd_abs n m]
          exact hv_call (((n.natAbs : Nat) : Int), m) (ha_two (hv_var (i := 1) rfl) mo_is (hv_var (i := 2) rfl))
        · have e1 : ((n.natAbs : Nat) : Int) = 1 := by
            have z' : decide (V.int ((n.natAbs : Nat) : Int) = V.int 1) = true := by
              cases hd : decide (V.int ((n.natAbs : Nat) : Int) = V.int 1) with
              | true => rfl
              | false =>
                rw [hd] at z
                cases z
            have q := of_decide_eq_true z'
            injection q
          rw [gd_one m e1]
          exact hv_c
        · intro v H2 e2 p
          obtain rfl : v = .int (K74.gd n m) := p
          exact ⟨e.trans e2, some (.int m), rfl⟩
      | i + 2, hi => cases hi
    · rintro σ H' ⟨e, z, rfl⟩
      have hx : Hv (tVar 0) [some (.ref a), some (.int (K74.gd n m)), z] H' (Tup K [.int n, .int m]) := hv_varP rfl mo_tup ⟨a, rfl, sqT_mo e px⟩
      refine s_ret (σ := [some (.ref a), some (.int (K74.gd n m)), z]) (P := Fr K (K74.fr n m)) (hv_if (ht_test (hv_I0 (g := fun i j => .bl (decide (j < i))) (hv_var (i := 1) rfl) hv_c)) (fun _ => ?_) (fun hz => ?_)) fun v H2 e2 p => k v H2 (e.trans e2) p
      · have l := hv_lcT (te := tOp (rI CDivW fun i j => .int (i / j)) (tVar 2) (tVar 1)) (j := 2) (vs := [2]) hx (fun _ => rfl) (by show 2 ≤ 1000; decide) (v := fun i => .int ((if i = 0 then n else m) / K74.gd n m)) ?_
        · exact hv_tupL (xs := [.int (K74.fr n m).1, .int (K74.fr n m).2]) l
        · intro i z hi
          match i, hi with
          | 0, hi =>
            obtain rfl : V.int n = z := Option.some.inj hi
            exact hv_I (hv_var rfl) (hv_var rfl) (okM_g ok)
          | 1, hi =>
            obtain rfl : V.int m = z := Option.some.inj hi
            exact hv_I (hv_var rfl) (hv_var rfl) (okM_g2 ok)
          | i + 2, hi => cases hi
      · have z1 : ¬ (1 : Int) < K74.gd n m := of_decide_eq_false hz
        have g1 : K74.gd n m = 1 := by omega
        have ef : K74.fr n m = (n, m) := by
          unfold K74.fr
          rw [g1, Int.ediv_one, Int.ediv_one]
        rw [ef]
        exact hv_tupT hx
/-! ### _law_frac -/
theorem sc43 : FnScope ["_law_n", "_law_m"] ["_law_n", "_law_m"] (defScope (topS 43)) := ⟨rfl, rfl, rfl, by decide +kernel, rfl, by decide +kernel, by decide +kernel⟩
theorem bd43 : Bnd "_law_frac" (topS 43) ["_law_n", "_law_m"] := ⟨fun _ _ _ _ _ _ us hl => match us, hl with | [_, _], _ => rfl, fun _ _ _ _ _ _ us hl => match us, hl with | [_, _], _ => rfl⟩
theorem c_frac (D : DefAt K mg "_law_frac" (topS 43)) (cL : Cal P w K mg base CX0 2 "_law_thin" ["_law_some"] (spLow K)) : Cal P w K mg base CX0 3 "_law_frac" ["_law_n", "_law_m"] (spRat K) := by
  refine cal_of D sc43 bd43 ?_ ?_
  · rintro vs H Q E ⟨p, ⟨_, x, y, rfl, _⟩, _⟩
    rfl
  · intro cdv f A outer s H vs Q E hr h
    obtain ⟨⟨n, m⟩, ⟨ok, x, y, rfl, px, py⟩, k⟩ := h
    subst px py
    refine ⟨_, pss_one (ps_ret (pe_cal cL hr (by rfl) (pa_cons (pe_ifExp (pt_cmpR op_gt (pv 1) pe_int (nomark _)) (pe_tup (pa_cons (pv 0) (pa_cons (pv 1) pa_nil)))
      (pe_tup (pa_cons (pe_op op_sub pe_int (pv 0)) (pa_cons (pe_op op_sub pe_int (pv 1)) pa_nil)))) pa_nil))), ?_⟩
    refine s_ret (hv_call (n, m) ?_) fun v H1 e p => k v H1 e p
    intro H1 e Q q
    refine ha_one (P := Tup K [.int n, .int m]) (hv_if (b := true) (ht_test ((hv_I0 (hv_var rfl) hv_c).to ?_)) (fun _ => hv_pair (hv_var rfl) (hv_var rfl)) (fun z => by cases z)) H1 e Q fun vs H2 e2 z => q vs H2 e2 ⟨ok, z⟩
    intro v H' _ pv
    have e1 : decide ((0 : Int) < m) = true := decide_eq_true ok.1
    rw [e1] at pv
    exact pv
/-! ### the four operations, the side -/
theorem sc44 : FnScope ["_law_one", "_law_two"] ["_law_one", "_law_two"] (defScope (topS 44)) := ⟨rfl, rfl, rfl, by decide +kernel, rfl, by decide +kernel, by decide +kernel⟩
theorem sc45 : FnScope ["_law_one", "_law_two"] ["_law_one", "_law_two"] (defScope (topS 45)) := ⟨rfl, rfl, rfl, by decide +kernel, rfl, by decide +kernel, by decide +kernel⟩
theorem sc46 : FnScope ["_law_one", "_law_two"] ["_law_one", "_law_two"] (defScope (topS 46)) := ⟨rfl, rfl, rfl, by decide +kernel, rfl, by decide +kernel, by decide +kernel⟩
theorem sc47 : FnScope ["_law_one", "_law_two"] ["_law_one", "_law_two"] (defScope (topS 47)) := ⟨rfl, rfl, rfl, by decide +kernel, rfl, by decide +kernel, by decide +kernel⟩
theorem sc48 : FnScope ["_law_one", "_law_two", "_law_gap"] ["_law_one", "_law_two"] (defScope (topS 48)) := ⟨rfl, rfl, rfl, by decide +kernel, rfl, by decide +kernel, by decide +kernel⟩
theorem bd44 : Bnd "_law_add" (topS 44) ["_law_one", "_law_two"] := ⟨fun _ _ _ _ _ _ us hl => match us, hl with | [_, _], _ => rfl, fun _ _ _ _ _ _ us hl => match us, hl with | [_, _], _ => rfl⟩
theorem bd45 : Bnd "_law_less" (topS 45) ["_law_one", "_law_two"] := ⟨fun _ _ _ _ _ _ us hl => match us, hl with | [_, _], _ => rfl, fun _ _ _ _ _ _ us hl => match us, hl with | [_, _], _ => rfl⟩
theorem bd46 : Bnd "_law_times" (topS 46) ["_law_one", "_law_two"] := ⟨fun _ _ _ _ _ _ us hl => match us, hl with | [_, _], _ => rfl, fun _ _ _ _ _ _ us hl => match us, hl with | [_, _], _ => rfl⟩
theorem bd47 : Bnd "_law_over" (topS 47) ["_law_one", "_law_two"] := ⟨fun _ _ _ _ _ _ us hl => match us, hl with | [_, _], _ => rfl, fun _ _ _ _ _ _ us hl => match us, hl with | [_, _], _ => rfl⟩
theorem bd48 : Bnd "_law_side" (topS 48) ["_law_one", "_law_two"] := ⟨fun _ _ _ _ _ _ us hl => match us, hl with | [_, _], _ => rfl, fun _ _ _ _ _ _ us hl => match us, hl with | [_, _], _ => rfl⟩
theorem c_lAdd (D : DefAt K mg "_law_add" (topS 44)) (cR : Cal P w K mg base CX0 3 "_law_frac" ["_law_n", "_law_m"] (spRat K)) : Cal P w K mg base CX0 4 "_law_add" ["_law_one", "_law_two"] (spBin K C2 K74.addF) := by
  refine cal_of D sc44 bd44 ?_ ?_
  · rintro vs H Q E ⟨p, ⟨_, x, y, rfl, _⟩, _⟩
    rfl
  · intro cdv f A outer s H vs Q E hr h
    obtain ⟨⟨p, q⟩, ⟨c, x, y, rfl, px, py⟩, k⟩ := h
    refine ⟨_, pss_one (ps_ret (pe_cal cR hr (by rfl) (pa_cons (pe_op op_add (pe_op op_mulX (pe_ix ix_tup (pv 0) pe_int (fun _ _ => rfl)) (pe_ix ix_tup (pv 1) pe_int (fun _ _ => rfl)))
      (pe_op op_mulX (pe_ix ix_tup (pv 1) pe_int (fun _ _ => rfl)) (pe_ix ix_tup (pv 0) pe_int (fun _ _ => rfl)))) (pa_cons (pe_op op_mulX (pe_ix ix_tup (pv 0) pe_int (fun _ _ => rfl)) (pe_ix ix_tup (pv 1) pe_int (fun _ _ => rfl))) pa_nil)))), ?_⟩
    have h0 : Hv (tVar 0) (start ["_law_one", "_law_two"] [x, y]) H (Fr K p) := hv_varP rfl mo_fr px
    have h1 : Hv (tVar 1) (start ["_law_one", "_law_two"] [x, y]) H (Fr K q) := hv_varP rfl mo_fr py
    exact s_ret (hv_rat (hv_add (hv_mul (hv_p0 h0) (hv_p1 h1) c.s1 c.s4) (hv_mul (hv_p0 h1) (hv_p1 h0) c.s3 c.s2)) (hv_mul (hv_p1 h0) (hv_p1 h1) c.s2 c.s4) (okM_mul c.p2 c.q2 c.s2 c.s4)) fun v H1 e p => k v H1 e p
theorem c_lLess (D : DefAt K mg "_law_less" (topS 45)) (cR : Cal P w K mg base CX0 3 "_law_frac" ["_law_n", "_law_m"] (spRat K)) : Cal P w K mg base CX0 4 "_law_less" ["_law_one", "_law_two"] (spBin K C2 K74.subF) := by
  refine cal_of D sc45 bd45 ?_ ?_
  · rintro vs H Q E ⟨p, ⟨_, x, y, rfl, _⟩, _⟩
    rfl
  · intro cdv f A outer s H vs Q E hr h
    obtain ⟨⟨p, q⟩, ⟨c, x, y, rfl, px, py⟩, k⟩ := h
    refine ⟨_, pss_one (ps_ret (pe_cal cR hr (by rfl) (pa_cons (pe_op op_sub (pe_op op_mulX (pe_ix ix_tup (pv 0) pe_int (fun _ _ => rfl)) (pe_ix ix_tup (pv 1) pe_int (fun _ _ => rfl)))
      (pe_op op_mulX (pe_ix ix_tup (pv 1) pe_int (fun _ _ => rfl)) (pe_ix ix_tup (pv 0) pe_int (fun _ _ => rfl)))) (pa_cons (pe_op op_mulX (pe_ix ix_tup (pv 0) pe_int (fun _ _ => rfl)) (pe_ix ix_tup (pv 1) pe_int (fun _ _ => rfl))) pa_nil)))), ?_⟩
    have h0 : Hv (tVar 0) (start ["_law_one", "_law_two"] [x, y]) H (Fr K p) := hv_varP rfl mo_fr px
    have h1 : Hv (tVar 1) (start ["_law_one", "_law_two"] [x, y]) H (Fr K q) := hv_varP rfl mo_fr py
    exact s_ret (hv_rat (hv_sub (hv_mul (hv_p0 h0) (hv_p1 h1) c.s1 c.s4) (hv_mul (hv_p0 h1) (hv_p1 h0) c.s3 c.s2)) (hv_mul (hv_p1 h0) (hv_p1 h1) c.s2 c.s4) (okM_mul c.p2 c.q2 c.s2 c.s4)) fun v H1 e p => k v H1 e p
theorem c_lTimes (D : DefAt K mg "_law_times" (topS 46)) (cR : Cal P w K mg base CX0 3 "_law_frac" ["_law_n", "_law_m"] (spRat K)) : Cal P w K mg base CX0 4 "_law_times" ["_law_one", "_law_two"] (spBin K C2 K74.mulF) := by
  refine cal_of D sc46 bd46 ?_ ?_
  · rintro vs H Q E ⟨p, ⟨_, x, y, rfl, _⟩, _⟩
    rfl
  · intro cdv f A outer s H vs Q E hr h
    obtain ⟨⟨p, q⟩, ⟨c, x, y, rfl, px, py⟩, k⟩ := h
    refine ⟨_, pss_one (ps_ret (pe_cal cR hr (by rfl) (pa_cons (pe_op op_mulX (pe_ix ix_tup (pv 0) pe_int (fun _ _ => rfl)) (pe_ix ix_tup (pv 1) pe_int (fun _ _ => rfl)))
      (pa_cons (pe_op op_mulX (pe_ix ix_tup (pv 0) pe_int (fun _ _ => rfl)) (pe_ix ix_tup (pv 1) pe_int (fun _ _ => rfl))) pa_nil)))), ?_⟩
    have h0 : Hv (tVar 0) (start ["_law_one", "_law_two"] [x, y]) H (Fr K p) := hv_varP rfl mo_fr px
    have h1 : Hv (tVar 1) (start ["_law_one", "_law_two"] [x, y]) H (Fr K q) := hv_varP rfl mo_fr py
    exact s_ret (hv_rat (hv_mul (hv_p0 h0) (hv_p0 h1) c.s1 c.s3) (hv_mul (hv_p1 h0) (hv_p1 h1) c.s2 c.s4) (okM_mul c.p2 c.q2 c.s2 c.s4)) fun v H1 e p => k v H1 e p
theorem c_lOver (D : DefAt K mg "_law_over" (topS 47)) (cR : Cal P w K mg base CX0 3 "_law_frac" ["_law_n", "_law_m"] (spRat K)) : Cal P w K mg base CX0 4 "_law_over" ["_law_one", "_law_two"] (spBin K C3 K74.divF) := by
  refine cal_of D sc47 bd47 ?_ ?_
  · rintro vs H Q E ⟨p, ⟨_, x, y, rfl, _⟩, _⟩
    rfl
  · intro cdv f A outer s H vs Q E hr h
    obtain ⟨⟨p, q⟩, ⟨c, x, y, rfl, px, py⟩, k⟩ := h
    refine ⟨_, pss_one (ps_ret (pe_cal cR hr (by rfl) (pa_cons (pe_op op_mulX (pe_ix ix_tup (pv 0) pe_int (fun _ _ => rfl)) (pe_ix ix_tup (pv 1) pe_int (fun _ _ => rfl)))
      (pa_cons (pe_op op_mulX (pe_ix ix_tup (pv 0) pe_int (fun _ _ => rfl)) (pe_ix ix_tup (pv 1) pe_int (fun _ _ => rfl))) pa_nil)))), ?_⟩
    have h0 : Hv (tVar 0) (start ["_law_one", "_law_two"] [x, y]) H (Fr K p) := hv_varP rfl mo_fr px
    have h1 : Hv (tVar 1) (start ["_law_one", "_law_two"] [x, y]) H (Fr K q) := hv_varP rfl mo_fr py
    exact s_ret (hv_rat (hv_mul (hv_p0 h0) (hv_p1 h1) c.s1 c.s4) (hv_mul (hv_p1 h0) (hv_p0 h1) c.s2 c.s3) (okM_mul c.p2 c.q1 c.s2 c.s3)) fun v H1 e p => k v H1 e p
def gap (p q : K74.Q2) : Int := p.1 * q.2 - q.1 * p.2
def side (p q : K74.Q2) : Int := if gap p q > 0 then 1 else if gap p q < 0 then -1 else 0
abbrev spSide (K : PySem.W.Frag) : Sp := spP (fun pq : K74.Q2 × K74.Q2 => fun vs H => C2 pq.1 pq.2 ∧ Two (Fr K pq.1) (Fr K pq.2) vs H) (fun pq => Is (.int (side pq.1 pq.2)))
theorem c_side (D : DefAt K mg "_law_side" (topS 48)) : Cal P w K mg base CX0 1 "_law_side" ["_law_one", "_law_two"] (spSide K) := by
  refine cal_of D sc48 bd48 ?_ ?_
  · rintro vs H Q E ⟨p, ⟨_, x, y, rfl, _⟩, _⟩
    rfl
  · intro cdv f A outer s H vs Q E hr h
    obtain ⟨⟨p, q⟩, ⟨c, x, y, rfl, px, py⟩, k⟩ := h
    refine ⟨_, pss_cons (L2.ps_set (i := 2) sc48.nd rfl (Or.inl rfl) (pe_op op_sub (pe_op op_mulX (pe_ix ix_tup (pv 0) pe_int (fun _ _ => rfl)) (pe_ix ix_tup (pv 1) pe_int (fun _ _ => rfl)))
      (pe_op op_mulX (pe_ix ix_tup (pv 1) pe_int (fun _ _ => rfl)) (pe_ix ix_tup (pv 0) pe_int (fun _ _ => rfl)))))
      (pss_one (ps_ret (pe_ifExp (pt_cmpR op_gt (pv 2) pe_int (nomark _)) pe_int (pe_ifExp (pt_cmpR op_lt (pv 2) pe_int (nomark _)) (pe_un un_neg pe_int) pe_int)))), ?_⟩
    have h0 : Hv (tVar 0) (start ["_law_one", "_law_two", "_law_gap"] [x, y]) H (Fr K p) := hv_varP rfl mo_fr px
    have h1 : Hv (tVar 1) (start ["_law_one", "_law_two", "_law_gap"] [x, y]) H (Fr K q) := hv_varP rfl mo_fr py
    refine Kx.s_set (hv_sub (hv_mul (hv_p0 h0) (hv_p1 h1) c.s1 c.s4) (hv_mul (hv_p0 h1) (hv_p1 h0) c.s3 c.s2)) ?_
    intro v H1 e1 pv
    obtain rfl : v = .int (gap p q) := pv
    refine s_ret (σ := [some x, some y, some (.int (gap p q))]) (P := Is (.int (side p q))) (hv_if (ht_test (hv_I0 (g := fun i j => .bl (decide (j < i))) (hv_var (i := 2) rfl) hv_c)) (fun hz => ?_)
      (fun hz => hv_if (ht_test (hv_I0 (g := fun i j => .bl (decide (i < j))) (hv_var (i := 2) rfl) hv_c)) (fun hy => ?_) (fun hy => ?_))) fun v H2 e2 p => k v H2 (e1.trans e2) p
    · have e : side p q = 1 := if_pos (of_decide_eq_true hz)
      rw [e]
      exact hv_c
    · have e : side p q = -1 := by
        unfold side
        rw [if_neg (of_decide_eq_false hz), if_pos (of_decide_eq_true hy)]
      rw [e]
      exact hv_neg hv_c
    · have e : side p q = 0 := by
        unfold side
        rw [if_neg (of_decide_eq_false hz), if_neg (of_decide_eq_false hy)]
      rw [e]
      exact hv_c
end
end Kx

/-! The law's draws: a list of three numbers that each draw changes. -/
namespace Kx
open PySem PySem.Spec PyProof.Rows L2
/-- the tap at t -/
def TapAt (H : Hp) (t : Addr) : Prop := ∃ a b c : Int, H t = some (.lst [.int a, .int b, .int c]) ∧ 0 ≤ b ∧ b < 2147483549
/-- all but what stands at t is as it was -/
def SameBut (t : Addr) (H H' : Hp) : Prop := ∀ b o, b ≠ t → H b = some o → H' b = some o
theorem SameBut.refl {t : Addr} {H : Hp} : SameBut t H H := fun _ _ _ h => h
theorem SameBut.trans {t : Addr} {H H1 H2 : Hp} (a : SameBut t H H1) (b : SameBut t H1 H2) : SameBut t H H2 := fun x o n h => b x o n (a x o n h)
theorem but_of {t : Addr} {H H' : Hp} (h : Same H H') : SameBut t H H' := fun b o _ e => h b o e
theorem but_upd {t : Addr} {H : Hp} {o : HO} : SameBut t H (upd H t o) := fun b u n h => by
  rw [upd_ne n]
  exact h
theorem but_new {t p : Addr} {H : Hp} {o : HO} (h : H p = none) : SameBut t H (upd H p o) := but_of (same_new h)
theorem TapAt.same {H H' : Hp} {t : Addr} (h : TapAt H t) (e : Same H H') : TapAt H' t := by
  obtain ⟨a, b, c, h, r⟩ := h
  exact ⟨a, b, c, e _ _ h, r⟩
/-- a tuple is not the list at t -/
theorem sqT_but {K : PySem.W.Frag} {H H' : Hp} {t a : Addr} {xs ys : List V} (h : SqT K H a xs) (ht : H t = some (.lst ys)) (e : SameBut t H H') : SqT K H' a xs := by
  rcases h with (h | ⟨o, h⟩) | h
  · refine .inl (.inl (e _ _ ?_ h))
    exact ne_of h ht (by intro z; cases z)
  · refine .inl (.inr ⟨o, e _ _ ?_ h⟩)
    exact ne_of h ht (by intro z; cases z)
  · exact .inr h
theorem fr_but {K : PySem.W.Frag} {H H' : Hp} {t : Addr} {p : K74.Q2} {v : V} {ys : List V} (h : Fr K p v H) (ht : H t = some (.lst ys)) (e : SameBut t H H') : Fr K p v H' := by
  obtain ⟨a, rfl, s⟩ := h
  exact ⟨a, rfl, sqT_but s ht e⟩
theorem fr_tap {K : PySem.W.Frag} {H H' : Hp} {t : Addr} {p : K74.Q2} {v : V} (h : Fr K p v H) (ht : TapAt H t) (e : SameBut t H H') : Fr K p v H' := by
  obtain ⟨a, b, c, ht, _⟩ := ht
  exact fr_but h ht e
/-- any whole number -/
def AnI : VP := fun v _ => ∃ i : Int, v = .int i
theorem mo_ani : Mo AnI := fun _ _ _ _ h => h
section
variable {P : Program} {w : World} {K : PySem.W.Frag} {mg : PySem.Str → Option Value} {base : Heap}
/-! ### _law_drop -/
def spDrop : Sp := fun vs H Q _ => ∃ (t : Addr) (top : Int), vs = [.ref t, .int top] ∧ TapAt H t ∧ 1 ≤ top ∧ top ≤ 1000 ∧ ∀ d H', SameBut t H H' → TapAt H' t → 0 ≤ d → d < top → Q (.int d) H'
theorem sc39 : FnScope ["_law_tap_here", "_law_top", "_law_digit", "_law_factor2"] ["_law_tap_here", "_law_top"] (defScope (topS 39)) := ⟨rfl, rfl, rfl, by decide +kernel, rfl, by decide +kernel, by decide +kernel⟩
theorem bd39 : Bnd "_law_drop" (topS 39) ["_law_tap_here", "_law_top"] := ⟨fun _ _ _ _ _ _ us hl => match us, hl with | [_, _], _ => rfl, fun _ _ _ _ _ _ us hl => match us, hl with | [_, _], _ => rfl⟩
theorem ix0 {a b c : V} : atI [a, b, c] 0 = some a := atI_nat (j := 0) rfl
theorem ix1 {a b c : V} : atI [a, b, c] 1 = some b := atI_nat (j := 1) rfl
theorem ix2 {a b c : V} : atI [a, b, c] 2 = some c := atI_nat (j := 2) rfl
theorem divP {i j : Int} (h0 : 1 ≤ j) (h1 : j ≤ 1000) : CDivP i j := by
  refine ⟨by omega, ?_⟩
  have l : j.natAbs.log2 < 10 := PySem.Flt.log2_lt_of (by decide) (show j.natAbs < 2 ^ 10 by omega)
  have nz : ¬ (j == 0) = true := by
    intro z
    have := beq_iff_eq.mp z
    omega
  unfold Builtin.divisionGoesByPylong
  simp only [if_neg nz]
  have f : ¬ (j.natAbs.log2 / 30 + 1 > 300) := by omega
  simp [f]
theorem c_drop (T : Top K mg) (D : DefAt K mg "_law_drop" (topS 39)) : Cal P w K mg base CX0 1 "_law_drop" ["_law_tap_here", "_law_top"] spDrop := by
  refine cal_of D sc39 bd39 ?_ ?_
  · rintro vs H Q E ⟨t, top, rfl, _⟩
    rfl
  · intro cdv f A outer s H vs Q E hr h
    obtain ⟨t, top, rfl, ⟨a, b, c, ht, b0, b1⟩, t1, t2, k⟩ := h
    refine ⟨_, pss_cons (ps_if (pt_cmpR op_gt (pe_ix ix_list (pv 0) pe_int (fun _ _ => rfl)) pe_int (nomark _))
        (pss_cons (ps_asg (pe_callB call_divmodW (by rfl) T.divmod (by decide +kernel) (pa_cons (pe_ix ix_list (pv 0) pe_int (fun _ _ => rfl)) (pa_cons (pv 1) pa_nil)))
          (pg_tup rfl (pgs_cons (pg_sub (pv 0) pe_int set_list) (pgs_cons (pg_name (i := 2) sc39.nd rfl (Or.inl rfl)) pgs_nil)))) (pss_one (ps_ret (pv 2)))) pss_nil)
      (pss_cons (ps_asg (pe_op op_add (pe_ix ix_list (pv 0) pe_int (fun _ _ => rfl)) pe_int) (pg_sub (pv 0) pe_int set_list))
      (pss_cons (L2.ps_set (i := 3) sc39.nd rfl (Or.inl rfl) (pe_op op_add pe_int (pe_op op_mul pe_int (pe_callTy call_int1 (by rfl) T.int (by decide +kernel) (pa_cons (pe_ix ix_list (pv 0) pe_int (fun _ _ => rfl)) pa_nil)))))
      (pss_cons (ps_asg (pe_op op_mod (pe_callTy call_int1 (by rfl) T.int (by decide +kernel) (pa_cons (pe_op op_add (pe_op op_add (pe_op op_mul (pe_ix ix_list (pv 0) pe_int (fun _ _ => rfl)) (pv 3))
          (pe_op op_mul pe_int (pe_ix ix_list (pv 0) pe_int (fun _ _ => rfl)))) pe_int) pa_nil)) pe_int) (pg_sub (pv 0) pe_int set_list))
      (pss_one (ps_ret (pe_op op_mod (pe_callTy call_int1 (by rfl) T.int (by decide +kernel) (pa_cons (pe_op op_fdiv (pe_ix ix_list (pv 0) pe_int (fun _ _ => rfl)) pe_int) pa_nil)) (pv 1))))))), ?_⟩
    have sq : SqL K H t [.int a, .int b, .int c] := .inl (.inl ht)
    refine ⟨.ref t, rfl, t, _, 0, .int a, rfl, rfl, sq, ix0, a, 0, rfl, rfl, _, rfl, ite2 (fun ha => ?_) (fun ha => ?_)⟩
    · refine ⟨.ref t, rfl, t, _, 0, .int a, rfl, rfl, sq, ix0, .int top, rfl, a, top, rfl, divP t1 t2, fun p hp => ?_⟩
      have npt : t ≠ p := ne_of_none ht hp
      have ht1 : upd H p (.tup [.int (a / top), .int (a % top)]) t = some (.lst [.int a, .int b, .int c]) := by
        rw [upd_ne npt]
        exact ht
      refine ⟨p, [.int (a / top), .int (a % top)], rfl, .inl (.inl upd_same), rfl, .int (a / top), [.int (a % top)], rfl, .ref t, rfl, t, _, 0, 0, rfl, rfl, ht1, rfl, .int (a % top), [], rfl, rfl, ?_⟩
      refine ⟨.int (a % top), rfl, ?_⟩
      refine k _ _ ((but_new hp).trans but_upd) ⟨_, b, c, upd_same, b0, b1⟩ (Int.emod_nonneg a (by omega)) (Int.emod_lt_of_pos a (by omega))
    · refine ⟨.ref t, rfl, t, _, 2, .int c, rfl, rfl, sq, ix2, c, 1, rfl, rfl, .ref t, rfl, t, _, 2, 2, rfl, rfl, ht, rfl, ?_⟩
      show tSeq _ _ _ _ (upd H t (.lst [.int a, .int b, .int (c + 1)]))
      have h1 : upd H t (.lst [.int a, .int b, .int (c + 1)]) t = some (.lst [.int a, .int b, .int (c + 1)]) := upd_same
      have s1 : SqL K (upd H t (.lst [.int a, .int b, .int (c + 1)])) t [.int a, .int b, .int (c + 1)] := .inl (.inl h1)
      refine ⟨.ref t, rfl, t, _, 2, .int (c + 1), rfl, rfl, s1, ix2, .inl ⟨c + 1, rfl, 4, c + 1, rfl, rfl, .inl (by decide), 25117, 4 * (c + 1), rfl, rfl, ?_⟩⟩
      have m : (-(2 ^ 64) < b ∧ b < 2 ^ 64) := by omega
      refine ⟨.ref t, rfl, t, _, 1, .int b, rfl, rfl, s1, ix1, .int (25117 + 4 * (c + 1)), rfl, b, 25117 + 4 * (c + 1), rfl, rfl, .inl m, .ref t, rfl, t, _, 2, .int (c + 1), rfl, rfl, s1, ix2, 60029, c + 1, rfl, rfl, .inl (by decide), _, _, rfl, rfl, _, 7, rfl, rfl,
        .inl ⟨_, rfl, _, 2147483549, rfl, rfl, (by show (0 : Int) < 2147483549; decide), .ref t, rfl, t, _, 1, 1, rfl, rfl, h1, rfl, ?_⟩⟩
      have z0 : 0 ≤ (b * (25117 + 4 * (c + 1)) + 60029 * (c + 1) + 7) % 2147483549 := Int.emod_nonneg _ (by decide)
      have z1 : (b * (25117 + 4 * (c + 1)) + 60029 * (c + 1) + 7) % 2147483549 < 2147483549 := Int.emod_lt_of_pos _ (by decide)
      have h2 : upd (upd H t (.lst [.int a, .int b, .int (c + 1)])) t (.lst [.int a, .int ((b * (25117 + 4 * (c + 1)) + 60029 * (c + 1) + 7) % 2147483549), .int (c + 1)]) t = some (.lst [.int a, .int ((b * (25117 + 4 * (c + 1)) + 60029 * (c + 1) + 7) % 2147483549), .int (c + 1)]) := upd_same
      refine ⟨.ref t, rfl, t, _, 1, .int ((b * (25117 + 4 * (c + 1)) + 60029 * (c + 1) + 7) % 2147483549), rfl, rfl, .inl (.inl h2), ix1, (b * (25117 + 4 * (c + 1)) + 60029 * (c + 1) + 7) % 2147483549, 71, rfl, rfl, (by show (0 : Int) < 71 ∧ (71 : Int) < 1073741824; decide), .inl ⟨_, rfl, .int top, rfl, _, top, rfl, rfl, by omega, ?_⟩⟩
      exact k _ _ (but_upd.trans but_upd) ⟨a, _, c + 1, h2, z0, z1⟩ (Int.emod_nonneg _ (by omega)) (Int.emod_lt_of_pos _ (by omega))
/-! ### _law_of -/
def spOf (K : PySem.W.Frag) : Sp := fun vs H Q _ => ∃ (t l : Addr) (xs : List V), vs = [.ref t, .ref l] ∧ l ≠ t ∧ TapAt H t ∧ H l = some (.lst xs) ∧ 1 ≤ xs.length ∧ xs.length ≤ 1000 ∧ ∀ (x : V) H', x ∈ xs → SameBut t H H' → TapAt H' t → Q x H'
theorem sc40 : FnScope ["_law_tap_here", "_law_some"] ["_law_tap_here", "_law_some"] (defScope (topS 40)) := ⟨rfl, rfl, rfl, by decide +kernel, rfl, by decide +kernel, by decide +kernel⟩
theorem bd40 : Bnd "_law_of" (topS 40) ["_law_tap_here", "_law_some"] := ⟨fun _ _ _ _ _ _ us hl => match us, hl with | [_, _], _ => rfl, fun _ _ _ _ _ _ us hl => match us, hl with | [_, _], _ => rfl⟩
theorem c_of (T : Top K mg) (D : DefAt K mg "_law_of" (topS 40)) (cD : Cal P w K mg base CX0 1 "_law_drop" ["_law_tap_here", "_law_top"] spDrop) : Cal P w K mg base CX0 2 "_law_of" ["_law_tap_here", "_law_some"] (spOf K) := by
  refine cal_of D sc40 bd40 ?_ ?_
  · rintro vs H Q E ⟨t, l, xs, rfl, _⟩
    rfl
  · intro cdv f A outer s H vs Q E hr h
    obtain ⟨t, l, xs, rfl, nl, tap, hl, l1, l2, k⟩ := h
    refine ⟨_, pss_one (ps_ret (pe_ix ix_list (pv 1) (pe_cal cD hr (by rfl) (pa_cons (pv 0) (pa_cons (pe_callB call_len_seq (by rfl) T.len PySem.boot_len (pa_cons (pv 1) pa_nil)) pa_nil))) (fun _ _ => rfl))), ?_⟩
    refine ⟨.ref l, rfl, .ref t, rfl, .ref l, rfl, l, xs, rfl, .inl (.inl (.inl hl)), t, xs.length, rfl, tap, by omega, by omega, fun d H' sb tp d0 d1 => ?_⟩
    have hd : d.toNat < xs.length := by omega
    have ed : (d.toNat : Int) = d := Int.toNat_of_nonneg d0
    refine ⟨l, xs, d, xs[d.toNat], rfl, rfl, .inl (.inl (sb l _ nl hl)), at_of ed.symm (List.getElem?_eq_getElem hd), k _ H' (List.getElem_mem hd) sb tp⟩
/-! ### _law_amount -/
/-- a draw's fraction -/
structure Drw (p : K74.Q2) : Prop where
  ex : ∃ n m : Int, 1 ≤ n ∧ n ≤ 400 ∧ 1 ≤ m ∧ m ≤ 400 ∧ p = K74.fr n m
theorem fac_of {p : K74.Q2} (h : Drw p) : K74.Fac p := by
  obtain ⟨n, m, n1, n2, m1, m2, rfl⟩ := h.ex
  obtain ⟨a, b⟩ := K74.fr_le (n := n) (m := m) (by omega) (by omega)
  exact ⟨K74.fr1_pos (by omega) (by omega), K74.fr2_pos (by omega), by omega, by omega, K74.fr_red (by omega)⟩
def spAm (K : PySem.W.Frag) : Sp := fun vs H Q _ => ∃ t : Addr, vs = [.ref t] ∧ TapAt H t ∧ ∀ (v : V) (p : K74.Q2) H', Drw p → Fr K p v H' → SameBut t H H' → TapAt H' t → Q v H'
theorem sc49 : FnScope ["_law_tap_here", "_law_top", "_law_low2"] ["_law_tap_here"] (defScope (topS 49)) := ⟨rfl, rfl, rfl, by decide +kernel, rfl, by decide +kernel, by decide +kernel⟩
theorem bd49 : Bnd "_law_amount" (topS 49) ["_law_tap_here"] := ⟨fun _ _ _ _ _ _ us hl => match us, hl with | [_], _ => rfl, fun _ _ _ _ _ _ us hl => match us, hl with | [_], _ => rfl⟩
theorem okM_small {m : Int} (h0 : 1 ≤ m) (h1 : m ≤ 1000) : okM m := by
  refine ⟨by omega, ?_⟩
  have l : (2 : Nat) ^ 10 ≤ 2 ^ 8000 := Nat.pow_le_pow_right (by decide) (by decide)
  have e : (2 : Nat) ^ 10 = 1024 := by decide
  rw [e] at l
  generalize (2 : Nat) ^ 8000 = u at *
  omega
theorem c_am (D : DefAt K mg "_law_amount" (topS 49)) (cD : Cal P w K mg base CX0 1 "_law_drop" ["_law_tap_here", "_law_top"] spDrop) (cO : Cal P w K mg base CX0 2 "_law_of" ["_law_tap_here", "_law_some"] (spOf K))
    (cR : Cal P w K mg base CX0 3 "_law_frac" ["_law_n", "_law_m"] (spRat K)) : Cal P w K mg base CX0 4 "_law_amount" ["_law_tap_here"] (spAm K) := by
  refine cal_of D sc49 bd49 ?_ ?_
  · rintro vs H Q E ⟨t, rfl, _⟩
    rfl
  · intro cdv f A outer s H vs Q E hr h
    obtain ⟨t, rfl, tap, k⟩ := h
    have hr1 : Room 1 _ := hr.mono (by decide)
    have hr2 : Room 2 _ := hr.mono (by decide)
    refine ⟨_, pss_cons (ps_par (i := 1) (j := 2) rfl sc49.nd rfl rfl (by decide) rfl rfl
        (pa_cons (pe_cal cO hr2 (by rfl) (pa_cons (pv 0) (pa_cons (pe_lst (pa_cons pe_int (pa_cons pe_int (pa_cons pe_int (pa_cons pe_int (pa_cons pe_int (pa_cons pe_int pa_nil))))))) pa_nil)))
          (pa_cons (pe_cal cO hr2 (by rfl) (pa_cons (pv 0) (pa_cons (pe_lst (pa_cons pe_int (pa_cons pe_int (pa_cons pe_int (pa_cons pe_int (pa_cons pe_int (pa_cons pe_int pa_nil))))))) pa_nil))) pa_nil)) (by rfl))
      (pss_one (ps_ret (pe_cal cR hr (by rfl) (pa_cons (pe_op op_add pe_int (pe_cal cD hr1 (by rfl) (pa_cons (pv 0) (pa_cons (pv 1) pa_nil)))) (pa_cons (pe_op op_add pe_int (pe_cal cD hr1 (by rfl) (pa_cons (pv 0) (pa_cons (pv 2) pa_nil)))) pa_nil))))), ?_⟩
    obtain ⟨ta, tb, tc, ht, _⟩ := id tap
    refine ⟨.ref t, rfl, small_line (by show 6 ≤ 1000; decide), fun l hl => ?_⟩
    refine ⟨t, l, _, rfl, (ne_of_none ht hl).symm, tap.same (same_new hl), upd_same, by decide, by decide, fun x H1 hx s1 tap1 => ?_⟩
    obtain ⟨n, rfl, n1, n2⟩ : ∃ n : Int, x = .int n ∧ 1 ≤ n ∧ n ≤ 400 := by
      simp only [List.mem_cons, List.not_mem_nil, or_false] at hx
      rcases hx with rfl | rfl | rfl | rfl | rfl | rfl <;> exact ⟨_, rfl, by decide, by decide⟩
    obtain ⟨ta1, tb1, tc1, ht1, _⟩ := id tap1
    refine ⟨.ref t, rfl, small_line (by show 6 ≤ 1000; decide), fun l2 hl2 => ?_⟩
    refine ⟨t, l2, _, rfl, (ne_of_none ht1 hl2).symm, tap1.same (same_new hl2), upd_same, by decide, by decide, fun y H2 hy s2 tap2 => ?_⟩
    obtain ⟨m, rfl, m1, m2⟩ : ∃ n : Int, y = .int n ∧ 1 ≤ n ∧ n ≤ 400 := by
      simp only [List.mem_cons, List.not_mem_nil, or_false] at hy
      rcases hy with rfl | rfl | rfl | rfl | rfl | rfl <;> exact ⟨_, rfl, by decide, by decide⟩
    refine ⟨.int n, .int m, rfl, ?_⟩
    refine ⟨.ref t, rfl, .int n, rfl, t, n, rfl, tap2, n1, by omega, fun d1 H3 s3 tap3 d10 d11 => ⟨1, d1, rfl, rfl, .ref t, rfl, .int m, rfl, t, m, rfl, tap3, m1, by omega, fun d2 H4 s4 tap4 d20 d21 => ⟨1, d2, rfl, rfl, ?_⟩⟩⟩
    refine ⟨(1 + d1, 1 + d2), ⟨okM_small (by show 1 ≤ 1 + d2; omega) (by show 1 + d2 ≤ 1000; omega), .int (1 + d1), .int (1 + d2), rfl, rfl, rfl⟩, fun v H5 s5 fv => ?_⟩
    have sb : SameBut t H H5 := ((((((but_new hl).trans s1).trans (but_new hl2)).trans s2).trans s3).trans s4).trans (but_of s5)
    exact k v _ H5 ⟨1 + d1, 1 + d2, by omega, by omega, by omega, by omega, rfl⟩ fv sb (tap4.same s5)
/-! ### _law_inner -/
structure DrwI (p : K74.Q2) : Prop where
  ex : ∃ n m : Int, 1 ≤ n ∧ n < m ∧ m ≤ 401 ∧ p = K74.fr n m
theorem inn_of {p : K74.Q2} (h : DrwI p) : K74.Inn p := by
  obtain ⟨n, m, n1, n2, m2, rfl⟩ := h.ex
  exact K74.fr_inn (k := 1) (by decide) (by omega) n2 (by show m ≤ 1024; omega)
def spIn (K : PySem.W.Frag) : Sp := fun vs H Q _ => ∃ t : Addr, vs = [.ref t] ∧ TapAt H t ∧ ∀ (v : V) (p : K74.Q2) H', DrwI p → Fr K p v H' → SameBut t H H' → TapAt H' t → Q v H'
theorem sc50 : FnScope ["_law_tap_here", "_law_under"] ["_law_tap_here"] (defScope (topS 50)) := ⟨rfl, rfl, rfl, by decide +kernel, rfl, by decide +kernel, by decide +kernel⟩
theorem bd50 : Bnd "_law_inner" (topS 50) ["_law_tap_here"] := ⟨fun _ _ _ _ _ _ us hl => match us, hl with | [_], _ => rfl, fun _ _ _ _ _ _ us hl => match us, hl with | [_], _ => rfl⟩
theorem c_in (D : DefAt K mg "_law_inner" (topS 50)) (cD : Cal P w K mg base CX0 1 "_law_drop" ["_law_tap_here", "_law_top"] spDrop) (cO : Cal P w K mg base CX0 2 "_law_of" ["_law_tap_here", "_law_some"] (spOf K))
    (cR : Cal P w K mg base CX0 3 "_law_frac" ["_law_n", "_law_m"] (spRat K)) : Cal P w K mg base CX0 4 "_law_inner" ["_law_tap_here"] (spIn K) := by
  refine cal_of D sc50 bd50 ?_ ?_
  · rintro vs H Q E ⟨t, rfl, _⟩
    rfl
  · intro cdv f A outer s H vs Q E hr h
    obtain ⟨t, rfl, tap, k⟩ := h
    have hr1 : Room 1 _ := hr.mono (by decide)
    have hr2 : Room 2 _ := hr.mono (by decide)
    refine ⟨_, pss_cons (L2.ps_set (i := 1) sc50.nd rfl (Or.inl rfl) (pe_op op_add pe_int (pe_cal cD hr1 (by rfl) (pa_cons (pv 0)
        (pa_cons (pe_cal cO hr2 (by rfl) (pa_cons (pv 0) (pa_cons (pe_lst (pa_cons pe_int (pa_cons pe_int (pa_cons pe_int (pa_cons pe_int (pa_cons pe_int (pa_cons pe_int pa_nil))))))) pa_nil))) pa_nil)))))
      (pss_one (ps_ret (pe_cal cR hr (by rfl) (pa_cons (pe_op op_add pe_int (pe_cal cD hr1 (by rfl) (pa_cons (pv 0) (pa_cons (pe_op op_sub (pv 1) pe_int) pa_nil)))) (pa_cons (pv 1) pa_nil))))), ?_⟩
    obtain ⟨ta, tb, tc, ht, _⟩ := id tap
    refine ⟨.ref t, rfl, .ref t, rfl, small_line (by show 6 ≤ 1000; decide), fun l hl => ?_⟩
    refine ⟨t, l, _, rfl, (ne_of_none ht hl).symm, tap.same (same_new hl), upd_same, by decide, by decide, fun x H1 hx s1 tap1 => ?_⟩
    obtain ⟨n, rfl, n1, n2⟩ : ∃ n : Int, x = .int n ∧ 1 ≤ n ∧ n ≤ 400 := by
      simp only [List.mem_cons, List.not_mem_nil, or_false] at hx
      rcases hx with rfl | rfl | rfl | rfl | rfl | rfl <;> exact ⟨_, rfl, by decide, by decide⟩
    refine ⟨t, n, rfl, tap1, n1, by omega, fun d1 H2 s2 tap2 d10 d11 => ⟨2, d1, rfl, rfl, ?_⟩⟩
    refine ⟨.ref t, rfl, .int (2 + d1), rfl, 2 + d1, 1, rfl, rfl, t, 2 + d1 - 1, rfl, tap2, by omega, by omega, fun d2 H3 s3 tap3 d20 d21 => ⟨1, d2, rfl, rfl, .int (2 + d1), rfl, ?_⟩⟩
    refine ⟨(1 + d2, 2 + d1), ⟨okM_small (by show 1 ≤ 2 + d1; omega) (by show 2 + d1 ≤ 1000; omega), .int (1 + d2), .int (2 + d1), rfl, rfl, rfl⟩, fun v H5 s5 fv => ?_⟩
    have sb : SameBut t H H5 := ((((but_new hl).trans s1).trans s2).trans s3).trans (but_of s5)
    exact k v _ H5 ⟨1 + d2, 2 + d1, by omega, by omega, by omega, rfl⟩ fv sb (tap3.same s5)
end
end Kx

/-! _law_tap, _law_left. -/
namespace Kx
open PySem PySem.Spec PyProof.Rows L2
section
variable {P : Program} {w : World} {K : PySem.W.Frag} {mg : PySem.Str → Option Value} {base : Heap}
section
variable {σ : L2.St} {H : Hp} {ta tb te : TE}
theorem hn_I0 {g : Int → Int → Int} (ha : Hv ta σ H AnI) (hb : Hv tb σ H AnI) : Hv (tOp (rI0 fun i j => .int (g i j)) ta tb) σ H AnI :=
  hv_op ha mo_ani hb fun _ _ H1 _ ⟨i, ei⟩ ⟨j, ej⟩ _ q => ⟨i, j, ei, ej, q _ H1 (Same.refl H1) ⟨_, rfl⟩⟩
theorem hn_I {C : Int → Int → Prop} {g : Int → Int → Int} (ha : Hv ta σ H AnI) (hb : Hv tb σ H AnI) (hc : ∀ x y H1, Same H H1 → ∀ i j, x = V.int i → y = V.int j → C i j) : Hv (tOp (rI C fun i j => .int (g i j)) ta tb) σ H AnI :=
  hv_op ha mo_ani hb fun x y H1 e ⟨i, ei⟩ ⟨j, ej⟩ _ q => ⟨i, j, ei, ej, hc x y H1 e i j ei ej, q _ H1 (Same.refl H1) ⟨_, rfl⟩⟩
theorem hn_is {i : Int} (h : Hv te σ H (Is (.int i))) : Hv te σ H AnI := h.to fun _ _ _ p => ⟨i, p⟩
theorem hn_int (h : Hv ta σ H AnI) : Hv (tCB rInt (tCons ta tNil)) σ H AnI :=
  hv_cb (ha_one h) fun vs H1 e p Q q => by
    obtain ⟨x, rfl, i, rfl⟩ := p
    exact .inl ⟨i, rfl, q _ H1 (Same.refl H1) ⟨i, rfl⟩⟩
/-- % by a written number above 0: what comes lies below it -/
def Bel (m : Int) : VP := fun v _ => ∃ i : Int, v = .int i ∧ 0 ≤ i ∧ i < m
theorem mo_bel {m : Int} : Mo (Bel m) := fun _ _ _ _ h => h
theorem hn_mod {m : Int} (h0 : 0 < m) (ha : Hv ta σ H AnI) : Hv (tOp (rI (fun _ j => 0 < j) fun i j => .int (i % j)) ta (tC (.int m))) σ H (Bel m) :=
  hv_op ha mo_ani hv_c fun x y H1 e ⟨i, ei⟩ py Q q => by
    subst py
    exact ⟨i, m, ei, rfl, h0, q _ H1 (Same.refl H1) ⟨_, rfl, Int.emod_nonneg i (by omega), Int.emod_lt_of_pos i h0⟩⟩
theorem hn_bel {m : Int} (h : Hv te σ H (Bel m)) : Hv te σ H AnI := h.to fun _ _ _ ⟨i, e, _⟩ => ⟨i, e⟩
/-- a new list of whole numbers -/
def NewI (n : Nat) : VP := fun v H => ∃ (a : Addr) (ms : List Int), v = .ref a ∧ H a = some (.lst (ms.map V.int)) ∧ ms.length ≤ n
theorem mo_newi {n : Nat} : Mo (NewI n) := fun _ _ _ e ⟨a, ms, h1, h2, h3⟩ => ⟨a, ms, h1, e _ _ h2, h3⟩
theorem cut_to {ns : List Int} (k : Nat) : ∃ ms : List Int, cutV (ns.map V.int) none (some (k : Int)) = ms.map V.int ∧ ms.length ≤ k := by
  refine ⟨ns.take (min k ns.length), ?_, ?_⟩
  · unfold cutV
    rw [HT.sIx_none, HT.sIx_nat, List.drop_zero, List.length_map, Nat.sub_zero, ← List.map_take]
  · rw [List.length_take]
    omega
theorem hn_cut {ns : List Int} {th : TO} (k : Nat) (ha : Hv ta σ H (Lst K (ns.map V.int))) : Hv (tSl (rSlL K) ta tNoPart (tPart (tC (.int (k : Int))))) σ H (NewI k) := fun H1 e Q q =>
  ha H1 e _ fun v H2 e2 p => by
    obtain ⟨a, rfl, s⟩ := p
    obtain ⟨ms, em, l⟩ := cut_to (ns := ns) k
    refine ⟨(k : Int), rfl, a, _, rfl, s, fun p hp => q _ _ (e2.trans (same_new hp)) ⟨p, ms, rfl, ?_, l⟩⟩
    rw [em]
    exact upd_same
theorem hn_sum {n : Nat} (ha : Hv ta σ H (NewI n)) : Hv (tCB (rSum K) (tCons ta tNil)) σ H AnI :=
  hv_cb (ha_one ha) fun vs H1 e p Q q => by
    obtain ⟨x, rfl, a, ms, rfl, h, l⟩ := p
    exact ⟨a, ms, rfl, .inl (.inl h), q _ H1 (Same.refl H1) ⟨_, rfl⟩⟩
end
/-! ### _law_tap -/
def spTap (K : PySem.W.Frag) : Sp := fun vs H Q _ => ∃ (a : Addr) (ns : List Int) (turn : Nat), vs = [.ref a, .int (turn : Int)] ∧ SqL K H a (ns.map V.int) ∧ turn ≤ 1 ∧ ∀ t H', Same H H' → H t = none → TapAt H' t → Q (.ref t) H'
theorem sc38 : FnScope ["_law_script", "_law_turn", "_law_own", "_law_mixed", "_law_each"] ["_law_script", "_law_turn"] (defScope (topS 38)) := ⟨rfl, rfl, rfl, by decide +kernel, rfl, by decide +kernel, by decide +kernel⟩
theorem bd38 : Bnd "_law_tap" (topS 38) ["_law_script", "_law_turn"] := ⟨fun _ _ _ _ _ _ us hl => match us, hl with | [_, _], _ => rfl, fun _ _ _ _ _ _ us hl => match us, hl with | [_, _], _ => rfl⟩
theorem c_tap (T : Top K mg) (D : DefAt K mg "_law_tap" (topS 38)) : Cal P w K mg base CX0 1 "_law_tap" ["_law_script", "_law_turn"] (spTap K) := by
  refine cal_of D sc38 bd38 ?_ ?_
  · rintro vs H Q E ⟨a, ns, turn, rfl, _⟩
    rfl
  · intro cdv f A outer s H vs Q E hr h
    obtain ⟨a, ns, turn, rfl, sq, tl, k⟩ := h
    refine ⟨_, pss_cons (L2.ps_set (i := 2) sc38.nd rfl (Or.inl rfl) (pe_ifExp (pt_cmpR op_lt (pv 1) (pe_callB call_len_seq (by rfl) T.len PySem.boot_len (pa_cons (pv 0) pa_nil)) (nomark _))
        (pe_callTy call_int1 (by rfl) T.int (by decide +kernel) (pa_cons (pe_ix ix_list (pv 0) (pv 1) (fun _ _ => rfl)) pa_nil))
        (pe_op op_add (pe_op op_add (pe_op op_mul pe_int (pv 1)) pe_int) (pe_op op_mod (pe_callTy call_int1 (by rfl) T.int (by decide +kernel) (pa_cons (pe_callB (cr_sum rfl) (by rfl) T.sum (by decide +kernel) (pa_cons (pe_slice sl_list (pv 0) po_none (po_some pe_int)) pa_nil)) pa_nil)) pe_int))))
      (pss_cons (L2.ps_set (i := 3) sc38.nd rfl (Or.inl rfl) (pe_op op_add pe_int (pe_op op_mul pe_int (pv 1))))
      (pss_cons (ps_for PassesOwn.never rfl (pi_list (pe_op op_cat (pe_slice sl_list (pv 0) po_none (po_some pe_int)) (pe_lst (pa_cons (pv 2) pa_nil)))) (pg_name (i := 4) sc38.nd rfl (Or.inl rfl))
        (pss_one (L2.ps_set (i := 3) sc38.nd rfl (Or.inl rfl) (pe_op op_mod (pe_callTy call_int1 (by rfl) T.int (by decide +kernel) (pa_cons (pe_op op_add (pe_op op_add (pe_op op_mul (pv 3) pe_int)
          (pe_op op_mod (pe_callTy call_int1 (by rfl) T.int (by decide +kernel) (pa_cons (pv 4) pa_nil)) pe_int)) pe_int) pa_nil)) pe_int))))
      (pss_one (ps_ret (pe_lst (pa_cons (pe_ifExp (pw_or (pt_cmpR op_lt (pv 2) pe_int (nomark _)) (pw_or1 (pt_cmpR op_ge (pv 2) (pe_op op_pow pe_int pe_int) (nomark _)))).pt
        (pe_callB call_abs (by rfl) T.abs (by decide +kernel) (pa_cons (pv 2) pa_nil)) pe_int) (pa_cons (pv 3) (pa_cons pe_int pa_nil)))))))), ?_⟩
    have h0 : ∀ {σ : L2.St} {H1 : Hp}, σ[0]? = some (some (.ref a)) → Same H H1 → Hv (tVar 0) σ H1 (Lst K (ns.map V.int)) := fun hi e => hv_varP hi mo_lst ⟨a, rfl, sqL_mo e sq⟩
    -- the own number
    refine Kx.s_set (P := AnI) ?_ ?_
    · have hl := h0 (σ := start ["_law_script", "_law_turn", "_law_own", "_law_mixed", "_law_each"] [.ref a, .int (turn : Int)]) rfl (Same.refl H)
      refine hv_if (ht_test (hv_I0 (g := fun i j => .bl (decide (i < j))) (hv_var (i := 1) rfl) (hv_lenL hl))) (fun hz => ?_) (fun hz => ?_)
      · have lt : (turn : Int) < ((ns.map V.int).length : Int) := of_decide_eq_true hz
        rw [List.length_map] at lt
        have lt' : turn < ns.length := by omega
        have at_ : atI (ns.map V.int) (turn : Int) = some (.int ns[turn]) := by
          refine atI_nat ?_
          rw [List.getElem?_map, List.getElem?_eq_getElem lt']
          rfl
        exact hn_int (hn_is (hv_ixL hl (hv_var (i := 1) rfl) at_))
      · have m : Hv (tOp (rI CMul fun i j => .int (i * j)) (tC (.int 8513)) (tVar 1)) (start ["_law_script", "_law_turn", "_law_own", "_law_mixed", "_law_each"] [.ref a, .int (turn : Int)]) H AnI :=
          hn_is (hv_I (g := fun i j => .int (i * j)) hv_c (hv_var (i := 1) rfl) (.inl (by decide)))
        exact hn_I0 (hn_I0 m (hn_is hv_c)) (hn_bel (hn_mod (by decide) (hn_int (hn_sum (hn_cut (th := tNoPart) 3 hl)))))
    rintro v H1 e1 ⟨own, rfl⟩
    -- the mixed number's start
    refine Kx.s_set (P := Bel 2147483549) ?_ ?_
    · refine (hv_I0 (g := fun i j => .int (i + j)) hv_c (hv_I (g := fun i j => .int (i * j)) hv_c (hv_var (i := 1) rfl) (.inl (by decide)))).to ?_
      rintro v H2 e2 rfl
      exact ⟨_, rfl, by omega, by omega⟩
    rintro v H2 e2 ⟨mx, rfl, m0, m1⟩
    have e12 := e1.trans e2
    -- the loop
    have cat : Hv (tOp rCat (tSl (rSlL K) (tVar 0) tNoPart (tPart (tC (.int 6)))) (tLst (tCons (tVar 2) tNil))) [some (.ref a), some (.int (turn : Int)), some (.int own), some (.int mx), none] H2 (NewI 7) := by
      intro H3 e3 Q q
      refine hn_cut (th := tNoPart) 6 (h0 (σ := [some (.ref a), some (.int (turn : Int)), some (.int own), some (.int mx), none]) rfl (e12.trans e3)) H3 (Same.refl H3) _ ?_
      rintro v H4 e4 ⟨b, ms, rfl, hb, lb⟩
      refine ⟨.int own, rfl, small_line (by show 1 ≤ 1000; decide), fun p hp => ?_⟩
      have nb : b ≠ p := ne_of_none hb hp
      refine ⟨b, p, ms.map V.int, [.int own], rfl, rfl, by rw [upd_ne nb]; exact hb, upd_same, small_line (by rw [List.length_map]; show ms.length + 1 ≤ 1000; omega), fun p2 hp2 => ?_⟩
      refine q _ _ ((e4.trans (same_new hp)).trans (same_new hp2)) ⟨p2, ms ++ [own], rfl, ?_, ?_⟩
      · rw [List.map_append]
        exact upd_same
      · rw [List.length_append]
        show ms.length + 1 ≤ 7
        omega
    refine cat.run ?_
    rintro v H3 e3 ⟨b, ms, rfl, hb, lb⟩
    refine ⟨b, rfl, ⟨_, .inl (.inl hb)⟩, ?_⟩
    have e13 := e12.trans e3
    refine for_list (K := K) (a := b) (xs := ms.map V.int) (fun i σ H' => Same H H' ∧ Same H3 H' ∧ ∃ m y, σ = [some (.ref a), some (.int (turn : Int)), some (.int own), some (.int m), y] ∧ 0 ≤ m ∧ m < 2147483549) ⟨e13, Same.refl H3, mx, none, rfl, m0, m1⟩ ?_ ?_ ?_
    · rintro i σ H' _ ⟨_, e, _⟩
      exact .inl (.inl (e _ _ hb))
    · rintro i y σ H' hi ⟨e, e', m, u, rfl, q0, q1⟩
      obtain ⟨n, rfl⟩ : ∃ n, y = V.int n := by
        rw [List.getElem?_map] at hi
        cases hm : ms[i]? with
        | none =>
          rw [hm] at hi
          cases hi
        | some n =>
          rw [hm] at hi
          exact ⟨n, (Option.some.inj hi).symm⟩
      have pr : Hv (tOp (rI CMul fun i j => .int (i * j)) (tVar 3) (tC (.int 52627))) [some (.ref a), some (.int (turn : Int)), some (.int own), some (.int m), some (.int n)] H' AnI :=
        hn_is (hv_I (g := fun i j => .int (i * j)) (hv_var (i := 3) rfl) hv_c (.inr (by decide)))
      have each : Hv (tVar 4) [some (.ref a), some (.int (turn : Int)), some (.int own), some (.int m), some (.int n)] H' AnI := hn_is (hv_var (i := 4) rfl)
      refine s_set1 (σ := [some (.ref a), some (.int (turn : Int)), some (.int own), some (.int m), some (.int n)]) (hn_mod (m := 2147483549) (by decide) (hn_int (hn_I0 (g := fun i j => i + j) (hn_I0 (g := fun i j => i + j) pr (hn_bel (hn_mod (m := 2147483549) (by decide) (hn_int each)))) (hn_is hv_c)))) ?_
      rintro v H5 e5 ⟨z, rfl, z0, z1⟩
      exact ⟨e.trans e5, e'.trans e5, z, _, rfl, z0, z1⟩
    · rintro σ H' ⟨e, _, m, u, rfl, q0, q1⟩
      -- the list that is handed back
      have hd : Hv (tIf (tOr (tTest (tOp (rI0 fun i j => .bl (decide (i < j))) (tVar 2) (tC (.int 0)))) (tTest (tOp (rI0 fun i j => .bl (decide (j ≤ i))) (tVar 2) (tOp (rI CPow fun i j => .int (i ^ j.toNat)) (tC (.int 10)) (tC (.int 18))))))
          (tCB rAbs (tCons (tVar 2) tNil)) (tC (.int 0))) [some (.ref a), some (.int (turn : Int)), some (.int own), some (.int m), u] H' AnI := by
        have pw : Hv (tOp (rI CPow fun i j => .int (i ^ j.toNat)) (tC (.int 10)) (tC (.int 18))) [some (.ref a), some (.int (turn : Int)), some (.int own), some (.int m), u] H' (Is (.int ((10 : Int) ^ (18 : Int).toNat))) :=
          hv_I (g := fun i j => .int (i ^ j.toNat)) hv_c hv_c (by show (0 : Int) ≤ 18 ∧ (18 : Int) ≤ 1000000 ∧ (10 : Int).natAbs < 2 ^ 64; decide)
        exact hv_if (ht_or (ht_test (hv_I0 (g := fun i j => .bl (decide (i < j))) (hv_var (i := 2) rfl) hv_c)) fun _ => ht_test (hv_I0 (g := fun i j => .bl (decide (j ≤ i))) (hv_var (i := 2) rfl) pw))
          (fun _ => hn_is (hv_abs (hv_var (i := 2) rfl))) (fun _ => hn_is hv_c)
      refine hd.run ?_
      rintro v H5 e5 ⟨z, rfl⟩
      refine ⟨.int m, rfl, small_line (by show 3 ≤ 1000; decide), fun p hp => ?_⟩
      have e6 : Same H H5 := e.trans e5
      exact k p _ (e6.trans (same_new hp)) (e6.free hp) ⟨z, m, 0, upd_same, q0, q1⟩
/-! ### _law_left -/
/-- a list of fractions, one for each place -/
def Rows (K : PySem.W.Frag) (A : K74.Q2) (n : Nat) (a : Addr) (H : Hp) : Prop := ∃ vs : List V, H a = some (.lst vs) ∧ vs.length = n ∧ ∀ (j : Nat) (v : V), vs[j]? = some v → Fr K (K74.row A j) v H
def RowsV (K : PySem.W.Frag) (A : K74.Q2) (n : Nat) : VP := fun v H => ∃ a, v = .ref a ∧ Rows K A n a H
theorem mo_rows {A : K74.Q2} {n : Nat} : Mo (RowsV K A n) := fun _ _ _ e ⟨a, h, vs, h1, h2, h3⟩ => ⟨a, h, vs, e _ _ h1, h2, fun j v hj => mo_fr _ _ _ e (h3 j v hj)⟩
abbrev spLeft (K : PySem.W.Frag) : Sp := spP (fun A : K74.Q2 => fun vs H => K74.Fac A ∧ One (Fr K A) vs H) (fun A => RowsV K A 60)
theorem sc51 : FnScope ["_law_each", "_law_found", "_law_whole", "_law_lap"] ["_law_each"] (defScope (topS 51)) := ⟨rfl, rfl, rfl, by decide +kernel, rfl, by decide +kernel, by decide +kernel⟩
theorem bd51 : Bnd "_law_left" (topS 51) ["_law_each"] := ⟨fun _ _ _ _ _ _ us hl => match us, hl with | [_], _ => rfl, fun _ _ _ _ _ _ us hl => match us, hl with | [_], _ => rfl⟩
theorem hv_lone {σ : L2.St} {H : Hp} : Hv (tTup (tCons (tC (.int 1)) (tCons (tC (.int 1)) tNil))) σ H (Fr K (1, 1)) := hv_pair hv_c hv_c
theorem c_left (T : Top K mg) (D : DefAt K mg "_law_left" (topS 51)) (cA : Cal P w K mg base CX0 4 "_law_add" ["_law_one", "_law_two"] (spBin K C2 K74.addF)) (cT : Cal P w K mg base CX0 4 "_law_times" ["_law_one", "_law_two"] (spBin K C2 K74.mulF))
    (cO : Cal P w K mg base CX0 4 "_law_over" ["_law_one", "_law_two"] (spBin K C3 K74.divF)) : Cal P w K mg base CX0 5 "_law_left" ["_law_each"] (spLeft K) := by
  refine cal_of D sc51 bd51 ?_ ?_
  · rintro vs H Q E ⟨a, ⟨_, x, rfl, _⟩, _⟩
    rfl
  · intro cdv f A outer s H vs Q E hr h
    obtain ⟨a, ⟨fA, x, rfl, px⟩, k⟩ := h
    refine ⟨_, pss_cons (ps_par (i := 1) (j := 2) rfl sc51.nd rfl rfl (by decide) rfl rfl (pa_cons (pe_lst pa_nil) (pa_cons (pe_tup (pa_cons pe_int (pa_cons pe_int pa_nil))) pa_nil)) (by rfl))
      (pss_cons (ps_for PassesOwn.never rfl (pi_range1 (by rfl) T.range (pa_cons pe_int pa_nil)) (pg_name (i := 3) sc51.nd rfl (Or.inl rfl))
        (pss_cons (L2.ps_set (i := 2) sc51.nd rfl (Or.inl rfl) (pe_cal cA hr (by rfl) (pa_cons (pe_tup (pa_cons pe_int (pa_cons pe_int pa_nil))) (pa_cons (pe_cal cT hr (by rfl) (pa_cons (pv 0) (pa_cons (pv 2) pa_nil))) pa_nil))))
          (pss_one (ps_expr (pe_bm PySem.F.plainAttrs_list PySem.F.slot_list_append PySem.F.type_list_append mt_append (pv 1) (pa_cons (pe_cal cO hr (by rfl) (pa_cons (pe_tup (pa_cons pe_int (pa_cons pe_int pa_nil))) (pa_cons (pv 2) pa_nil))) pa_nil))))))
      (pss_one (ps_ret (pv 1)))), ?_⟩
    refine ⟨small_line (by show 0 ≤ 1000; decide), fun d hd => ?_⟩
    have e1 : Same H (upd H d (.lst [])) := same_new hd
    refine (hv_lone (K := K)).run ?_
    intro v H2 e2 fv
    have e12 := e1.trans e2
    refine ⟨_, _, rfl, ?_⟩
    refine ⟨60, rfl, by decide, by decide, ?_⟩
    refine for_range (lo := 0) (n := 60) (fun i σ H' => Same H H' ∧ Rows K a i d H' ∧ ∃ v u, σ = [some x, some (.ref d), some v, u] ∧ Fr K (K74.W a i) v H')
      ⟨e12, ⟨[], e2 _ _ upd_same, rfl, fun j v hj => by cases hj⟩, v, none, rfl, fv⟩ ?_ ?_
    · rintro i σ H' hi ⟨e, ⟨vs, hv, hl, hf⟩, v, u, rfl, fw⟩
      have q0 : Hv (tVar 0) [some x, some (.ref d), some v, some (.int (0 + i))] H' (Fr K a) := hv_varP rfl mo_fr (mo_fr _ _ _ e px)
      have q2 : Hv (tVar 2) [some x, some (.ref d), some v, some (.int (0 + i))] H' (Fr K (K74.W a i)) := hv_varP rfl mo_fr fw
      refine Kx.s_set (σ := [some x, some (.ref d), some v, some (.int (0 + i))]) (hv_up hv_lone q0 q2 fA (K74.w_nn fA i) (by omega) rfl rfl) ?_
      intro v2 H3 e3 f2
      have w2 : Hv (tVar 2) [some x, some (.ref d), some v2, some (.int (0 + i))] H3 (Fr K (K74.W a (i + 1))) := hv_varP rfl mo_fr f2
      have w3 : Hv _ [some x, some (.ref d), some v2, some (.int (0 + i))] H3 (Fr K (K74.row a i)) := hv_bin (C := C3) (g := K74.divF) (hv_lone (K := K)) w2 (c3_one fA (by omega))
      refine ⟨.ref d, rfl, .inl ⟨rfl, _, .inl (.inl (e3 _ _ hv))⟩, ?_⟩
      refine w3.run ?_
      intro r H4 e4 fr
      have e34 := e3.trans e4
      have hv4 : H4 d = some (.lst vs) := e34 _ _ hv
      refine ⟨d, vs, r, rfl, rfl, hv4, small1000 (by omega), ?_⟩
      have sb : SameBut d H4 (upd H4 d (.lst (vs ++ [r]))) := but_upd
      refine ⟨?_, ⟨vs ++ [r], upd_same, by rw [List.length_append, hl]; rfl, ?_⟩, v2, _, rfl, fr_but (mo_fr _ _ _ e4 f2) hv4 sb⟩
      · intro b o hb
        rw [upd_ne (ne_of_none hb hd)]
        exact e34 b o (e b o hb)
      · intro j z hj
        by_cases ej : j < vs.length
        · rw [List.getElem?_append_left ej] at hj
          exact fr_but (mo_fr _ _ _ e34 (hf j z hj)) hv4 sb
        · rw [List.getElem?_append_right (by omega)] at hj
          have hj0 : j - vs.length = 0 := by
            cases hk : j - vs.length with
            | zero => rfl
            | succ n =>
              rw [hk] at hj
              cases hj
          rw [hj0] at hj
          obtain rfl : r = z := Option.some.inj hj
          have ej2 : j = i := by omega
          subst ej2
          exact fr_but fr hv4 sb
    · rintro σ H' ⟨e, rw_, v, u, rfl, _⟩
      refine ⟨.ref d, rfl, ?_⟩
      exact k (.ref d) H' e ⟨d, rfl, rw_⟩
end
end Kx

/-! _law_stages_told: the error is caught. -/
namespace Kx
open PySem PySem.Spec PyProof.Rows L2
/-- what the top says of the class that is caught -/
structure Top3 (K : PySem.W.Frag) (CT CP : Addr) : Prop where
  ex : ExcC K CT
  kit : PySem.W.kitOne K (.ref CT) (.ref CP) = some true
  exm : PySem.W.exmOne K (.ref CT) (.ref CT) = some true
/-- what fewest_stages tells, or the word for its error -/
def toldV (A g : K74.Q2) : V := if ever A g = true then (match first A g with
  | some k => .int ((k : Int) + 1)
  | none => .str "many") else .non
section
variable {P : Program} {w : World} {K : PySem.W.Frag} {mg : PySem.Str → Option Value} {base : Heap} {aO aZ CT CP : Addr}
theorem isE_any {X : Cx} {a D : Addr} {oe : Obj} {cls : Value} {d : Option Addr} {pn : List (Addr × Obj)} (C : ExcC X.K D) (hz : Zc cls d oe) (hf : ∃ vs, oe.data = .fields vs) :
    CallR (X.suite a ((a, oe) :: pn)) (.builtin "isinstance") (fun xs H Q => cls = .ref D ∧ d = none ∧ rIsE X.K D a xs H Q) := by
  intro pins s σ H xs us Q I r h
  obtain ⟨rfl, rfl, h⟩ := h
  exact call_isE C hz hf pins s σ H xs us Q I r h
abbrev spTold (K : PySem.W.Frag) : Sp := spP (fun p : K74.Q2 × K74.Q2 => fun vs H => PreE p.1 p.2 ∧ Two (Fr K p.1) (Fr K p.2) vs H) (fun p => Is (toldV p.1 p.2))
theorem sc52 : FnScope ["_law_each", "_law_goal", "e"] ["_law_each", "_law_goal"] (defScope (topS 52)) := ⟨rfl, rfl, rfl, by decide +kernel, rfl, by decide +kernel, by decide +kernel⟩
theorem bd52 : Bnd "_law_stages_told" (topS 52) ["_law_each", "_law_goal"] := ⟨fun _ _ _ _ _ _ us hl => match us, hl with | [_, _], _ => rfl, fun _ _ _ _ _ _ us hl => match us, hl with | [_, _], _ => rfl⟩
/-- 'many' if isinstance(e, PlateError) else 'odd' -/
def t_suite (K : PySem.W.Frag) (CT CP : Addr) : Addr → Value → Option Addr → TS := fun a cls d =>
  tRet (tIf (tB (tCB (fun xs H Q => cls = .ref CT ∧ d = none ∧ rIsE K CT a xs H Q) (tCons (tVar 2) (tCons (tC (.ref CP)) tNil)))) (tC (.str "many")) (tC (.str "odd")))
theorem c_told (T : Top K mg) (T2 : Top2 K mg aO aZ CT CP) (T3 : Top3 K CT CP) (D : DefAt K mg "_law_stages_told" (topS 52)) (cF : Cal P w K mg base (L2.CX P w) 6 "fewest_stages" ["factor", "share"] (spFew K CT)) :
    Cal P w K mg base CX0 7 "_law_stages_told" ["_law_each", "_law_goal"] (spTold K) := by
  obtain ⟨f', fd', F', hm', hk', _, hb'⟩ := cF.ex
  refine cal_of D sc52 bd52 ?_ ?_
  · rintro vs H Q E ⟨p, ⟨_, x, y, rfl, _⟩, _⟩
    rfl
  · intro cdv f A outer s H vs Q E hr h
    obtain ⟨⟨a, g⟩, ⟨pre, x, y, rfl, px, py⟩, k⟩ := h
    refine ⟨_, pss_one (ps_try_as (i := 2) (tb := fun W => tRet (tKw (spFew K CT) (WE W) (tCons (tVar 0) (tCons (tVar 1) tNil)))) (ts := t_suite K CT CP) (Wout := fun _ _ _ _ => False) rfl rfl sc52.nd rfl rfl ⟨rfl, by decide, Or.inl T2.gT⟩ takes0
      (fun W pn xe tk _ => pss_one (ps_ret (pe_kw F' hr (by rfl) hm' hk' hb' (fun σ => passAt tk σ) (pk_cons (pv 0) (pk_cons (pv 1) pk_nil)))))
      (fun ad oe cls d pn hz hf => pss_one (ps_ret (pe_ifExp (pt_val (pe_callB (isE_any T3.ex hz hf) (by rfl) T.isi (by decide +kernel) (pa_cons (pv 2) (pa_cons (pe_glob (v := .ref CP) (by rfl) T2.gP rfl) pa_nil)))) pe_str pe_str)))), ?_⟩
    refine ⟨x, rfl, y, rfl, ?_⟩
    refine ⟨a, g, x, y, rfl, pre, px, py, ?_, ?_, ?_⟩
    · intro he H' e
      refine k _ H' e ?_
      show V.non = toldV a g
      unfold toldV
      rw [he, if_neg Bool.false_ne_true]
    · intro n he hn H' e
      refine k _ H' e ?_
      show V.int ((n : Int) + 1) = toldV a g
      unfold toldV
      rw [he, if_pos rfl, hn]
    · intro he hn H' e
      refine ⟨true, T3.exm, fun _ ad hnew => ?_, fun z => by cases z⟩
      refine ⟨.ref ad, rfl, rfl, rfl, .ref CP, .ref CP, true, rfl, fun u r => r, T3.kit, true, rfl, ?_⟩
      refine iteT ?_
      refine k _ H' e ?_
      show V.str "many" = toldV a g
      unfold toldV
      rw [he, if_pos rfl, hn]
end
end Kx

/-! What _law_right asks, piece by piece. -/
namespace Kx
open PySem PySem.Spec PyProof.Rows L2
/-! ### plain -/
theorem side_pos {p q : K74.Q2} : 0 < side p q ↔ 0 < gap p q := by
  unfold side
  by_cases h : gap p q > 0
  · rw [if_pos h]
    omega
  · rw [if_neg h]
    by_cases h2 : gap p q < 0
    · rw [if_pos h2]
      omega
    · rw [if_neg h2]
      omega
theorem side_neg {p q : K74.Q2} : side p q < 0 ↔ gap p q < 0 := by
  unfold side
  by_cases h : gap p q > 0
  · rw [if_pos h]
    omega
  · rw [if_neg h]
    by_cases h2 : gap p q < 0
    · rw [if_pos h2]
      omega
    · rw [if_neg h2]
      omega
theorem b_eq {a b : Bool} (h : a = true ↔ b = true) : a = b := by
  cases a <;> cases b <;> simp_all
theorem ever_law (A g : K74.Q2) : (decide (A.2 ≤ A.1) || decide (0 < side g (K74.subF (1, 1) A))) = ever A g := by
  unfold ever bel
  apply b_eq
  rw [Bool.or_eq_true, Bool.or_eq_true, decide_eq_true_eq, decide_eq_true_eq, Bool.not_eq_true', decide_eq_false_iff_not, decide_eq_true_eq, side_pos]
  unfold gap
  show A.2 ≤ A.1 ∨ _ ↔ ¬ (A.1 * 1 < 1 * A.2) ∨ _
  omega
theorem hits_law (A g : K74.Q2) (k : Nat) : decide (side (K74.row A k) g ≤ 0) = hits A g k := by
  unfold hits bel
  apply b_eq
  have h := side_pos (p := K74.row A k) (q := g)
  rw [decide_eq_true_eq, Bool.not_eq_true', decide_eq_false_iff_not]
  unfold gap at h
  omega
theorem falls_law {A : K74.Q2} (hA : K74.Fac A) (k : Nat) : decide (side (K74.row A (k + 1)) (K74.row A k) < 0) = true := by
  have f := K74.row_falls hA k
  have h := side_neg (p := K74.row A (k + 1)) (q := K74.row A k)
  unfold gap at h
  exact decide_eq_true (h.mpr (by omega))
/-- the numbers of stages that leave at most the share, up to sixty -/
def counts (A g : K74.Q2) : List V := picked 60 (hits A g) fun k => .int ((k : Int) + 1)
theorem counts_head (A g : K74.Q2) : (counts A g).head? = (first A g).map fun k : Nat => V.int ((k : Int) + 1) := by
  unfold counts picked first
  rw [List.head?_map, List.head?_filter]
theorem counts_ints (A g : K74.Q2) : ∃ ns : List Int, counts A g = ns.map V.int := by
  refine ⟨((List.range 60).filter (hits A g)).map fun k : Nat => (k : Int) + 1, ?_⟩
  unfold counts picked
  rw [List.map_map]
  rfl
theorem first_lt {A g : K74.Q2} {k : Nat} (h : first A g = some k) : k < 60 := List.mem_range.mp (List.mem_of_find?_eq_some h)
theorem shw_told (A g : K74.Q2) : ∃ t, shw (toldV A g) = some t := by
  unfold toldV
  by_cases e : ever A g = true
  · rw [if_pos e]
    cases hf : first A g with
    | none =>
      refine ⟨reprText "many", ?_⟩
      show (if (reprText "many").length ≤ sizeLine then some (reprText "many") else none) = some (reprText "many")
      rw [if_pos (by decide +kernel)]
    | some k =>
      have l := first_lt hf
      refine ⟨PySem.Str.ofString (toString ((k : Int) + 1)), ?_⟩
      show (if ((k : Int) + 1).natAbs.log2 < 1920 then some (PySem.Str.ofString (toString ((k : Int) + 1))) else none) = _
      have z : ((k : Int) + 1).natAbs.log2 < 1920 := PySem.Flt.log2_lt_of (by decide) (Nat.lt_of_lt_of_le (show ((k : Int) + 1).natAbs < 2 ^ 7 by omega) (Nat.pow_le_pow_right (by decide) (by decide)))
      rw [if_pos z]
  · rw [if_neg e]
    exact ⟨"None", rfl⟩
/-! ### readings -/
section
variable {K : PySem.W.Frag} {σ : L2.St} {H : Hp} {ta tb tk te : TE} {A p q : K74.Q2}
theorem hv_side (ha : Hv ta σ H (Fr K p)) (hb : Hv tb σ H (Fr K q)) (c : C2 p q) : Hv (tCall (spSide K) [] E0 (tCons ta (tCons tb tNil))) σ H (Is (.int (side p q))) :=
  hv_two (R := fun p : K74.Q2 × K74.Q2 => Fr K p.1) (S := fun p : K74.Q2 × K74.Q2 => Fr K p.2) (pr := fun p => C2 p.1 p.2) (p, q) c mo_fr ha hb
theorem hv_lst2 {x y : V} (ha : Hv ta σ H (Is x)) (hb : Hv tb σ H (Is y)) : Hv (tLst (tCons ta (tCons tb tNil))) σ H (LstT [x, y]) := fun H1 e _ q =>
  ha_two ha mo_is hb H1 e _ fun vs H2 e2 ⟨a, b, ev, pa, pb⟩ => by
    subst ev pa pb
    exact ⟨small_line (by show 2 ≤ 1000; decide), fun p hp => q _ _ (e2.trans (same_new hp)) ⟨p, rfl, upd_same⟩⟩
theorem hv_lst0 : Hv (tLst tNil) σ H (LstT []) := fun H1 e _ q => ⟨small_line (by show 0 ≤ 1000; decide), fun p hp => q _ _ (same_new hp) ⟨p, rfl, upd_same⟩⟩
theorem hv_shwB {b c : Bool} (ha : Hv ta σ H (LstT [.bl b, .bl c])) : Hv (tCB rShwB (tCons ta tNil)) σ H (Is (.str (shwB b c))) :=
  hv_cb0 (ha_one ha) fun vs H1 e p Q q => by
    obtain ⟨x, rfl, a, rfl, s⟩ := p
    exact ⟨a, b, c, rfl, s, q⟩
theorem hv_shw {x : V} {t : PySem.Str} (ha : Hv ta σ H (Is x)) (h : shw x = some t) : Hv (tCB rShw (tCons ta tNil)) σ H (Is (.str t)) :=
  hv_cb0 (ha_one ha) fun vs H1 e p Q q => by
    obtain ⟨y, rfl, py⟩ := p
    subst py
    exact ⟨_, t, rfl, h, q⟩
/-- the same text twice -/
theorem ht_nes {t : PySem.Str} (ha : Hv ta σ H (Is (.str t))) (hb : Hv tb σ H (Is (.str t))) : HvT (tTest (tOp rNe ta tb)) σ H false := by
  refine (ht_test (hv_ne ha hb rfl)).to ?_
  rw [decide_eq_true rfl]
  rfl
theorem dp_fr {v : V} (h : Fr K p v H) : Dp K H v (.tuple [.int p.1, .int p.2]) := by
  obtain ⟨a, rfl, s⟩ := h
  exact .tup s (.cons (.int _) (.cons (.int _) .nil))
theorem shp_fr : SeqAt.shaped (.tuple [.int p.1, .int p.2]) = true := by
  have d : PyData.depth (.tuple [.int p.1, .int p.2]) ≤ 64 := by
    simp [PyData.depth, PyData.depthAll]
  have c : PyData.canLay0 (.tuple [.int p.1, .int p.2]) = true := by
    simp [PyData.canLay0, PyData.canLayAll0]
  show (PyData.canLay0 _ && decide _) = true
  rw [c, decide_eq_true d]
  rfl
theorem hv_eqF (ha : Hv ta σ H (Fr K p)) (hb : Hv tb σ H (Fr K p)) : Hv (tOp (rEqD K) ta tb) σ H (Is (.bl true)) :=
  hv_op0 ha mo_fr hb fun x y H1 e px py Q q' => by
    refine ⟨_, _, dp_fr px, dp_fr py, shp_fr, shp_fr, ?_⟩
    rw [SeqAt.eqv_refl _ (SeqAt.canLay_of_shaped shp_fr)]
    exact q'
theorem dpa_ints : ∀ ns : List Int, DpAll K H (ns.map V.int) (ns.map PyData.int)
  | [] => .nil
  | n :: ns => .cons (.int n) (dpa_ints ns)
theorem shp_ints (ns : List Int) : SeqAt.shaped (.list (ns.map PyData.int)) = true := by
  have d : ∀ ns : List Int, PyData.depthAll (ns.map PyData.int) = 0 := by
    intro ns
    induction ns with
    | nil => simp [PyData.depthAll]
    | cons n ns ih =>
      rw [List.map_cons]
      simp only [PyData.depthAll, PyData.depth, ih]
      rfl
  have c : ∀ ns : List Int, PyData.canLayAll0 (ns.map PyData.int) = true := by
    intro ns
    induction ns with
    | nil => simp [PyData.canLayAll0]
    | cons n ns ih =>
      rw [List.map_cons]
      simp only [PyData.canLayAll0, PyData.canLay0, ih, Bool.and_self]
  have d2 : PyData.depth (.list (ns.map PyData.int)) ≤ 64 := by
    simp only [PyData.depth, d]
    omega
  have c2 : PyData.canLay0 (.list (ns.map PyData.int)) = true := by
    simp only [PyData.canLay0, c]
  show (PyData.canLay0 _ && decide _) = true
  rw [c2, decide_eq_true d2]
  rfl
/-- ns != [] -/
theorem hv_ne0 {ns : List Int} (ha : Hv ta σ H (LstT (ns.map V.int))) : Hv (tOp (rNeD K) ta (tLst tNil)) σ H (Is (.bl (!ns.isEmpty))) :=
  hv_op0 ha mo_lstT hv_lst0 fun x y H1 e px py Q q' => by
    obtain ⟨a, rfl, sa⟩ := px
    obtain ⟨b, rfl, sb⟩ := py
    refine ⟨.list (ns.map PyData.int), .list ([].map PyData.int), .lst (.inl (.inl sa)) (dpa_ints ns), .lst (.inl (.inl sb)) .nil, shp_ints ns, shp_ints [], ?_⟩
    have ee : PyData.eqv (.list (ns.map PyData.int)) (.list ([].map PyData.int)) = ns.isEmpty := by
      cases ns with
      | nil => simp [PyData.eqv, PyData.eqvAll]
      | cons n r => simp [PyData.eqv, PyData.eqvAll]
    rw [ee]
    exact q'
/-! ### stays((A,) * (at + 1))[0] -/
def Sing (K : PySem.W.Frag) (A : K74.Q2) : VP := fun v H => ∃ v0, Fr K A v0 H ∧ Tup K [v0] v H
theorem mo_sing : Mo (Sing K A) := fun _ _ _ e ⟨v0, h1, h2⟩ => ⟨v0, mo_fr _ _ _ e h1, mo_tup _ _ _ e h2⟩
theorem hv_sing (ha : Hv ta σ H (Fr K A)) : Hv (tTup (tCons ta tNil)) σ H (Sing K A) := fun H1 e _ q =>
  ha_one ha H1 e _ fun vs H2 e2 ⟨x, ev, px⟩ => by
    subst ev
    exact ⟨small_line (by show 1 ≤ 1000; decide), fun p hp => q _ _ (e2.trans (same_new hp)) ⟨x, mo_fr _ _ _ (same_new hp) px, p, rfl, .inl (.inl upd_same)⟩⟩
theorem flat_rep (v : V) : ∀ n : Nat, (List.replicate n [v]).flatten = List.replicate n v
  | 0 => rfl
  | n + 1 => by
    rw [List.replicate_succ, List.replicate_succ, List.flatten_cons, flat_rep v n]
    rfl
theorem hv_rep {n : Nat} (ha : Hv ta σ H (Sing K A)) (hb : Hv tb σ H (Is (.int (n : Int)))) (n1 : 1 ≤ n) (n2 : n ≤ 40) : Hv (tOp (rRep1 K) ta tb) σ H (Cop K A n) :=
  hv_op ha mo_sing hb fun x y H1 e px py Q q => by
    obtain ⟨v0, f0, a, rfl, s⟩ := px
    subst py
    refine ⟨a, (n : Int), [v0], rfl, rfl, s, by simp, by omega, by omega, by simp, fun h1 => ?_, fun h2 p hp => ?_⟩
    · have en : n = 1 := by omega
      subst en
      exact q _ H1 (Same.refl H1) ⟨v0, f0, a, rfl, s⟩
    · refine q _ _ (same_new hp) ⟨v0, mo_fr _ _ _ (same_new hp) f0, p, rfl, .inl (.inl ?_)⟩
      have el : (List.replicate (n : Int).toNat [v0]).flatten = List.replicate n v0 := by
        rw [Int.toNat_natCast]
        exact flat_rep v0 n
      rw [el]
      exact upd_same
theorem hv_st0 {n : Nat} (ha : Hv ta σ H (Stays K A n)) : Hv (tOp (rIxT K) ta (tC (.int 0))) σ H (Fr K (K74.divF (1, 1) (K74.W A n))) :=
  hv_op (P := Stays K A n) ha (fun _ _ _ e ⟨v1, v2, h1, h2⟩ => ⟨v1, v2, mo_fr _ _ _ e h1, mo_tup _ _ _ e h2⟩) hv_c fun x y H1 e px py Q q => by
    obtain ⟨v1, v2, f1, a, rfl, s⟩ := px
    subst py
    exact ⟨a, [v1, v2], 0, v1, rfl, rfl, s, at0, q v1 H1 (Same.refl H1) f1⟩
theorem hv_stay {i : Nat} (fA : K74.Fac A) (hi : i ≤ 30) (ha : Hv ta σ H (Fr K A)) (hk : Hv tk σ H (Is (.int (i : Int)))) :
    Hv (tOp (rIxT K) (tCall (spSt K) [] E0 (tCons (tOp (rRep1 K) (tTup (tCons ta tNil)) (tOp (rI0 fun i j => .int (i + j)) tk (tC (.int 1)))) tNil)) (tC (.int 0))) σ H (Fr K (K74.row A i)) := by
  have k1 : Hv (tOp (rI0 fun i j => .int (i + j)) tk (tC (.int 1))) σ H (Is (.int ((i + 1 : Nat) : Int))) := hv_add hk hv_c
  exact hv_st0 (n := i + 1) (hv_one (R := fun p : K74.Q2 × Nat => Cop K p.1 p.2) (pr := fun p => PreN p.1 p.2) (A, i + 1) ⟨fA, by show 1 ≤ i + 1; omega, by show i + 1 ≤ 40; omega⟩ (hv_rep (hv_sing ha) k1 (by omega) (by omega)))
/-- rows[i] -/
theorem hv_rowAt {n i : Nat} (ha : Hv ta σ H (RowsV K A n)) (hb : Hv tb σ H (Is (.int (i : Int)))) (hi : i < n) : Hv (tOp (rIxL K) ta tb) σ H (Fr K (K74.row A i)) :=
  hv_op ha mo_rows hb fun x y H1 e px py Q q => by
    obtain ⟨a, rfl, vs, h1, h2, h3⟩ := px
    subst py
    have hl : i < vs.length := by omega
    exact ⟨a, vs, i, vs[i], rfl, rfl, .inl (.inl h1), atI_nat (List.getElem?_eq_getElem hl), q _ H1 (Same.refl H1) (h3 i _ (List.getElem?_eq_getElem hl))⟩
theorem hv_lenR {n : Nat} (ha : Hv ta σ H (RowsV K A n)) : Hv (tCB (rLen K) (tCons ta tNil)) σ H (Is (.int (n : Int))) :=
  hv_cb0 (ha_one ha) fun vs H1 e p Q q => by
    obtain ⟨x, rfl, a, rfl, us, h1, h2, h3⟩ := p
    subst h2
    exact ⟨a, us, rfl, .inl (.inl (.inl h1)), q⟩
theorem all_true (n : Nat) : (List.replicate n true).all id = true := by simp
/-- a comprehension of n truths -/
theorem hv_allR {tn : TE} {n : Nat} {vs : List Nat} {j : Nat} (h : Hv tn σ H (Is (.int (n : Int)))) (hw : ∀ x, wipe ((wipe σ vs).set j (some x)) vs = wipe σ vs) (hz : n ≤ 1000)
    (he : ∀ i : Nat, i < n → Hv te ((wipe σ vs).set j (some (.int (i : Int)))) H (Is (.bl true))) : Hv (tCB (rAll K) (tCons (tLc (iRng1 (tCons tn tNil)) (gName j) tYes te vs) tNil)) σ H (Is (.bl true)) := by
  have l := hv_lcR (t := tYes) (te := te) (f := fun _ => true) (v := fun _ => .bl true) (n := n) (ha_one h) hw hz (fun i hi => ht_yes) (fun i hi _ => he i hi)
  have e : picked n (fun _ => true) (fun _ => V.bl true) = (List.replicate n true).map V.bl := by
    rw [picked_all, List.map_replicate, List.map_const', List.length_range]
  rw [e] at l
  have r := hv_all (K := K) l
  rw [all_true] at r
  exact r
end
end Kx

/-! _law_right. -/
namespace Kx
open PySem PySem.Spec PyProof.Rows L2
section
variable {P : Program} {w : World} {K : PySem.W.Frag} {mg : PySem.Str → Option Value} {base : Heap} {aO aZ CT CP : Addr}
theorem ixL {X : Cx} (e : X.K = K) : IxR X (rIxL K) := e ▸ ix_list
theorem ixT {X : Cx} (e : X.K = K) : IxR X (rIxT K) := e ▸ ix_tup
theorem opEq {X : Cx} (e : X.K = K) (hu : X.A.units + 64 < cLine) : OpR X (compareOp .Eq) (rEqD K) := e ▸ op_eqD hu
theorem opNe {X : Cx} (e : X.K = K) (hu : X.A.units + 64 < cLine) : OpR X (compareOp .NotEq) (rNeD K) := e ▸ op_neD hu
theorem opRep {X : Cx} (e : X.K = K) : OpR X (binaryOp .Mult) (rRep1 K) := e ▸ op_rep1
def spRight : Sp := fun vs H Q _ => ∃ t : Addr, vs = [.ref t] ∧ TapAt H t ∧ ∀ H', SameBut t H H' → Q (.bl true) H'
/-! ### lists of fractions -/
def Frs (K : PySem.W.Frag) : List K74.Q2 → List V → Hp → Prop
  | [], [], _ => True
  | p :: ps, v :: vs, H => Fr K p v H ∧ Frs K ps vs H
  | _, _, _ => False
theorem mo_frs {H H' : Hp} (e : Same H H') : ∀ {ps : List K74.Q2} {vs : List V}, Frs K ps vs H → Frs K ps vs H'
  | [], [], h => h
  | _ :: _, _ :: _, h => ⟨mo_fr _ _ _ e h.1, mo_frs e h.2⟩
theorem frs_len {H : Hp} : ∀ {ps : List K74.Q2} {vs : List V}, Frs K ps vs H → vs.length = ps.length
  | [], [], _ => rfl
  | _ :: ps, _ :: vs, h => by
    rw [List.length_cons, List.length_cons, frs_len h.2]
theorem frs_at {H : Hp} : ∀ {ps : List K74.Q2} {vs : List V} {i : Nat} {v : V}, Frs K ps vs H → vs[i]? = some v → ∃ p, p ∈ ps ∧ Fr K p v H
  | [], [], _, _, _, hi => by cases hi
  | p :: _, _ :: _, 0, _, h, hi => by
    obtain rfl := Option.some.inj hi
    exact ⟨p, List.mem_cons_self .., h.1⟩
  | _ :: _, _ :: _, i + 1, _, h, hi => by
    obtain ⟨q, m, f⟩ := frs_at (i := i) h.2 hi
    exact ⟨q, List.mem_cons_of_mem _ m, f⟩
theorem frs_mem {H : Hp} {ps : List K74.Q2} {vs : List V} {v : V} (h : Frs K ps vs H) (m : v ∈ vs) : ∃ p, p ∈ ps ∧ Fr K p v H := by
  obtain ⟨i, hi⟩ := List.getElem?_of_mem m
  exact frs_at h hi
theorem frs_app {H : Hp} {qs : List K74.Q2} {ws : List V} (hq : Frs K qs ws H) : ∀ {ps : List K74.Q2} {vs : List V}, Frs K ps vs H → Frs K (ps ++ qs) (vs ++ ws) H
  | [], [], _ => hq
  | _ :: _, _ :: _, h => ⟨h.1, frs_app hq h.2⟩
def LsF (K : PySem.W.Frag) (ps : List K74.Q2) : VP := fun v H => ∃ a vs, v = .ref a ∧ H a = some (.lst vs) ∧ Frs K ps vs H
theorem mo_lsf {ps : List K74.Q2} : Mo (LsF K ps) := fun _ _ _ e ⟨a, vs, h1, h2, h3⟩ => ⟨a, vs, h1, e _ _ h2, mo_frs e h3⟩
section
variable {σ : L2.St} {H : Hp} {ta tb : TE} {tr : TA} {p : K74.Q2} {ps qs : List K74.Q2}
theorem ha_frs0 : HvA tNil σ H (Frs K []) := fun H1 _ _ q => q [] H1 (Same.refl H1) trivial
theorem ha_frs (h : Hv ta σ H (Fr K p)) (hr : HvA tr σ H (Frs K ps)) : HvA (tCons ta tr) σ H (Frs K (p :: ps)) := fun H1 e Q q =>
  ha_cons h mo_fr hr H1 e Q fun vs H2 e2 ⟨x, xs, ev, px, pxs⟩ => q vs H2 e2 (by subst ev; exact ⟨px, pxs⟩)
theorem hv_lsf (h : HvA tr σ H (Frs K ps)) (hz : ps.length ≤ 1000) : Hv (tLst tr) σ H (LsF K ps) := fun H1 e Q q => h H1 e _ fun vs H2 e2 f =>
  ⟨small_line (by rw [frs_len f]; exact hz), fun d hd => q _ _ (e2.trans (same_new hd)) ⟨d, vs, rfl, upd_same, mo_frs (same_new hd) f⟩⟩
theorem hv_catF (ha : Hv ta σ H (LsF K ps)) (hb : Hv tb σ H (LsF K qs)) (hz : ps.length + qs.length ≤ 1000) : Hv (tOp rCat ta tb) σ H (LsF K (ps ++ qs)) :=
  hv_op ha mo_lsf hb fun x y H1 e ⟨a, vs, ea, h1, f1⟩ ⟨b, ws, eb, h2, f2⟩ Q q => by
    subst ea eb
    exact ⟨a, b, vs, ws, rfl, rfl, h1, h2, small_line (by rw [frs_len f1, frs_len f2]; exact hz), fun d hd => q _ _ (same_new hd) ⟨d, _, rfl, upd_same, mo_frs (same_new hd) (frs_app f2 f1)⟩⟩
abbrev tF (i j : Int) : TE := tTup (tCons (tC (.int i)) (tCons (tC (.int j)) tNil))
theorem hv_tF {i j : Int} : Hv (tF i j) σ H (Fr K (i, j)) := hv_pair hv_c hv_c
abbrev tTiny : TE := tTup (tCons (tC (.int 1)) (tCons (tOp (rI CPow fun i j => .int (i ^ j.toNat)) (tC (.int 10)) (tC (.int 30))) tNil))
theorem hv_tiny : Hv tTiny σ H (Fr K (1, 10 ^ 30)) := hv_pair hv_c ((hv_I (g := fun i j => .int (i ^ j.toNat)) hv_c hv_c (by show (0 : Int) ≤ 30 ∧ (30 : Int) ≤ 1000000 ∧ (10 : Int).natAbs < 2 ^ 64; decide)).to fun _ _ _ h => h)
end
theorem tap_ne {H : Hp} {t a : Addr} {v : V} {vs : List V} {p : K74.Q2} (h : TapAt H t) (ha : H a = some (.lst (v :: vs))) (f : Fr K p v H) : a ≠ t := by
  rintro rfl
  obtain ⟨x, y, z, hx, _⟩ := h
  obtain ⟨b, rfl, _⟩ := f
  rw [hx] at ha
  have := Option.some.inj ha
  injection this with e
  injection e with e1 e2
  cases e1
theorem but_rows {H H' : Hp} {t : Addr} {n : Nat} {A : K74.Q2} {v : V} (h : RowsV K A (n + 1) v H) (ht : TapAt H t) (e : SameBut t H H') : RowsV K A (n + 1) v H' := by
  obtain ⟨a, rfl, vs, h1, h2, h3⟩ := h
  match vs, h2 with
  | x :: xs, h2 =>
    have ne := tap_ne ht h1 (h3 0 x rfl)
    exact ⟨a, rfl, _, e _ _ ne h1, h2, fun j v hj => fr_tap (h3 j v hj) ht e⟩
theorem but_lsf {H H' : Hp} {t : Addr} {p : K74.Q2} {ps : List K74.Q2} {v : V} (h : LsF K (p :: ps) v H) (ht : TapAt H t) (e : SameBut t H H') : ∃ a vs, v = .ref a ∧ a ≠ t ∧ H a = some (.lst vs) := by
  obtain ⟨a, vs, rfl, h1, h2⟩ := h
  match vs, h2 with
  | x :: xs, h2 => exact ⟨a, _, rfl, tap_ne ht h1 h2.1, h1⟩
/-! ### the factor -/
abbrev tDrop (n : Int) : TE := tCall spDrop [] E0 (tCons (tVar 0) (tCons (tC (.int n)) tNil))
abbrev tFacs : TA := tCons (tF 1 1) (tCons (tF 9 10) (tCons (tF 1 2) (tCons (tF 2 1) (tCons (tF 19 20) (tCons (tF 3 2) (tCons (tF 99 100) tNil))))))
abbrev tR1 (K : PySem.W.Frag) : TE := tIf (tTest (tOp rEq (tDrop 3) (tC (.int 0)))) (tCall (spAm K) [] E0 (tCons (tVar 0) tNil)) (tCall (spOf K) [] E0 (tCons (tVar 0) (tCons (tLst tFacs) tNil)))
abbrev facs : List K74.Q2 := [(1, 1), (9, 10), (1, 2), (2, 1), (19, 20), (3, 2), (99, 100)]
theorem facs_fac {p : K74.Q2} (h : p ∈ facs) : K74.Fac p := by
  simp only [facs, List.mem_cons, List.not_mem_nil, or_false] at h
  rcases h with rfl | rfl | rfl | rfl | rfl | rfl | rfl <;> exact ⟨by decide, by decide, by decide, by decide, by decide⟩
theorem r_one {σ : L2.St} {H : Hp} {t : Addr} {Q : VK} (h0 : σ[0]? = some (some (.ref t))) (tap : TapAt H t) (k : ∀ (v : V) (p : K74.Q2) (H' : Hp), K74.Fac p → Fr K p v H' → SameBut t H H' → TapAt H' t → Q v H') : tR1 K σ H Q := by
  refine ⟨.ref t, h0, t, 3, rfl, tap, by decide, by decide, fun d H1 s1 tap1 d0 d1 => ⟨rfl, _, rfl, ite2 (fun _ => ?_) (fun _ => ?_)⟩⟩
  · exact ⟨.ref t, h0, t, rfl, tap1, fun v p H2 dp fp s2 tap2 => k v p H2 (fac_of dp) fp (s1.trans s2) tap2⟩
  · refine ⟨.ref t, h0, ?_⟩
    refine (hv_lsf (K := K) (ps := facs) (ha_frs hv_tF (ha_frs hv_tF (ha_frs hv_tF (ha_frs hv_tF (ha_frs hv_tF (ha_frs hv_tF (ha_frs hv_tF ha_frs0))))))) (by decide)).run ?_
    rintro v H2 e2 ⟨a, vs, rfl, h1, f⟩
    have tap2 := tap1.same e2
    have hl := frs_len f
    have ne : a ≠ t := by
      match vs, hl, h1, f with
      | x :: xs, _, h1, f => exact tap_ne tap2 h1 f.1
    refine ⟨t, a, vs, rfl, ne, tap2, h1, by rw [hl]; decide, by rw [hl]; decide, fun x H3 hx s3 tap3 => ?_⟩
    obtain ⟨p, m, fp⟩ := frs_mem f hx
    exact k x p H3 (facs_fac m) (fr_tap fp tap2 s3) ((s1.trans (but_of e2)).trans s3) tap3
/-! ### the row's first places -/
theorem cut_rows {A : K74.Q2} {n d : Nat} {vs : List V} {H : Hp} (hl : vs.length = n) (hd : d ≤ n) (h : ∀ (j : Nat) (v : V), vs[j]? = some v → Fr K (K74.row A j) v H) :
    (cutV vs none (some (d : Int))).length = d ∧ ∀ (j : Nat) (v : V), (cutV vs none (some (d : Int)))[j]? = some v → Fr K (K74.row A j) v H := by
  have e : cutV vs none (some (d : Int)) = vs.take d := by
    unfold cutV
    rw [HT.sIx_none, HT.sIx_nat, List.drop_zero, hl, Nat.sub_zero, Nat.min_eq_left hd]
  rw [e]
  refine ⟨by rw [List.length_take]; omega, fun j v hj => ?_⟩
  by_cases c : j < d
  · rw [List.getElem?_take_of_lt c] at hj
    exact h j v hj
  · have hz : (vs.take d).length ≤ j := by
      rw [List.length_take]
      omega
    rw [List.getElem?_eq_none hz] at hj
    cases hj
abbrev tR3 (K : PySem.W.Frag) : TE := tSl (rSlL K) (tVar 2) tNoPart (tPart (tOp (rI0 fun i j => .int (i + j)) (tC (.int 1)) (tDrop 6)))
theorem r_three {σ : L2.St} {H : Hp} {t : Addr} {A : K74.Q2} {r : V} {Q : VK} (h0 : σ[0]? = some (some (.ref t))) (h2 : σ[2]? = some (some r)) (tap : TapAt H t) (pr : RowsV K A 60 r H)
    (k : ∀ (v : V) (n : Nat) (H' : Hp), n ≤ 5 → RowsV K A (n + 1) v H' → SameBut t H H' → TapAt H' t → Q v H') : tR3 K σ H Q := by
  refine ⟨r, h2, .ref t, h0, t, 6, rfl, tap, by decide, by decide, fun d H1 s1 tap1 d0 d1 => ⟨1, d, rfl, rfl, 1 + d, rfl, ?_⟩⟩
  obtain ⟨a, rfl, vs, z1, z2, z3⟩ := but_rows (n := 59) pr tap s1
  refine ⟨a, vs, rfl, .inl (.inl z1), fun p hp => ?_⟩
  have ed : 1 + d = ((d.toNat + 1 : Nat) : Int) := by omega
  rw [ed]
  obtain ⟨c1, c2⟩ := cut_rows (d := d.toNat + 1) z2 (by omega) z3
  have e5 := same_new (o := .lst (cutV vs none (some ((d.toNat + 1 : Nat) : Int)))) hp
  exact k (.ref p) d.toNat _ (by omega) ⟨p, rfl, _, upd_same, c1, fun j v hj => mo_fr _ _ _ e5 (c2 j v hj)⟩ (s1.trans (but_of e5)) (tap1.same e5)
/-! ### the shares -/
abbrev tLast (K : PySem.W.Frag) : TE := tOp (rIxL K) (tVar 4) (tUn (rU fun i => .int (-i)) (tC (.int 1)))
theorem hv_last {σ : L2.St} {H : Hp} {n : Nat} {A : K74.Q2} (h : Hv (tVar 4) σ H (RowsV K A (n + 1))) : Hv (tLast K) σ H (Fr K (K74.row A n)) :=
  hv_op h mo_rows (hv_neg (i := 1) hv_c) fun x y H1 e px py Q q => by
    obtain ⟨a, rfl, vs, h1, h2, h3⟩ := px
    subst py
    have hl : n < vs.length := by omega
    have hg := List.getElem?_eq_getElem hl
    have el : vs = vs.take n ++ [vs[n]] := by
      have z := List.take_append_drop n vs
      have d : vs.drop n = [vs[n]] := by
        rw [List.drop_eq_getElem_cons hl, List.drop_eq_nil_of_le (by omega)]
      rw [d] at z
      exact z.symm
    refine ⟨a, vs, -1, vs[n], rfl, rfl, .inl (.inl h1), ?_, q _ H1 (Same.refl H1) (h3 n _ hg)⟩
    have := atI_last (vs.take n) vs[n]
    rw [← el] at this
    exact this
theorem fq_part : K74.Fq (99, 100) := ⟨by decide, by decide, by decide +kernel, by decide +kernel⟩
theorem c2_part {A : K74.Q2} (fA : K74.Fac A) {k : Nat} (hk : k ≤ 98) : C2 (K74.row A k) (99, 100) := by
  have f := (K74.row_inn fA hk).fq
  exact c2_any f.pos f.sm1 f.sm2 fq_part
abbrev tR4 (K : PySem.W.Frag) : TE := tLst (tCons (tLast K) (tCons (tCall (spBin K C2 K74.mulF) [] E0 (tCons (tLast K) (tCons (tF 99 100) tNil))) (tCons (tCall (spIn K) [] E0 (tCons (tVar 0) tNil)) (tCons tTiny tNil))))
theorem r_four {σ : L2.St} {H : Hp} {t : Addr} {A : K74.Q2} {n : Nat} {s : V} {Q : VK} (h0 : σ[0]? = some (some (.ref t))) (h4 : σ[4]? = some (some s)) (tap : TapAt H t) (fA : K74.Fac A) (hn : n ≤ 5) (ps : RowsV K A (n + 1) s H)
    (k : ∀ (v : V) (gs : List K74.Q2) (H' : Hp), LsF K gs v H' → gs.length = 4 → (∀ g, g ∈ gs → K74.Inn g) → SameBut t H H' → TapAt H' t → Q v H') : tR4 K σ H Q := by
  have q4 : Hv (tVar 4) σ H (RowsV K A (n + 1)) := hv_varP h4 mo_rows ps
  refine (hv_last q4).run ?_
  intro v1 H1 e1 f1
  refine (hv_bin (C := C2) (g := K74.mulF) (hv_last (q4.mono e1)) (hv_tF (i := 99) (j := 100)) (c2_part fA (by omega))).run ?_
  intro v2 H2 e2 f2
  have tap2 := tap.same (e1.trans e2)
  refine ⟨.ref t, h0, t, rfl, tap2, fun v3 p3 H3 dr f3 s3 tap3 => ?_⟩
  refine ha_one (hv_tiny (K := K) (σ := σ) (H := H3)) H3 (Same.refl H3) _ ?_
  rintro vs4 H4 e4 ⟨v4, rfl, f4⟩
  have s4 : SameBut t H2 H4 := s3.trans (but_of e4)
  refine ⟨small_line (by show 4 ≤ 1000; decide), fun d hd => ?_⟩
  have e5 : Same H4 (upd H4 d (.lst [v1, v2, v3, v4])) := same_new hd
  refine k (.ref d) [K74.row A n, K74.mulF (K74.row A n) (99, 100), p3, (1, 10 ^ 30)] _ ⟨d, _, rfl, upd_same, ?_⟩ rfl ?_ (((but_of (e1.trans e2)).trans s4).trans (but_of e5)) ((tap3.same e4).same e5)
  · exact mo_frs e5 (ps := [K74.row A n, K74.mulF (K74.row A n) (99, 100), p3, (1, 10 ^ 30)]) (vs := [v1, v2, v3, v4]) ⟨fr_tap (mo_fr _ _ _ e2 f1) tap2 s4, fr_tap f2 tap2 s4, mo_fr _ _ _ e4 f3, f4, trivial⟩
  · intro g hg
    simp only [List.mem_cons, List.not_mem_nil, or_false] at hg
    rcases hg with rfl | rfl | rfl | rfl
    · exact K74.row_inn fA (by omega)
    · exact K74.goal_part fA hn
    · exact inn_of dr
    · exact K74.tiny_inn
end
end Kx

/-! What _law_right does behind its draws. -/
namespace Kx
open PySem PySem.Spec PyProof.Rows L2
section
variable {K : PySem.W.Frag} {A : K74.Q2}
theorem c2_swap {p q : K74.Q2} (h : C2 p q) : C2 q p := ⟨h.q2, h.p2, h.s3, h.s4, h.s1, h.s2⟩
theorem nn_part {c : Int} {k : Nat} (h0 : 1 ≤ c) (hc : c ≤ K74.B k) : K74.Nn (1, c) (K74.B k) := ⟨by show (0 : Int) ≤ 1; decide, by show 0 < c; omega, by show 1 ≤ K74.B k; omega, hc⟩
theorem c2_fac_part (fA : K74.Fac A) {c : Int} {k : Nat} (hk : k ≤ 20) (h0 : 1 ≤ c) (hc : c ≤ K74.B k) : C2 A (1, c) := c2_of (nn_fac fA) (nn_part h0 hc) (by decide) (by omega)
theorem c2_bound_part (fA : K74.Fac A) {c : Int} {k : Nat} (hk : k ≤ 20) (h0 : 1 ≤ c) (hc : c ≤ K74.B k) : C2 (K74.subF (1, 1) A) (K74.mulF A (1, c)) := by
  have o : K74.Nn (1, 1) (K74.B 1) := ⟨by decide, by decide, by decide, by decide⟩
  obtain ⟨a, b, c'⟩ := K74.sub_sm (j := 1) (by decide) o (nn_fac fA)
  have m := nn_mul fA (nn_part h0 hc)
  obtain ⟨d, e⟩ := K74.nn_sm (k := k + 1) (by omega) m (Int.le_refl _)
  exact ⟨a, m.p2, b, c', d, e⟩
theorem c2_rows (fA : K74.Fac A) {j k : Nat} (hj : j ≤ 98) (hk : k ≤ 98) : C2 (K74.row A j) (K74.row A k) := by
  have f := (K74.row_inn fA hj).fq
  exact c2_any f.pos f.sm1 f.sm2 (K74.row_inn fA hk).fq
abbrev sR (t : Addr) (e r b s g : V) (y6 y7 y8 y9 : Option V) : L2.St := [some (.ref t), some e, some r, some b, some s, some g, y6, y7, y8, y9, none]
/-- the law's slots, as they stand -/
structure Stand (K : PySem.W.Frag) (A : K74.Q2) (n : Nat) (e r b s : V) (H : Hp) : Prop where
  e : Fr K A e H
  r : RowsV K A 60 r H
  b : Fr K (K74.subF (1, 1) A) b H
  s : RowsV K A (n + 1) s H
theorem Stand.mono {n : Nat} {e r b s : V} {H H' : Hp} (h : Stand K A n e r b s H) (z : Same H H') : Stand K A n e r b s H' := ⟨mo_fr _ _ _ z h.e, mo_rows _ _ _ z h.r, mo_fr _ _ _ z h.b, mo_rows _ _ _ z h.s⟩
/-! ### more shares -/
abbrev tAbove (K : PySem.W.Frag) (tp : TE) : TE := tCall (spBin K C2 K74.addF) [] E0 (tCons (tVar 3) (tCons (tCall (spBin K C2 K74.mulF) [] E0 (tCons (tVar 1) (tCons tp tNil))) tNil))
abbrev tR5 (K : PySem.W.Frag) : TE := tOp rCat (tVar 5) (tLst (tCons (tVar 3) (tCons (tAbove K (tF 1 50)) (tCons (tAbove K tTiny) tNil))))
theorem r_five {t : Addr} {n : Nat} {e r b s g : V} {H : Hp} {gs : List K74.Q2} (fA : K74.Fac A) (st : Stand K A n e r b s H) (hg : LsF K gs g H) (hz : gs.length = 4) :
    Hv (tR5 K) (sR t e r b s g none none none none) H (LsF K (gs ++ [K74.subF (1, 1) A, K74.addF (K74.subF (1, 1) A) (K74.mulF A (1, 50)), K74.addF (K74.subF (1, 1) A) (K74.mulF A (1, 10 ^ 30))])) := by
  have q1 : Hv (tVar 1) (sR t e r b s g none none none none) H (Fr K A) := hv_varP rfl mo_fr st.e
  have q3 : Hv (tVar 3) (sR t e r b s g none none none none) H (Fr K (K74.subF (1, 1) A)) := hv_varP rfl mo_fr st.b
  refine hv_catF (hv_varP rfl mo_lsf hg) (hv_lsf (ha_frs q3 (ha_frs ?_ (ha_frs ?_ ha_frs0))) (by show 3 ≤ 1000; decide)) (by rw [hz]; show 4 + 3 ≤ 1000; decide)
  · exact hv_bin (C := C2) (g := K74.addF) q3 (hv_bin (C := C2) (g := K74.mulF) q1 (hv_tF (i := 1) (j := 50)) (c2_fac_part fA (k := 1) (by decide) (by decide) (by decide))) (c2_bound_part fA (k := 1) (by decide) (by decide) (by decide))
  · exact hv_bin (C := C2) (g := K74.addF) q3 (hv_bin (C := C2) (g := K74.mulF) q1 hv_tiny (c2_fac_part fA (k := 10) (by decide) (by decide) (by decide))) (c2_bound_part fA (k := 10) (by decide) (by decide) (by decide))
theorem five_inn {gs : List K74.Q2} (fA : K74.Fac A) (hl : A.1 < A.2) (h : ∀ g, g ∈ gs → K74.Inn g) : ∀ g, g ∈ gs ++ [K74.subF (1, 1) A, K74.addF (K74.subF (1, 1) A) (K74.mulF A (1, 50)), K74.addF (K74.subF (1, 1) A) (K74.mulF A (1, 10 ^ 30))] → K74.Inn g := by
  intro g hg
  rcases List.mem_append.mp hg with hg | hg
  · exact h g hg
  · simp only [List.mem_cons, List.not_mem_nil, or_false] at hg
    rcases hg with rfl | rfl | rfl
    · exact K74.bound_inn fA hl
    · exact K74.above_inn fA hl (j := 1) (by decide) (by decide) (by decide)
    · exact K74.above_inn fA hl (j := 10) (by decide) (by decide) (by decide)
/-! ### stays, of as many equal factors -/
abbrev tR6 (K : PySem.W.Frag) : TE := tCB (rAll K) (tCons (tLc (iRng1 (tCons (tCB (rLen K) (tCons (tVar 4) tNil)) tNil)) (gName 10) tYes
  (tOp (rEqD K) (tOp (rIxT K) (tCall (spSt K) [] E0 (tCons (tOp (rRep1 K) (tTup (tCons (tVar 1) tNil)) (tOp (rI0 fun i j => .int (i + j)) (tVar 10) (tC (.int 1)))) tNil)) (tC (.int 0))) (tOp (rIxL K) (tVar 4) (tVar 10))) [10]) tNil)
theorem r_six {t : Addr} {n : Nat} {e r b s g : V} {H : Hp} (fA : K74.Fac A) (hn : n ≤ 5) (st : Stand K A n e r b s H) : Hv (tR6 K) (sR t e r b s g none none none none) H (Is (.bl true)) := by
  refine hv_allR (n := n + 1) (hv_lenR (hv_varP rfl mo_rows st.s)) (fun _ => rfl) (by omega) ?_
  intro i hi
  refine hv_eqF (p := K74.row A i) (hv_stay fA (by omega) (hv_varP rfl mo_fr st.e) (hv_var rfl)) (hv_rowAt (n := n + 1) (hv_varP rfl mo_rows st.s) (hv_var rfl) hi)
/-! ### less with each stage -/
abbrev tR8 (K : PySem.W.Frag) : TE := tCB (rAll K) (tCons (tLc (iRng1 (tCons (tOp (rI0 fun i j => .int (i - j)) (tCB (rLen K) (tCons (tVar 4) tNil)) (tC (.int 1))) tNil)) (gName 10) tYes
  (tOp (rI0 fun i j => .bl (decide (i < j))) (tCall (spSide K) [] E0 (tCons (tOp (rIxL K) (tVar 4) (tOp (rI0 fun i j => .int (i + j)) (tVar 10) (tC (.int 1)))) (tCons (tOp (rIxL K) (tVar 4) (tVar 10)) tNil))) (tC (.int 0))) [10]) tNil)
theorem r_eight {t : Addr} {n : Nat} {e r b s g : V} {y6 y7 y8 y9 : Option V} {H : Hp} (fA : K74.Fac A) (hn : n ≤ 5) (st : Stand K A n e r b s H) : Hv (tR8 K) (sR t e r b s g y6 y7 y8 y9) H (Is (.bl true)) := by
  refine hv_allR (n := n) ((hv_sub (hv_lenR (hv_varP rfl mo_rows st.s)) hv_c).to ?_) (fun _ => rfl) (by omega) ?_
  · intro v H1 _ h
    have ee : ((n + 1 : Nat) : Int) - 1 = (n : Int) := by omega
    rw [ee] at h
    exact h
  · intro i hi
    have q : ∀ {σ : L2.St}, σ[4]? = some (some s) → Hv (tVar 4) σ H (RowsV K A (n + 1)) := fun h => hv_varP h mo_rows st.s
    have a1 : Hv (tOp (rI0 fun i j => .int (i + j)) (tVar 10) (tC (.int 1))) ((wipe (sR t e r b s g y6 y7 y8 y9) [10]).set 10 (some (.int (i : Int)))) H (Is (.int ((i + 1 : Nat) : Int))) := hv_add (i := (i : Int)) (j := 1) (hv_var rfl) hv_c
    have z := hv_I0 (g := fun i j => .bl (decide (i < j))) (hv_side (hv_rowAt (i := i + 1) (q rfl) a1 (by omega)) (hv_rowAt (i := i) (q rfl) (hv_var (i := 10) rfl) (by omega)) (c2_rows fA (by omega) (by omega))) (hv_c (x := .int 0))
    rw [falls_law fA i] at z
    exact z
/-! ### each share -/
abbrev tIsEver (K : PySem.W.Frag) : TE := tOrV (tOp (rI0 fun i j => .bl (decide (j ≤ i))) (tOp (rIxT K) (tVar 1) (tC (.int 0))) (tOp (rIxT K) (tVar 1) (tC (.int 1)))) (tOp (rI0 fun i j => .bl (decide (j < i))) (tCall (spSide K) [] E0 (tCons (tVar 6) (tCons (tVar 3) tNil))) (tC (.int 0)))
abbrev tEvers (K : PySem.W.Frag) : TT := tTest (tOp rNe (tCB rShwB (tCons (tLst (tCons (tCall (spEv K) [] E0 (tCons (tVar 1) (tCons (tVar 6) tNil))) (tCons (tKw (spEv K) (fun _ => E0) (tCons (tVar 1) (tCons (tVar 6) tNil))) tNil))) tNil)) (tCB rShwB (tCons (tLst (tCons (tVar 7) (tCons (tVar 7) tNil))) tNil)))
abbrev tCounts (K : PySem.W.Frag) : TE := tLc (iRng1 (tCons (tC (.int 60)) tNil)) (gName 10) (tTest (tOp (rI0 fun i j => .bl (decide (i ≤ j))) (tCall (spSide K) [] E0 (tCons (tOp (rIxL K) (tVar 2) (tVar 10)) (tCons (tVar 6) tNil))) (tC (.int 0)))) (tOp (rI0 fun i j => .int (i + j)) (tVar 10) (tC (.int 1))) [10]
abbrev tDue (K : PySem.W.Frag) : TE := tIf (tNot (tB (tVar 7))) (tC .non) (tIf (tTest (tOp (rNeD K) (tVar 8) (tLst tNil))) (tOp (rIxL K) (tVar 8) (tC (.int 0))) (tC (.str "many")))
abbrev tTolds (K : PySem.W.Frag) : TT := tTest (tOp rNe (tCB rShw (tCons (tCall (spTold K) [] E0 (tCons (tVar 1) (tCons (tVar 6) tNil))) tNil)) (tCB rShw (tCons (tVar 9) tNil)))
abbrev tBody (K : PySem.W.Frag) : TS := tSeq (tAsg (tIsEver K) (gName 7)) (tSeq (tIfS (tEvers K) (tRet (tC (.bl false))) tNext) (tSeq (tAsg (tCounts K) (gName 8)) (tSeq (tAsg (tDue K) (gName 9)) (tIfS (tTolds K) (tRet (tC (.bl false))) tNext))))
theorem due_law {ns : List Int} {A g : K74.Q2} (h : counts A g = ns.map V.int) (he : ever A g = true) : (ns = [] ∧ toldV A g = .str "many") ∨ ∃ n : Int, ∃ r : List Int, ns = n :: r ∧ toldV A g = .int n := by
  have c := counts_head A g
  rw [h] at c
  cases ns with
  | nil =>
    refine .inl ⟨rfl, ?_⟩
    have f : first A g = none := by
      cases hf : first A g with
      | none => rfl
      | some k =>
        rw [hf] at c
        cases c
    unfold toldV
    rw [he, if_pos rfl, f]
  | cons n r =>
    refine .inr ⟨n, r, rfl, ?_⟩
    cases hf : first A g with
    | none =>
      rw [hf] at c
      cases c
    | some k =>
      rw [hf] at c
      have e : V.int n = .int ((k : Int) + 1) := Option.some.inj c
      unfold toldV
      rw [he, if_pos rfl, hf, e]
theorem r_each {t : Addr} {n : Nat} {e r b s g v : V} {y7 y8 y9 : Option V} {H : Hp} {p : K74.Q2} {D : Ends} (fA : K74.Fac A) (hp : K74.Inn p) (st : Stand K A n e r b s H) (pv : Fr K p v H)
    (k : ∀ H' z7 z8 z9, Same H H' → D.nx (sR t e r b s g (some v) z7 z8 z9) H') : tBody K D (sR t e r b s g (some v) y7 y8 y9) H := by
  have pre : PreE A p := ⟨fA, hp⟩
  have c6 := c2_bound fA hp
  -- told by hand: ever
  refine Kx.s_set (P := Is (.bl (ever A p))) ?_ ?_
  · rw [← ever_law A p]
    have q1 : Hv (tVar 1) (sR t e r b s g (some v) y7 y8 y9) H (Fr K A) := hv_varP rfl mo_fr st.e
    have q3 : Hv (tVar 3) (sR t e r b s g (some v) y7 y8 y9) H (Fr K (K74.subF (1, 1) A)) := hv_varP rfl mo_fr st.b
    have q6 : Hv (tVar 6) (sR t e r b s g (some v) y7 y8 y9) H (Fr K p) := hv_varP rfl mo_fr pv
    exact hv_orV (hv_I0 (g := fun i j => .bl (decide (j ≤ i))) (hv_p0 q1) (hv_p1 q1)) fun _ => hv_I0 (g := fun i j => .bl (decide (j < i))) (hv_side q6 q3 (c2_swap c6)) hv_c
  rintro w7 H1 e1 rfl
  show tSeq _ _ D (sR t e r b s g (some v) (some (.bl (ever A p))) y8 y9) H1
  refine s_if (b := false) ?_ (fun z => by cases z) ?_
  · have q1 : Hv (tVar 1) (sR t e r b s g (some v) (some (.bl (ever A p))) y8 y9) H1 (Fr K A) := hv_varP rfl mo_fr (mo_fr _ _ _ e1 st.e)
    have q6 : Hv (tVar 6) (sR t e r b s g (some v) (some (.bl (ever A p))) y8 y9) H1 (Fr K p) := hv_varP rfl mo_fr (mo_fr _ _ _ e1 pv)
    exact ht_nes (hv_shwB (hv_lst2 (hv_ev pre q1 q6) (hv_twoK (R := fun p : K74.Q2 × K74.Q2 => Fr K p.1) (S := fun p : K74.Q2 × K74.Q2 => Fr K p.2) (pr := fun p => PreE p.1 p.2) (A, p) pre mo_fr q1 q6)))
      (hv_shwB (hv_lst2 (hv_var (i := 7) rfl) (hv_var (i := 7) rfl)))
  intro _ H2 e2
  show tSeq (tAsg (tCounts K) (gName 8)) _ D (sR t e r b s g (some v) (some (.bl (ever A p))) y8 y9) H2
  have e12 := e1.trans e2
  -- the counts
  refine Kx.s_set (P := LstT (counts A p)) ?_ ?_
  · refine hv_lcR (n := 60) (f := hits A p) (v := fun k => .int ((k : Int) + 1)) (ha_one hv_c) (fun _ => rfl) (by decide) ?_ ?_
    · intro i hi
      have q2 : Hv (tVar 2) ((wipe (sR t e r b s g (some v) (some (.bl (ever A p))) y8 y9) [10]).set 10 (some (.int (i : Int)))) H2 (RowsV K A 60) := hv_varP rfl mo_rows (mo_rows _ _ _ e12 st.r)
      have q6 : Hv (tVar 6) ((wipe (sR t e r b s g (some v) (some (.bl (ever A p))) y8 y9) [10]).set 10 (some (.int (i : Int)))) H2 (Fr K p) := hv_varP rfl mo_fr (mo_fr _ _ _ e12 pv)
      have z := ht_test (hv_I0 (g := fun i j => .bl (decide (i ≤ j))) (hv_side (hv_rowAt q2 (hv_var (i := 10) rfl) hi) q6 (c2_swap (c2_row fA hp (by omega)))) (hv_c (x := .int 0)))
      exact z.to (hits_law A p i)
    · intro i _ _
      exact hv_add (hv_var rfl) hv_c
  rintro w8 H3 e3 l8
  show tSeq _ _ D (sR t e r b s g (some v) (some (.bl (ever A p))) (some w8) y9) H3
  have e13 := e12.trans e3
  obtain ⟨ns, hns⟩ := counts_ints A p
  -- what is due
  refine Kx.s_set (P := Is (toldV A p)) ?_ ?_
  · refine hv_if (ht_not (ht_B (hv_var (i := 7) rfl))) (fun hz => ?_) (fun hz => ?_)
    · have he : ever A p = false := by
        cases he : ever A p with
        | false => rfl
        | true =>
          rw [he] at hz
          cases hz
      have ev : toldV A p = .non := by
        unfold toldV
        rw [he, if_neg Bool.false_ne_true]
      rw [ev]
      exact hv_c
    · have he : ever A p = true := by
        cases he : ever A p with
        | true => rfl
        | false =>
          rw [he] at hz
          cases hz
      rw [hns] at l8
      have q8 : Hv (tVar 8) (sR t e r b s g (some v) (some (.bl (ever A p))) (some w8) y9) H3 (LstT (ns.map V.int)) := hv_varP rfl mo_lstT l8
      have test := ht_test (hv_ne0 (K := K) q8)
      rcases due_law hns he with ⟨rfl, ev⟩ | ⟨m, ms, rfl, ev⟩
      · rw [ev]
        exact hv_if test (fun z => by cases z) fun _ => hv_c
      · rw [ev]
        exact hv_if test (fun _ => hv_ixL (q8.to fun _ _ _ h => lst_of h) hv_c (atI_nat (j := 0) rfl)) fun z => by cases z
  rintro w9 H4 e4 rfl
  have e14 := e13.trans e4
  show tIfS _ _ _ D (sR t e r b s g (some v) (some (.bl (ever A p))) (some w8) (some (toldV A p))) H4
  obtain ⟨tx, htx⟩ := shw_told A p
  refine s_if1 (b := false) ?_ (fun z => by cases z) ?_
  · have q1 : Hv (tVar 1) (sR t e r b s g (some v) (some (.bl (ever A p))) (some w8) (some (toldV A p))) H4 (Fr K A) := hv_varP rfl mo_fr (mo_fr _ _ _ e14 st.e)
    have q6 : Hv (tVar 6) (sR t e r b s g (some v) (some (.bl (ever A p))) (some w8) (some (toldV A p))) H4 (Fr K p) := hv_varP rfl mo_fr (mo_fr _ _ _ e14 pv)
    exact ht_nes (hv_shw (hv_two (R := fun p : K74.Q2 × K74.Q2 => Fr K p.1) (S := fun p : K74.Q2 × K74.Q2 => Fr K p.2) (pr := fun p => PreE p.1 p.2) (A, p) pre mo_fr q1 q6) htx) (hv_shw (hv_var (i := 9) rfl) htx)
  intro _ H5 e5
  exact k H5 _ _ _ (e14.trans e5)
/-! ### all behind the draws -/
abbrev tTail (K : PySem.W.Frag) : TS := tSeq (tIfS (tNot (tB (tR6 K))) (tRet (tC (.bl false))) tNext) (tSeq (tFor (iList K (tVar 5)) (gName 6) (tBody K)) (tRet (tR8 K)))
theorem r_tail {t : Addr} {n : Nat} {e r b s g : V} {H : Hp} {gs : List K74.Q2} {D : Ends} (fA : K74.Fac A) (hn : n ≤ 5) (st : Stand K A n e r b s H) (hg : LsF K gs g H) (hi : ∀ p, p ∈ gs → K74.Inn p)
    (k : ∀ H', Same H H' → D.rt (.bl true) H') : tTail K D (sR t e r b s g none none none none) H := by
  refine s_if (b := false) (ht_not (ht_B (r_six fA hn st))) (fun z => by cases z) ?_
  intro _ H1 e1
  obtain ⟨ga, gvs, rfl, h1, f1⟩ := mo_lsf _ _ _ e1 hg
  refine ⟨_, rfl, ga, rfl, ⟨_, .inl (.inl h1)⟩, ?_⟩
  refine for_list (K := K) (a := ga) (xs := gvs) (fun i σ H' => Same H1 H' ∧ ∃ y6 y7 y8 y9, σ = sR t e r b s (.ref ga) y6 y7 y8 y9) ⟨Same.refl H1, _, _, _, _, rfl⟩ ?_ ?_ ?_
  · rintro i σ H' _ ⟨z, _⟩
    exact .inl (.inl (z _ _ h1))
  · rintro i x σ H' hx ⟨z, y6, y7, y8, y9, rfl⟩
    obtain ⟨p, mp, fp⟩ := frs_at (mo_frs z f1) hx
    show tBody K _ (sR t e r b s (.ref ga) (some x) y7 y8 y9) H'
    exact r_each fA (hi p mp) (st.mono (e1.trans z)) fp fun H2 z7 z8 z9 e2 => ⟨z.trans e2, _, _, _, _, rfl⟩
  · rintro σ H' ⟨z, y6, y7, y8, y9, rfl⟩
    refine s_ret (r_eight fA hn (st.mono (e1.trans z))) ?_
    rintro v H2 e2 rfl
    exact k H2 ((e1.trans z).trans e2)
abbrev tTail5 (K : PySem.W.Frag) : TS := tSeq (tIfS (tTest (tOp (rI0 fun i j => .bl (decide (i < j))) (tOp (rIxT K) (tVar 1) (tC (.int 0))) (tOp (rIxT K) (tVar 1) (tC (.int 1))))) (tAsg (tR5 K) (gName 5)) tNext) (tTail K)
theorem r_tail5 {t : Addr} {n : Nat} {e r b s g : V} {H : Hp} {gs : List K74.Q2} {D : Ends} (fA : K74.Fac A) (hn : n ≤ 5) (st : Stand K A n e r b s H) (hg : LsF K gs g H) (hz : gs.length = 4) (hi : ∀ p, p ∈ gs → K74.Inn p)
    (k : ∀ H', Same H H' → D.rt (.bl true) H') : tTail5 K D (sR t e r b s g none none none none) H := by
  have q1 : Hv (tVar 1) (sR t e r b s g none none none none) H (Fr K A) := hv_varP rfl mo_fr st.e
  refine s_if (ht_test (hv_I0 (g := fun i j => .bl (decide (i < j))) (hv_p0 q1) (hv_p1 q1))) (fun hl H1 e1 => ?_) (fun _ H1 e1 => ?_)
  · refine s_set1 (r_five fA (st.mono e1) (mo_lsf _ _ _ e1 hg) hz) ?_
    intro v H2 e2 hv
    exact r_tail (t := t) fA hn (st.mono (e1.trans e2)) hv (five_inn fA (of_decide_eq_true hl) hi) fun H' e' => k H' ((e1.trans e2).trans e')
  · exact r_tail (t := t) fA hn (st.mono e1) (mo_lsf _ _ _ e1 hg) hi fun H' e' => k H' (e1.trans e')
end
end Kx

/-! _law_right. -/
namespace Kx
open PySem PySem.Spec PyProof.Rows L2
section
variable {P : Program} {w : World} {K : PySem.W.Frag} {mg : PySem.Str → Option Value} {base : Heap} {aO aZ CT CP : Addr}
abbrev nR : List PySem.Str := ["_law_tap_here", "_law_each", "_law_row", "_law_bound", "_law_some", "_law_goals", "_law_goal", "_law_is_ever", "_law_counts", "_law_due", "_law_at"]
theorem sc53 : FnScope nR ["_law_tap_here"] (defScope (topS 53)) := ⟨rfl, rfl, rfl, by decide +kernel, rfl, by decide +kernel, by decide +kernel⟩
theorem bd53 : Bnd "_law_right" (topS 53) ["_law_tap_here"] := ⟨fun _ _ _ _ _ _ us hl => match us, hl with | [_], _ => rfl, fun _ _ _ _ _ _ us hl => match us, hl with | [_], _ => rfl⟩
structure Kids (P : Program) (w : World) (K : PySem.W.Frag) (mg : PySem.Str → Option Value) (base : Heap) : Prop where
  drop : Cal P w K mg base CX0 1 "_law_drop" ["_law_tap_here", "_law_top"] spDrop
  of : Cal P w K mg base CX0 2 "_law_of" ["_law_tap_here", "_law_some"] (spOf K)
  am : Cal P w K mg base CX0 4 "_law_amount" ["_law_tap_here"] (spAm K)
  inn : Cal P w K mg base CX0 4 "_law_inner" ["_law_tap_here"] (spIn K)
  left : Cal P w K mg base CX0 5 "_law_left" ["_law_each"] (spLeft K)
  less : Cal P w K mg base CX0 4 "_law_less" ["_law_one", "_law_two"] (spBin K C2 K74.subF)
  add : Cal P w K mg base CX0 4 "_law_add" ["_law_one", "_law_two"] (spBin K C2 K74.addF)
  times : Cal P w K mg base CX0 4 "_law_times" ["_law_one", "_law_two"] (spBin K C2 K74.mulF)
  side : Cal P w K mg base CX0 1 "_law_side" ["_law_one", "_law_two"] (spSide K)
  stays : Cal P w K mg base CX0 7 "stays" ["factors"] (spSt K)
  ever : Cal P w K mg base CX0 6 "ever_left" ["factor", "share"] (spEv K)
  told : Cal P w K mg base CX0 7 "_law_stages_told" ["_law_each", "_law_goal"] (spTold K)
theorem hv_left {σ : L2.St} {H : Hp} {ta : TE} {A : K74.Q2} (fA : K74.Fac A) (h : Hv ta σ H (Fr K A)) : Hv (tCall (spLeft K) [] E0 (tCons ta tNil)) σ H (RowsV K A 60) :=
  hv_one (R := fun A : K74.Q2 => Fr K A) (pr := fun A => K74.Fac A) A fA h
theorem s_asg {te : TE} {i : Nat} {tz : TS} {D : Ends} {σ : L2.St} {H : Hp} (h : te σ H fun v H1 => tz D (σ.set i (some v)) H1) : tSeq (tAsg te (gName i)) tz D σ H := h
theorem s_asgG {te : TE} {g : TG} {tz : TS} {D : Ends} {σ : L2.St} {H : Hp} (h : te σ H fun v H1 => g v σ H1 (tz D)) : tSeq (tAsg te g) tz D σ H := h
theorem r_two {t : Addr} {ve : V} {A : K74.Q2} {H : Hp} {tz : TS} {D : Ends} (fA : K74.Fac A) (fe : Fr K A ve H)
    (k : ∀ vr vb H', Same H H' → RowsV K A 60 vr H' → Fr K (K74.subF (1, 1) A) vb H' → tz D [some (.ref t), some ve, some vr, some vb, none, none, none, none, none, none, none] H') :
    tSeq (tAsg (tTup (tCons (tCall (spLeft K) [] E0 (tCons (tVar 1) tNil)) (tCons (tCall (spBin K C2 K74.subF) [] E0 (tCons (tF 1 1) (tCons (tVar 1) tNil))) tNil))) (gTup K 2 (gCons (gName 2) (gCons (gName 3) gNil)))) tz D
      [some (.ref t), some ve, none, none, none, none, none, none, none, none, none] H := by
  have q1 : Hv (tVar 1) [some (.ref t), some ve, none, none, none, none, none, none, none, none, none] H (Fr K A) := hv_varP rfl mo_fr fe
  refine s_asgG ((hv_tup2 (K := K) (P := RowsV K A 60) (R := Fr K (K74.subF (1, 1) A)) (hv_left fA q1) mo_rows (hv_bin (C := C2) (g := K74.subF) (hv_tF (i := 1) (j := 1)) q1 (c2_one_fac fA)) mo_fr) H (Same.refl H) _ ?_)
  rintro vp H2 e2 ⟨vr, vb, fr, fb, ad, rfl, sq⟩
  exact ⟨ad, [vr, vb], rfl, sq, rfl, vr, [vb], rfl, vb, [], rfl, rfl, k vr vb H2 e2 fr fb⟩
theorem g_right (T : Top K mg) (D : DefAt K mg "_law_right" (topS 53)) (C : Kids P w K mg base) : ∃ (f : Addr) (fd : FuncData), FnG P w K mg base 8 f fd ["_law_tap_here"] spRight ∧ mg "_law_right" = some (.ref f) ∧ PySem.W.keepIn K (.ref f) = true ∧ Binds K fd ["_law_tap_here"] [] := by
  obtain ⟨f, fd, F, g⟩ := D.ex
  refine ⟨f, fd, fun_okG F sc53 ?_ ?_, g, F.kp, F.binds bd53.1⟩
  · rintro vs H Q E ⟨t, rfl, _⟩
    rfl
  · intro cdv A outer s H vs Q E hr hgd h
    obtain ⟨t, rfl, tap, k⟩ := h
    have hu : (A.deeper (envOfC "_law_right" (defScope (topS 53)) s.heap.objs.size f cdv)).units + 64 < cLine := hr.units
    have hr1 : Room 1 _ := hr.mono (by decide)
    have hr2 : Room 2 _ := hr.mono (by decide)
    have hr4 : Room 4 _ := hr.mono (by decide)
    have hr5 : Room 5 _ := hr.mono (by decide)
    have hr6 : Room 6 _ := hr.mono (by decide)
    refine ⟨_, pss_cons (L2.ps_set (i := 1) sc53.nd rfl (Or.inr rfl) (pe_ifExp (pt_cmpR op_eq (pe_cal C.drop hr1 (by rfl) (pa_cons (pv 0) (pa_cons pe_int pa_nil))) pe_int (nomark _))
        (pe_cal C.am hr4 (by rfl) (pa_cons (pv 0) pa_nil))
        (pe_cal C.of hr2 (by rfl) (pa_cons (pv 0) (pa_cons (pe_lst (pa_cons (pe_tup (pa_cons pe_int (pa_cons pe_int pa_nil))) (pa_cons (pe_tup (pa_cons pe_int (pa_cons pe_int pa_nil))) (pa_cons (pe_tup (pa_cons pe_int (pa_cons pe_int pa_nil)))
          (pa_cons (pe_tup (pa_cons pe_int (pa_cons pe_int pa_nil))) (pa_cons (pe_tup (pa_cons pe_int (pa_cons pe_int pa_nil))) (pa_cons (pe_tup (pa_cons pe_int (pa_cons pe_int pa_nil))) (pa_cons (pe_tup (pa_cons pe_int (pa_cons pe_int pa_nil))) pa_nil)))))))) pa_nil)))))
      (pss_cons (ps_asg (pe_tup (pa_cons (pe_cal C.left hr5 (by rfl) (pa_cons (pv 1) pa_nil)) (pa_cons (pe_cal C.less hr4 (by rfl) (pa_cons (pe_tup (pa_cons pe_int (pa_cons pe_int pa_nil))) (pa_cons (pv 1) pa_nil))) pa_nil)))
        (pg_tup rfl (pgs_cons (pg_name (i := 2) sc53.nd rfl (Or.inr rfl)) (pgs_cons (pg_name (i := 3) sc53.nd rfl (Or.inl rfl)) pgs_nil))))
      (pss_cons (L2.ps_set (i := 4) sc53.nd rfl (Or.inr rfl) (pe_slice sl_list (pv 2) po_none (po_some (pe_op op_add pe_int (pe_cal C.drop hr1 (by rfl) (pa_cons (pv 0) (pa_cons pe_int pa_nil)))))))
      (pss_cons (L2.ps_set (i := 5) sc53.nd rfl (Or.inl rfl) (pe_lst (pa_cons (pe_ix (ixL rfl) (pv 4) (pe_un un_neg pe_int) (fun _ _ => rfl))
        (pa_cons (pe_cal C.times hr4 (by rfl) (pa_cons (pe_ix (ixL rfl) (pv 4) (pe_un un_neg pe_int) (fun _ _ => rfl)) (pa_cons (pe_tup (pa_cons pe_int (pa_cons pe_int pa_nil))) pa_nil)))
        (pa_cons (pe_cal C.inn hr4 (by rfl) (pa_cons (pv 0) pa_nil)) (pa_cons (pe_tup (pa_cons pe_int (pa_cons (pe_op op_pow pe_int pe_int) pa_nil))) pa_nil))))))
      (pss_cons (ps_if (pt_cmpR op_lt (pe_ix (ixT rfl) (pv 1) pe_int (fun _ _ => rfl)) (pe_ix (ixT rfl) (pv 1) pe_int (fun _ _ => rfl)) (nomark _))
        (pss_one (L2.ps_set (i := 5) sc53.nd rfl (Or.inl rfl) (pe_op op_cat (pv 5) (pe_lst (pa_cons (pv 3)
          (pa_cons (pe_cal C.add hr4 (by rfl) (pa_cons (pv 3) (pa_cons (pe_cal C.times hr4 (by rfl) (pa_cons (pv 1) (pa_cons (pe_tup (pa_cons pe_int (pa_cons pe_int pa_nil))) pa_nil))) pa_nil)))
          (pa_cons (pe_cal C.add hr4 (by rfl) (pa_cons (pv 3) (pa_cons (pe_cal C.times hr4 (by rfl) (pa_cons (pv 1) (pa_cons (pe_tup (pa_cons pe_int (pa_cons (pe_op op_pow pe_int pe_int) pa_nil))) pa_nil))) pa_nil))) pa_nil))))))) pss_nil)
      (pss_cons (ps_if (pt_not (pt_val (pe_callB (cr_all rfl) (by rfl) T.all (by decide +kernel) (pa_cons (pe_lc (own := [("_law_at", 10)]) (g := gName 10) (tt := tYes) rfl sc53.nd (pi_range1 (by rfl) T.range (pa_cons (pe_callB call_len_seq (by rfl) T.len PySem.boot_len (pa_cons (pv 4) pa_nil)) pa_nil))
          (blkOk_by (N := nR) (sc := defScope (topS 53)) (by decide +kernel)) (fun _ _ _ _ _ => pg_name (i := 10) sc53.nd rfl (Or.inl rfl)) (fun _ _ _ _ _ => pts_nil)
          (fun _ _ _ _ _ => pe_cmpR (opEq rfl hu) (pe_ix (ixT rfl) (pe_cal C.stays hr (by rfl) (pa_cons (pe_op (opRep rfl) (pe_tup (pa_cons (pv 1) pa_nil)) (pe_op op_add (pv 10) pe_int)) pa_nil)) pe_int (fun _ _ => rfl))
            (pe_ix (ixL rfl) (pv 4) (pv 10) (fun _ _ => rfl)) (nomark _))) pa_nil)))) (pss_one (ps_ret pe_bl)) pss_nil)
      (pss_cons (ps_for PassesOwn.never rfl (pi_list (pv 5)) (pg_name (i := 6) sc53.nd rfl (Or.inr rfl))
        (pss_cons (L2.ps_set (i := 7) sc53.nd rfl (Or.inl rfl) (pe_or (pe_cmpR op_ge (pe_ix (ixT rfl) (pv 1) pe_int (fun _ _ => rfl)) (pe_ix (ixT rfl) (pv 1) pe_int (fun _ _ => rfl)) (nomark _))
          (pe_one (pe_cmpR op_gt (pe_cal C.side hr1 (by rfl) (pa_cons (pv 6) (pa_cons (pv 3) pa_nil))) pe_int (nomark _)))))
        (pss_cons (ps_if (pt_cmpR op_ne (pe_callB (call_shwB hgd hu) (by rfl) T.repr (by decide +kernel) (pa_cons (pe_lst (pa_cons (pe_cal C.ever hr6 (by rfl) (pa_cons (pv 1) (pa_cons (pv 6) pa_nil)))
            (pa_cons (pe_calK C.ever hr6 (by rfl) (pk_cons (pv 1) (pk_cons (pv 6) pk_nil))) pa_nil))) pa_nil))
          (pe_callB (call_shwB hgd hu) (by rfl) T.repr (by decide +kernel) (pa_cons (pe_lst (pa_cons (pv 7) (pa_cons (pv 7) pa_nil))) pa_nil)) (nomark _)) (pss_one (ps_ret pe_bl)) pss_nil)
        (pss_cons (ps_setLc (i := 8) (own := [("_law_at", 10)]) (g := gName 10) rfl sc53.nd rfl rfl (sw_true rfl rfl rfl (by decide +kernel)) (pi_range1 (by rfl) T.range (pa_cons pe_int pa_nil))
          (blkOk_by (N := nR) (sc := defScope (topS 53)) (by decide +kernel)) (fun _ _ _ _ _ => pg_name (i := 10) sc53.nd rfl (Or.inl rfl))
          (fun _ _ _ _ _ => pts_one (pt_cmpR op_le (pe_cal C.side hr1 (by rfl) (pa_cons (pe_ix (ixL rfl) (pv 2) (pv 10) (fun _ _ => rfl)) (pa_cons (pv 6) pa_nil))) pe_int (nomark _)))
          (fun _ _ _ _ _ => pe_op op_add (pv 10) pe_int))
        (pss_cons (L2.ps_set (i := 9) sc53.nd rfl (Or.inl rfl) (pe_ifExp (pt_not (pt_val (pv 7))) pe_non (pe_ifExp (pt_cmpR (opNe rfl hu) (pv 8) (pe_lst pa_nil) (nomark _)) (pe_ix (ixL rfl) (pv 8) pe_int (fun _ _ => rfl)) pe_str)))
        (pss_one (ps_if (pt_cmpR op_ne (pe_callB call_shw (by rfl) T.repr (by decide +kernel) (pa_cons (pe_cal C.told hr (by rfl) (pa_cons (pv 1) (pa_cons (pv 6) pa_nil))) pa_nil))
          (pe_callB call_shw (by rfl) T.repr (by decide +kernel) (pa_cons (pv 9) pa_nil)) (nomark _)) (pss_one (ps_ret pe_bl)) pss_nil)))))))
      (pss_one (ps_ret (pe_callB (cr_all rfl) (by rfl) T.all (by decide +kernel) (pa_cons (pe_lc (own := [("_law_at", 10)]) (g := gName 10) (tt := tYes) rfl sc53.nd (pi_range1 (by rfl) T.range (pa_cons (pe_op op_sub (pe_callB call_len_seq (by rfl) T.len PySem.boot_len (pa_cons (pv 4) pa_nil)) pe_int) pa_nil))
          (blkOk_by (N := nR) (sc := defScope (topS 53)) (by decide +kernel)) (fun _ _ _ _ _ => pg_name (i := 10) sc53.nd rfl (Or.inl rfl)) (fun _ _ _ _ _ => pts_nil)
          (fun _ _ _ _ _ => pe_cmpR op_lt (pe_cal C.side hr1 (by rfl) (pa_cons (pe_ix (ixL rfl) (pv 4) (pe_op op_add (pv 10) pe_int) (fun _ _ => rfl)) (pa_cons (pe_ix (ixL rfl) (pv 4) (pv 10) (fun _ _ => rfl)) pa_nil))) pe_int (nomark _))) pa_nil)))))))))), ?_⟩
    refine s_asg (r_one (K := K) (σ := start nR [.ref t]) rfl tap fun ve a H1 fA fe s1 tap1 => ?_)
    refine r_two (t := t) (ve := ve) fA fe fun vr vb H2 e2 fr fb => ?_
    have tap2 := tap1.same e2
    have fe2 := mo_fr _ _ _ e2 fe
    refine s_asg (r_three (K := K) (A := a) (r := vr) (σ := [some (.ref t), some ve, some vr, some vb, none, none, none, none, none, none, none]) rfl rfl tap2 fr fun vs n H3 hn ps s3 tap3 => ?_)
    have fe3 := fr_tap fe2 tap2 s3
    have fb3 := fr_tap fb tap2 s3
    have fr3 := but_rows (n := 59) fr tap2 s3
    refine s_asg (r_four (K := K) (A := a) (s := vs) (σ := [some (.ref t), some ve, some vr, some vb, some vs, none, none, none, none, none, none]) rfl rfl tap3 fA hn ps fun vg gs H4 hg hz hi s4 tap4 => ?_)
    have st : Stand K a n ve vr vb vs H4 := ⟨fr_tap fe3 tap3 s4, but_rows (n := 59) fr3 tap3 s4, fr_tap fb3 tap3 s4, but_rows ps tap3 s4⟩
    refine r_tail5 (t := t) fA hn st hg hz hi fun H' e' => ?_
    exact k H' ((((s1.trans (but_of e2)).trans s3).trans s4).trans (but_of e'))
end
end Kx

/-! The law. -/
namespace Kx
open PySem PySem.Spec PyProof.Rows L2
section
variable {P : Program} {w : World} {K : PySem.W.Frag} {mg : PySem.Str → Option Value} {base : Heap}
def spLaw (K : PySem.W.Frag) : Sp := fun vs H Q _ => ∃ (a : Addr) (ns : List Int), vs = [.ref a] ∧ SqL K H a (ns.map V.int) ∧ ∀ H', Q (.bl true) H'
abbrev nL : List PySem.Str := ["_law_script", "_law_turn"]
theorem sc54 : FnScope nL ["_law_script"] (defScope (topS 54)) := ⟨rfl, rfl, rfl, by decide +kernel, rfl, by decide +kernel, by decide +kernel⟩
theorem bd54 : Bnd "law" (topS 54) ["_law_script"] := ⟨fun _ _ _ _ _ _ us hl => match us, hl with | [_], _ => rfl, fun _ _ _ _ _ _ us hl => match us, hl with | [_], _ => rfl⟩
theorem same_tap {H H1 H2 : Hp} {t : Addr} (e : Same H H1) (n : H t = none) (s : SameBut t H1 H2) : Same H H2 := fun b o h => s b o (ne_of_none h n) (e b o h)
theorem g_law (T : Top K mg) (cT : Cal P w K mg base CX0 1 "_law_tap" ["_law_script", "_law_turn"] (spTap K))
    (cR : ∃ (f : Addr) (fd : FuncData), FnG P w K mg base 8 f fd ["_law_tap_here"] spRight ∧ mg "_law_right" = some (.ref f) ∧ PySem.W.keepIn K (.ref f) = true ∧ Binds K fd ["_law_tap_here"] [])
    {f : Addr} {fd : FuncData} (F : Fun K "law" "law" (topS 54) f fd) : FnG P w K mg base 9 f fd ["_law_script"] (spLaw K) := by
  obtain ⟨fr, fdr, FR, gR, kR, bR⟩ := cR
  refine fun_okG F sc54 ?_ ?_
  · rintro vs H Q E ⟨a, ns, rfl, _⟩
    rfl
  · intro cdv A outer s H vs Q E hr hgd h
    obtain ⟨a, ns, rfl, sq, k⟩ := h
    have hr1 : Room 1 _ := hr.mono (by decide)
    refine ⟨_, pss_one (ps_ret (pe_callB (cr_all rfl) (by rfl) T.all (by decide +kernel) (pa_cons (pe_lc (own := [("_law_turn", 1)]) (g := gName 1) (tt := tYes) rfl sc54.nd (pi_range1 (by rfl) T.range (pa_cons pe_int pa_nil))
          (blkOk_by (N := nL) (sc := defScope (topS 54)) (by decide +kernel)) (fun _ _ _ _ _ => pg_name (i := 1) sc54.nd rfl (Or.inl rfl)) (fun _ _ _ _ _ => pts_nil)
          (fun _ _ _ _ _ => pe_callG FR hr hgd (by rfl) gR kR bR (pa_cons (pe_cal cT hr1 (by rfl) (pa_cons (pv 0) (pa_cons (pv 1) pa_nil))) pa_nil))) pa_nil))), ?_⟩
    refine s_ret (hv_allR (n := 2) hv_c (fun _ => rfl) (by decide) (σ := start nL [.ref a]) (H := H) ?_) fun v H' _ p => by
      subst p
      exact k H'
    intro i hi H1 e1 Q1 q1
    refine ⟨.ref a, rfl, .int (i : Int), rfl, a, ns, i, rfl, sqL_mo e1 sq, by omega, fun t H2 e2 nt tap => ?_⟩
    exact ⟨t, rfl, tap, fun H3 s3 => q1 _ H3 (same_tap e2 nt s3) rfl⟩
end
end Kx

/-! All of it, from what the top has written. -/
namespace Kx
open PySem PySem.Spec PyProof.Rows L2
theorem def_at {K : PySem.W.Frag} {h : Heap} {mg : PySem.Str → Option Value} (X : K.In h) (G : h.Ns mainGlobals mg) {x : PySem.Str} {st : Stmt} {f : Addr} {od an : Option Addr} {sl : Array (Option Value)} {oc kV dc pm cd ct : Value}
    (a : PySem.W.nsIn K mainGlobals x = some (some (.ref f))) (l : K.lookup f = some ⟨oc, od, .func (PySem.W.fnOf x x (defArgs st) (defBody st) (defScope st) .none kV dc pm an cd ct), sl⟩) (c : PySem.W.codeIn K cd x = true) (k : PySem.W.keepIn K (.ref f) = true) :
    DefAt K mg x st := ⟨f, _, fun_mk l c k, PySem.W.mg_of X G a⟩
/-- a pair of numbers that the top has written -/
theorem pair_at {K : PySem.W.Frag} {a : Addr} {t1 t2 : Tok} {i j : Int} {dd : Option Addr} {sl : Array (Option Value)} {n : Nat} (l : K.lookup a = some { cls := .type "tuple", dict := dd, data := .seq #[.int i t1, .int j t2] n, slots := sl }) (H : Hp) : SqT K H a [.int i, .int j] :=
  .inr ⟨_, #[.int i t1, .int j t2], n, l, rfl, rfl, (by show 2 ≤ sizeLine; decide), .cons ⟨_, rfl⟩ (.cons ⟨_, rfl⟩ .nil)⟩
section
variable {P : Program} {w : World} {K : PySem.W.Frag} {mg : PySem.Str → Option Value} {base : Heap} {aO aZ CT CP f : Addr} {fd : FuncData}
theorem all_law (T : Top K mg) (T2 : Top2 K mg aO aZ CT CP) (T3 : Top3 K CT CP) (D8 : DefAt K mg "is_whole" (topS 8)) (D9 : DefAt K mg "are_wholes" (topS 9)) (D10 : DefAt K mg "divisor_of" (topS 10)) (D11 : DefAt K mg "lowest" (topS 11)) (D15 : DefAt K mg "is_ratio" (topS 15)) (D16 : DefAt K mg "ratio" (topS 16)) (D17 : DefAt K mg "plus" (topS 17)) (D18 : DefAt K mg "minus" (topS 18)) (D19 : DefAt K mg "times" (topS 19)) (D20 : DefAt K mg "over" (topS 20)) (D21 : DefAt K mg "is_below" (topS 21)) (D23 : DefAt K mg "is_inner" (topS 23)) (D24 : DefAt K mg "is_amount" (topS 24)) (D26 : DefAt K mg "check_amount" (topS 26)) (D29 : DefAt K mg "check_factors" (topS 29)) (D30 : DefAt K mg "check_inner" (topS 30)) (D31 : DefAt K mg "sums_by" (topS 31)) (D32 : DefAt K mg "stays_by" (topS 32)) (D33 : DefAt K mg "stays" (topS 33)) (D34 : DefAt K mg "is_ever" (topS 34)) (D35 : DefAt K mg "ever_left" (topS 35)) (D36 : DefAt K mg "fewest_stages" (topS 36)) (D38 : DefAt K mg "_law_tap" (topS 38)) (D39 : DefAt K mg "_law_drop" (topS 39)) (D40 : DefAt K mg "_law_of" (topS 40)) (D41 : DefAt K mg "_law_gcd" (topS 41)) (D42 : DefAt K mg "_law_thin" (topS 42)) (D43 : DefAt K mg "_law_frac" (topS 43)) (D44 : DefAt K mg "_law_add" (topS 44)) (D45 : DefAt K mg "_law_less" (topS 45)) (D46 : DefAt K mg "_law_times" (topS 46)) (D47 : DefAt K mg "_law_over" (topS 47)) (D48 : DefAt K mg "_law_side" (topS 48)) (D49 : DefAt K mg "_law_amount" (topS 49)) (D50 : DefAt K mg "_law_inner" (topS 50)) (D51 : DefAt K mg "_law_left" (topS 51)) (D52 : DefAt K mg "_law_stages_told" (topS 52)) (D53 : DefAt K mg "_law_right" (topS 53))
    (F : Fun K "law" "law" (topS 54) f fd) : FnG P w K mg base 9 f fd ["_law_script"] (spLaw K) := by
  have c8 := c_whole (P := P) (w := w) (base := base) T D8
  have c9 := c_wholes T D9 c8
  have c10 := c_div (P := P) (w := w) (base := base) T D10
  have c11 := c_low T D11 c10
  have c15 := c_isr T D15 c9 c10
  have c16 := c_rat D16 c11
  have c17 := c_plus D17 c16
  have c18 := c_minus D18 c16
  have c19 := c_times D19 c16
  have c20 := c_over D20 c16
  have c21 := c_bel (P := P) (w := w) (base := base) D21
  have c23 := c_inn D23 c15
  have c24 := c_amt D24 c15
  have c26 := c_ckA D26 c24
  have c29 := c_ckF T T2 D29 c24
  have c30 := c_ckI D30 c23
  have c31 := c_sum T2 D31 c17 c19
  have c32 := c_stB T2 D32 c31 c20 c18
  have c33 := c_st D33 c29 c32
  have c34 := c_ev T2 D34 c21 c18
  have c35 := c_evL D35 c26 c30 c34
  have c36 := c_few T T2 D36 c26 c30 c34 c17 c19 c20 c21
  have c38 := c_tap (P := P) (w := w) (base := base) T D38
  have c39 := c_drop (P := P) (w := w) (base := base) T D39
  have c40 := c_of T D40 c39
  have c41 := c_gcd (P := P) (w := w) (base := base) T D41
  have c42 := c_thin T D42 c41
  have c43 := c_frac D43 c42
  have c44 := c_lAdd D44 c43
  have c45 := c_lLess D45 c43
  have c46 := c_lTimes D46 c43
  have c47 := c_lOver D47 c43
  have c48 := c_side (P := P) (w := w) (base := base) D48
  have c49 := c_am D49 c39 c40 c43
  have c50 := c_in D50 c39 c40 c43
  have c51 := c_left T D51 c44 c46 c47
  have c52 := c_told T T2 T3 D52 c36
  exact g_law T c38 (g_right T D53 ⟨c39, c40, c49, c50, c51, c45, c44, c46, c48, c33, c35, c52⟩) F
end
end Kx

namespace Kx
open PySem PySem.Spec PyProof.Rows L2
theorem kit_cls {K : PySem.W.Frag} {t : Value} {C : Addr} {b : Bool} (b2 : PySem.W.isClsIn K C = true) (b3 : PySem.W.typeIn K (.ref C) = some (.type "type")) (b4 : PySem.W.subIn K t (.ref C) = some b) : PySem.W.kitCls K t (.ref C) = some b := by
  have b2' : (PySem.W.clsIn K C).isSome = true := b2
  unfold PySem.W.kitCls
  simp only [b2', b3, b4]
  rfl
theorem kit_mine {K : PySem.W.Frag} {t : Value} {C : Addr} (h : PySem.W.kitCls K t (.ref C) = some true) : PySem.W.kitOne K t (.ref C) = some true := by
  unfold PySem.W.kitOne
  rw [h]
  exact ite_self _
theorem exm_mine {K : PySem.W.Frag} {t : Value} {C : Addr} (b1 : PySem.W.subIn K (.ref C) (.type "BaseException") = some true) (h : PySem.W.kitCls K t (.ref C) = some true) : PySem.W.exmOne K t (.ref C) = some true := by
  unfold PySem.W.exmOne
  rw [b1, h]
  rfl
abbrev DefOf {K : PySem.W.Frag} {h : Heap} (_ : K.In h) (mg : PySem.Str → Option Value) (x : PySem.Str) (st : Stmt) : Prop := DefAt K mg x st
abbrev TopOf {K : PySem.W.Frag} {h : Heap} (_ : K.In h) (mg : PySem.Str → Option Value) : Prop := Top K mg
abbrev Two2 {K : PySem.W.Frag} {h : Heap} (_ : K.In h) (mg : PySem.Str → Option Value) : Prop := ∃ aO aZ CT CP, Top2 K mg aO aZ CT CP ∧ Top3 K CT CP
theorem top_two {K : PySem.W.Frag} {h : Heap} {mg : PySem.Str → Option Value} (X : K.In h) (G : h.Ns mainGlobals mg) {aO aZ CT CP : Addr} {t1 t2 t3 t4 t5 : Tok} {d1 d2 : Option Addr} {n1 n2 : Nat} {sl1 sl2 : Array (Option Value)}
    (a1 : PySem.W.nsIn K mainGlobals "ONE" = some (some (.ref aO))) (l1 : K.lookup aO = some ⟨.type "tuple", d1, .seq #[.int 1 t1, .int 1 t2] n1, sl1⟩)
    (a2 : PySem.W.nsIn K mainGlobals "ZERO" = some (some (.ref aZ))) (l2 : K.lookup aZ = some ⟨.type "tuple", d2, .seq #[.int 0 t3, .int 1 t4] n2, sl2⟩)
    (a3 : PySem.W.nsIn K mainGlobals "MOST_STAGES" = some (some (.int 60 t5))) (a4 : PySem.W.nsIn K mainGlobals "TooMany" = some (some (.ref CT))) (a5 : PySem.W.nsIn K mainGlobals "PlateError" = some (some (.ref CP)))
    (x4 : PySem.W.excIn K CT [.type "ValueError", .type "Exception", .type "BaseException", .type "object"] "ValueError.__new__" = true) (k4 : PySem.W.keepIn K (.ref CT) = true)
    (b4 : PySem.W.subIn K (.ref CT) (.type "BaseException") = some true) (t4' : PySem.W.typeIn K (.ref CT) = some (.type "type")) (i4 : PySem.W.isClsIn K CT = true) (s4 : PySem.W.subIn K (.ref CT) (.ref CT) = some true)
    (t6 : PySem.W.typeIn K (.ref CP) = some (.type "type")) (i6 : PySem.W.isClsIn K CP = true) (s6 : PySem.W.subIn K (.ref CT) (.ref CP) = some true)
    (hg : PySem.W.findIn K (.ref CT) "__getattribute__" = some (some (.builtin "BaseException.__getattribute__"))) (hk : PySem.W.findIn K (.ref CT) "__getattr__" = some none) (hd : PySem.W.hasDictIn K CT = true)
    (ha : PySem.W.findIn K (.ref CT) "__class__" = some (some (.builtin "object.__class__"))) (hn : PySem.W.specialIn K (.builtin "object.__class__") "__get__" = some (some (.builtin "getset_descriptor.__get__")))
    (ht : PySem.W.takesIn K (.builtin "object.__class__") = some true) (hm : PySem.W.mroIn K CT (.type "object") = some true) : Two2 X mg :=
  ⟨aO, aZ, CT, CP, ⟨PySem.W.mg_of X G a1, pair_at l1, PySem.W.mg_of X G a2, pair_at l2, ⟨t5, PySem.W.mg_of X G a3⟩, PySem.W.mg_of X G a4, x4, k4, b4, t4', PySem.W.mg_of X G a5⟩,
    ⟨⟨hg, hk, b4, hd, ha, hn, ht, hm⟩, kit_mine (kit_cls i6 t6 s6), exm_mine b4 (kit_cls i4 t4' s4)⟩⟩
theorem law_at {P : Program} {w : World} {K : PySem.W.Frag} {h : Heap} {mg : PySem.Str → Option Value} (X : K.In h) (G : h.Ns mainGlobals mg) {fa f : Addr} (hfa : mg "law" = some (.ref fa)) {od an : Option Addr} {sl : Array (Option Value)} {oc kV dc pm cd ct : Value}
    (a : PySem.W.nsIn K mainGlobals "law" = some (some (.ref f))) (l : K.lookup f = some ⟨oc, od, .func (PySem.W.fnOf "law" "law" (defArgs (topS 54)) (defBody (topS 54)) (defScope (topS 54)) .none kV dc pm an cd ct), sl⟩) (c : PySem.W.codeIn K cd "law" = true) (k : PySem.W.keepIn K (.ref f) = true)
    (H : ∀ {fd : FuncData}, Fun K "law" "law" (topS 54) f fd → ∀ base : Heap, FnG P w K mg base 9 f fd ["_law_script"] (spLaw K)) :
    ∃ fd : FuncData, (∀ (s : Shared) (u : Value), BindsTo s fd ⟨[u], []⟩ [("_law_script", u)]) ∧ ∀ base : Heap, K.In base → base.Ns mainGlobals mg → FnG P w K mg base 9 fa fd ["_law_script"] (spLaw K) := by
  have e := hfa.symm.trans (PySem.W.mg_of X G a)
  cases e
  exact ⟨_, fun s u => .of_eq rfl, fun base _ _ => H (fun_mk l c k) base⟩
end Kx
open PySem PySem.W PyProof.Rows
set_option maxHeartbeats 0 in
theorem PySem.Challenge.cw_stillplates_k74_whole_stages_of_one_fact_holds : PySem.Challenge.rw_stillplates_k74_whole_stages_of_one_fact.Holds := by
  w_on; o_law; k_head; (case hw => w_witness2)
  k_fill
  refine Kx.walk_ofG (l := PySem.Challenge.rw_stillplates_k74_whole_stages_of_one_fact) (n := 63) (k := 9) (x := "_law_script") (sp := Kx.spLaw) rfl (by decide) rfl ⟨rfl, by decide, by decide⟩ (fun w h Y => PySem.W.kIn_of Y) ?F (fun K H a ns _ hS => ⟨a, ns, rfl, hS, fun _ => rfl⟩)
  case F =>
    intro w mg fa h KX G hmg
    have D8 : Kx.DefOf KX mg "is_whole" (Kx.topS 8) := by
      refine' Kx.def_at KX G ?a ?l ?c ?k
      (case a => k_is); (case l => k_is); (case c => k_is); (case k => k_is)
    have D9 : Kx.DefOf KX mg "are_wholes" (Kx.topS 9) := by
      refine' Kx.def_at KX G ?a ?l ?c ?k
      (case a => k_is); (case l => k_is); (case c => k_is); (case k => k_is)
    have D10 : Kx.DefOf KX mg "divisor_of" (Kx.topS 10) := by
      refine' Kx.def_at KX G ?a ?l ?c ?k
      (case a => k_is); (case l => k_is); (case c => k_is); (case k => k_is)
    have D11 : Kx.DefOf KX mg "lowest" (Kx.topS 11) := by
      refine' Kx.def_at KX G ?a ?l ?c ?k
      (case a => k_is); (case l => k_is); (case c => k_is); (case k => k_is)
    have D15 : Kx.DefOf KX mg "is_ratio" (Kx.topS 15) := by
      refine' Kx.def_at KX G ?a ?l ?c ?k
      (case a => k_is); (case l => k_is); (case c => k_is); (case k => k_is)
    have D16 : Kx.DefOf KX mg "ratio" (Kx.topS 16) := by
      refine' Kx.def_at KX G ?a ?l ?c ?k
      (case a => k_is); (case l => k_is); (case c => k_is); (case k => k_is)
    have D17 : Kx.DefOf KX mg "plus" (Kx.topS 17) := by
      refine' Kx.def_at KX G ?a ?l ?c ?k
      (case a => k_is); (case l => k_is); (case c => k_is); (case k => k_is)
    have D18 : Kx.DefOf KX mg "minus" (Kx.topS 18) := by
      refine' Kx.def_at KX G ?a ?l ?c ?k
      (case a => k_is); (case l => k_is); (case c => k_is); (case k => k_is)
    have D19 : Kx.DefOf KX mg "times" (Kx.topS 19) := by
      refine' Kx.def_at KX G ?a ?l ?c ?k
      (case a => k_is); (case l => k_is); (case c => k_is); (case k => k_is)
    have D20 : Kx.DefOf KX mg "over" (Kx.topS 20) := by
      refine' Kx.def_at KX G ?a ?l ?c ?k
      (case a => k_is); (case l => k_is); (case c => k_is); (case k => k_is)
    have D21 : Kx.DefOf KX mg "is_below" (Kx.topS 21) := by
      refine' Kx.def_at KX G ?a ?l ?c ?k
      (case a => k_is); (case l => k_is); (case c => k_is); (case k => k_is)
    have D23 : Kx.DefOf KX mg "is_inner" (Kx.topS 23) := by
      refine' Kx.def_at KX G ?a ?l ?c ?k
      (case a => k_is); (case l => k_is); (case c => k_is); (case k => k_is)
    have D24 : Kx.DefOf KX mg "is_amount" (Kx.topS 24) := by
      refine' Kx.def_at KX G ?a ?l ?c ?k
      (case a => k_is); (case l => k_is); (case c => k_is); (case k => k_is)
    have D26 : Kx.DefOf KX mg "check_amount" (Kx.topS 26) := by
      refine' Kx.def_at KX G ?a ?l ?c ?k
      (case a => k_is); (case l => k_is); (case c => k_is); (case k => k_is)
    have D29 : Kx.DefOf KX mg "check_factors" (Kx.topS 29) := by
      refine' Kx.def_at KX G ?a ?l ?c ?k
      (case a => k_is); (case l => k_is); (case c => k_is); (case k => k_is)
    have D30 : Kx.DefOf KX mg "check_inner" (Kx.topS 30) := by
      refine' Kx.def_at KX G ?a ?l ?c ?k
      (case a => k_is); (case l => k_is); (case c => k_is); (case k => k_is)
    have D31 : Kx.DefOf KX mg "sums_by" (Kx.topS 31) := by
      refine' Kx.def_at KX G ?a ?l ?c ?k
      (case a => k_is); (case l => k_is); (case c => k_is); (case k => k_is)
    have D32 : Kx.DefOf KX mg "stays_by" (Kx.topS 32) := by
      refine' Kx.def_at KX G ?a ?l ?c ?k
      (case a => k_is); (case l => k_is); (case c => k_is); (case k => k_is)
    have D33 : Kx.DefOf KX mg "stays" (Kx.topS 33) := by
      refine' Kx.def_at KX G ?a ?l ?c ?k
      (case a => k_is); (case l => k_is); (case c => k_is); (case k => k_is)
    have D34 : Kx.DefOf KX mg "is_ever" (Kx.topS 34) := by
      refine' Kx.def_at KX G ?a ?l ?c ?k
      (case a => k_is); (case l => k_is); (case c => k_is); (case k => k_is)
    have D35 : Kx.DefOf KX mg "ever_left" (Kx.topS 35) := by
      refine' Kx.def_at KX G ?a ?l ?c ?k
      (case a => k_is); (case l => k_is); (case c => k_is); (case k => k_is)
    have D36 : Kx.DefOf KX mg "fewest_stages" (Kx.topS 36) := by
      refine' Kx.def_at KX G ?a ?l ?c ?k
      (case a => k_is); (case l => k_is); (case c => k_is); (case k => k_is)
    have D38 : Kx.DefOf KX mg "_law_tap" (Kx.topS 38) := by
      refine' Kx.def_at KX G ?a ?l ?c ?k
      (case a => k_is); (case l => k_is); (case c => k_is); (case k => k_is)
    have D39 : Kx.DefOf KX mg "_law_drop" (Kx.topS 39) := by
      refine' Kx.def_at KX G ?a ?l ?c ?k
      (case a => k_is); (case l => k_is); (case c => k_is); (case k => k_is)
    have D40 : Kx.DefOf KX mg "_law_of" (Kx.topS 40) := by
      refine' Kx.def_at KX G ?a ?l ?c ?k
      (case a => k_is); (case l => k_is); (case c => k_is); (case k => k_is)
    have D41 : Kx.DefOf KX mg "_law_gcd" (Kx.topS 41) := by
      refine' Kx.def_at KX G ?a ?l ?c ?k
      (case a => k_is); (case l => k_is); (case c => k_is); (case k => k_is)
    have D42 : Kx.DefOf KX mg "_law_thin" (Kx.topS 42) := by
      refine' Kx.def_at KX G ?a ?l ?c ?k
      (case a => k_is); (case l => k_is); (case c => k_is); (case k => k_is)
    have D43 : Kx.DefOf KX mg "_law_frac" (Kx.topS 43) := by
      refine' Kx.def_at KX G ?a ?l ?c ?k
      (case a => k_is); (case l => k_is); (case c => k_is); (case k => k_is)
    have D44 : Kx.DefOf KX mg "_law_add" (Kx.topS 44) := by
      refine' Kx.def_at KX G ?a ?l ?c ?k
      (case a => k_is); (case l => k_is); (case c => k_is); (case k => k_is)
    have D45 : Kx.DefOf KX mg "_law_less" (Kx.topS 45) := by
      refine' Kx.def_at KX G ?a ?l ?c ?k
      (case a => k_is); (case l => k_is); (case c => k_is); (case k => k_is)
    have D46 : Kx.DefOf KX mg "_law_times" (Kx.topS 46) := by
      refine' Kx.def_at KX G ?a ?l ?c ?k
      (case a => k_is); (case l => k_is); (case c => k_is); (case k => k_is)
    have D47 : Kx.DefOf KX mg "_law_over" (Kx.topS 47) := by
      refine' Kx.def_at KX G ?a ?l ?c ?k
      (case a => k_is); (case l => k_is); (case c => k_is); (case k => k_is)
    have D48 : Kx.DefOf KX mg "_law_side" (Kx.topS 48) := by
      refine' Kx.def_at KX G ?a ?l ?c ?k
      (case a => k_is); (case l => k_is); (case c => k_is); (case k => k_is)
    have D49 : Kx.DefOf KX mg "_law_amount" (Kx.topS 49) := by
      refine' Kx.def_at KX G ?a ?l ?c ?k
      (case a => k_is); (case l => k_is); (case c => k_is); (case k => k_is)
    have D50 : Kx.DefOf KX mg "_law_inner" (Kx.topS 50) := by
      refine' Kx.def_at KX G ?a ?l ?c ?k
      (case a => k_is); (case l => k_is); (case c => k_is); (case k => k_is)
    have D51 : Kx.DefOf KX mg "_law_left" (Kx.topS 51) := by
      refine' Kx.def_at KX G ?a ?l ?c ?k
      (case a => k_is); (case l => k_is); (case c => k_is); (case k => k_is)
    have D52 : Kx.DefOf KX mg "_law_stages_told" (Kx.topS 52) := by
      refine' Kx.def_at KX G ?a ?l ?c ?k
      (case a => k_is); (case l => k_is); (case c => k_is); (case k => k_is)
    have D53 : Kx.DefOf KX mg "_law_right" (Kx.topS 53) := by
      refine' Kx.def_at KX G ?a ?l ?c ?k
      (case a => k_is); (case l => k_is); (case c => k_is); (case k => k_is)
    have T : Kx.TopOf KX mg := by
      refine' ⟨PySem.W.mg_none_of KX G ?z0, PySem.W.mg_none_of KX G ?z1, PySem.W.mg_none_of KX G ?z2, PySem.W.mg_none_of KX G ?z3, PySem.W.mg_none_of KX G ?z4, PySem.W.mg_none_of KX G ?z5, PySem.W.mg_none_of KX G ?z6, PySem.W.mg_none_of KX G ?z7, PySem.W.mg_none_of KX G ?z8, PySem.W.mg_none_of KX G ?z9, PySem.W.mg_none_of KX G ?z10, PySem.W.mg_none_of KX G ?z11, PySem.W.mg_of KX G ?zg⟩
      (case z0 => k_is); (case z1 => k_is); (case z2 => k_is); (case z3 => k_is); (case z4 => k_is); (case z5 => k_is); (case z6 => k_is); (case z7 => k_is); (case z8 => k_is); (case z9 => k_is); (case z10 => k_is); (case z11 => k_is); (case zg => k_is)
    have T2 : Kx.Two2 KX mg := by
      refine' Kx.top_two KX G ?a1 ?l1 ?a2 ?l2 ?a3 ?a4 ?a5 ?x4 ?k4 ?b4 ?t4' ?i4 ?s4 ?t6 ?i6 ?s6 ?hg ?hk ?hd ?ha ?hn ?ht ?hm
      (case a1 => k_is)
      (case l1 => k_is)
      (case a2 => k_is)
      (case l2 => k_is)
      (case a3 => k_is)
      (case a4 => k_is)
      (case a5 => k_is)
      (case x4 => k_exc)
      (case k4 => k_is)
      (case b4 => k_is)
      (case t4' => k_is)
      (case i4 => k_is)
      (case s4 => first | rfl | k_is)
      (case t6 => k_is)
      (case i6 => k_is)
      (case s6 => k_is)
      (case hg => k_is)
      (case hk => k_is)
      (case hd => k_is)
      (case ha => k_is)
      (case hn => k_is)
      (case ht => k_is)
      (case hm => k_is)
    obtain ⟨aO, aZ, CT, CP, T2, T3⟩ := T2
    refine' Kx.law_at KX G hmg ?a ?l ?c ?k ?H
    (case a => k_is); (case l => k_is); (case c => k_is); (case k => k_is)
    case H =>
      intro fd F base
      exact Kx.all_law T T2 T3 D8 D9 D10 D11 D15 D16 D17 D18 D19 D20 D21 D23 D24 D26 D29 D30 D31 D32 D33 D34 D35 D36 D38 D39 D40 D41 D42 D43 D44 D45 D46 D47 D48 D49 D50 D51 D52 D53 F

