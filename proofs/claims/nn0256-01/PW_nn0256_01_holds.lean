import PyProof.Rows.All
import Wide.All
import OpenK.AllK
import Wide.FinOn
import Lean
import PySem.Challenge.RW_nn0256_01
set_option Elab.async false
set_option linter.unusedVariables false
set_option genInjectivity false
set_option genSizeOf false
namespace Mine
section
def Le (x : Int) (k : Nat) : Prop := -2^k ≤ x ∧ x ≤ 2^k
theorem two_pos (k : Nat) : (0:Int) < 2^k := Int.pow_pos (by decide)
theorem Le.mono {x : Int} {i j : Nat} (h : Le x i) (hij : i ≤ j) : Le x j := by
  have : (2:Int)^i ≤ 2^j := by
    have h : (2^i : Nat) ≤ 2^j := Nat.pow_le_pow_right (by decide) hij
    have h2 : ((2^i : Nat) : Int) ≤ ((2^j : Nat) : Int) := by omega
    simpa using h2
  unfold Le at *; omega
theorem Le.neg {x : Int} {i : Nat} (h : Le x i) : Le (-x) i := by unfold Le at *; omega
theorem Le.add {x y : Int} {i j k : Nat} (h : Le x i) (g : Le y j) (hi : i < k) (hj : j < k) : Le (x + y) k := by
  have h1 := h.mono (Nat.le_pred_of_lt hi)
  have h2 := g.mono (Nat.le_pred_of_lt hj)
  obtain ⟨n, rfl⟩ : ∃ n, k = n + 1 := ⟨k - 1, by omega⟩
  simp only [Nat.add_one_sub_one, Nat.pred_eq_sub_one] at h1 h2
  unfold Le at *
  rw [Int.pow_succ]; omega
theorem Le.sub {x y : Int} {i j k : Nat} (h : Le x i) (g : Le y j) (hi : i < k) (hj : j < k) : Le (x - y) k := by
  rw [Int.sub_eq_add_neg]; exact h.add g.neg hi hj
theorem Le.abs {x : Int} {i : Nat} : Le x i ↔ x.natAbs ≤ 2^i := by
  unfold Le
  have : ((2^i : Nat) : Int) = 2^i := by simp
  omega
theorem Le.mul {x y : Int} {i j k : Nat} (h : Le x i) (g : Le y j) (hk : i + j ≤ k) : Le (x * y) k := by
  refine Le.mono (i := i + j) ?_ hk
  rw [Le.abs] at *
  rw [Int.natAbs_mul, Nat.pow_add]
  exact Nat.mul_le_mul h g
theorem Le.of {x : Int} {i : Nat} (h0 : 0 ≤ x) (h : x ≤ 2^i) : Le x i := ⟨by have := two_pos i; omega, h⟩
theorem sq_ge (a : Int) : a ≤ a*a ∧ -a ≤ a*a ∧ 0 ≤ a*a := by
  rcases Int.lt_trichotomy a 0 with h | h | h
  · have h1 : (-a)*1 ≤ (-a)*(-a) := Int.mul_le_mul_of_nonneg_left (by omega) (by omega)
    have h2 : (-a)*(-a) = a*a := by grind
    omega
  · subst h; decide
  · have h1 : a*1 ≤ a*a := Int.mul_le_mul_of_nonneg_left (by omega) (by omega)
    omega
theorem Le.of_sq {a d : Int} {i : Nat} (h : a*a ≤ d) (hd : Le d i) : Le a i := by
  have := sq_ge a
  unfold Le at *; omega

structure Nm where
  (a0 a1 a2 x b0 b1 b2 y c0 c1 c2 z d1 d2 d3 p q r : Int)
namespace Nm
def g00 (s : Nm) : Int := s.a0*s.a0 + s.a1*s.a1 + s.a2*s.a2 + s.x*s.x
def g10 (s : Nm) : Int := s.b0*s.a0 + s.b1*s.a1 + s.b2*s.a2 + s.y*s.x
def g11 (s : Nm) : Int := s.b0*s.b0 + s.b1*s.b1 + s.b2*s.b2 + s.y*s.y
def g20 (s : Nm) : Int := s.c0*s.a0 + s.c1*s.a1 + s.c2*s.a2 + s.z*s.x
def g21 (s : Nm) : Int := s.c0*s.b0 + s.c1*s.b1 + s.c2*s.b2 + s.z*s.y
def g22 (s : Nm) : Int := s.c0*s.c0 + s.c1*s.c1 + s.c2*s.c2 + s.z*s.z
def det (s : Nm) : Int := s.a0*(s.b1*s.c2 - s.b2*s.c1) - s.a1*(s.b0*s.c2 - s.b2*s.c0) + s.a2*(s.b0*s.c1 - s.b1*s.c0)
end Nm
structure Inv (W n0 n1 n2 : Int) (s : Nm) : Prop where
  hx : s.x = W * (s.a0*n0 + s.a1*n1 + s.a2*n2)
  hy : s.y = W * (s.b0*n0 + s.b1*n1 + s.b2*n2)
  hz : s.z = W * (s.c0*n0 + s.c1*n1 + s.c2*n2)
  det : s.det = 1 ∨ s.det = -1
  d1 : s.d1 = s.g00
  p : s.p = s.g10
  q : s.q = s.g20
  d2 : s.d1 * s.g11 = s.d2 + s.p*s.p
  r : s.d1 * s.g21 = s.r + s.q*s.p
  d3 : s.d1 * s.d3 = s.d2 * (s.d1 * s.g22 - s.q*s.q) - s.r*s.r
  h3 : s.d3 = 1 + W*W*(n0*n0+n1*n1+n2*n2)
  p1 : 0 < s.d1
  p2 : 0 < s.d2
def sh10 (k : Int) (s : Nm) : Nm := { s with b0 := s.b0 - k*s.a0, b1 := s.b1 - k*s.a1, b2 := s.b2 - k*s.a2, y := s.y - k*s.x, p := s.p - k*s.d1 }
def sh21 (k : Int) (s : Nm) : Nm := { s with c0 := s.c0 - k*s.b0, c1 := s.c1 - k*s.b1, c2 := s.c2 - k*s.b2, z := s.z - k*s.y, r := s.r - k*s.d2, q := s.q - k*s.p }
def sh20 (k : Int) (s : Nm) : Nm := { s with c0 := s.c0 - k*s.a0, c1 := s.c1 - k*s.a1, c2 := s.c2 - k*s.a2, z := s.z - k*s.x, q := s.q - k*s.d1 }
def ex1 (s : Nm) : Nm :=
  let d := (1*s.d2 + s.p*s.p).fdiv s.d1
  let r := (s.d2*s.q - s.p*s.r).fdiv s.d1
  { s with a0 := s.b0, a1 := s.b1, a2 := s.b2, x := s.y, b0 := s.a0, b1 := s.a1, b2 := s.a2, y := s.x, d1 := d, r := r, q := (d*s.r + s.p*r).fdiv s.d2 }
def ex2 (s : Nm) : Nm :=
  { s with b0 := s.c0, b1 := s.c1, b2 := s.c2, y := s.z, c0 := s.b0, c1 := s.b1, c2 := s.b2, z := s.y, d2 := (s.d1*s.d3 + s.r*s.r).fdiv s.d2, p := s.q, q := s.p }

theorem lin {W n0 n1 n2 a0 a1 a2 x b0 b1 b2 y : Int} (k : Int) (hy : y = W*(b0*n0+b1*n1+b2*n2)) (hx : x = W*(a0*n0+a1*n1+a2*n2)) : y - k*x = W*((b0-k*a0)*n0+(b1-k*a1)*n1+(b2-k*a2)*n2) := by
  subst hx hy; grind
theorem det10 (a0 a1 a2 b0 b1 b2 c0 c1 c2 k : Int) : a0*((b1-k*a1)*c2 - (b2-k*a2)*c1) - a1*((b0-k*a0)*c2 - (b2-k*a2)*c0) + a2*((b0-k*a0)*c1-(b1-k*a1)*c0) = a0*(b1*c2 - b2*c1) - a1*(b0*c2 - b2*c0) + a2*(b0*c1-b1*c0) := by grind
theorem det21 (a0 a1 a2 b0 b1 b2 c0 c1 c2 k : Int) : a0*(b1*(c2-k*b2) - b2*(c1-k*b1)) - a1*(b0*(c2-k*b2) - b2*(c0-k*b0)) + a2*(b0*(c1-k*b1)-b1*(c0-k*b0)) = a0*(b1*c2 - b2*c1) - a1*(b0*c2 - b2*c0) + a2*(b0*c1-b1*c0) := by grind
theorem det20 (a0 a1 a2 b0 b1 b2 c0 c1 c2 k : Int) : a0*(b1*(c2-k*a2) - b2*(c1-k*a1)) - a1*(b0*(c2-k*a2) - b2*(c0-k*a0)) + a2*(b0*(c1-k*a1)-b1*(c0-k*a0)) = a0*(b1*c2 - b2*c1) - a1*(b0*c2 - b2*c0) + a2*(b0*c1-b1*c0) := by grind
section
variable {W n0 n1 n2 : Int} {s : Nm}
theorem g10_sh10 (k : Int) : (sh10 k s).g10 = s.g10 - k*s.g00 := by simp only [Mine.sh10, Nm.g00, Nm.g10]; grind
theorem g11_sh10 (k : Int) : (sh10 k s).g11 = s.g11 - 2*k*s.g10 + k*k*s.g00 := by simp only [Mine.sh10, Nm.g00, Nm.g10, Nm.g11]; grind
theorem g21_sh10 (k : Int) : (sh10 k s).g21 = s.g21 - k*s.g20 := by simp only [Mine.sh10, Nm.g20, Nm.g21]; grind
theorem g20_sh21 (k : Int) : (sh21 k s).g20 = s.g20 - k*s.g10 := by simp only [Mine.sh21, Nm.g20, Nm.g10]; grind
theorem g21_sh21 (k : Int) : (sh21 k s).g21 = s.g21 - k*s.g11 := by simp only [Mine.sh21, Nm.g21, Nm.g11]; grind
theorem g22_sh21 (k : Int) : (sh21 k s).g22 = s.g22 - 2*k*s.g21 + k*k*s.g11 := by simp only [Mine.sh21, Nm.g21, Nm.g11, Nm.g22]; grind
theorem g20_sh20 (k : Int) : (sh20 k s).g20 = s.g20 - k*s.g00 := by simp only [Mine.sh20, Nm.g20, Nm.g00]; grind
theorem g21_sh20 (k : Int) : (sh20 k s).g21 = s.g21 - k*s.g10 := by simp only [Mine.sh20, Nm.g21, Nm.g10]; grind
theorem g22_sh20 (k : Int) : (sh20 k s).g22 = s.g22 - 2*k*s.g20 + k*k*s.g00 := by simp only [Mine.sh20, Nm.g20, Nm.g00, Nm.g22]; grind
theorem Inv.sh10 (I : Inv W n0 n1 n2 s) (k : Int) : Inv W n0 n1 n2 (sh10 k s) where
  hx := I.hx
  hy := lin k I.hy I.hx
  hz := I.hz
  det := by have := det10 s.a0 s.a1 s.a2 s.b0 s.b1 s.b2 s.c0 s.c1 s.c2 k; have h := I.det; unfold Nm.det at *; simp only [Mine.sh10]; rw [this]; exact h
  d1 := I.d1
  p := by rw [g10_sh10, ← I.d1, ← I.p]; rfl
  q := I.q
  d2 := by rw [g11_sh10, ← I.d1, ← I.p]; have := I.d2; simp only [Mine.sh10]; grind
  r := by rw [g21_sh10, ← I.q]; have := I.r; simp only [Mine.sh10]; grind
  d3 := I.d3
  h3 := I.h3
  p1 := I.p1
  p2 := I.p2
theorem Inv.sh21 (I : Inv W n0 n1 n2 s) (k : Int) : Inv W n0 n1 n2 (sh21 k s) where
  hx := I.hx
  hy := I.hy
  hz := lin k I.hz I.hy
  det := by have := det21 s.a0 s.a1 s.a2 s.b0 s.b1 s.b2 s.c0 s.c1 s.c2 k; have h := I.det; unfold Nm.det at *; simp only [Mine.sh21]; rw [this]; exact h
  d1 := I.d1
  p := I.p
  q := by rw [g20_sh21, ← I.q, ← I.p]; rfl
  d2 := I.d2
  r := by rw [g21_sh21]; have := I.r; have := I.d2; simp only [Mine.sh21]; grind
  d3 := by rw [g22_sh21]; have := I.r; have := I.d2; have := I.d3; simp only [Mine.sh21]; grind
  h3 := I.h3
  p1 := I.p1
  p2 := I.p2
theorem Inv.sh20 (I : Inv W n0 n1 n2 s) (k : Int) : Inv W n0 n1 n2 (sh20 k s) where
  hx := I.hx
  hy := I.hy
  hz := lin k I.hz I.hx
  det := by have := det20 s.a0 s.a1 s.a2 s.b0 s.b1 s.b2 s.c0 s.c1 s.c2 k; have h := I.det; unfold Nm.det at *; simp only [Mine.sh20]; rw [this]; exact h
  d1 := I.d1
  p := I.p
  q := by rw [g20_sh20, ← I.q, ← I.d1]; rfl
  d2 := I.d2
  r := by rw [g21_sh20, ← I.p]; have := I.r; simp only [Mine.sh20]; grind
  d3 := by rw [g22_sh20, ← I.q, ← I.d1]; have := I.d3; simp only [Mine.sh20]; grind
  h3 := I.h3
  p1 := I.p1
  p2 := I.p2
theorem fdiv_of {a b c : Int} (hb : 0 < b) (h : a = b * c) : a.fdiv b = c := by
  rw [h, Int.mul_comm]; exact Int.mul_fdiv_cancel _ (by omega)
theorem Inv.e1 (I : Inv W n0 n1 n2 s) : (1*s.d2 + s.p*s.p).fdiv s.d1 = s.g11 := fdiv_of I.p1 (by have := I.d2; omega)
theorem Inv.e2 (I : Inv W n0 n1 n2 s) : (s.d2*s.q - s.p*s.r).fdiv s.d1 = s.g11*s.q - s.g21*s.p := fdiv_of I.p1 (by have := I.d2; have := I.r; grind)
theorem Inv.e3 (I : Inv W n0 n1 n2 s) : (s.g11*s.r + s.p*(s.g11*s.q - s.g21*s.p)).fdiv s.d2 = s.g21 := fdiv_of I.p2 (by have := I.d2; have := I.r; grind)
theorem Inv.e4 (I : Inv W n0 n1 n2 s) : (s.d1*s.d3 + s.r*s.r).fdiv s.d2 = s.d1 * s.g22 - s.q*s.q := fdiv_of I.p2 (by have := I.d3; grind)
theorem Inv.ex1_eq (I : Inv W n0 n1 n2 s) : ex1 s = { s with a0 := s.b0, a1 := s.b1, a2 := s.b2, x := s.y, b0 := s.a0, b1 := s.a1, b2 := s.a2, y := s.x, d1 := s.g11, r := s.g11*s.q - s.g21*s.p, q := s.g21 } := by
  simp only [ex1]; rw [I.e1, I.e2, I.e3]
theorem Inv.ex2_eq (I : Inv W n0 n1 n2 s) : ex2 s = { s with b0 := s.c0, b1 := s.c1, b2 := s.c2, y := s.z, c0 := s.b0, c1 := s.b1, c2 := s.b2, z := s.y, d2 := s.d1 * s.g22 - s.q*s.q, p := s.q, q := s.p } := by
  simp only [ex2]; rw [I.e4]
theorem Inv.g11_pos (I : Inv W n0 n1 n2 s) : 0 < s.g11 := by
  have h1 := I.d2; have h2 := (sq_ge s.p).2.2; have h3 := I.p2; have h4 := I.p1
  exact Int.pos_of_mul_pos_right (by omega : 0 < s.d1 * s.g11) h4
theorem Inv.d2_pos (I : Inv W n0 n1 n2 s) (h0 : 0 < s.d3) : 0 < s.d1 * s.g22 - s.q*s.q := by
  have h1 := I.d3; have h2 := (sq_ge s.r).2.2; have h3 := I.p2; have h4 := Int.mul_pos I.p1 h0
  exact Int.pos_of_mul_pos_right (by omega : 0 < s.d2 * (s.d1 * s.g22 - s.q*s.q)) h3
theorem Inv.d3_pos (I : Inv W n0 n1 n2 s) : 0 < s.d3 := by
  rw [I.h3]
  have := (sq_ge n0).2.2; have := (sq_ge n1).2.2; have := (sq_ge n2).2.2; have h := (sq_ge W).2.2
  have := Int.mul_nonneg h (by omega : 0 ≤ n0*n0+n1*n1+n2*n2)
  omega
theorem Inv.ex1 (I : Inv W n0 n1 n2 s) : Inv W n0 n1 n2 (ex1 s) := by
  rw [I.ex1_eq]
  exact
  { hx := I.hy
    hy := I.hx
    hz := I.hz
    det := by have h := I.det; unfold Nm.det at *; simp only; rcases h with h | h; (right; rw [← h]; grind); (left; have : (1 : Int) = -(-1) := rfl; rw [this, ← h]; grind)
    d1 := rfl
    p := by rw [I.p]; simp only [Nm.g10]; grind
    q := rfl
    d2 := by have := I.d2; have := I.d1; show s.g11 * s.g00 = s.d2 + s.p*s.p; grind
    r := by show s.g11 * s.g20 = s.g11*s.q - s.g21*s.p + s.g21*s.p; rw [I.q]; omega
    d3 := by
      show s.g11 * s.d3 = s.d2 * (s.g11 * s.g22 - s.g21*s.g21) - (s.g11*s.q - s.g21*s.p)*(s.g11*s.q - s.g21*s.p)
      have h1 := I.d3; have h2 := I.d2; have h3 := I.r; have h4 := I.p1
      refine Int.eq_of_mul_eq_mul_left (a := s.d1) (by omega) ?_
      revert h1 h2 h3
      generalize s.g11 = e; generalize s.g22 = f; generalize s.g21 = g
      intro h1 h2 h3
      have e1 : s.d1 * (e * s.d3) = e * (s.d2 * (s.d1 * f - s.q*s.q) - s.r*s.r) := by rw [← h1]; grind
      rw [e1]
      have e2 : s.r = s.d1 * g - s.q*s.p := by omega
      have e3 : s.d2 = s.d1 * e - s.p*s.p := by omega
      rw [e2, e3]; grind
    h3 := I.h3
    p1 := I.g11_pos
    p2 := I.p2 }
theorem Inv.ex2 (I : Inv W n0 n1 n2 s) : Inv W n0 n1 n2 (ex2 s) := by
  rw [I.ex2_eq]
  exact
  { hx := I.hx
    hy := I.hz
    hz := I.hy
    det := by have h := I.det; unfold Nm.det at *; simp only; rcases h with h | h; (right; rw [← h]; grind); (left; have : (1 : Int) = -(-1) := rfl; rw [this, ← h]; grind)
    d1 := I.d1
    p := I.q
    q := I.p
    d2 := by show s.d1 * s.g22 = _; simp only; omega
    r := by
      have := I.r
      have e : Nm.g21 { s with b0 := s.c0, b1 := s.c1, b2 := s.c2, y := s.z, c0 := s.b0, c1 := s.b1, c2 := s.b2, z := s.y, d2 := s.d1 * s.g22 - s.q*s.q, p := s.q, q := s.p } = s.g21 := by simp only [Nm.g21]; grind
      rw [e]; simp only; rw [this, Int.mul_comm s.p]
    d3 := by
      show s.d1 * s.d3 = (s.d1 * s.g22 - s.q*s.q) * (s.d1 * s.g11 - s.p*s.p) - s.r*s.r
      rw [I.d2, I.d3]; grind
    h3 := I.h3
    p1 := I.p1
    p2 := I.d2_pos I.d3_pos }
end
end
section
/-- the program's rounding -/
def near (a b : Int) : Int := (2 * a + b).fdiv (2 * b)
theorem near_def (a b : Int) : near a b = (2 * a + b).fdiv (2 * b) := rfl
theorem near_red {a b : Int} (hb : 0 < b) : -b ≤ 2*(a - near a b * b) ∧ 2*(a - near a b * b) ≤ b := by
  have h1 := Int.mul_fdiv_add_fmod (2*a+b) (2*b)
  have h2 := Int.fmod_nonneg_of_pos (2*a+b) (by omega : 0 < 2*b)
  have h3 := Int.fmod_lt_of_pos (2*a+b) (by omega : 0 < 2*b)
  rw [← near_def] at h1
  have e : 2 * b * near a b = 2 * (near a b * b) := by grind
  omega
theorem near_le {a b : Int} {i k : Nat} (hb : 0 < b) (ha : Le a i) (hk : i < k) : Le (near a b) k := by
  obtain ⟨h1, h2⟩ := near_red (a := a) hb
  generalize near a b = n at *
  have hp := two_pos i
  have hn : Le n (i + 1) := by
    unfold Le at ha ⊢
    rw [Int.pow_succ]
    constructor
    · refine Int.not_lt.mp fun hc => ?_
      have : (2^i + 1) * b ≤ (-n) * b := Int.mul_le_mul_of_nonneg_right (by omega) (by omega)
      have h5 : 2^i * 1 ≤ 2^i * b := Int.mul_le_mul_of_nonneg_left (by omega) (by omega)
      have e1 : (2^i + 1) * b = 2^i * b + b := by grind
      have e2 : (-n) * b = -(n*b) := by grind
      omega
    · refine Int.not_lt.mp fun hc => ?_
      have : (2^i + 1) * b ≤ n * b := Int.mul_le_mul_of_nonneg_right (by omega) (by omega)
      have h5 : 2^i * 1 ≤ 2^i * b := Int.mul_le_mul_of_nonneg_left (by omega) (by omega)
      have e1 : (2^i + 1) * b = 2^i * b + b := by grind
      omega
  exact hn.mono hk

/-- reduced at the first pair -/
def Red1 (s : Nm) : Prop := (-s.d1 ≤ 2*s.p ∧ 2*s.p ≤ s.d1) ∧ 3*s.d1*s.d1 ≤ 4*(s.d2 + s.p*s.p)
def Red2 (s : Nm) : Prop := (-s.d2 ≤ 2*s.r ∧ 2*s.r ≤ s.d2) ∧ 3*s.d2*s.d2 ≤ 4*(s.d3*s.d1 + s.r*s.r)

/-- sizes: those that never rise -/
structure Bas (s : Nm) : Prop where
  h1 : Le s.d1 128
  h2 : Le s.d2 256
  h3 : Le s.d3 128
structure RowC (s : Nm) (k : Nat) : Prop where
  h0 : Le s.c0 k
  h1 : Le s.c1 k
  h2 : Le s.c2 k
  h3 : Le s.z k
structure RowB (s : Nm) (k : Nat) : Prop where
  h0 : Le s.b0 k
  h1 : Le s.b1 k
  h2 : Le s.b2 k
  h3 : Le s.y k
structure RowA (s : Nm) (k : Nat) : Prop where
  h0 : Le s.a0 k
  h1 : Le s.a1 k
  h2 : Le s.a2 k
  h3 : Le s.x k
theorem dot_le {a b c d a' b' c' d' : Int} {i j k : Nat} (h1 : Le a i) (h2 : Le b i) (h3 : Le c i) (h4 : Le d i) (g1 : Le a' j) (g2 : Le b' j) (g3 : Le c' j) (g4 : Le d' j) (hk : i + j + 3 ≤ k) :
    Le (a*a' + b*b' + c*c' + d*d') k := by
  have m1 := h1.mul g1 (Nat.le_refl _)
  have m2 := h2.mul g2 (Nat.le_refl _)
  have m3 := h3.mul g3 (Nat.le_refl _)
  have m4 := h4.mul g4 (Nat.le_refl _)
  exact (((m1.add m2 (Nat.lt_succ_self _) (Nat.lt_succ_self _)).add m3 (Nat.lt_succ_self _) (by omega)).add m4 (Nat.lt_succ_self _) (by omega)).mono (by omega)
theorem row_le {a b c d e : Int} {i : Nat} (h : e = a*a + b*b + c*c + d*d) (he : Le e i) : Le a i ∧ Le b i ∧ Le c i ∧ Le d i := by
  have h1 := (sq_ge a).2.2; have h2 := (sq_ge b).2.2; have h3 := (sq_ge c).2.2; have h4 := (sq_ge d).2.2
  exact ⟨he.of_sq (by omega), he.of_sq (by omega), he.of_sq (by omega), he.of_sq (by omega)⟩
section
variable {W n0 n1 n2 : Int} {s : Nm}
theorem Inv.rowA (I : Inv W n0 n1 n2 s) (B : Bas s) : RowA s 128 := by
  obtain ⟨h1, h2, h3, h4⟩ := row_le I.d1 B.h1
  exact ⟨h1, h2, h3, h4⟩
theorem Inv.rowB (I : Inv W n0 n1 n2 s) (B : Bas s) (h : -s.d1 ≤ 2*s.p ∧ 2*s.p ≤ s.d1) : RowB s 258 := by
  have h2 := I.d2
  have h3 := I.p1
  have h4 := I.g11_pos
  have h5 : Le s.g11 258 := by
    have hp : s.p * s.p ≤ s.d1 * s.d1 := by
      have := sq_ge s.p
      have e : s.p*s.p = s.p.natAbs * s.p.natAbs := by rw [Int.natAbs_mul_self']
      have e2 : s.d1*s.d1 = s.d1.natAbs * s.d1.natAbs := by rw [Int.natAbs_mul_self']
      have : s.p.natAbs * s.p.natAbs ≤ s.d1.natAbs * s.d1.natAbs := Nat.mul_le_mul (by omega) (by omega)
      rw [e, e2]; exact_mod_cast this
    have h6 : s.g11 ≤ s.d2 + s.d1 * s.d1 := by
      have : 1 * s.g11 ≤ s.d1 * s.g11 := Int.mul_le_mul_of_nonneg_right (by omega) (by omega)
      omega
    have h7 : Le (s.d2 + s.d1 * s.d1) 258 := B.h2.add (B.h1.mul B.h1 (Nat.le_refl 256)) (by decide) (by decide)
    exact Le.of (by omega) (by have := h7.2; omega)
  obtain ⟨h1, h2, h3, h4⟩ := row_le (a := s.b0) (b := s.b1) (c := s.b2) (d := s.y) rfl h5
  exact ⟨h1, h2, h3, h4⟩
end
/-- all numbers of the state are small -/
structure Sm (s : Nm) : Prop where
  a : RowA s 2000
  b : RowB s 2000
  c : RowC s 2000
  d1 : Le s.d1 2000
  d2 : Le s.d2 2000
  d3 : Le s.d3 2000
  p : Le s.p 2000
  q : Le s.q 2000
  r : Le s.r 2000
theorem RowA.mono {s : Nm} {i j : Nat} (h : RowA s i) (hj : i ≤ j) : RowA s j := ⟨h.h0.mono hj, h.h1.mono hj, h.h2.mono hj, h.h3.mono hj⟩
theorem RowB.mono {s : Nm} {i j : Nat} (h : RowB s i) (hj : i ≤ j) : RowB s j := ⟨h.h0.mono hj, h.h1.mono hj, h.h2.mono hj, h.h3.mono hj⟩
theorem RowC.mono {s : Nm} {i j : Nat} (h : RowC s i) (hj : i ≤ j) : RowC s j := ⟨h.h0.mono hj, h.h1.mono hj, h.h2.mono hj, h.h3.mono hj⟩
section
variable {W n0 n1 n2 : Int} {s : Nm}
theorem Inv.p_le (I : Inv W n0 n1 n2 s) {i j k : Nat} (A : RowA s i) (B : RowB s j) (hk : j + i + 3 ≤ k) : Le s.p k := by
  rw [I.p]; exact dot_le B.h0 B.h1 B.h2 B.h3 A.h0 A.h1 A.h2 A.h3 hk
theorem Inv.q_le (I : Inv W n0 n1 n2 s) {i j k : Nat} (A : RowA s i) (B : RowC s j) (hk : j + i + 3 ≤ k) : Le s.q k := by
  rw [I.q]; exact dot_le B.h0 B.h1 B.h2 B.h3 A.h0 A.h1 A.h2 A.h3 hk
theorem Inv.r_le (I : Inv W n0 n1 n2 s) {i j l k : Nat} (hd : Le s.d1 i) (A : RowA s i) (B : RowB s j) (C : RowC s l) (hk : i + i + j + l + 7 ≤ k) : Le s.r k := by
  have h := I.r
  have h2 : s.r = s.d1 * s.g21 - s.q * s.p := by omega
  rw [h2]
  have g : Le s.g21 (l + j + 3) := dot_le C.h0 C.h1 C.h2 C.h3 B.h0 B.h1 B.h2 B.h3 (Nat.le_refl _)
  exact ((hd.mul g (Nat.le_refl _)).sub ((I.q_le A C (Nat.le_refl _)).mul (I.p_le A B (Nat.le_refl _)) (Nat.le_refl _)) (by omega) (by omega) (k := i + i + j + l + 7)).mono hk
theorem Inv.sm (I : Inv W n0 n1 n2 s) (B : Bas s) (RB : RowB s 1200) (RC : RowC s 400) : Sm s where
  a := (I.rowA B).mono (by decide)
  b := RB.mono (by decide)
  c := RC.mono (by decide)
  d1 := B.h1.mono (by decide)
  d2 := B.h2.mono (by decide)
  d3 := B.h3.mono (by decide)
  p := I.p_le (I.rowA B) RB (by decide)
  q := I.q_le (I.rowA B) RC (by decide)
  r := I.r_le B.h1 (I.rowA B) RB RC (by decide)
/-- at the head of the loop, with at = 1 -/
structure Hd1 (W n0 n1 n2 : Int) (s : Nm) : Prop where
  I : Inv W n0 n1 n2 s
  B : Bas s
  b : RowB s 1200
  c : RowC s 400
/-- at = 2 -/
structure Hd2 (W n0 n1 n2 : Int) (s : Nm) : Prop where
  I : Inv W n0 n1 n2 s
  B : Bas s
  c : RowC s 400
  red : Red1 s
structure Hd3 (W n0 n1 n2 : Int) (s : Nm) : Prop where
  I : Inv W n0 n1 n2 s
  B : Bas s
  c : RowC s 1500
  red : Red1 s
  red2 : Red2 s
theorem sub_mul_le {a b k : Int} {i j l m : Nat} (ha : Le a i) (hb : Le b j) (hk : Le k l) (h1 : i < m) (h2 : l + j < m) : Le (a - k*b) m :=
  ha.sub (hk.mul hb (Nat.le_refl _)) h1 h2
theorem Hd1.sm (H : Hd1 W n0 n1 n2 s) : Sm s := H.I.sm H.B H.b H.c
theorem Hd2.b (H : Hd2 W n0 n1 n2 s) : RowB s 258 := H.I.rowB H.B H.red.1
theorem Hd2.sm (H : Hd2 W n0 n1 n2 s) : Sm s := H.I.sm H.B (H.b.mono (by decide)) H.c
/-- after the shortening at 1 -/
theorem Hd1.near_le (H : Hd1 W n0 n1 n2 s) : Le (near s.p s.d1) 1340 := Mine.near_le H.I.p1 (H.I.p_le (H.I.rowA H.B) H.b (Nat.le_refl _)) (by decide)
theorem Hd1.red (H : Hd1 W n0 n1 n2 s) : -(sh10 (near s.p s.d1) s).d1 ≤ 2*(sh10 (near s.p s.d1) s).p ∧ 2*(sh10 (near s.p s.d1) s).p ≤ (sh10 (near s.p s.d1) s).d1 := near_red H.I.p1
theorem Hd1.short (H : Hd1 W n0 n1 n2 s) : Hd1 W n0 n1 n2 (sh10 (near s.p s.d1) s) where
  I := H.I.sh10 _
  B := ⟨H.B.h1, H.B.h2, H.B.h3⟩
  b := ((H.I.sh10 _).rowB (s := sh10 (near s.p s.d1) s) ⟨H.B.h1, H.B.h2, H.B.h3⟩ H.red).mono (by decide)
  c := ⟨H.c.h0, H.c.h1, H.c.h2, H.c.h3⟩
/-- not exchanged at 1: on to 2 -/
theorem Hd1.up (H : Hd1 W n0 n1 n2 s) (h : -s.d1 ≤ 2*s.p ∧ 2*s.p ≤ s.d1) (hn : ¬ 4 * (s.d2 * 1 + s.p*s.p) < 3 * s.d1 * s.d1) : Hd2 W n0 n1 n2 s := ⟨H.I, H.B, H.c, h, by omega⟩
theorem ex_lt {d e : Int} (hd : 0 < d) (h : 4 * (e * d) < 3 * d * d) : e < d := by
  refine Int.not_le.mp fun hc => ?_
  have h1 : d * d ≤ e * d := Int.mul_le_mul_of_nonneg_right hc (by omega)
  have h2 : 0 < d * d := Int.mul_pos hd hd
  have e1 : 3 * d * d = 3 * (d*d) := by grind
  omega
theorem Inv.ex1_lt (I : Inv W n0 n1 n2 s) (h : 4 * (s.d2 * 1 + s.p*s.p) < 3 * s.d1 * s.d1) : (Mine.ex1 s).d1 < s.d1 := by
  rw [I.ex1_eq]
  refine ex_lt I.p1 ?_
  have := I.d2
  rw [Int.mul_comm s.g11]; omega
theorem Inv.ex2_lt (I : Inv W n0 n1 n2 s) (h : 4 * (s.d3 * s.d1 + s.r*s.r) < 3 * s.d2 * s.d2) : (Mine.ex2 s).d2 < s.d2 := by
  rw [I.ex2_eq]
  refine ex_lt I.p2 ?_
  have := I.d3
  have e : s.d3 * s.d1 = s.d1 * s.d3 := Int.mul_comm _ _
  have e2 : (s.d1 * s.g22 - s.q*s.q) * s.d2 = s.d2 * (s.d1 * s.g22 - s.q*s.q) := Int.mul_comm _ _
  show 4 * ((s.d1 * s.g22 - s.q*s.q) * s.d2) < _
  omega
theorem Hd1.down (H : Hd1 W n0 n1 n2 s) (h : -s.d1 ≤ 2*s.p ∧ 2*s.p ≤ s.d1) (hx : 4 * (s.d2 * 1 + s.p*s.p) < 3 * s.d1 * s.d1) : Hd1 W n0 n1 n2 (ex1 s) := by
  have hl := H.I.ex1_lt hx
  have hI := H.I.ex1
  have hp := hI.p1
  have hA := H.I.rowA H.B
  rw [H.I.ex1_eq] at *
  refine ⟨hI, ⟨Le.of (by omega) (by have := H.B.h1.2; omega), H.B.h2, H.B.h3⟩, ?_, ⟨H.c.h0, H.c.h1, H.c.h2, H.c.h3⟩⟩
  exact ⟨hA.h0.mono (by decide), hA.h1.mono (by decide), hA.h2.mono (by decide), hA.h3.mono (by decide)⟩
theorem Hd2.near_le (H : Hd2 W n0 n1 n2 s) : Le (near s.r s.d2) 1300 := Mine.near_le H.I.p2 (H.I.r_le H.B.h1 (H.I.rowA H.B) H.b H.c (Nat.le_refl _)) (by decide)
/-- after the shortening 2, 1 -/
structure Hd2' (W n0 n1 n2 : Int) (s : Nm) : Prop where
  I : Inv W n0 n1 n2 s
  B : Bas s
  b : RowB s 258
  c : RowC s 1190
  red : Red1 s
  red2 : -s.d2 ≤ 2*s.r ∧ 2*s.r ≤ s.d2
theorem Hd2.near_le' (H : Hd2 W n0 n1 n2 s) : Le (near s.r s.d2) 925 := Mine.near_le H.I.p2 (H.I.r_le H.B.h1 (H.I.rowA H.B) H.b H.c (Nat.le_refl _)) (by decide)
theorem Hd2.short (H : Hd2 W n0 n1 n2 s) : Hd2' W n0 n1 n2 (sh21 (near s.r s.d2) s) where
  I := H.I.sh21 _
  B := ⟨H.B.h1, H.B.h2, H.B.h3⟩
  b := ⟨H.b.h0, H.b.h1, H.b.h2, H.b.h3⟩
  c := ⟨sub_mul_le H.c.h0 H.b.h0 H.near_le' (by decide) (by decide), sub_mul_le H.c.h1 H.b.h1 H.near_le' (by decide) (by decide), sub_mul_le H.c.h2 H.b.h2 H.near_le' (by decide) (by decide), sub_mul_le H.c.h3 H.b.h3 H.near_le' (by decide) (by decide)⟩
  red := H.red
  red2 := near_red H.I.p2
theorem Hd2'.sm (H : Hd2' W n0 n1 n2 s) : Sm s where
  a := (H.I.rowA H.B).mono (by decide)
  b := H.b.mono (by decide)
  c := H.c.mono (by decide)
  d1 := H.B.h1.mono (by decide)
  d2 := H.B.h2.mono (by decide)
  d3 := H.B.h3.mono (by decide)
  p := H.I.p_le (H.I.rowA H.B) H.b (by decide)
  q := H.I.q_le (H.I.rowA H.B) H.c (by decide)
  r := H.I.r_le H.B.h1 (H.I.rowA H.B) H.b H.c (by decide)
theorem Hd2'.down (H : Hd2' W n0 n1 n2 s) (hx : 4 * (s.d3 * s.d1 + s.r*s.r) < 3 * s.d2 * s.d2) : Hd1 W n0 n1 n2 (ex2 s) := by
  have hl := H.I.ex2_lt hx
  have hI := H.I.ex2
  have hp := hI.p2
  rw [H.I.ex2_eq] at *
  refine ⟨hI, ⟨H.B.h1, Le.of (by omega) (by have := H.B.h2.2; omega), H.B.h3⟩, ?_, ?_⟩
  exact ⟨H.c.h0.mono (by decide), H.c.h1.mono (by decide), H.c.h2.mono (by decide), H.c.h3.mono (by decide)⟩
  exact ⟨H.b.h0.mono (by decide), H.b.h1.mono (by decide), H.b.h2.mono (by decide), H.b.h3.mono (by decide)⟩
theorem Hd2'.near_le (H : Hd2' W n0 n1 n2 s) : Le (near s.q s.d1) 1340 := Mine.near_le H.I.p1 (H.I.q_le (H.I.rowA H.B) H.c (Nat.le_refl _)) (by decide)
theorem Hd2'.up (H : Hd2' W n0 n1 n2 s) (hn : ¬ 4 * (s.d3 * s.d1 + s.r*s.r) < 3 * s.d2 * s.d2) : Hd3 W n0 n1 n2 (sh20 (near s.q s.d1) s) where
  I := H.I.sh20 _
  B := ⟨H.B.h1, H.B.h2, H.B.h3⟩
  c := ⟨sub_mul_le H.c.h0 (H.I.rowA H.B).h0 H.near_le (by decide) (by decide), sub_mul_le H.c.h1 (H.I.rowA H.B).h1 H.near_le (by decide) (by decide), sub_mul_le H.c.h2 (H.I.rowA H.B).h2 H.near_le (by decide) (by decide), sub_mul_le H.c.h3 (H.I.rowA H.B).h3 H.near_le (by decide) (by decide)⟩
  red := H.red
  red2 := ⟨H.red2, Int.not_lt.mp hn⟩
/-- the size at the end -/
theorem dot_sq_le {x y z u v w : Int} : (x*u + y*v + z*w)*(x*u+y*v+z*w) ≤ (x*x+y*y+z*z)*(u*u+v*v+w*w) := by
  have h1 := (sq_ge (x*v - y*u)).2.2
  have h2 := (sq_ge (x*w - z*u)).2.2
  have h3 := (sq_ge (y*w - z*v)).2.2
  have e : (x*x+y*y+z*z)*(u*u+v*v+w*w) = (x*u + y*v + z*w)*(x*u+y*v+z*w) + (x*v - y*u)*(x*v-y*u) + (x*w-z*u)*(x*w-z*u) + (y*w-z*v)*(y*w-z*v) := by grind
  omega
/-- cross product of rows 0 and 1 -/
def k0 (s : Nm) : Int := s.a1*s.b2 - s.a2*s.b1
def k1 (s : Nm) : Int := s.a2*s.b0 - s.a0*s.b2
def k2 (s : Nm) : Int := s.a0*s.b1 - s.a1*s.b0
def ta (n0 n1 n2 : Int) (s : Nm) : Int := s.a0*n0 + s.a1*n1 + s.a2*n2
def tb (n0 n1 n2 : Int) (s : Nm) : Int := s.b0*n0 + s.b1*n1 + s.b2*n2
def pr0 (n0 n1 n2 : Int) (s : Nm) : Int := ta n0 n1 n2 s * s.b0 - tb n0 n1 n2 s * s.a0
def pr1 (n0 n1 n2 : Int) (s : Nm) : Int := ta n0 n1 n2 s * s.b1 - tb n0 n1 n2 s * s.a1
def pr2 (n0 n1 n2 : Int) (s : Nm) : Int := ta n0 n1 n2 s * s.b2 - tb n0 n1 n2 s * s.a2
theorem pr0_eq : pr0 n0 n1 n2 s = k1 s * n2 - k2 s * n1 := by unfold pr0 ta tb k1 k2; grind
theorem pr1_eq : pr1 n0 n1 n2 s = k2 s * n0 - k0 s * n2 := by unfold pr1 ta tb k0 k2; grind
theorem pr2_eq : pr2 n0 n1 n2 s = k0 s * n1 - k1 s * n0 := by unfold pr2 ta tb k0 k1; grind
theorem Inv.d2_eq (I : Inv W n0 n1 n2 s) : s.d2 = (k0 s*k0 s + k1 s*k1 s + k2 s*k2 s) + W*W*(pr0 n0 n1 n2 s*pr0 n0 n1 n2 s + pr1 n0 n1 n2 s*pr1 n0 n1 n2 s + pr2 n0 n1 n2 s*pr2 n0 n1 n2 s) := by
  have h1 := I.d2; have h2 := I.d1; have h3 := I.p; have hx := I.hx; have hy := I.hy
  have e : s.d2 = s.g00 * s.g11 - s.g10*s.g10 := by rw [← h2, ← h3]; omega
  rw [e]
  unfold Nm.g00 Nm.g11 Nm.g10
  have hx' : s.x = W * ta n0 n1 n2 s := hx
  have hy' : s.y = W * tb n0 n1 n2 s := hy
  rw [hx', hy']
  unfold k0 k1 k2 pr0 pr1 pr2
  generalize ta n0 n1 n2 s = t; generalize tb n0 n1 n2 s = u
  grind
end
theorem d3_id {q0 q1 q2 n0 n1 n2 : Int} (hq : q0*n0 + q1*n1 + q2*n2 = 0) : (n1*n1+n2*n2)*(q0*q0+q1*q1+q2*q2) = (n0*n0+n1*n1+n2*n2)*(q0*q0) + (q1*n2-q2*n1)*(q1*n2-q2*n1) := by
  have h : q0*n0 = -(q1*n1+q2*n2) := by omega
  have e : (n0*n0+n1*n1+n2*n2)*(q0*q0) = (q0*n0)*(q0*n0) + (n1*n1+n2*n2)*(q0*q0) := by grind
  rw [e, h]; grind
/-- the heart: a relation vector with a share in the last row bounds d3 -/
theorem d3_le {W n0 n1 n2 k0 k1 k2 q0 q1 q2 d2 d3 R : Int} (e0 : q0 = k1*n2 - k2*n1) (hq : q0*n0 + q1*n1 + q2*n2 = 0) (h0 : q0 ≠ 0)
    (hd2 : d2 = (k0*k0 + k1*k1 + k2*k2) + W*W*(q0*q0 + q1*q1 + q2*q2)) (hd3 : d3 = 1 + W*W*(n0*n0+n1*n1+n2*n2)) (hR : R = n1*n1 + n2*n2) : d3 ≤ R * d2 := by
  have c1 : q0*q0 ≤ (n1*n1+n2*n2)*(k0*k0+k1*k1+k2*k2) := by
    have h := dot_sq_le (x := 0) (y := n2) (z := -n1) (u := k0) (v := k1) (w := k2)
    have e : 0*k0 + n2*k1 + -n1*k2 = q0 := by rw [e0]; grind
    rw [e] at h
    have e2 : (0*0 + n2*n2 + -n1 * -n1) = n1*n1 + n2*n2 := by grind
    rw [e2] at h; exact h
  have c2 : (n0*n0+n1*n1+n2*n2)*(q0*q0) ≤ (n1*n1+n2*n2)*(q0*q0+q1*q1+q2*q2) := by
    have h := (sq_ge (q1*n2 - q2*n1)).2.2
    have e := d3_id hq
    omega
  have s0 : 1 ≤ q0*q0 := by have := sq_ge q0; omega
  have hn : 0 ≤ n0*n0+n1*n1+n2*n2 := by have := (sq_ge n0).2.2; have := (sq_ge n1).2.2; have := (sq_ge n2).2.2; omega
  have hW : 0 ≤ W*W := (sq_ge W).2.2
  have c3 : (n0*n0+n1*n1+n2*n2) * 1 ≤ (n0*n0+n1*n1+n2*n2)*(q0*q0) := Int.mul_le_mul_of_nonneg_left s0 hn
  have c4 : W*W*(n0*n0+n1*n1+n2*n2) ≤ W*W*((n1*n1+n2*n2)*(q0*q0+q1*q1+q2*q2)) := Int.mul_le_mul_of_nonneg_left (by omega) hW
  have e5 : R * d2 = (n1*n1+n2*n2)*(k0*k0+k1*k1+k2*k2) + W*W*((n1*n1+n2*n2)*(q0*q0+q1*q1+q2*q2)) := by rw [hR, hd2]; grind
  omega
/-- from the bound on d3: the rows are short -/
theorem short_rows {d1 d2 d3 p r R g11 : Int} (p1 : 0 < d1) (p2 : 0 < d2) (h11 : d1 * g11 = d2 + p*p)
   (r1 : -d1 ≤ 2*p ∧ 2*p ≤ d1) (r2 : 3*d1*d1 ≤ 4*(d2 + p*p)) (r3 : -d2 ≤ 2*r ∧ 2*r ≤ d2) (r4 : 3*d2*d2 ≤ 4*(d3*d1 + r*r)) (h : d3 ≤ R * d2) : d1 ≤ 4*R ∧ g11 ≤ 3*R := by
  have sq : ∀ {a b : Int}, -b ≤ 2*a ∧ 2*a ≤ b → 4*(a*a) ≤ b*b := by
    intro a b ⟨h1, h2⟩
    have : 0 ≤ (b - 2*a)*(b + 2*a) := Int.mul_nonneg (by omega) (by omega)
    have e : (b - 2*a)*(b+2*a) = b*b - 4*(a*a) := by grind
    omega
  have s1 := sq r1
  have s2 := sq r3
  have e1 : 3*d1*d1 = 3*(d1*d1) := by grind
  have e2 : 3*d2*d2 = 3*(d2*d2) := by grind
  have a1 : d1*d1 ≤ 2*d2 := by omega
  have a2 : d2*d2 ≤ 2*(d3*d1) := by omega
  have a3 : d3*d1 ≤ R*d2*d1 := Int.mul_le_mul_of_nonneg_right h (by omega)
  have a4 : d2 ≤ 2*R*d1 := by
    refine Int.le_of_mul_le_mul_left (a := d2) ?_ p2
    have : d2 * (2*R*d1) = 2*(R*d2*d1) := by grind
    omega
  have a5 : d1 ≤ 4*R := by
    refine Int.le_of_mul_le_mul_left (a := d1) ?_ p1
    have : d1 * (4*R) = 2*(2*R*d1) := by grind
    omega
  refine ⟨a5, ?_⟩
  refine Int.le_of_mul_le_mul_left (a := d1) ?_ p1
  have b1 : 4*(p*p) ≤ d1*(4*R) := by
    have := Int.mul_le_mul_of_nonneg_left a5 (by omega : 0 ≤ d1)
    omega
  have e3 : d1*(4*R) = 4*(R*d1) := by grind
  have e4 : d1*(3*R) = 3*(R*d1) := by grind
  have e5 : 2*R*d1 = 2*(R*d1) := by grind
  omega
end
section
theorem sq_le_of {a m : Int} (h1 : -m ≤ a) (h2 : a ≤ m) : a*a ≤ m*m := by
  have : 0 ≤ (m - a)*(m + a) := Int.mul_nonneg (by omega) (by omega)
  have e : (m - a)*(m+a) = m*m - a*a := by grind
  omega
theorem one_le_sq {a : Int} (h : a ≠ 0) : 1 ≤ a*a := by
  have := sq_ge a; omega
section
variable {W n0 n1 n2 M : Int} {s : Nm}
theorem Inv.det_n0 (I : Inv W n0 n1 n2 s) : s.det * s.det = 1 := by
  rcases I.det with h | h <;> rw [h] <;> rfl
theorem tz {a0 a1 a2 b0 b1 b2 c0 c1 c2 t u d : Int} (h0 : t*b0 = u*a0) (h1 : t*b1 = u*a1) (h2 : t*b2 = u*a2)
   (hd : d = a0*(b1*c2 - b2*c1) - a1*(b0*c2 - b2*c0) + a2*(b0*c1 - b1*c0)) (hn : d*d = 1) : t = 0 ∧ u = 0 := by
  have e1 : u * d = 0 := by
    have : u * d = (u*a0)*(b1*c2 - b2*c1) - (u*a1)*(b0*c2 - b2*c0) + (u*a2)*(b0*c1 - b1*c0) := by rw [hd]; grind
    rw [this, ← h0, ← h1, ← h2]; grind
  have e2 : t * d = 0 := by
    have : t * d = a0*((t*b1)*c2 - (t*b2)*c1) - a1*((t*b0)*c2 - (t*b2)*c0) + a2*((t*b0)*c1 - (t*b1)*c0) := by rw [hd]; grind
    rw [this, h0, h1, h2]; grind
  have hd0 : d ≠ 0 := by intro h; rw [h] at hn; exact absurd hn (by decide)
  exact ⟨(Int.mul_eq_zero.mp e2).resolve_right hd0, (Int.mul_eq_zero.mp e1).resolve_right hd0⟩
theorem Hd3.zero (H : Hd3 W n0 n1 n2 s) (hW : W = 8*(1+M)) (h0 : -M ≤ n0 ∧ n0 ≤ M) (h1 : -M ≤ n1 ∧ n1 ≤ M) (h2 : -M ≤ n2 ∧ n2 ≤ M) :
    ta n0 n1 n2 s = 0 ∧ tb n0 n1 n2 s = 0 := by
  have I := H.I
  have s0 := sq_le_of h0.1 h0.2
  have s1 := sq_le_of h1.1 h1.2
  have s2 := sq_le_of h2.1 h2.2
  have hMM := (sq_ge M).2.2
  have hWW : W*W = 64 + 128*M + 64*(M*M) := by rw [hW]; grind
  have hW0 := (sq_ge W).2.2
  have key : pr0 n0 n1 n2 s = 0 ∧ pr1 n0 n1 n2 s = 0 ∧ pr2 n0 n1 n2 s = 0 := by
    have fin : ∀ R, R ≤ 2*(M*M) → s.d3 ≤ R * s.d2 → pr0 n0 n1 n2 s = 0 ∧ pr1 n0 n1 n2 s = 0 ∧ pr2 n0 n1 n2 s = 0 := by
      intro R hR hd
      obtain ⟨f1, f2⟩ := short_rows I.p1 I.p2 I.d2 H.red.1 H.red.2 H.red2.1 H.red2.2 hd
      have ea : s.d1 = s.a0*s.a0 + s.a1*s.a1 + s.a2*s.a2 + W*W*(ta n0 n1 n2 s * ta n0 n1 n2 s) := by
        have hx : s.x = W * ta n0 n1 n2 s := I.hx
        rw [I.d1]; unfold Nm.g00; rw [hx]; grind
      have eb : s.g11 = s.b0*s.b0 + s.b1*s.b1 + s.b2*s.b2 + W*W*(tb n0 n1 n2 s * tb n0 n1 n2 s) := by
        have hy : s.y = W * tb n0 n1 n2 s := I.hy
        unfold Nm.g11; rw [hy]; grind
      have small : ∀ {t a b c g : Int}, g = a*a + b*b + c*c + W*W*(t*t) → g ≤ 8*(M*M) → t = 0 := by
        intro t a b c g hg hb
        refine Decidable.byContradiction fun ht => ?_
        have h1 := one_le_sq ht
        have h2 : W*W*1 ≤ W*W*(t*t) := Int.mul_le_mul_of_nonneg_left h1 hW0
        have := (sq_ge a).2.2; have := (sq_ge b).2.2; have := (sq_ge c).2.2
        omega
      have ta0 := small ea (by omega)
      have tb0 := small eb (by omega)
      unfold pr0 pr1 pr2
      rw [ta0, tb0]; simp
    have orth : pr0 n0 n1 n2 s * n0 + pr1 n0 n1 n2 s * n1 + pr2 n0 n1 n2 s * n2 = 0 := by
      unfold pr0 pr1 pr2 ta tb; grind
    refine Decidable.byContradiction fun hc => hc ?_
    by_cases z0 : pr0 n0 n1 n2 s = 0
    · by_cases z1 : pr1 n0 n1 n2 s = 0
      · by_cases z2 : pr2 n0 n1 n2 s = 0
        · exact ⟨z0, z1, z2⟩
        · refine fin (n0*n0 + n1*n1) (by omega) (d3_le (W := W) (n0 := n2) (n1 := n0) (n2 := n1) (k0 := k2 s) (k1 := k0 s) (k2 := k1 s) (q0 := pr2 n0 n1 n2 s) (q1 := pr0 n0 n1 n2 s) (q2 := pr1 n0 n1 n2 s) pr2_eq ?_ z2 ?_ ?_ rfl)
          · omega
          · rw [I.d2_eq]; grind
          · rw [I.h3]; grind
      · refine fin (n2*n2 + n0*n0) (by omega) (d3_le (W := W) (n0 := n1) (n1 := n2) (n2 := n0) (k0 := k1 s) (k1 := k2 s) (k2 := k0 s) (q0 := pr1 n0 n1 n2 s) (q1 := pr2 n0 n1 n2 s) (q2 := pr0 n0 n1 n2 s) pr1_eq ?_ z1 ?_ ?_ rfl)
        · omega
        · rw [I.d2_eq]; grind
        · rw [I.h3]; grind
    · exact fin (n1*n1 + n2*n2) (by omega) (d3_le (W := W) (n0 := n0) (n1 := n1) (n2 := n2) (k0 := k0 s) (k1 := k1 s) (k2 := k2 s) (q0 := pr0 n0 n1 n2 s) (q1 := pr1 n0 n1 n2 s) (q2 := pr2 n0 n1 n2 s) pr0_eq orth z0 I.d2_eq I.h3 rfl)
  obtain ⟨z0, z1, z2⟩ := key
  unfold pr0 at z0; unfold pr1 at z1; unfold pr2 at z2
  exact tz (t := ta n0 n1 n2 s) (u := tb n0 n1 n2 s) (by omega) (by omega) (by omega) (d := s.det) rfl I.det_n0

/-- what comes back, in plain numbers: two rows of relations (or three) out of a unimodular three -/
structure Out (n0 n1 n2 : Int) (s : Nm) : Prop where
  det : s.det = 1 ∨ s.det = -1
  ha : s.a0*n0 + s.a1*n1 + s.a2*n2 = 0
  hb : s.b0*n0 + s.b1*n1 + s.b2*n2 = 0
def tc (n0 n1 n2 : Int) (s : Nm) : Int := s.c0*n0 + s.c1*n1 + s.c2*n2
theorem n_eq (n0 n1 n2 : Int) (s : Nm) : n0 * s.det = ta n0 n1 n2 s * (s.b1*s.c2 - s.b2*s.c1) + tb n0 n1 n2 s * (s.c1*s.a2 - s.c2*s.a1) + tc n0 n1 n2 s * k0 s ∧
    n1 * s.det = ta n0 n1 n2 s * (s.b2*s.c0 - s.b0*s.c2) + tb n0 n1 n2 s * (s.c2*s.a0 - s.c0*s.a2) + tc n0 n1 n2 s * k1 s ∧
    n2 * s.det = ta n0 n1 n2 s * (s.b0*s.c1 - s.b1*s.c0) + tb n0 n1 n2 s * (s.c0*s.a1 - s.c1*s.a0) + tc n0 n1 n2 s * k2 s := by
  refine ⟨?_, ?_, ?_⟩ <;> unfold Nm.det ta tb tc <;> first | unfold k0 | unfold k1 | unfold k2
  all_goals grind
/-- due: the row of the rationals made whole, without a common divisor -/
theorem Out.due (O : Out n0 n1 n2 s) (G : Int) (hG : 0 < G) (g0 : G ∣ n0) (g1 : G ∣ n1) (g2 : G ∣ n2) (hg : ∀ t : Int, t ∣ n0 → t ∣ n1 → t ∣ n2 → t ∣ G) :
    (n0.fdiv G = k0 s ∧ n1.fdiv G = k1 s ∧ n2.fdiv G = k2 s) ∨ (n0.fdiv G = -k0 s ∧ n1.fdiv G = -k1 s ∧ n2.fdiv G = -k2 s) := by
  have ea : ta n0 n1 n2 s = 0 := O.ha
  have eb : tb n0 n1 n2 s = 0 := O.hb
  obtain ⟨e0, e1, e2⟩ := n_eq n0 n1 n2 s
  rw [ea, eb] at e0 e1 e2
  have hd : s.det * s.det = 1 := by rcases O.det with h | h <;> rw [h] <;> rfl
  have f : ∀ {n k : Int}, n * s.det = 0 * 0 + 0 * 0 + tc n0 n1 n2 s * k → n = tc n0 n1 n2 s * (k * s.det) := by
    intro n k h
    have : n = n * (s.det * s.det) := by rw [hd]; omega
    rw [this, ← Int.mul_assoc, h]; grind
  have f0 := f (by simpa using e0)
  have f1 := f (by simpa using e1)
  have f2 := f (by simpa using e2)
  have d1 : tc n0 n1 n2 s ∣ G := hg _ ⟨_, f0⟩ ⟨_, f1⟩ ⟨_, f2⟩
  have d2 : G ∣ tc n0 n1 n2 s := Int.dvd_add (Int.dvd_add (Int.dvd_mul_of_dvd_right g0) (Int.dvd_mul_of_dvd_right g1)) (Int.dvd_mul_of_dvd_right g2)
  have ht : tc n0 n1 n2 s = G ∨ tc n0 n1 n2 s = -G := by
    have := Int.natAbs_dvd_natAbs.mpr d1
    have := Int.natAbs_dvd_natAbs.mpr d2
    have := Nat.dvd_antisymm ‹_› this
    omega
  have q : ∀ {n k e : Int}, n = G * (k * e) → n.fdiv G = k * e := fun h => fdiv_of hG h
  rcases ht with ht | ht <;> rcases O.det with hdet | hdet <;> rw [ht, hdet] at f0 f1 f2
  · left; exact ⟨by rw [q f0]; omega, by rw [q f1]; omega, by rw [q f2]; omega⟩
  · right; exact ⟨by rw [q f0]; omega, by rw [q f1]; omega, by rw [q f2]; omega⟩
  · right; refine ⟨?_, ?_, ?_⟩
    · rw [fdiv_of hG (c := -k0 s) (by rw [f0]; grind)]
    · rw [fdiv_of hG (c := -k1 s) (by rw [f1]; grind)]
    · rw [fdiv_of hG (c := -k2 s) (by rw [f2]; grind)]
  · left; refine ⟨?_, ?_, ?_⟩
    · rw [fdiv_of hG (c := k0 s) (by rw [f0]; grind)]
    · rw [fdiv_of hG (c := k1 s) (by rw [f1]; grind)]
    · rw [fdiv_of hG (c := k2 s) (by rw [f2]; grind)]
theorem Out.k_ne (O : Out n0 n1 n2 s) : k0 s ≠ 0 ∨ k1 s ≠ 0 ∨ k2 s ≠ 0 := by
  have e : s.det = s.c0 * k0 s + s.c1 * k1 s + s.c2 * k2 s := by unfold Nm.det k0 k1 k2; grind
  rcases O.det with h | h <;> rw [h] at e <;> (refine Decidable.byContradiction fun hc => ?_) <;>
  · have z0 : k0 s = 0 := Decidable.byContradiction fun h => hc (.inl h)
    have z1 : k1 s = 0 := Decidable.byContradiction fun h => hc (.inr (.inl h))
    have z2 : k2 s = 0 := Decidable.byContradiction fun h => hc (.inr (.inr h))
    rw [z0, z1, z2] at e; simp at e
/-- a told row across the two rows is a whole multiple of their cross product -/
theorem Out.made (O : Out n0 n1 n2 s) {t0 t1 t2 : Int} (h : t0 * k0 s + t1 * k1 s + t2 * k2 s = 0) :
    (∃ m, t1*s.b2 - t2*s.b1 = m * k0 s ∧ t2*s.b0 - t0*s.b2 = m * k1 s ∧ t0*s.b1 - t1*s.b0 = m * k2 s) ∧
    (∃ m, s.a1*t2 - s.a2*t1 = m * k0 s ∧ s.a2*t0 - s.a0*t2 = m * k1 s ∧ s.a0*t1 - s.a1*t0 = m * k2 s) := by
  have hd : s.det * s.det = 1 := by rcases O.det with h | h <;> rw [h] <;> rfl
  have g : ∀ {x m k : Int}, x * s.det = m * k → x = (s.det * m) * k := by
    intro x m k hx
    have : x = x * (s.det * s.det) := by rw [hd]; omega
    rw [this, ← Int.mul_assoc, hx]; grind
  have e : ∀ c, t0 * (c * k0 s) + t1 * (c * k1 s) + t2 * (c * k2 s) = 0 := by
    intro c; have : t0 * (c * k0 s) + t1 * (c * k1 s) + t2 * (c * k2 s) = c * (t0 * k0 s + t1 * k1 s + t2 * k2 s) := by grind
    rw [this, h]; omega
  let u := t0*(s.b1*s.c2 - s.b2*s.c1) + t1*(s.b2*s.c0 - s.b0*s.c2) + t2*(s.b0*s.c1 - s.b1*s.c0)
  let v := t0*(s.c1*s.a2 - s.c2*s.a1) + t1*(s.c2*s.a0 - s.c0*s.a2) + t2*(s.c0*s.a1 - s.c1*s.a0)
  have T0 : t0 * s.det = u * s.a0 + v * s.b0 := by
    have h1 := e s.c0
    have : t0 * s.det = u * s.a0 + v * s.b0 + (t0 * (s.c0 * k0 s) + t1 * (s.c0 * k1 s) + t2 * (s.c0 * k2 s)) := by simp only [u, v]; unfold Nm.det k0 k1 k2; grind
    omega
  have T1 : t1 * s.det = u * s.a1 + v * s.b1 := by
    have h1 := e s.c1
    have : t1 * s.det = u * s.a1 + v * s.b1 + (t0 * (s.c1 * k0 s) + t1 * (s.c1 * k1 s) + t2 * (s.c1 * k2 s)) := by simp only [u, v]; unfold Nm.det k0 k1 k2; grind
    omega
  have T2 : t2 * s.det = u * s.a2 + v * s.b2 := by
    have h1 := e s.c2
    have : t2 * s.det = u * s.a2 + v * s.b2 + (t0 * (s.c2 * k0 s) + t1 * (s.c2 * k1 s) + t2 * (s.c2 * k2 s)) := by simp only [u, v]; unfold Nm.det k0 k1 k2; grind
    omega
  generalize u = u at *
  generalize v = v at *
  refine ⟨⟨s.det * u, g ?_, g ?_, g ?_⟩, ⟨s.det * v, g ?_, g ?_, g ?_⟩⟩
  · have : (t1*s.b2 - t2*s.b1) * s.det = (t1*s.det)*s.b2 - (t2*s.det)*s.b1 := by grind
    rw [this, T1, T2]; unfold k0; grind
  · have : (t2*s.b0 - t0*s.b2) * s.det = (t2*s.det)*s.b0 - (t0*s.det)*s.b2 := by grind
    rw [this, T0, T2]; unfold k1; grind
  · have : (t0*s.b1 - t1*s.b0) * s.det = (t0*s.det)*s.b1 - (t1*s.det)*s.b0 := by grind
    rw [this, T0, T1]; unfold k2; grind
  · have : (s.a1*t2 - s.a2*t1) * s.det = s.a1*(t2*s.det) - s.a2*(t1*s.det) := by grind
    rw [this, T1, T2]; unfold k0; grind
  · have : (s.a2*t0 - s.a0*t2) * s.det = s.a2*(t0*s.det) - s.a0*(t2*s.det) := by grind
    rw [this, T0, T2]; unfold k1; grind
  · have : (s.a0*t1 - s.a1*t0) * s.det = s.a0*(t1*s.det) - s.a1*(t0*s.det) := by grind
    rw [this, T0, T1]; unfold k2; grind
/-- no row is 0 -/
theorem Out.rows_ne (O : Out n0 n1 n2 s) : (s.a0 ≠ 0 ∨ s.a1 ≠ 0 ∨ s.a2 ≠ 0) ∧ (s.b0 ≠ 0 ∨ s.b1 ≠ 0 ∨ s.b2 ≠ 0) ∧ (s.c0 ≠ 0 ∨ s.c1 ≠ 0 ∨ s.c2 ≠ 0) := by
  have hd : s.det ≠ 0 := by rcases O.det with h | h <;> rw [h] <;> decide
  refine ⟨?_, ?_, ?_⟩ <;> refine Decidable.byContradiction fun hc => hd ?_ <;> simp only [not_or, Decidable.not_not] at hc <;> obtain ⟨x, y, z⟩ := hc <;> unfold Nm.det <;> rw [x, y, z] <;> simp
/-- the start -/
def start (w0 w1 w2 : Int) : Nm :=
  { a0 := 1, a1 := 0, a2 := 0, x := w0, b0 := 0, b1 := 1, b2 := 0, y := w1, c0 := 0, c1 := 0, c2 := 1, z := w2,
    d1 := 1 + w0*w0, d2 := 1 + w0*w0 + w1*w1, d3 := 1 + w0*w0 + w1*w1 + w2*w2, p := w1*w0, q := w2*w0, r := w2*w1 }
theorem start_inv (W n0 n1 n2 : Int) : Inv W n0 n1 n2 (start (W*n0) (W*n1) (W*n2)) := by
  have := (sq_ge (W*n0)).2.2; have := (sq_ge (W*n1)).2.2
  constructor <;> simp only [start, Nm.det, Nm.g00, Nm.g10, Nm.g11, Nm.g20, Nm.g21, Nm.g22]
  all_goals first | omega | grind
theorem start_hd (W n0 n1 n2 : Int) (h0 : Le (W*n0) 60) (h1 : Le (W*n1) 60) (h2 : Le (W*n2) 60) : Hd1 W n0 n1 n2 (start (W*n0) (W*n1) (W*n2)) := by
  have o : Le 1 60 := by unfold Le; decide
  have z : Le 0 60 := by unfold Le; decide
  refine ⟨start_inv _ _ _ _, ⟨?_, ?_, ?_⟩, ⟨z.mono (by decide), o.mono (by decide), z.mono (by decide), h1.mono (by decide)⟩, ⟨z.mono (by decide), z.mono (by decide), o.mono (by decide), h2.mono (by decide)⟩⟩
  · exact (o.mono (by decide)).add (h0.mul h0 (Nat.le_refl 120)) (i := 60) (by decide) (by decide)
  · exact ((o.mono (by decide)).add (h0.mul h0 (Nat.le_refl 120)) (i := 60) (k := 121) (by decide) (by decide)).add (h1.mul h1 (Nat.le_refl 120)) (by decide) (by decide)
  · exact (((o.mono (by decide)).add (h0.mul h0 (Nat.le_refl 120)) (i := 60) (k := 121) (by decide) (by decide)).add (h1.mul h1 (Nat.le_refl 120)) (k := 122) (by decide) (by decide)).add (h2.mul h2 (Nat.le_refl 120)) (by decide) (by decide)
/-- the sizes of the rows at the end -/
structure Siz (s : Nm) : Prop where
  a0 : Le s.a0 1500
  a1 : Le s.a1 1500
  a2 : Le s.a2 1500
  b0 : Le s.b0 1500
  b1 : Le s.b1 1500
  b2 : Le s.b2 1500
  c0 : Le s.c0 1500
  c1 : Le s.c1 1500
  c2 : Le s.c2 1500
theorem Hd3.siz (H : Hd3 W n0 n1 n2 s) : Siz s := by
  have a := (H.I.rowA H.B).mono (by decide : 128 ≤ 1500)
  have b := (H.I.rowB H.B H.red.1).mono (by decide : 258 ≤ 1500)
  exact ⟨a.h0, a.h1, a.h2, b.h0, b.h1, b.h2, H.c.h0, H.c.h1, H.c.h2⟩
theorem Hd3.out (H : Hd3 W n0 n1 n2 s) (hW : W = 8*(1+M)) (h0 : -M ≤ n0 ∧ n0 ≤ M) (h1 : -M ≤ n1 ∧ n1 ≤ M) (h2 : -M ≤ n2 ∧ n2 ≤ M) : Out n0 n1 n2 s :=
  ⟨H.I.det, (H.zero hW h0 h1 h2).1, (H.zero hW h0 h1 h2).2⟩
end
end
section
def lstep (B y : Int) : Int := B.fdiv (Int.gcd B y) * y
def lbot (y0 y1 y2 : Int) : Int := lstep (lstep (lstep 1 y0) y1) y2
theorem lstep_spec {B y : Int} (hB : 0 < B) (hy : 0 < y) : 0 < lstep B y ∧ (∃ k, 0 < k ∧ lstep B y = B * k) ∧ (∃ k, 0 < k ∧ lstep B y = y * k) ∧ lstep B y ≤ B * y ∧ 0 < (Int.gcd B y : Int) ∧ (Int.gcd B y : Int) ≤ y ∧ 0 ≤ B.fdiv (Int.gcd B y) ∧ B.fdiv (Int.gcd B y) ≤ B := by
  have hg : 0 < (Int.gcd B y : Int) := by
    have : Int.gcd B y ≠ 0 := fun h => by have := (Int.gcd_eq_zero_iff.mp h).2; omega
    omega
  have hgy : (Int.gcd B y : Int) ≤ y := Int.le_of_dvd hy (Int.gcd_dvd_right B y)
  obtain ⟨b, hb⟩ := Int.gcd_dvd_left B y
  obtain ⟨c, hc⟩ := Int.gcd_dvd_right B y
  have e : B.fdiv (Int.gcd B y) = b := fdiv_of hg hb
  unfold lstep
  rw [e]
  generalize (Int.gcd B y : Int) = g at *
  have bp : 0 < b := Int.pos_of_mul_pos_right (by omega : 0 < g * b) hg
  have cp : 0 < c := Int.pos_of_mul_pos_right (by omega : 0 < g * c) hg
  have h1 : 1 * b ≤ g * b := Int.mul_le_mul_of_nonneg_right (by omega) (by omega)
  refine ⟨Int.mul_pos bp hy, ⟨c, cp, by rw [hb, hc]; grind⟩, ⟨b, bp, Int.mul_comm _ _⟩, Int.mul_le_mul_of_nonneg_right (by omega) (by omega), hg, hgy, by omega, by omega⟩
structure LbotOf (y0 y1 y2 B : Int) : Prop where
  pos : 0 < B
  le : B ≤ y0 * y1 * y2
  d0 : ∃ k, 0 < k ∧ k ≤ B ∧ B = y0 * k ∧ B.fdiv y0 = k
  d1 : ∃ k, 0 < k ∧ k ≤ B ∧ B = y1 * k ∧ B.fdiv y1 = k
  d2 : ∃ k, 0 < k ∧ k ≤ B ∧ B = y2 * k ∧ B.fdiv y2 = k
theorem lbot_spec {y0 y1 y2 : Int} (h0 : 0 < y0) (h1 : 0 < y1) (h2 : 0 < y2) : LbotOf y0 y1 y2 (lbot y0 y1 y2) := by
  obtain ⟨p0, ⟨a0, ap0, ea0⟩, ⟨b0, bp0, eb0⟩, l0, _⟩ := lstep_spec (B := 1) (by omega) h0
  obtain ⟨p1, ⟨a1, ap1, ea1⟩, ⟨b1, bp1, eb1⟩, l1, _⟩ := lstep_spec p0 h1
  obtain ⟨p2, ⟨a2, ap2, ea2⟩, ⟨b2, bp2, eb2⟩, l2, _⟩ := lstep_spec p1 h2
  unfold lbot
  have mk : ∀ {y B k : Int}, 0 < y → 0 < k → B = y * k → ∃ k, 0 < k ∧ k ≤ B ∧ B = y * k ∧ B.fdiv y = k := by
    intro y B k hy hk e
    refine ⟨k, hk, ?_, e, fdiv_of hy e⟩
    have : 1 * k ≤ y * k := Int.mul_le_mul_of_nonneg_right (by omega) (by omega)
    omega
  refine ⟨p2, ?_, ?_, ?_, mk h2 bp2 eb2⟩
  · have q1 : lstep 1 y0 * y1 ≤ y0 * y1 := Int.mul_le_mul_of_nonneg_right (by omega) (by omega)
    have q2 : lstep (lstep 1 y0) y1 * y2 ≤ y0 * y1 * y2 := Int.mul_le_mul_of_nonneg_right (by omega) (by omega)
    omega
  · exact mk (k := b0 * a1 * a2) h0 (Int.mul_pos (Int.mul_pos bp0 ap1) ap2) (by rw [ea2, ea1, eb0]; grind)
  · exact mk (k := b1 * a2) h1 (Int.mul_pos bp1 ap2) (by rw [ea2, eb1]; grind)
/-- the rationals made whole -/
def whole (x y B : Int) : Int := x * (B.fdiv y)
theorem whole_eq {y0 y1 y2 B : Int} (L : LbotOf y0 y1 y2 B) (x : Int) : whole x y0 B * y0 = x * B ∧ whole x y1 B * y1 = x * B ∧ whole x y2 B * y2 = x * B := by
  obtain ⟨k0, _, _, e0, f0⟩ := L.d0
  obtain ⟨k1, _, _, e1, f1⟩ := L.d1
  obtain ⟨k2, _, _, e2, f2⟩ := L.d2
  unfold whole
  rw [f0, f1, f2]
  refine ⟨?_, ?_, ?_⟩
  · rw [e0]; grind
  · rw [e1]; grind
  · rw [e2]; grind
end
section
/-- what rat gives: x/y = a/b in lowest terms -/
structure RatOf (a b x y : Int) : Prop where
  pos : 0 < y
  le : y ≤ b
  abs : x.natAbs ≤ a.natAbs
  eq : x * b = a * y
  zero : a = 0 → x = 0 ∧ y = 1
theorem rat_of {a b : Int} (hb : 0 < b) : RatOf a b (a.fdiv (Int.gcd a b)) (b.fdiv (Int.gcd a b)) := by
  have hg : 0 < (Int.gcd a b : Int) := by
    have : Int.gcd a b ≠ 0 := fun h => by have := (Int.gcd_eq_zero_iff.mp h).2; omega
    omega
  obtain ⟨x, hx⟩ := Int.gcd_dvd_left a b
  obtain ⟨y, hy⟩ := Int.gcd_dvd_right a b
  have e1 : a.fdiv (Int.gcd a b) = x := fdiv_of hg hx
  have e2 : b.fdiv (Int.gcd a b) = y := fdiv_of hg hy
  rw [e1, e2]
  have hz : a = 0 → x = 0 ∧ y = 1 := by
    intro h0
    have hx0 : x = 0 := by
      rcases Int.mul_eq_zero.mp (hx.symm.trans h0) with h | h
      · omega
      · exact h
    refine ⟨hx0, ?_⟩
    have hgb : (Int.gcd a b : Int) = b := by rw [h0, Int.gcd_zero_left]; omega
    have : b * y = b * 1 := by rw [hgb] at hy; omega
    exact Int.eq_of_mul_eq_mul_left (by omega) this
  generalize (Int.gcd a b : Int) = g at *
  have yp : 0 < y := Int.pos_of_mul_pos_right (by omega : 0 < g * y) hg
  refine ⟨yp, ?_, ?_, ?_, ?_⟩
  · have : 1 * y ≤ g * y := Int.mul_le_mul_of_nonneg_right (by omega) (by omega)
    omega
  · rw [hx, Int.natAbs_mul]
    have : 1 * x.natAbs ≤ g.natAbs * x.natAbs := Nat.mul_le_mul_right _ (by omega)
    omega
  · rw [hx, hy]; grind
  · intro h0
    exact hz h0
def WtB (n0 n1 n2 M : Int) : Prop := (-M ≤ n0 ∧ n0 ≤ M) ∧ (-M ≤ n1 ∧ n1 ≤ M) ∧ (-M ≤ n2 ∧ n2 ≤ M)
theorem zcase {W n0 n1 n2 : Int} {s : Nm} (O : Out n0 n1 n2 s) (hz : s.z = W*(s.c0*n0+s.c1*n1+s.c2*n2)) (hW : 0 < W) : (s.z = 0 ∧ n0 = 0 ∧ n1 = 0 ∧ n2 = 0) ∨ (s.z ≠ 0 ∧ ¬ (n0 = 0 ∧ n1 = 0 ∧ n2 = 0)) := by
  have hW0 : W ≠ 0 := by omega
  by_cases h : s.c0*n0+s.c1*n1+s.c2*n2 = 0
  · left
    have ea : ta n0 n1 n2 s = 0 := O.ha
    have eb : tb n0 n1 n2 s = 0 := O.hb
    have ec : tc n0 n1 n2 s = 0 := h
    obtain ⟨e0, e1, e2⟩ := n_eq n0 n1 n2 s
    have hd : s.det ≠ 0 := by rcases O.det with h | h <;> omega
    have f : ∀ {n u v k : Int}, n * s.det = 0 * u + 0 * v + 0 * k → n = 0 := by
      intro n u v k h
      rcases Int.mul_eq_zero.mp (by simpa using h : n * s.det = 0) with h | h
      · exact h
      · exact absurd h hd
    rw [ea, eb, ec] at e0 e1 e2
    exact ⟨by rw [hz, h]; omega, f e0, f e1, f e2⟩
  · right
    refine ⟨?_, ?_⟩
    · rw [hz]
      intro h0
      rcases Int.mul_eq_zero.mp h0 with h1 | h1
      · exact hW0 h1
      · exact h h1
    · rintro ⟨rfl, rfl, rfl⟩
      exact h (by omega)
theorem wt {n0 n1 n2 M : Int} (a : M = 0 ∨ (M = if n0 < 0 then -n0 else n0) ∨ (M = if n1 < 0 then -n1 else n1) ∨ M = if n2 < 0 then -n2 else n2) (b : 0 ≤ M ∧ (if n0 < 0 then -n0 else n0) ≤ M ∧ (if n1 < 0 then -n1 else n1) ≤ M ∧ (if n2 < 0 then -n2 else n2) ≤ M) (l0 : Le n0 26) (l1 : Le n1 26) (l2 : Le n2 26) :
    2 ^ Int.toNat 3 * (1 + M) = 8 * (1 + M) ∧ WtB n0 n1 n2 M ∧ Le (8 * (1 + M)) 30 := by
  have e : (2 : Int) ^ Int.toNat 3 = 8 := rfl
  refine ⟨by rw [e], ⟨?_, ?_, ?_⟩, ?_⟩
  · obtain ⟨_, h, _⟩ := b; split at h <;> omega
  · obtain ⟨_, _, h, _⟩ := b; split at h <;> omega
  · obtain ⟨_, _, _, h⟩ := b; split at h <;> omega
  · unfold Le at *
    rcases a with h | h | h | h <;> (try split at h) <;> omega
def gcd3 (n0 n1 n2 : Int) : Int := (Int.gcd (Int.gcd (Int.gcd 0 n0 : Int) n1 : Int) n2 : Int)
theorem whole_le {x0 y0 x1 y1 x2 y2 : Int} (b0 : Le x0 5 ∧ Le y0 3 ∧ 0 < y0) (b1 : Le x1 5 ∧ Le y1 3 ∧ 0 < y1) (b2 : Le x2 10 ∧ Le y2 6 ∧ 0 < y2) :
   Le (whole x0 y0 (lbot y0 y1 y2)) 26 ∧ Le (whole x1 y1 (lbot y0 y1 y2)) 26 ∧ Le (whole x2 y2 (lbot y0 y1 y2)) 26 := by
  have L := lbot_spec b0.2.2 b1.2.2 b2.2.2
  have q : Le (y0 * y1 * y2) 12 := (b0.2.1.mul b1.2.1 (Nat.le_refl (3+3))).mul b2.2.1 (by decide)
  have hB := L.le
  obtain ⟨k0, p0, l0, _, f0⟩ := L.d0
  obtain ⟨k1, p1, l1, _, f1⟩ := L.d1
  obtain ⟨k2, p2, l2, _, f2⟩ := L.d2
  have hq := q.2
  have m0 : Le k0 12 := Le.of (by omega) (by omega)
  have m1 : Le k1 12 := Le.of (by omega) (by omega)
  have m2 : Le k2 12 := Le.of (by omega) (by omega)
  unfold whole
  rw [f0, f1, f2]
  exact ⟨b0.1.mul m0 (by decide), b1.1.mul m1 (by decide), b2.1.mul m2 (by decide)⟩
/-- the running total: t/v is the sum so far over B -/
structure Tot (B S t v : Int) : Prop where
  pos : 0 < v
  eq : t * B = v * S
theorem Tot.start (B : Int) : Tot B 0 0 1 := ⟨by decide, by omega⟩
theorem Tot.step {B S t v num x y n u1 v1 pu pv t' v' : Int} (T : Tot B S t v) (hn : n * y = x * B) (hy : 0 < y) (r1 : RatOf num 1 u1 v1) (r2 : RatOf (u1 * x) (v1 * y) pu pv) (r3 : RatOf (t * pv + pu * v) (v * pv) t' v') : Tot B (S + num * n) t' v' := by
  have p1 := r1.pos
  have l1 := r1.le
  have e1 := r1.eq
  have hv1 : v1 = 1 := by omega
  subst hv1
  have hu1 : u1 = num := by omega
  subst hu1
  have p2 := r2.pos
  have e2 := r2.eq
  have e3 := r3.eq
  have T1 := T.eq
  have T2 := T.pos
  refine ⟨r3.pos, ?_⟩
  have k1 : (pu * B - u1 * pv * n) * y = 0 := by grind
  have k2 : pu * B = u1 * pv * n := by
    rcases Int.mul_eq_zero.mp k1 with h | h <;> omega
  have k3 : (t' * B - v' * (S + u1 * n)) * (v * pv) = 0 := by grind
  have hp : 0 < v * pv := Int.mul_pos T2 p2
  rcases Int.mul_eq_zero.mp k3 with h | h
  · omega
  · omega
theorem Tot.zero {B t v a b : Int} (T : Tot B 0 t v) (hB : 0 < B) (r : RatOf a b t v) : t = 0 ∧ v = 1 := by
  have h := T.eq
  have ht : t = 0 := by
    rcases Int.mul_eq_zero.mp (by rw [h]; omega : t * B = 0) with h | h
    · exact h
    · omega
  have e := r.eq
  rw [ht] at e
  have ha : a = 0 := by
    rcases Int.mul_eq_zero.mp (by omega : a * v = 0) with h | h
    · exact h
    · have := r.pos; omega
  exact r.zero ha
theorem gcd3_spec {n0 n1 n2 : Int} (h : ¬ (n0 = 0 ∧ n1 = 0 ∧ n2 = 0)) : 0 < gcd3 n0 n1 n2 ∧ gcd3 n0 n1 n2 ∣ n0 ∧ gcd3 n0 n1 n2 ∣ n1 ∧ gcd3 n0 n1 n2 ∣ n2 ∧ ∀ t : Int, t ∣ n0 → t ∣ n1 → t ∣ n2 → t ∣ gcd3 n0 n1 n2 := by
  unfold gcd3
  have d2 := Int.gcd_dvd_right (Int.gcd (Int.gcd 0 n0 : Int) n1 : Int) n2
  have d01 := Int.gcd_dvd_left (Int.gcd (Int.gcd 0 n0 : Int) n1 : Int) n2
  have d1 := Int.dvd_trans d01 (Int.gcd_dvd_right (Int.gcd 0 n0 : Int) n1)
  have d0 := Int.dvd_trans (Int.dvd_trans d01 (Int.gcd_dvd_left (Int.gcd 0 n0 : Int) n1)) (Int.gcd_dvd_right 0 n0)
  refine ⟨?_, d0, d1, d2, ?_⟩
  · have : Int.gcd (Int.gcd (Int.gcd 0 n0 : Int) n1 : Int) n2 ≠ 0 := by
      intro h0
      obtain ⟨h1, h2⟩ := Int.gcd_eq_zero_iff.mp h0
      have h1' : Int.gcd (Int.gcd 0 n0 : Int) n1 = 0 := by omega
      obtain ⟨h3, h4⟩ := Int.gcd_eq_zero_iff.mp h1'
      have h3' : Int.gcd 0 n0 = 0 := by omega
      exact h ⟨(Int.gcd_eq_zero_iff.mp h3').2, h4, h2⟩
    omega
  · intro t t0 t1 t2
    exact Int.dvd_coe_gcd (Int.dvd_coe_gcd (Int.dvd_coe_gcd (Int.dvd_zero t) t0) t1) t2
theorem fdiv_le {n G : Int} {i : Nat} (hG : 0 < G) (hd : G ∣ n) (hn : Le n i) : Le (n.fdiv G) i := by
  obtain ⟨d, rfl⟩ := hd
  rw [fdiv_of hG rfl]
  have h1 := Le.abs.mp hn
  rw [Int.natAbs_mul] at h1
  have h2 : 1 ≤ G.natAbs := by omega
  exact Le.abs.mpr (Nat.le_trans (by have := Nat.mul_le_mul_right d.natAbs h2; omega) h1)
theorem dvd_le {n G : Int} {i : Nat} (_hG : 0 < G) (hd : G ∣ n) (h0 : n ≠ 0) (hn : Le n i) : Le G i := by
  have h1 := Le.abs.mp hn
  have h2 := Int.natAbs_dvd_natAbs.mpr hd
  have h3 := Nat.le_of_dvd (by omega) h2
  exact Le.abs.mpr (Nat.le_trans h3 h1)
/-- what the law asks of the two rows and of the numbers -/
structure Due (n0 n1 n2 G d0 d1 d2 : Int) (s : Nm) : Prop where
  pos : 0 < G
  le : Le G 26
  e0 : n0.fdiv G = d0
  e1 : n1.fdiv G = d1
  e2 : n2.fdiv G = d2
  l0 : Le d0 26
  l1 : Le d1 26
  l2 : Le d2 26
  or : (d0 = k0 s ∧ d1 = k1 s ∧ d2 = k2 s) ∨ (0 - d0 = k0 s ∧ 0 - d1 = k1 s ∧ 0 - d2 = k2 s)
theorem due_of {n0 n1 n2 : Int} {s : Nm} (O : Out n0 n1 n2 s) (h : ¬ (n0 = 0 ∧ n1 = 0 ∧ n2 = 0)) (l0 : Le n0 26) (l1 : Le n1 26) (l2 : Le n2 26) : ∃ G d0 d1 d2, gcd3 n0 n1 n2 = G ∧ Due n0 n1 n2 G d0 d1 d2 s := by
  obtain ⟨p, g0, g1, g2, hg⟩ := gcd3_spec h
  refine ⟨_, _, _, _, rfl, p, ?_, rfl, rfl, rfl, fdiv_le p g0 l0, fdiv_le p g1 l1, fdiv_le p g2 l2, ?_⟩
  · by_cases h0 : n0 = 0
    · by_cases h1 : n1 = 0
      · by_cases h2 : n2 = 0
        · exact absurd ⟨h0, h1, h2⟩ h
        · exact dvd_le p g2 h2 l2
      · exact dvd_le p g1 h1 l1
    · exact dvd_le p g0 h0 l0
  · rcases O.due _ p g0 g1 g2 hg with h | h
    · exact .inl h
    · exact .inr ⟨by rw [h.1]; omega, by rw [h.2.1]; omega, by rw [h.2.2]; omega⟩
theorem Due.told1 {n0 n1 n2 G d0 d1 d2 : Int} {s : Nm} (H : Due n0 n1 n2 G d0 d1 d2 s) : d1 * k0 s + (0 - d0) * k1 s + 0 * k2 s = 0 := by
  rcases H.or with ⟨a, b, c⟩ | ⟨a, b, c⟩ <;> rw [← a, ← b] <;> grind
theorem Due.told2 {n0 n1 n2 G d0 d1 d2 : Int} {s : Nm} (H : Due n0 n1 n2 G d0 d1 d2 s) : 0 * k0 s + d2 * k1 s + (0 - d1) * k2 s = 0 := by
  rcases H.or with ⟨a, b, c⟩ | ⟨a, b, c⟩ <;> rw [← b, ← c] <;> grind
end
set_option maxRecDepth 100000
section
open PySem PySem.W PyProof.Rows PySem.Calls
section
section
local macro_rules | `(tactic| o_head $_) => `(tactic| assumption)
/-- of no use as a theorem (it hands back its own hypothesis, and nothing leans on it): its tactic lays the constant Kd.heap_1, the objects that stand behind the top of the text -/
theorem Kd (hyp : (PySem.Challenge.rw_nn0256_01.row).Holds) : (PySem.Challenge.rw_nn0256_01.row).Holds := by
  k_head
end
/-- the objects that the proof looks at, one constant each, read from Kd.heap_1 -/
inductive IsAt : Params → Nat → Obj → Prop
  | mk {P : Params} {a : Nat} {o : Obj} (h : (Kd.heap_1 P).lookup a = some o) : IsAt P a o
noncomputable def getO {P : Params} {a : Nat} {o : Obj} (h : IsAt P a o) : Obj := o
noncomputable def ob3 (P : Params) : Obj := getO (IsAt.mk (P := P) (a := nat_lit 3) (by k_is))
noncomputable def ob40 (P : Params) : Obj := getO (IsAt.mk (P := P) (a := nat_lit 40) (by k_is))
noncomputable def ob41 (P : Params) : Obj := getO (IsAt.mk (P := P) (a := nat_lit 41) (by k_is))
noncomputable def ob47 (P : Params) : Obj := getO (IsAt.mk (P := P) (a := nat_lit 47) (by k_is))
noncomputable def ob48 (P : Params) : Obj := getO (IsAt.mk (P := P) (a := nat_lit 48) (by k_is))
noncomputable def ob52 (P : Params) : Obj := getO (IsAt.mk (P := P) (a := nat_lit 52) (by k_is))
noncomputable def ob53 (P : Params) : Obj := getO (IsAt.mk (P := P) (a := nat_lit 53) (by k_is))
noncomputable def ob57 (P : Params) : Obj := getO (IsAt.mk (P := P) (a := nat_lit 57) (by k_is))
noncomputable def ob58 (P : Params) : Obj := getO (IsAt.mk (P := P) (a := nat_lit 58) (by k_is))
noncomputable def ob64 (P : Params) : Obj := getO (IsAt.mk (P := P) (a := nat_lit 64) (by k_is))
noncomputable def ob65 (P : Params) : Obj := getO (IsAt.mk (P := P) (a := nat_lit 65) (by k_is))
noncomputable def ob71 (P : Params) : Obj := getO (IsAt.mk (P := P) (a := nat_lit 71) (by k_is))
noncomputable def ob72 (P : Params) : Obj := getO (IsAt.mk (P := P) (a := nat_lit 72) (by k_is))
noncomputable def ob78 (P : Params) : Obj := getO (IsAt.mk (P := P) (a := nat_lit 78) (by k_is))
noncomputable def ob79 (P : Params) : Obj := getO (IsAt.mk (P := P) (a := nat_lit 79) (by k_is))
noncomputable def ob85 (P : Params) : Obj := getO (IsAt.mk (P := P) (a := nat_lit 85) (by k_is))
noncomputable def ob86 (P : Params) : Obj := getO (IsAt.mk (P := P) (a := nat_lit 86) (by k_is))
noncomputable def ob92 (P : Params) : Obj := getO (IsAt.mk (P := P) (a := nat_lit 92) (by k_is))
noncomputable def ob93 (P : Params) : Obj := getO (IsAt.mk (P := P) (a := nat_lit 93) (by k_is))
noncomputable def ob97 (P : Params) : Obj := getO (IsAt.mk (P := P) (a := nat_lit 97) (by k_is))
noncomputable def ob98 (P : Params) : Obj := getO (IsAt.mk (P := P) (a := nat_lit 98) (by k_is))
noncomputable def ob102 (P : Params) : Obj := getO (IsAt.mk (P := P) (a := nat_lit 102) (by k_is))
noncomputable def ob103 (P : Params) : Obj := getO (IsAt.mk (P := P) (a := nat_lit 103) (by k_is))
noncomputable def ob107 (P : Params) : Obj := getO (IsAt.mk (P := P) (a := nat_lit 107) (by k_is))
noncomputable def ob108 (P : Params) : Obj := getO (IsAt.mk (P := P) (a := nat_lit 108) (by k_is))
noncomputable def ob109 (P : Params) : Obj := getO (IsAt.mk (P := P) (a := nat_lit 109) (by k_is))
noncomputable def ob115 (P : Params) : Obj := getO (IsAt.mk (P := P) (a := nat_lit 115) (by k_is))
noncomputable def ob116 (P : Params) : Obj := getO (IsAt.mk (P := P) (a := nat_lit 116) (by k_is))
noncomputable def ob122 (P : Params) : Obj := getO (IsAt.mk (P := P) (a := nat_lit 122) (by k_is))
noncomputable def ob123 (P : Params) : Obj := getO (IsAt.mk (P := P) (a := nat_lit 123) (by k_is))
noncomputable def ob129 (P : Params) : Obj := getO (IsAt.mk (P := P) (a := nat_lit 129) (by k_is))
noncomputable def ob130 (P : Params) : Obj := getO (IsAt.mk (P := P) (a := nat_lit 130) (by k_is))
noncomputable def ob136 (P : Params) : Obj := getO (IsAt.mk (P := P) (a := nat_lit 136) (by k_is))
noncomputable def ob137 (P : Params) : Obj := getO (IsAt.mk (P := P) (a := nat_lit 137) (by k_is))
noncomputable def ob143 (P : Params) : Obj := getO (IsAt.mk (P := P) (a := nat_lit 143) (by k_is))
noncomputable def ob144 (P : Params) : Obj := getO (IsAt.mk (P := P) (a := nat_lit 144) (by k_is))
noncomputable def ob148 (P : Params) : Obj := getO (IsAt.mk (P := P) (a := nat_lit 148) (by k_is))
noncomputable def ob149 (P : Params) : Obj := getO (IsAt.mk (P := P) (a := nat_lit 149) (by k_is))
noncomputable def ob155 (P : Params) : Obj := getO (IsAt.mk (P := P) (a := nat_lit 155) (by k_is))
noncomputable def ob156 (P : Params) : Obj := getO (IsAt.mk (P := P) (a := nat_lit 156) (by k_is))
noncomputable def ob160 (P : Params) : Obj := getO (IsAt.mk (P := P) (a := nat_lit 160) (by k_is))
noncomputable def ob161 (P : Params) : Obj := getO (IsAt.mk (P := P) (a := nat_lit 161) (by k_is))
noncomputable def ob165 (P : Params) : Obj := getO (IsAt.mk (P := P) (a := nat_lit 165) (by k_is))
noncomputable def ob166 (P : Params) : Obj := getO (IsAt.mk (P := P) (a := nat_lit 166) (by k_is))
noncomputable def K2 (P : Params) : Frag := (nat_lit 3, ob3 P) :: (nat_lit 40, ob40 P) :: (nat_lit 41, ob41 P) :: (nat_lit 47, ob47 P) :: (nat_lit 48, ob48 P) :: (nat_lit 52, ob52 P) :: (nat_lit 53, ob53 P) :: (nat_lit 57, ob57 P) :: (nat_lit 58, ob58 P) :: (nat_lit 64, ob64 P) :: (nat_lit 65, ob65 P) :: (nat_lit 71, ob71 P) :: (nat_lit 72, ob72 P) :: (nat_lit 78, ob78 P) :: (nat_lit 79, ob79 P) :: (nat_lit 85, ob85 P) :: (nat_lit 86, ob86 P) :: (nat_lit 92, ob92 P) :: (nat_lit 93, ob93 P) :: (nat_lit 97, ob97 P) :: (nat_lit 98, ob98 P) :: (nat_lit 102, ob102 P) :: (nat_lit 103, ob103 P) :: (nat_lit 107, ob107 P) :: (nat_lit 108, ob108 P) :: (nat_lit 109, ob109 P) :: (nat_lit 115, ob115 P) :: (nat_lit 116, ob116 P) :: (nat_lit 122, ob122 P) :: (nat_lit 123, ob123 P) :: (nat_lit 129, ob129 P) :: (nat_lit 130, ob130 P) :: (nat_lit 136, ob136 P) :: (nat_lit 137, ob137 P) :: (nat_lit 143, ob143 P) :: (nat_lit 144, ob144 P) :: (nat_lit 148, ob148 P) :: (nat_lit 149, ob149 P) :: (nat_lit 155, ob155 P) :: (nat_lit 156, ob156 P) :: (nat_lit 160, ob160 P) :: (nat_lit 161, ob161 P) :: (nat_lit 165, ob165 P) :: (nat_lit 166, ob166 P) :: []
noncomputable def A2 : List Nat := nat_lit 3 :: nat_lit 40 :: nat_lit 41 :: nat_lit 47 :: nat_lit 48 :: nat_lit 52 :: nat_lit 53 :: nat_lit 57 :: nat_lit 58 :: nat_lit 64 :: nat_lit 65 :: nat_lit 71 :: nat_lit 72 :: nat_lit 78 :: nat_lit 79 :: nat_lit 85 :: nat_lit 86 :: nat_lit 92 :: nat_lit 93 :: nat_lit 97 :: nat_lit 98 :: nat_lit 102 :: nat_lit 103 :: nat_lit 107 :: nat_lit 108 :: nat_lit 109 :: nat_lit 115 :: nat_lit 116 :: nat_lit 122 :: nat_lit 123 :: nat_lit 129 :: nat_lit 130 :: nat_lit 136 :: nat_lit 137 :: nat_lit 143 :: nat_lit 144 :: nat_lit 148 :: nat_lit 149 :: nat_lit 155 :: nat_lit 156 :: nat_lit 160 :: nat_lit 161 :: nat_lit 165 :: nat_lit 166 :: []
section
local macro_rules | `(tactic| k_head) => `(tactic| o_head (kHook Mine.K2 Mine.A2 (fun _ => by kernel_rfl)))
set_option maxHeartbeats 8000000 in
open_top hd for PySem.Challenge.rw_nn0256_01
end
theorem hide {G : Prop} (h : ∀ P : Prop, (G → P) → P) : G := h G id
abbrev Led := List (Addr × Obj)
/-- a contract: from any caller's frame, with the ledger `news`, the call of the def at `f` with `vs` hands back r with a ledger news' such that post r news' -/
def Spec (w : World) (f : Addr) (dn : Nat) (news : Led) (vs : List Value) (post : Value → Led → Prop) : Prop :=
  ∀ (loose : List Str) (mean : ExcName → Option Value) (mg mb : Str → Option Value) (dp un : Nat) (gd : Option (List Code)) (cn : Str) (cs : Scope) (a : Addr) (ccd : Value) (cl : List (Str × Addr)) (outer : List Env) (A₀ : Around) (base h₀ : Heap) (L : Addr) (m : Str → Option Value) (s : Shared)
    (Q E : Value → Shared → Prop),
    Below A₀ base outer h₀ → Fr h₀ L s.heap m → (Mine.K2 w.params).In h₀ → News h₀ L s.heap news → Top Mine.hd.view_39 loose mean mg mb h₀ → cs.kind = .function → dp + dn < recursionLimit → un + 16 * dn < cLine →
    (∀ r news' h' tk', post r news' → Fr h₀ L h' m → News h₀ L h' news' → Q r { s with heap := h', toks := tk' }) →
    wpAny (model PySem.Challenge.rw_nn0256_01.row.prog w) (ktrTop dp un gd cn cs L a ccd cl outer) (call (.ref f) vs) Q E s
end
section
open PyProof.Rows.LCg PySem.Spec
section
variable {prog : Program} {w : World} {A : Around} {E : Value → Shared → Prop} {s : Shared} {h₀ : Heap} {L : Addr} {m : Str → Option Value} {env : Env}

/-- the element of a comprehension over enumerate makes a value and leaves the heap as it is -/
def EltE (prog : Program) (w : World) (A : Around) (h₀ : Heap) (L : Addr) (m : Str → Option Value) (env : Env) (elt : Expr) (x y : Str) (scope : Scope) (cl : List (Str × Addr)) (news : Led) (its : Array Value) (V : Nat → Value → Prop) : Prop :=
  ∀ (i : Nat) (v : Value) (t : Tok) (C : Addr) (oC : Obj) (m₂ : Str → Option Value) (s : Shared) (E' Q' : Value → Shared → Prop), its[i]? = some v → NsObj oC m₂ → m₂ x = some (.int (i : Nat) t) → m₂ y = some v → Fr h₀ L s.heap m → News h₀ L s.heap ((C, oC) :: news) →
    (∀ z tk', V i z → Q' z { s with toks := tk' }) → wpAny (model prog w) A (eval elt (compEnvC scope cl C env)) Q' E' s

inductive SrcE (prog : Program) (w : World) (A : Around) (h₀ : Heap) (L : Addr) (m : Str → Option Value) (env : Env) (elt : Expr) (x y : Str) (scope : Scope) (cl : List (Str × Addr)) (Q : Value → Shared → Prop) (s₁ : Shared) : Value → Prop
  | mk (e it l : Addr) (its : Array Value) (news : Led) (V : Nat → Value → Prop) (hh : A.handled = none) (F : Fr h₀ L s₁.heap m) (N : News h₀ L s₁.heap news) (hE : IsEnum s₁.heap e it 0 .none) (hI : s₁.heap.IsListIter it l 0) (hl : s₁.heap.IsList l its)
    (hei : e ≠ it) (hle : l ≠ e) (hli : l ≠ it) (hLe : L ≠ e) (hLi : L ≠ it) (he₀ : h₀.get? e = none) (hi₀ : h₀.get? it = none) (off : ∀ p ∈ news, p.1 ≠ e ∧ p.1 ≠ it) (hsz : its.size ≤ sizeLine) (helt : EltE prog w A h₀ L m env elt x y scope cl news its V)
    (fin : ∀ D h tk ys, Fr h₀ L h m → News h₀ L h ((D, lst ys) :: news) → (∀ p ∈ news, p.1 < D) → ys.length = its.size → (∀ i z, ys[i]? = some z → V i z) → Q (.ref D) { s₁ with heap := h, toks := tk }) : SrcE prog w A h₀ L m env elt x y scope cl Q s₁ (.ref e)
/-- what stands but for four objects -/
def Kp4 (e it D C : Addr) (h h' : Heap) : Prop := ∀ b o, b ≠ e → b ≠ it → b ≠ D → b ≠ C → h.get? b = some o → h'.get? b = some o
/-- the turns of the comprehension -/
inductive EInv (e it l D C : Addr) (its : Array Value) (V : Nat → Value → Prop) (s₁ : Shared) : Nat → Shared → Prop
  | mk (h' : Heap) (tk i : Nat) (ys : List Value) (m' : Str → Option Value) (hi : i ≤ its.size) (hyl : ys.length = i) (hV : ∀ j z, ys[j]? = some z → V j z) (hst : (∃ old, IsEnum h' e it (i : Nat) old) ∧ h'.IsListIter it l i ∧ h'.IsList l its)
     (hD : h'.get? D = some (lst ys)) (hn : h'.Ns C m') (kp : Kp4 e it D C s₁.heap h') : EInv e it l D C its V s₁ (its.size + 1 - i) { s₁ with heap := h', toks := tk }

theorem comp_enum {elt iter : Expr} {x y : Str} {px py tp : Pos} {k} {scope : Scope} {cl : List (Str × Addr)} {pos : Pos} {Q : Value → Shared → Prop} (_F₀ : Fr h₀ L s.heap m)
    (hclos : closureFor scope env = pure cl) (hcell : ∀ y ∈ scope.names, y.2 ≠ .cell) (hkind : scope.kind = .function)
    (hnames : ∀ y ∈ scope.names, y.2 = .local → scope.names.lookup y.1 = some .local) (hx : scope.names.lookup x = some .local) (hy : scope.names.lookup y = some .local) (hxy : x ≠ y)
    (h : wpAny (model prog w) A (eval iter env) (fun v s₁ => SrcE prog w A h₀ L m env elt x y scope cl Q s₁ v) E s)
    (hs : ∀ x, foldedSetIterable iter env x = pure x := by intro _; rfl) :
    wpAny (model prog w) A (eval (.ListComp elt [⟨.Tuple [.Name x px, .Name y py] k tp, iter, [], 0⟩] scope pos) env) Q E s := by
  rw [eval_ListComp]
  refine wpAny_comprehension_free (use := none) rfl hs hclos hkind hnames (wpAny_mono h (fun xv s₁ h₁ => ?_) fun _ _ e => e)
  obtain ⟨e, it, l, its, news, V, hh, F, N, hE, hI, hl, hei, hle, hli, hLe, hLi, he₀, hi₀, off, hsz, helt, fin⟩ := h₁
  refine wpAny_pyIter_enum hE ?_
  refine wpAny_newObj_type (wpAny_newFunctionEnv hcell (by intro y hy; simp at hy) (fun h₁ hns₁ hsb₁ => ?_) hkind)
  dsimp only at hns₁ hsb₁ ⊢
  generalize hH2 : s₁.heap.push { cls := .type "list", dict := none, data := .seq ([] : List Value).toArray } = H2 at hns₁ hsb₁ ⊢
  have hC : H2.objs.size = s₁.heap.objs.size + 1 := by rw [← hH2, Heap.size_push]
  have hDC : s₁.heap.objs.size ≠ H2.objs.size := by rw [hC]; exact Nat.ne_of_lt (Nat.lt_succ_self _)
  have old : ∀ b o, s₁.heap.get? b = some o → h₁.get? b = some o := fun b o q => hsb₁.extBut b o (by have := Heap.lt_size q; exact Nat.ne_of_lt (by rw [hC]; exact Nat.lt_succ_of_lt this)) (Heap.get?_push_of_some _ (hH2 ▸ Heap.get?_push_of_some _ q))
  have hacc : h₁.get? s₁.heap.objs.size = some (lst []) := hsb₁.extBut _ _ hDC (Heap.get?_push_of_some _ (hH2 ▸ Heap.get?_push_size _ rfl))
  have fresh₀ : ∀ a, s₁.heap.objs.size ≤ a → h₀.get? a = none := fun a ha => by
    cases q : h₀.get? a with
    | none => rfl
    | some o' => exact absurd (Heap.lt_size (F.keep a o' q)) (Nat.not_lt.mpr ha)
  have hD₀ : h₀.get? s₁.heap.objs.size = none := fresh₀ _ (Nat.le_refl _)
  have hC₀ : h₀.get? H2.objs.size = none := fresh₀ _ (by rw [hC]; exact Nat.le_succ _)
  have hLlt : L < s₁.heap.objs.size := F.ns.lt
  have hLD : L ≠ s₁.heap.objs.size := Nat.ne_of_lt hLlt
  have hLC : L ≠ H2.objs.size := Nat.ne_of_lt (by rw [hC]; exact Nat.lt_succ_of_lt hLlt)
  have lte : e < s₁.heap.objs.size := Heap.lt_size hE
  have lti : it < s₁.heap.objs.size := hI.elim fun _ h => Heap.lt_size h.1
  have ltl : l < s₁.heap.objs.size := hl.elim fun _ h => Heap.lt_size h.1
  have nD : ∀ {b : Addr}, b < s₁.heap.objs.size → b ≠ s₁.heap.objs.size ∧ b ≠ H2.objs.size := fun hb => ⟨Nat.ne_of_lt hb, Nat.ne_of_lt (by rw [hC]; exact Nat.lt_succ_of_lt hb)⟩
  -- what stands at the start stands
  have frOf : ∀ {h' : Heap}, Kp4 e it s₁.heap.objs.size H2.objs.size s₁.heap h' → Fr h₀ L h' m := fun {h'} kp =>
    ⟨F.ns.at' fun o q => kp L o hLe hLi hLD hLC q, fun b o q => kp b o (fun z => by rw [z, he₀] at q; cases q) (fun z => by rw [z, hi₀] at q; cases q) (fun z => by rw [z, hD₀] at q; cases q) (fun z => by rw [z, hC₀] at q; cases q) (F.keep b o q), F.above⟩
  have newsOf : ∀ {h' : Heap}, Kp4 e it s₁.heap.objs.size H2.objs.size s₁.heap h' → News h₀ L h' news := fun {h'} kp p hp =>
    ⟨kp p.1 p.2 (off p hp).1 (off p hp).2 (nD (Heap.lt_size (N p hp).1)).1 (nD (Heap.lt_size (N p hp).1)).2 (N p hp).1, (N p hp).2⟩
  have W := WalksT.enumerate (prog := prog) (w := w) hh e it l hei hle hli its
  have loop : ∀ s₃ : Shared, s₃ = { s₁ with heap := h₁, toks := s₁.toks + ([] : List (Str × Value)).length } →
      codeAny (model prog w) A (.compLoop (.ListComp elt [⟨.Tuple [.Name x px, .Name y py] k tp, iter, [], 0⟩] scope pos) 0 (.ref e) (.ref s₁.heap.objs.size) (compEnvC scope cl H2.objs.size env))
        (compPost (model prog w) A E none Q (.ref s₁.heap.objs.size) H2.objs.size) s₃ := by
    rintro s₃ rfl
    refine LCp.codeAny_compLoop_pair
      (EInv e it l s₁.heap.objs.size H2.objs.size its V s₁) ?_ (its.size + 1)
      ⟨h₁, _, 0, [], _, Nat.zero_le _, rfl, fun j z q => by simp at q, ⟨⟨_, old _ _ hE⟩, hI.at fun o q => old _ o q, hl.at fun o q => old _ o q⟩, hacc, hns₁, fun b o _ _ _ _ q => old b o q⟩
    rintro k s' ⟨h', tk, i, ys, m', hi, hyl, hV, hst, hD, hn, kp⟩
    by_cases hlt : i < its.size
    · refine W.item i _ _ _ hlt hst fun T vals h₂ tk₂ hP hT hTup hMid hk₂ => ?_
      obtain ⟨t, v, hv, rfl⟩ := hP
      have k2 : ∀ b o, b ≠ e → b ≠ it → h'.get? b = some o → h₂.get? b = some o := fun b o q1 q2 q => hk₂ b o (by simp [q1, q2]) q
      have hTn : T ≠ e ∧ T ≠ it := by have := W.apart i T h₂ hMid; simpa using this
      refine W.go _ _ _ i T _ _ _ hMid fun h₃ hst₃ hk₃ => ?_
      have k3 : ∀ b o, b ≠ e → b ≠ it → h₂.get? b = some o → h₃.get? b = some o := fun b o q1 q2 q => hk₃ b o (by simp [q1, q2]) q
      have hTup3 : IsTup h₃ T #[.int i t, v] := by
        obtain ⟨o, q, r⟩ := hTup
        exact ⟨o, k3 T o hTn.1 hTn.2 q, r⟩
      refine assign_Tuple_tuple hh hTup3 rfl rfl fun h₅ hx₅ => ?_
      have k5 : ∀ b o, h₃.get? b = some o → h₅.get? b = some o := fun b o q => hx₅ b o (Nat.ne_of_lt (Heap.lt_size q)) q
      have hCe : H2.objs.size ≠ e := Ne.symm (nD lte).2
      have hCi : H2.objs.size ≠ it := Ne.symm (nD lti).2
      have hn5 : h₅.Ns H2.objs.size m' := hn.at' fun o q => k5 _ o (k3 _ o hCe hCi (k2 _ o hCe hCi q))
      refine assignInOrder_cons (wpAny_assign_Name (wpAny_storeName_local (lookup_relabel_local hx) hn5 (fun h₆ hn₆ hs₆ => ?_) (by simp [compEnvC, relabel, hkind])))
      refine assignInOrder_cons (wpAny_assign_Name (wpAny_storeName_local (lookup_relabel_local hy) hn₆ (fun h₇ hn₇ hs₇ => ?_) (by simp [compEnvC, relabel, hkind])))
      refine assignInOrder_nil ?_
      have k7 : ∀ b o, b ≠ H2.objs.size → h₃.get? b = some o → h₇.get? b = some o := fun b o hb q => hs₇.extBut b o hb (hs₆.extBut b o hb (k5 b o q))
      have kp7 : Kp4 e it s₁.heap.objs.size H2.objs.size s₁.heap h₇ := fun b o q1 q2 q3 q4 q => k7 b o q4 (k3 b o q1 q2 (k2 b o q1 q2 (kp b o q1 q2 q3 q4 q)))
      have hD7 : h₇.get? s₁.heap.objs.size = some (lst ys) := k7 _ _ hDC (k3 _ _ (Nat.ne_of_gt lte) (Nat.ne_of_gt lti) (k2 _ _ (Nat.ne_of_gt lte) (Nat.ne_of_gt lti) hD))
      have hst7 : ((∃ old, IsEnum h₇ e it ((i + 1 : Nat) : Int) old) ∧ h₇.IsListIter it l (i + 1) ∧ h₇.IsList l its) := by
        obtain ⟨⟨od, q1⟩, q2, q3⟩ := hst₃
        exact ⟨⟨od, k7 _ _ hCe.symm q1⟩, q2.at fun o q => k7 _ o hCi.symm q, q3.at fun o q => k7 _ o (nD ltl).2 q⟩
      refine hide fun P kk => ?_
      obtain ⟨oC, heC, hoC⟩ := ns_obj hn₇
      refine kk ?_; clear kk P
      have F7 := frOf kp7
      have N7 := newsOf kp7
      refine helt i v t H2.objs.size oC _ _ _ _ hv hoC ?_ ?_ F7 (fun p hp => ?_) fun z tk' hz => ?_
      · simp [hxy]
      · simp
      · rcases List.mem_cons.mp hp with rfl | hp
        · exact ⟨heC, hLC.symm, hC₀⟩
        · exact N7 p hp
      · refine append_at (hsz := by show ys.toArray.size ≤ sizeLine; rw [List.size_toArray, hyl]; exact Nat.le_trans hi hsz) hD7 fun h₈ hs₈ hD₈ => ?_
        have k8 : ∀ b o, b ≠ s₁.heap.objs.size → h₇.get? b = some o → h₈.get? b = some o := fun b o hb q => hs₈.extBut b o hb q
        refine ⟨its.size + 1 - (i + 1), by omega, ⟨h₈, tk', i + 1, ys ++ [z], _, hlt, by simp [hyl], fun j z' q => ?_, ?_, hD₈.trans (congrArg some (lst_snoc ys z)), hn₇.sameBut hs₈ hDC.symm, fun b o q1 q2 q3 q4 q => k8 b o q3 (kp7 b o q1 q2 q3 q4 q)⟩⟩
        · rcases Nat.lt_or_ge j ys.length with hj | hj
          · rw [List.getElem?_append_left hj] at q
            exact hV j z' q
          · rw [List.getElem?_append_right hj] at q
            have : j - ys.length = 0 := by
              rcases Nat.eq_zero_or_pos (j - ys.length) with h0 | h0
              · exact h0
              · rw [List.getElem?_eq_none (by simp only [List.length_singleton]; omega)] at q; cases q
            rw [this] at q
            have hz' : z = z' := by simpa using q
            have hj' : j = i := by omega
            rw [hj', ← hz']; exact hz
        · obtain ⟨⟨od, q1⟩, q2, q3⟩ := hst7
          exact ⟨⟨od, k8 _ _ (nD lte).1 q1⟩, q2.at fun o q => k8 _ o (nD lti).1 q, q3.at fun o q => k8 _ o (nD ltl).1 q⟩
    · obtain rfl : i = its.size := Nat.le_antisymm hi (Nat.not_lt.mp hlt)
      refine W.done _ _ _ hst fun h₂ tk₂ hk₂ => ?_
      have k2 : ∀ b o, b ≠ e → b ≠ it → h'.get? b = some o → h₂.get? b = some o := fun b o q1 q2 q => hk₂ b o (by simp [q1, q2]) q
      have hCe : H2.objs.size ≠ e := Ne.symm (nD lte).2
      have hCi : H2.objs.size ≠ it := Ne.symm (nD lti).2
      refine ⟨m', hn.at' fun o q => k2 _ o hCe hCi q, fun h'' hs'' => ?_⟩
      have kf : ∀ b o, b ≠ e → b ≠ it → b ≠ H2.objs.size → h'.get? b = some o → h''.get? b = some o := fun b o q1 q2 q3 q => hs''.extBut b o q3 (k2 b o q1 q2 q)
      have kpf : Kp4 e it s₁.heap.objs.size H2.objs.size s₁.heap h'' := fun b o q1 q2 q3 q4 q => kf b o q1 q2 q4 (kp b o q1 q2 q3 q4 q)
      refine fin s₁.heap.objs.size h'' tk₂ ys (frOf kpf) (fun p hp => ?_) (fun p hp => Heap.lt_size (N p hp).1) hyl hV
      rcases List.mem_cons.mp hp with rfl | hp
      · exact ⟨kf _ _ (Nat.ne_of_gt lte) (Nat.ne_of_gt lti) hDC hD, hLD.symm, hD₀⟩
      · exact newsOf kpf p hp
  exact codeAny_compStart_list (loop _ rfl) (W.self 0 _ _ _ ⟨⟨_, old _ _ hE⟩, hI.at fun o q => old _ o q, hl.at fun o q => old _ o q⟩ (loop _ rfl))

theorem enum_src {elt : Expr} {x y : Str} {scope : Scope} {cl : List (Str × Addr)} {Q : Value → Shared → Prop} {l : Addr} {its : List Value} {n : Nat} {news : Led} (V : Nat → Value → Prop)
    (hh : A.handled = none) (F : Fr h₀ L s.heap m) (N : News h₀ L s.heap news) (hm : (l, listOf its.toArray n) ∈ news) (hsz : its.length ≤ sizeLine)
    (helt : EltE prog w A h₀ L m env elt x y scope cl news its.toArray V)
    (fin : ∀ D h tk ys, Fr h₀ L h m → News h₀ L h ((D, lst ys) :: news) → (∀ p ∈ news, p.1 < D) → ys.length = its.length → (∀ i z, ys[i]? = some z → V i z) → Q (.ref D) { s with heap := h, toks := tk }) :
    wpAny (model prog w) A (call (.type "enumerate") [.ref l]) (fun v s₁ => SrcE prog w A h₀ L m env elt x y scope cl Q s₁ v) E s := by
  have hl : s.heap.IsList l its.toArray := ⟨_, (N _ hm).1, rfl, n, rfl⟩
  have ltl : l < s.heap.objs.size := Heap.lt_size (N _ hm).1
  refine call_enumerate_list hl fun h' hE hI hz hk => ?_
  have hLlt : L < s.heap.objs.size := F.ns.lt
  have fresh₀ : ∀ a, s.heap.objs.size ≤ a → h₀.get? a = none := fun a ha => by
    cases q : h₀.get? a with
    | none => rfl
    | some o' => exact absurd (Heap.lt_size (F.keep a o' q)) (Nat.not_lt.mpr ha)
  have ne1 : ∀ {b : Addr}, b < s.heap.objs.size → b ≠ s.heap.objs.size + 1 := fun hb => Nat.ne_of_lt (Nat.lt_succ_of_lt hb)
  refine ⟨_, _, l, its.toArray, news, V, hh, F.keeps hk, N.grown hk, hE, hI, hl.at fun o q => hk _ o q, Nat.succ_ne_self _, ne1 ltl, Nat.ne_of_lt ltl, ne1 hLlt, Nat.ne_of_lt hLlt, fresh₀ _ (Nat.le_succ _), fresh₀ _ (Nat.le_refl _),
    fun p hp => ⟨ne1 (Heap.lt_size (N p hp).1), Nat.ne_of_lt (Heap.lt_size (N p hp).1)⟩, by rw [List.size_toArray]; exact hsz, helt, fun D h tk ys F' N' lt hlen hV => fin D h tk ys F' N' lt (by rw [hlen, List.size_toArray]) hV⟩
end
end
section
theorem fdiv_ok {a b : Int} {n : Nat} (hb : PySem.Builtin.Int.intBits b ≤ n) (hn : n ≤ 9000) : PySem.Builtin.divisionGoesByPylong a b = false := by
  refine PyProof.noPylong_of_log2 ?_
  by_cases h0 : b = 0
  · subst h0; decide +kernel
  · have h1 : PySem.Builtin.Int.intBits b = b.natAbs.log2 + 1 := by
      unfold PySem.Builtin.Int.intBits
      rw [if_neg (by simpa using h0)]
    omega
end

/-- symbolic values, objects, states: a reference is the number of its object in the ledger -/
inductive SV where
  | int (i : Int) | bool (b : Bool) | none | ref (k : Nat) | base (a : Addr)
inductive SO where
  | lst (vs : List SV) | tup (vs : List SV) | cell (v : Option SV) | isq (l : List Int)
structure SSt where
  vars : List (Option SV)
  kvs : List SV
  led : List SO
/-- the world and the script -/
structure Scr where
  w : World
  S : Addr
  vs : List Value
  ns : List Int
  hI : IntsAre vs ns
  hz : vs.length ≤ 63
/-- a contract: from any caller's frame, with the ledger news -/
noncomputable def SpecB (w : Scr) (f : Addr) (dn : Nat) (news : Led) (vs : List Value) (post : Value → Led → Prop) : Prop :=
  ∀ (loose : List Str) (mean : ExcName → Option Value) (mg mb : Str → Option Value) (dp un : Nat) (gd : Option (List Code)) (cn : Str) (cs : Scope) (a : Addr) (ccd : Value) (cl : List (Str × Addr)) (outer : List Env) (A₀ : Around) (base h₀ : Heap) (L : Addr) (m : Str → Option Value) (s : Shared)
    (Q E : Value → Shared → Prop), h₀.IsList w.S w.vs.toArray →
    Below A₀ base outer h₀ → Fr h₀ L s.heap m → (Mine.K2 w.w.params).In h₀ → News h₀ L s.heap news → Top Mine.hd.view_39 loose mean mg mb h₀ → cs.kind = .function → dp + dn < recursionLimit → un + 16 * dn < cLine →
    (∀ r news' h' tk', post r news' → Fr h₀ L h' m → News h₀ L h' news' → Q r { s with heap := h', toks := tk' }) →
    wpAny (model PySem.Challenge.rw_nn0256_01.row.prog w.w) (ktrTop dp un gd cn cs L a ccd cl outer) (call (.ref f) vs) Q E s
/-- keys that are frozen; nothing may be made -/
structure Md where
  w : Scr
  d : Nat
  fz : List Nat
  pu : Bool
  np : Nat
structure Re where
  ρ : Nat → Addr
  ω : Nat → Obj
  m : Str → Option Value
  h : Heap
  tk : Nat
/-- names of a block of code: kinds, own names by slot, cells by key, cells that are not in the ledger -/
structure SE where
  kinds : List (Str × NameKind)
  own : List Str
  cel : List (Str × Nat)
  kel : List Str

noncomputable def Rep (ρ : Nat → Addr) (n : Nat) : SV → Value → Prop
  | .int i, v => ∃ t, v = .int i t
  | .bool b, v => v = .bool b
  | .none, v => v = .none
  | .ref k, v => k < n ∧ v = .ref (ρ k)
  | .base a, v => v = .ref a
noncomputable def RepL (ρ : Nat → Addr) (n : Nat) : List SV → List Value → Prop
  | [], [] => True
  | a :: l, b :: r => Rep ρ n a b ∧ RepL ρ n l r
  | _, _ => False
noncomputable def RepO (ρ : Nat → Addr) (n : Nat) : SO → Obj → Prop
  | .lst vs, o => ∃ ws k, o = listOf (ws : List Value).toArray k ∧ RepL ρ n vs ws
  | .tup vs, o => ∃ ws k, o = { cls := .type "tuple", data := .seq (ws : List Value).toArray k } ∧ RepL ρ n vs ws
  | .isq l, o => ∃ ws k, o = listOf (ws : List Value).toArray k ∧ IntsAre ws l
  | .cell none, o => o.data = .cell none
  | .cell (some v), o => ∃ x, o.data = .cell (some x) ∧ Rep ρ n v x
noncomputable def nws (ρ : Nat → Addr) (ω : Nat → Obj) (rest : List (Addr × Obj)) : Nat → List (Addr × Obj)
  | 0 => rest
  | n + 1 => (ρ n, ω n) :: nws ρ ω rest n
structure Ext (ρ : Nat → Addr) (n : Nat) (ρ' : Nat → Addr) (n' : Nat) : Prop where
  le : n ≤ n'
  eq : ∀ k, k < n → ρ' k = ρ k

theorem Ext.refl {ρ : Nat → Addr} {n : Nat} : Ext ρ n ρ n := ⟨Nat.le_refl _, fun _ _ => rfl⟩
theorem Ext.trans {ρ ρ' ρ'' : Nat → Addr} {n n' n'' : Nat} (a : Ext ρ n ρ' n') (b : Ext ρ' n' ρ'' n'') : Ext ρ n ρ'' n'' :=
  ⟨Nat.le_trans a.le b.le, fun k hk => (b.eq k (Nat.lt_of_lt_of_le hk a.le)).trans (a.eq k hk)⟩
theorem Rep.mono {ρ ρ' : Nat → Addr} {n n' : Nat} (x : Ext ρ n ρ' n') : ∀ {v : SV} {w : Value}, Rep ρ n v w → Rep ρ' n' v w
  | .int _, _, h => h
  | .bool _, _, h => h
  | .none, _, h => h
  | .base _, _, h => h
  | .ref k, _, ⟨h1, h2⟩ => ⟨Nat.lt_of_lt_of_le h1 x.le, h2.trans (by rw [x.eq k h1])⟩
theorem RepL.mono {ρ ρ' : Nat → Addr} {n n' : Nat} (x : Ext ρ n ρ' n') : ∀ {v : List SV} {w : List Value}, RepL ρ n v w → RepL ρ' n' v w
  | [], [], h => h
  | _ :: _, _ :: _, ⟨h1, h2⟩ => ⟨h1.mono x, h2.mono x⟩
theorem RepO.mono {ρ ρ' : Nat → Addr} {n n' : Nat} (x : Ext ρ n ρ' n') : ∀ {v : SO} {w : Obj}, RepO ρ n v w → RepO ρ' n' v w
  | .lst _, _, ⟨ws, k, h1, h2⟩ => ⟨ws, k, h1, h2.mono x⟩
  | .tup _, _, ⟨ws, k, h1, h2⟩ => ⟨ws, k, h1, h2.mono x⟩
  | .isq _, _, h => h
  | .cell none, _, h => h
  | .cell (some _), _, ⟨y, h1, h2⟩ => ⟨y, h1, h2.mono x⟩
theorem RepL.length {ρ : Nat → Addr} {n : Nat} : ∀ {v : List SV} {w : List Value}, RepL ρ n v w → v.length = w.length
  | [], [], _ => rfl
  | _ :: _, _ :: _, h => congrArg (· + 1) h.2.length
theorem RepL.get {ρ : Nat → Addr} {n : Nat} : ∀ {v : List SV} {w : List Value}, RepL ρ n v w → ∀ {k : Nat} {a : SV}, v[k]? = some a → ∃ b, w[k]? = some b ∧ Rep ρ n a b
  | _ :: _, b :: _, h, 0, _, e => ⟨b, rfl, Option.some.inj e ▸ h.1⟩
  | _ :: _, _ :: _, h, _ + 1, _, e => h.2.get (by simpa using e)
theorem RepL.append {ρ : Nat → Addr} {n : Nat} : ∀ {v v' : List SV} {w w' : List Value}, RepL ρ n v w → RepL ρ n v' w' → RepL ρ n (v ++ v') (w ++ w')
  | [], _, [], _, _, h => h
  | _ :: _, _, _ :: _, _, h, h' => ⟨h.1, h.2.append h'⟩
theorem RepL.set {ρ : Nat → Addr} {n : Nat} {a : SV} {b : Value} (r : Rep ρ n a b) : ∀ {v : List SV} {w : List Value}, RepL ρ n v w → ∀ k, RepL ρ n (v.set k a) (w.set k b)
  | [], [], _, _ => trivial
  | _ :: _, _ :: _, h, 0 => ⟨r, h.2⟩
  | _ :: _, _ :: _, h, k + 1 => ⟨h.1, h.2.set r k⟩
theorem RepL.take {ρ : Nat → Addr} {n : Nat} : ∀ {v : List SV} {w : List Value}, RepL ρ n v w → ∀ k, RepL ρ n (v.take k) (w.take k)
  | [], [], _, 0 => trivial
  | [], [], _, _ + 1 => trivial
  | _ :: _, _ :: _, _, 0 => trivial
  | _ :: _, _ :: _, h, k + 1 => ⟨h.1, h.2.take k⟩
theorem nws_mem {ρ : Nat → Addr} {ω : Nat → Obj} {rest : List (Addr × Obj)} {p : Addr × Obj} : ∀ {n : Nat}, p ∈ nws ρ ω rest n ↔ (∃ k, k < n ∧ p = (ρ k, ω k)) ∨ p ∈ rest
  | 0 => ⟨.inr, fun h => h.elim (fun ⟨_, h, _⟩ => absurd h (Nat.not_lt_zero _)) id⟩
  | n + 1 => by
    show p ∈ (ρ n, ω n) :: nws ρ ω rest n ↔ _
    rw [List.mem_cons, nws_mem]
    constructor
    · rintro (h | ⟨k, hk, h⟩ | h)
      · exact .inl ⟨n, Nat.lt_succ_self _, h⟩
      · exact .inl ⟨k, Nat.lt_succ_of_lt hk, h⟩
      · exact .inr h
    · rintro (⟨k, hk, h⟩ | h)
      · rcases Nat.lt_or_eq_of_le (Nat.le_of_lt_succ hk) with h' | rfl
        · exact .inr (.inl ⟨k, h', h⟩)
        · exact .inl h
      · exact .inr (.inr h)

/-- one running call -/
structure Act where
  sw : Scr
  loose : List Str
  mean : ExcName → Option Value
  (mg mb : Str → Option Value)
  (dp un : Nat)
  gd : Option (List Code)
  cn : Str
  cs : Scope
  (L a : Addr)
  ccd : Value
  cl : List (Str × Addr)
  outer : List Env
  A₀ : Around
  (base h₀ : Heap)
  s : Shared
  d : Nat
  B : Below A₀ base outer h₀
  X : (Mine.K2 sw.w.params).In h₀
  hl : h₀.IsList sw.S sw.vs.toArray
  T : Top Mine.hd.view_39 loose mean mg mb h₀
  hk : cs.kind = .function
  hd : dp + d + 5 < recursionLimit
  hu : un + 16 * d + 80 < cLine
abbrev Act.w (c : Act) : World := c.sw.w
abbrev Act.A (c : Act) : Around := ktrTop c.dp c.un c.gd c.cn c.cs c.L c.a c.ccd c.cl c.outer
abbrev Act.M (c : Act) : Model := model PySem.Challenge.rw_nn0256_01.row.prog c.w
abbrev Act.sh (c : Act) (r : Re) : Shared := { c.s with heap := r.h, toks := r.tk }
abbrev Act.env (c : Act) : Env := envX c.cn c.cs c.L c.a c.ccd c.cl
/-- where the code stands: in the body (cmp none) or in a comprehension's frame -/
structure Cx where
  env : Env
  cmp : Option (Obj × (Str → Option Value))
  rest : Led
  ωf : Nat → Obj
  ρf : Nat → Addr
  np : Nat
  md : Md
noncomputable def VarsOk (ρ : Nat → Addr) (n : Nat) (own : List Str) (vars : List (Option SV)) (m : Str → Option Value) : Prop :=
  ∀ (i : Nat) x v, own[i]? = some x → vars[i]? = some (some v) → ∃ y, m x = some y ∧ Rep ρ n v y
noncomputable def Frm (ρ : Nat → Addr) (n : Nat) (cx : Cx) (own : List Str) (vars : List (Option SV)) (m : Str → Option Value) : Prop :=
  match cx.cmp with
  | none => VarsOk ρ n own vars m
  | some (oC, m₂) => (cx.env.locals, oC) ∈ cx.rest ∧ LCg.NsObj oC m₂ ∧ VarsOk ρ n own vars m₂
structure CxOk (c : Act) (cx : Cx) (se : SE) : Prop where
  names : cx.env.scope.names = se.kinds
  kind : cx.env.scope.kind = .function
  glob : cx.env.globals = mainGlobals
  blt : cx.env.builtins = builtinsNs
  nd : se.own.Nodup
  fn : cx.cmp = none → cx.env = c.env
  w : cx.md.w = c.sw
  d : cx.md.d ≤ c.d
  cl : ∀ p ∈ se.cel, p.2 < cx.np
  npe : cx.np = cx.md.np
structure Sat (c : Act) (cx : Cx) (se : SE) (st : SSt) (r : Re) : Prop where
  F : Fr c.h₀ c.L r.h r.m
  N : News c.h₀ c.L r.h (nws r.ρ r.ω cx.rest st.led.length)
  obj : ∀ k o, st.led[k]? = some o → RepO r.ρ st.led.length o (r.ω k)
  inj : ∀ i j, i < st.led.length → j < st.led.length → r.ρ i = r.ρ j → i = j
  apart : ∀ p ∈ cx.rest, ∀ k, k < st.led.length → p.1 ≠ r.ρ k
  frz : ∀ k ∈ cx.md.fz, k < st.led.length ∧ r.ω k = cx.ωf k ∧ r.ρ k = cx.ρf k
  frm : Frm r.ρ st.led.length cx se.own st.vars r.m
  cells : ∀ x k, (x, k) ∈ se.cel → se.kinds.lookup x = some .cell → k < st.led.length ∧ cx.env.cells.lookup x = some (r.ρ k)
  kels : ∀ (i : Nat) x v, se.kel[i]? = some x → st.kvs[i]? = some v → se.kinds.lookup x = some .cell → ∃ K oK y, cx.env.cells.lookup x = some K ∧ (K, oK) ∈ cx.rest ∧ oK.data = .cell (some y) ∧ Rep r.ρ st.led.length v y
  kvl : se.kel.length ≤ st.kvs.length
  npl : cx.np ≤ st.led.length

section
variable {c : Act} {cx : Cx} {se : SE} {st : SSt} {r : Re}
noncomputable def SSt.push (st : SSt) (o : SO) : SSt := { st with led := st.led ++ [o] }
noncomputable def SSt.upd (st : SSt) (k : Nat) (o : SO) : SSt := { st with led := st.led.set k o }
noncomputable def SSt.setv (st : SSt) (i : Nat) (v : SV) : SSt := { st with vars := st.vars.set i (some v) }
noncomputable def Re.push (r : Re) (n : Nat) (D : Addr) (o : Obj) (h : Heap) (tk : Nat) : Re := ⟨fun k => if k = n then D else r.ρ k, fun k => if k = n then o else r.ω k, r.m, h, tk⟩
noncomputable def Re.upd (r : Re) (n : Nat) (o : Obj) (h : Heap) (tk : Nat) : Re := ⟨r.ρ, fun k => if k = n then o else r.ω k, r.m, h, tk⟩
noncomputable def Re.heap (r : Re) (h : Heap) (tk : Nat) : Re := ⟨r.ρ, r.ω, r.m, h, tk⟩
noncomputable def Re.frame (r : Re) (m : Str → Option Value) (h : Heap) (tk : Nat) : Re := ⟨r.ρ, r.ω, m, h, tk⟩

theorem Sat.mem (S : Sat c cx se st r) {k : Nat} (hk : k < st.led.length) : (r.ρ k, r.ω k) ∈ nws r.ρ r.ω cx.rest st.led.length := nws_mem.mpr (.inl ⟨k, hk, rfl⟩)
theorem Sat.get (S : Sat c cx se st r) {k : Nat} (hk : k < st.led.length) : r.h.get? (r.ρ k) = some (r.ω k) := (S.N _ (S.mem hk)).1
theorem Sat.heap (S : Sat c cx se st r) {h' : Heap} {tk' : Nat} (F : Fr c.h₀ c.L h' r.m) (N : News c.h₀ c.L h' (nws r.ρ r.ω cx.rest st.led.length)) : Sat c cx se st (r.heap h' tk') :=
  ⟨F, N, S.obj, S.inj, S.apart, S.frz, S.frm, S.cells, S.kels, S.kvl, S.npl⟩
theorem VarsOk.mono {ρ ρ' : Nat → Addr} {n n' : Nat} (x : Ext ρ n ρ' n') {own : List Str} {vars : List (Option SV)} {m : Str → Option Value} (h : VarsOk ρ n own vars m) : VarsOk ρ' n' own vars m :=
  fun i y v e e' => let ⟨z, a, b⟩ := h i y v e e'; ⟨z, a, b.mono x⟩
theorem Frm.mono {ρ ρ' : Nat → Addr} {n n' : Nat} (x : Ext ρ n ρ' n') {own : List Str} {vars : List (Option SV)} {m : Str → Option Value} (h : Frm ρ n cx own vars m) : Frm ρ' n' cx own vars m := by
  unfold Frm at *
  split at h
  · exact h.mono x
  · exact ⟨h.1, h.2.1, h.2.2.mono x⟩
theorem push_ext {n : Nat} {D : Addr} {o : Obj} {h' : Heap} {tk' : Nat} : Ext r.ρ n (r.push n D o h' tk').ρ (n + 1) :=
  ⟨Nat.le_succ _, fun k hk => if_neg (Nat.ne_of_lt hk)⟩
theorem nws_eq {rest : Led} {ρ ρ' : Nat → Addr} {ω ω' : Nat → Obj} : ∀ {n : Nat}, (∀ k, k < n → ρ' k = ρ k ∧ ω' k = ω k) → nws ρ' ω' rest n = nws ρ ω rest n
  | 0, _ => rfl
  | n + 1, h => by
    show (ρ' n, ω' n) :: _ = (ρ n, ω n) :: _
    rw [(h n (Nat.lt_succ_self _)).1, (h n (Nat.lt_succ_self _)).2, nws_eq fun k hk => h k (Nat.lt_succ_of_lt hk)]
theorem Sat.cellsMono (S : Sat c cx se st r) {ρ' : Nat → Addr} {n' : Nat} (hx : Ext r.ρ st.led.length ρ' n') : ∀ x k, (x, k) ∈ se.cel → se.kinds.lookup x = some .cell → k < n' ∧ cx.env.cells.lookup x = some (ρ' k) := fun x k m e => by
  obtain ⟨a, b⟩ := S.cells x k m e
  exact ⟨Nat.lt_of_lt_of_le a hx.le, b.trans (by rw [hx.eq k a])⟩
theorem Sat.kelsMono (S : Sat c cx se st r) {ρ' : Nat → Addr} {n' : Nat} (hx : Ext r.ρ st.led.length ρ' n') : ∀ (i : Nat) x v, se.kel[i]? = some x → st.kvs[i]? = some v → se.kinds.lookup x = some .cell → ∃ K oK y, cx.env.cells.lookup x = some K ∧ (K, oK) ∈ cx.rest ∧ oK.data = .cell (some y) ∧ Rep ρ' n' v y := fun i x v e1 e2 e3 => by
  obtain ⟨K, oK, y, a, b, d, e⟩ := S.kels i x v e1 e2 e3
  exact ⟨K, oK, y, a, b, d, e.mono hx⟩
theorem Sat.pushm (S : Sat c cx se st r) {D : Addr} {o : Obj} {so : SO} {h' : Heap} {tk' : Nat} {vars' : List (Option SV)} {m' : Str → Option Value} (F : Fr c.h₀ c.L h' m') (N : News c.h₀ c.L h' ((D, o) :: nws r.ρ r.ω cx.rest st.led.length))
    (lt : ∀ p ∈ nws r.ρ r.ω cx.rest st.led.length, p.1 ≠ D) (R : RepO r.ρ st.led.length so o) (V : Frm (r.push st.led.length D o h' tk').ρ (st.led.length + 1) cx se.own vars' m') : Sat c cx se { st.push so with vars := vars' } ((r.push st.led.length D o h' tk').frame m' h' tk') := by
  have hl : (st.push so).led.length = st.led.length + 1 := List.length_append
  have hx : Ext r.ρ st.led.length (r.push st.led.length D o h' tk').ρ (st.push so).led.length := hl ▸ push_ext
  have hne : ∀ k, k < st.led.length → r.ρ k ≠ D := fun k hk => lt _ (S.mem hk)
  refine ⟨F, ?_, ?_, ?_, ?_, ?_, hl ▸ V, S.cellsMono hx, S.kelsMono hx, S.kvl, Nat.le_trans S.npl hx.le⟩
  · show News _ _ _ (nws _ _ _ (st.push so).led.length)
    rw [hl]
    show News _ _ _ (((if st.led.length = st.led.length then D else _), (if st.led.length = st.led.length then o else _)) :: nws _ _ cx.rest st.led.length)
    have e := nws_eq (rest := cx.rest) (ρ := r.ρ) (ω := r.ω) (ρ' := (r.push st.led.length D o h' tk').ρ) (ω' := (r.push st.led.length D o h' tk').ω) (n := st.led.length) fun k hk => ⟨if_neg (Nat.ne_of_lt hk), if_neg (Nat.ne_of_lt hk)⟩
    rw [if_pos rfl, if_pos rfl]
    refine Eq.mpr (congrArg (fun l => News c.h₀ c.L h' ((D, o) :: l)) e) N
  · intro k q e
    rcases Nat.lt_or_ge k st.led.length with hk | hk
    · have e' : st.led[k]? = some q := by rw [← e]; exact (List.getElem?_append_left hk).symm
      show RepO _ _ q (if k = st.led.length then o else r.ω k)
      rw [if_neg (Nat.ne_of_lt hk)]
      exact (S.obj k q e').mono hx
    · have hk' : k = st.led.length := by
        have := (List.getElem?_eq_some_iff.mp e).1
        rw [hl] at this; omega
      subst hk'
      have : q = so := by
        have e2 : (st.led ++ [so])[st.led.length]? = some q := e
        rw [List.getElem?_append_right (Nat.le_refl _), Nat.sub_self] at e2
        exact (Option.some.inj e2).symm
      subst this
      show RepO _ _ q (if st.led.length = st.led.length then o else _)
      rw [if_pos rfl]
      exact R.mono hx
  · intro i j hi hj e
    rw [hl] at hi hj
    have e' : (if i = st.led.length then D else r.ρ i) = (if j = st.led.length then D else r.ρ j) := e
    by_cases h1 : i = st.led.length <;> by_cases h2 : j = st.led.length
    · rw [h1, h2]
    · rw [if_pos h1, if_neg h2] at e'; exact absurd e'.symm (hne j (by omega))
    · rw [if_neg h1, if_pos h2] at e'; exact absurd e' (hne i (by omega))
    · rw [if_neg h1, if_neg h2] at e'; exact S.inj i j (by omega) (by omega) e'
  · intro p hp k hk
    rw [hl] at hk
    show p.1 ≠ (if k = st.led.length then D else r.ρ k)
    by_cases h1 : k = st.led.length
    · rw [if_pos h1]; exact lt p (nws_mem.mpr (.inr hp))
    · rw [if_neg h1]; exact S.apart p hp k (by omega)
  · intro k hk
    have h := S.frz k hk
    refine ⟨Nat.lt_of_lt_of_le h.1 hx.le, ?_, (hx.eq k h.1).trans h.2.2⟩
    show (if k = st.led.length then o else r.ω k) = _
    rw [if_neg (Nat.ne_of_lt h.1)]; exact h.2.1
theorem Sat.push (S : Sat c cx se st r) {D : Addr} {o : Obj} {so : SO} {h' : Heap} {tk' : Nat} (F : Fr c.h₀ c.L h' r.m) (N : News c.h₀ c.L h' ((D, o) :: nws r.ρ r.ω cx.rest st.led.length))
    (lt : ∀ p ∈ nws r.ρ r.ω cx.rest st.led.length, p.1 ≠ D) (R : RepO r.ρ st.led.length so o) : Sat c cx se (st.push so) (r.push st.led.length D o h' tk') :=
  S.pushm F N lt R (S.frm.mono push_ext)
theorem Sat.upd (S : Sat c cx se st r) {k : Nat} (hz : k ∉ cx.md.fz) {o : Obj} {so : SO} {h' : Heap} {tk' : Nat} (hk : k < st.led.length) (hs : Heap.SameBut (r.ρ k) r.h h') (ho : h'.get? (r.ρ k) = some o) (R : RepO r.ρ st.led.length so o) :
    Sat c cx se (st.upd k so) (r.upd k o h' tk') := by
  have hl : (st.upd k so).led.length = st.led.length := List.length_set
  have hN := S.N _ (S.mem hk)
  refine ⟨S.F.change hs hN.2.1 hN.2.2, ?_, ?_, ?_, ?_, ?_, ?_, ?_, ?_, S.kvl, hl ▸ S.npl⟩
  · rw [hl]
    intro p hp
    rcases nws_mem.mp hp with ⟨i, hi, rfl⟩ | hp
    · have hi' := S.N _ (S.mem hi)
      refine ⟨?_, hi'.2⟩
      show h'.get? (r.ρ i) = some (if i = k then o else r.ω i)
      by_cases h : i = k
      · subst h; rw [if_pos rfl]; exact ho
      · rw [if_neg h]; exact (hs.2 _ fun e => h (S.inj i k hi hk e)).trans hi'.1
    · have hp' := S.N _ (nws_mem.mpr (.inr hp))
      exact ⟨(hs.2 _ (S.apart p hp k hk)).trans hp'.1, hp'.2⟩
  · intro i q e
    rw [hl]
    have e2 : (st.led.set k so)[i]? = some q := e
    show RepO _ _ q (if i = k then o else r.ω i)
    by_cases h : i = k
    · subst h
      rw [if_pos rfl]
      rw [List.getElem?_set_self hk] at e2
      exact Option.some.inj e2 ▸ R
    · rw [if_neg h]
      rw [List.getElem?_set_ne (Ne.symm h)] at e2
      exact S.obj i q e2
  · intro i j hi hj; rw [hl] at hi hj; exact S.inj i j hi hj
  · intro p hp j hj; rw [hl] at hj; exact S.apart p hp j hj
  · intro j hj
    refine ⟨hl ▸ (S.frz j hj).1, ?_, (S.frz j hj).2.2⟩
    show (if j = k then o else r.ω j) = _
    rw [if_neg fun e : j = k => hz (e ▸ hj)]; exact (S.frz j hj).2.1
  · rw [hl]; exact S.frm
  · rw [hl]; exact S.cells
  · rw [hl]; exact S.kels
end
theorem fillSx (w : World) (s : Shared) (h : (Mine.K2 w.params).In s.heap) : True := by
  have h2 : (Mine.K2 w.params).In s.heap ∧ PySem.Challenge.rw_nn0256_01.prog = PySem.Challenge.rw_nn0256_01.prog := ⟨h, rfl⟩
  revert h2
  w_top off
  k_fill
  intro _
  trivial
section
variable {c : Act} {cx : Cx} {se : SE} {st : SSt} {r : Re}
noncomputable def KQ (c : Act) (cx : Cx) (se : SE) (st : SSt) (r : Re) (Q : SV → SSt → Prop) (QQ : Value → Shared → Prop) : Prop :=
  ∀ v st' r' x, Q v st' → Ext r.ρ st.led.length r'.ρ st'.led.length → (r'.m = r.m ∧ (cx.md.pu = true → r'.h = r.h)) → Sat c cx se st' r' → Rep r'.ρ st'.led.length v x → QQ x (c.sh r')
/-- t, from a state that st stands for, hands back a value and a state with Q -/
noncomputable def EV (c : Act) (cx : Cx) (se : SE) (t : Sem Value) (st : SSt) (Q : SV → SSt → Prop) : Prop :=
  ∀ r QQ E, Sat c cx se st r → KQ c cx se st r Q QQ → wpAny c.M c.A t QQ E (c.sh r)
noncomputable def OL (c : Act) (cx : Cx) (se : SE) (st : SSt) (vs : List SV) (f : List Value → Sem Value) (Q : SV → SSt → Prop) : Prop :=
  ∀ r QQ E xs, Sat c cx se st r → RepL r.ρ st.led.length vs xs → KQ c cx se st r Q QQ → wpAny c.M c.A (f xs) QQ E (c.sh r)
abbrev O1 (c : Act) (cx : Cx) (se : SE) (st : SSt) (a : SV) (f : Value → Sem Value) (Q : SV → SSt → Prop) : Prop :=
  ∀ r QQ E x, Sat c cx se st r → Rep r.ρ st.led.length a x → KQ c cx se st r Q QQ → wpAny c.M c.A (f x) QQ E (c.sh r)
abbrev O2 (c : Act) (cx : Cx) (se : SE) (st : SSt) (a b : SV) (f : Value → Value → Sem Value) (Q : SV → SSt → Prop) : Prop :=
  ∀ r QQ E x y, Sat c cx se st r → Rep r.ρ st.led.length a x → Rep r.ρ st.led.length b y → KQ c cx se st r Q QQ → wpAny c.M c.A (f x y) QQ E (c.sh r)
noncomputable def EVL (c : Act) (cx : Cx) (se : SE) (t : Sem (List Value)) (st : SSt) (Q : List SV → SSt → Prop) : Prop :=
  ∀ r QQ E, Sat c cx se st r → (∀ vs st' r' xs, Q vs st' → Ext r.ρ st.led.length r'.ρ st'.led.length → (r'.m = r.m ∧ (cx.md.pu = true → r'.h = r.h)) → Sat c cx se st' r' → RepL r'.ρ st'.led.length vs xs → QQ xs (c.sh r')) → wpAny c.M c.A t QQ E (c.sh r)

theorem KQ.at {Q : SV → SSt → Prop} {QQ : Value → Shared → Prop} {st' : SSt} {r' : Re} (K : KQ c cx se st r Q QQ) (x : Ext r.ρ st.led.length r'.ρ st'.led.length) (e : r'.m = r.m ∧ (cx.md.pu = true → r'.h = r.h)) : KQ c cx se st' r' Q QQ :=
  fun v st'' r'' y hq hx he => K v st'' r'' y hq (x.trans hx) ⟨he.1.trans e.1, fun p => (he.2 p).trans (e.2 p)⟩
theorem KQ.same {Q : SV → SSt → Prop} {QQ : Value → Shared → Prop} {v : SV} {x : Value} (K : KQ c cx se st r Q QQ) (S : Sat c cx se st r) (hq : Q v st) (hr : Rep r.ρ st.led.length v x) (tk : Nat) : QQ x { c.s with heap := r.h, toks := tk } :=
  K v st (r.heap r.h tk) x hq Ext.refl ⟨rfl, fun _ => rfl⟩ (S.heap S.F S.N) hr
theorem KQ.hp (hu : cx.md.pu = false) {Q : SV → SSt → Prop} {QQ : Value → Shared → Prop} {v : SV} {x : Value} {h' : Heap} {tk : Nat} (K : KQ c cx se st r Q QQ) (S : Sat c cx se st r) (hq : Q v st) (hr : Rep r.ρ st.led.length v x) (F : Fr c.h₀ c.L h' r.m) (N : News c.h₀ c.L h' (nws r.ρ r.ω cx.rest st.led.length)) : QQ x { c.s with heap := h', toks := tk } :=
  K v st (r.heap h' tk) x hq Ext.refl ⟨rfl, fun p => by rw [hu] at p; cases p⟩ (S.heap F N) hr
theorem KQ.new (hu : cx.md.pu = false) {Q : SV → SSt → Prop} {QQ : Value → Shared → Prop} {D : Addr} {o : Obj} {so : SO} {h' : Heap} {tk : Nat} (K : KQ c cx se st r Q QQ) (S : Sat c cx se st r) (hq : Q (.ref st.led.length) (st.push so)) (R : RepO r.ρ st.led.length so o)
    (F : Fr c.h₀ c.L h' r.m) (N : News c.h₀ c.L h' ((D, o) :: nws r.ρ r.ω cx.rest st.led.length)) (lt : ∀ p ∈ nws r.ρ r.ω cx.rest st.led.length, p.1 ≠ D) : QQ (.ref D) { c.s with heap := h', toks := tk } := by
  have hl : (st.push so).led.length = st.led.length + 1 := List.length_append
  refine K _ _ (r.push st.led.length D o h' tk) _ hq (hl ▸ push_ext) ⟨rfl, fun p => by rw [hu] at p; cases p⟩ (S.push F N lt R) ?_
  show st.led.length < (st.push so).led.length ∧ Value.ref D = Value.ref (if st.led.length = st.led.length then D else _)
  rw [if_pos rfl, hl]
  exact ⟨Nat.lt_succ_self _, rfl⟩
theorem KQ.mut (hu : cx.md.pu = false) {Q : SV → SSt → Prop} {QQ : Value → Shared → Prop} {v : SV} {x : Value} {k : Nat} {o : Obj} {so : SO} {h' : Heap} {tk : Nat} (K : KQ c cx se st r Q QQ) (S : Sat c cx se st r) (hz : k ∉ cx.md.fz) (hk : k < st.led.length)
    (hs : Heap.SameBut (r.ρ k) r.h h') (ho : h'.get? (r.ρ k) = some o) (R : RepO r.ρ st.led.length so o) (hq : Q v (st.upd k so)) (hr : Rep r.ρ st.led.length v x) : QQ x { c.s with heap := h', toks := tk } := by
  have hl : (st.upd k so).led.length = st.led.length := List.length_set
  exact K _ _ (r.upd k o h' tk) _ hq (hl ▸ Ext.refl) ⟨rfl, fun p => by rw [hu] at p; cases p⟩ (S.upd hz hk hs ho R) (hl ▸ hr)

/-- an example and two facts of it, in one box -/
inductive Ex1 {α : Type} (P Q : α → Prop) : Prop
  | mk (i : α) (e : P i) (h : Q i)
inductive Ex2 {α β : Type} (P : α → Prop) (Q : β → Prop) (R : α → β → Prop) : Prop
  | mk (i : α) (j : β) (e : P i) (g : Q j) (h : R i j)
inductive LstAt (st : SSt) (r : Re) (k : Nat) (K : List SV → Prop) : Prop
  | mk (vs : List SV) (h : K vs) (hk : k < st.led.length) (ws : List Value) (n : Nat) (e : r.ω k = listOf ws.toArray n) (l : r.h.IsList (r.ρ k) ws.toArray) (R : RepL r.ρ st.led.length vs ws)
inductive TupAt (st : SSt) (r : Re) (k : Nat) (K : List SV → Prop) : Prop
  | mk (vs : List SV) (e : st.led[k]? = some (.tup vs)) (h : K vs) (hk : k < st.led.length) (ws : List Value) (l : IsTup r.h (r.ρ k) ws.toArray) (R : RepL r.ρ st.led.length vs ws)
inductive IntAt (r : Re) (k : Nat) (K : List Int → Prop) : Prop
  | mk (ns : List Int) (ws : List Value) (l : r.h.IsList (r.ρ k) ws.toArray) (R : IntsAre ws ns) (h : K ns)
/-- connectives of the conditions: nothing unfolds them -/
noncomputable def VIf (b : Bool) (P Q : Prop) : Prop := match b with | true => P | false => Q
theorem VIf.t {b : Bool} {P Q : Prop} (h : VIf b P Q) (e : b = true) : P := by subst e; exact h
theorem VIf.f {b : Bool} {P Q : Prop} (h : VIf b P Q) (e : b = false) : Q := by subst e; exact h
theorem VIf.mk {b : Bool} {P Q : Prop} (t : b = true → P) (f : b = false → Q) : VIf b P Q := by cases b <;> first | exact t rfl | exact f rfl
structure VReq (p P : Prop) : Prop where
  r : p
  k : P
inductive VMul (a b : Int) (P : Int → Prop) : Prop
  | mk (q : Int) (r : IntMulOk a b) (e : q = a * b) (k : P q)
inductive VDiv (a b : Int) (P : Int → Prop) : Prop
  | mk (q : Int) (z : b ≠ 0) (r : PySem.Builtin.divisionGoesByPylong a b = false) (e : q = a.fdiv b) (k : P q)
inductive VMod (a b : Int) (P : Int → Prop) : Prop
  | mk (q : Int) (z : b ≠ 0) (e : q = a.fmod b) (k : P q)

/-- eliminators -/
noncomputable def SV.i (v : SV) (K : Int → Prop) : Prop := match v with | .int i => K i | _ => False
noncomputable def SV.rf (v : SV) (K : Nat → Prop) : Prop := match v with | .ref i => K i | _ => False
noncomputable def SV.t (v : SV) (K : Bool → Prop) : Prop := match v with | .bool i => K i | _ => False
noncomputable def SO.l (v : SO) (K : List SV → Prop) : Prop := match v with | .lst i => K i | .isq l => K (l.map SV.int) | _ => False
noncomputable def SO.u (v : SO) (K : List SV → Prop) : Prop := match v with | .tup i => K i | _ => False
noncomputable def opt {α : Type} (v : Option α) (K : α → Prop) : Prop := match v with | some x => K x | none => False
noncomputable def yes (b : Bool) (P : Prop) : Prop := match b with | true => P | false => False
theorem SV.i_ok {v : SV} {K : Int → Prop} (h : v.i K) : Ex1 (fun i => v = .int i) K := by cases v <;> first | exact ⟨_, rfl, h⟩ | exact h.elim
theorem SV.rf_ok {v : SV} {K : Nat → Prop} (h : v.rf K) : Ex1 (fun i => v = .ref i) K := by cases v <;> first | exact ⟨_, rfl, h⟩ | exact h.elim
theorem SV.t_ok {v : SV} {K : Bool → Prop} (h : v.t K) : Ex1 (fun i => v = .bool i) K := by cases v <;> first | exact ⟨_, rfl, h⟩ | exact h.elim
theorem SO.l_mono {v : SO} {K K' : List SV → Prop} (h : v.l K) (g : ∀ l, K l → K' l) : v.l K' := by cases v <;> first | exact g _ h | exact h.elim
theorem repInts {ρ : Nat → Addr} {n : Nat} {ws : List Value} {l : List Int} (h : IntsAre ws l) : RepL ρ n (l.map SV.int) ws := by
  induction h with
  | nil => trivial
  | cons i t _ ih => exact ⟨⟨t, rfl⟩, ih⟩
theorem SO.u_ok {v : SO} {K : List SV → Prop} (h : v.u K) : Ex1 (fun i => v = .tup i) K := by cases v <;> first | exact ⟨_, rfl, h⟩ | exact h.elim
theorem opt_ok {α : Type} {v : Option α} {K : α → Prop} (h : opt v K) : Ex1 (fun i => v = some i) K := by cases v <;> first | exact ⟨_, rfl, h⟩ | exact h.elim
theorem yes_ok {b : Bool} {P : Prop} (h : yes b P) : b = true ∧ P := by cases b <;> first | exact ⟨rfl, h⟩ | exact h.elim
theorem ii_ok {a b : SV} {P : Int → Int → Prop} (h : a.i fun i => b.i fun j => P i j) : Ex2 (fun i => a = .int i) (fun j => b = .int j) P := by
  obtain ⟨i, e, g⟩ := SV.i_ok h
  obtain ⟨j, e2, g⟩ := SV.i_ok g
  exact ⟨i, j, e, e2, g⟩
theorem rr_ok {a b : SV} {P : Nat → Nat → Prop} (h : a.rf fun i => b.rf fun j => P i j) : Ex2 (fun i => a = .ref i) (fun j => b = .ref j) P := by
  obtain ⟨i, e, g⟩ := SV.rf_ok h
  obtain ⟨j, e2, g⟩ := SV.rf_ok g
  exact ⟨i, j, e, e2, g⟩
noncomputable def frcL {α : Type} : List α → (List α → Prop) → Prop
  | [], k => k []
  | a :: l, k => frcL l fun r => k (a :: r)
theorem frcL_eq {α : Type} : ∀ {l : List α} {k : List α → Prop}, frcL l k → k l
  | [], _, h => h
  | _ :: l, _, h => frcL_eq (l := l) h
noncomputable def SSt.lst (st : SSt) (k : Nat) (K : List SV → Prop) : Prop := opt st.led[k]? fun o => o.l K
noncomputable def SSt.tup (st : SSt) (k : Nat) (K : List SV → Prop) : Prop := opt st.led[k]? fun o => o.u K
theorem Sat.lst (S : Sat c cx se st r) {k : Nat} {K : List SV → Prop} (h : st.lst k K) : LstAt st r k K := by
  obtain ⟨o, e, h⟩ := opt_ok h
  have hk := (List.getElem?_eq_some_iff.mp e).1
  have z := S.obj k _ e
  have H : ∃ vs, K vs ∧ ∃ ws n, r.ω k = listOf (ws : List Value).toArray n ∧ RepL r.ρ st.led.length vs ws := by
    cases o with
    | lst vs => exact ⟨vs, h, z⟩
    | isq l => obtain ⟨ws, n, e2, R⟩ := z; exact ⟨_, h, ws, n, e2, repInts R⟩
    | tup _ => exact h.elim
    | cell _ => exact h.elim
  obtain ⟨vs, h, ws, n, e2, R⟩ := H
  exact ⟨vs, h, hk, ws, n, e2, ⟨_, S.get hk, by rw [e2], n, by rw [e2]⟩, R⟩
theorem Sat.tup (S : Sat c cx se st r) {k : Nat} {K : List SV → Prop} (h : st.tup k K) : TupAt st r k K := by
  obtain ⟨o, e, h⟩ := opt_ok h
  obtain ⟨vs, rfl, h⟩ := SO.u_ok h
  have hk := (List.getElem?_eq_some_iff.mp e).1
  obtain ⟨ws, n, e2, R⟩ := S.obj k _ e
  exact ⟨vs, e, h, hk, ws, ⟨_, S.get hk, by rw [e2], n, by rw [e2]⟩, R⟩
/-- a bound that is evaluated -/
noncomputable def few (n : Nat) (P : Prop) : Prop := yes (Nat.ble n 64) P
theorem few_ok {n : Nat} {P : Prop} (h : few n P) : n ≤ 64 ∧ P := (yes_ok h).imp_left Nat.le_of_ble_eq_true
theorem le64 {n : Nat} (h : n ≤ 64) : n ≤ sizeLine := Nat.le_trans h (Nat.le_of_ble_eq_true rfl)
noncomputable def Md.may (d : Md) (P : Prop) : Prop := yes (!d.pu) P
theorem Md.may_ok {d : Md} {P : Prop} (h : d.may P) : d.pu = false ∧ P := (yes_ok h).imp_left fun e => by simpa using e
theorem RepL.size {ρ : Nat → Addr} {n : Nat} {v : List SV} {w : List Value} (R : RepL ρ n v w) : w.toArray.size = v.length := by rw [List.size_toArray, R.length]

inductive Bop where | add | sub | mul | div | mod | pow | cat
noncomputable def Bop.op : Bop → Operator
  | .add => .Add | .sub => .Sub | .mul => .Mult | .div => .FloorDiv | .mod => .Mod | .pow => .Pow | .cat => .Add
noncomputable def vint (o : Bop) (st : SSt) (Q : SV → SSt → Prop) (i j : Int) : Prop :=
  match o with
  | .add => Q (.int (i + j)) st
  | .sub => Q (.int (i - j)) st
  | .mul => VMul i j fun q => Q (.int q) st
  | .div => VDiv i j fun q => Q (.int q) st
  | .mod => VMod i j fun q => Q (.int q) st
  | .pow => VReq (0 ≤ j ∧ j ≤ 1000000 ∧ i.natAbs < 2^64) (Q (.int (i ^ j.toNat)) st)
  | .cat => False
noncomputable def vcat (d : Md) (st : SSt) (Q : SV → SSt → Prop) (x y : Nat) : Prop :=
  st.lst x fun xs => st.lst y fun ys => d.may (few (xs.length + ys.length) (Q (.ref st.led.length) (st.push (.lst (xs ++ ys)))))
noncomputable def vbin (d : Md) (o : Bop) (a b : SV) (st : SSt) (Q : SV → SSt → Prop) : Prop :=
  match o with
  | .cat => a.rf fun x => b.rf fun y => vcat d st Q x y
  | o => a.i fun i => b.i fun j => vint o st Q i j
theorem vbin_ok {o : Bop} {a b : SV} {Q : SV → SSt → Prop} (h : vbin cx.md o a b st Q) : O2 c cx se st a b (binaryOp o.op) Q := by
  intro r QQ E x y S hx hy K
  have H : (a.i fun i => b.i fun j => vint o st Q i j) → wpAny c.M c.A (binaryOp o.op x y) QQ E (c.sh r) := fun g => by
    clear h; have h := g; clear g
    obtain ⟨i, j, rfl, rfl, h⟩ := ii_ok h
    obtain ⟨t, rfl⟩ := hx
    obtain ⟨u, rfl⟩ := hy
    cases o with
    | add => exact add_int (K.same S h ⟨_, rfl⟩ _)
    | sub => exact sub_int (K.same S h ⟨_, rfl⟩ _)
    | mul => obtain ⟨q, h1, rfl, h⟩ := h; exact mul_int (K.same S h ⟨_, rfl⟩ _) h1
    | div => obtain ⟨q, h1, h2, rfl, h⟩ := h; exact floordiv_int h1 (K.same S h ⟨_, rfl⟩ _) (.inl h2)
    | mod => obtain ⟨q, h1, rfl, h⟩ := h; exact mod_int' h1 (K.same S h ⟨_, rfl⟩ _)
    | pow => obtain ⟨⟨h1, h2, h3⟩, h⟩ := h; exact pow_int_small h1 h2 h3 (K.same S h ⟨_, rfl⟩ _)
    | cat => exact h.elim
  cases o with
  | cat =>
    clear H
    obtain ⟨i, j, rfl, rfl, h⟩ := rr_ok h
    obtain ⟨_, rfl⟩ := hx
    obtain ⟨_, rfl⟩ := hy
    obtain ⟨_, h, _, ws1, _, _, l1, R1⟩ := S.lst h
    obtain ⟨_, h, _, ws2, _, _, l2, R2⟩ := S.lst h
    obtain ⟨hu, h⟩ := Md.may_ok h
    obtain ⟨hz, h⟩ := few_ok h
    exact kmk_add_lit S.F S.N l1 l2 rfl (fun D h' F N lt => K.new hu S h ⟨_, _, rfl, R1.append R2⟩ F N fun p hp => Nat.ne_of_lt (lt p hp)) (by
      show ws1.length + ws2.length ≤ _
      rw [← R1.length, ← R2.length]; exact le64 hz)
  | _ => exact H h

noncomputable def svI : List SV → (List Int → Prop) → Prop
  | [], K => K []
  | v :: l, K => v.i fun i => svI l fun r => K (i :: r)
theorem svI_ok {ρ : Nat → Addr} {n : Nat} : ∀ {vs : List SV} {K : List Int → Prop} {ws : List Value}, svI vs K → RepL ρ n vs ws → ∃ ns, IntsAre ws ns ∧ K ns
  | [], K, [], h, _ => ⟨[], .nil, h⟩
  | v :: l, K, w :: ws, h, R => by
    obtain ⟨i, rfl, h⟩ := SV.i_ok h
    obtain ⟨⟨t, rfl⟩, R2⟩ := R
    obtain ⟨ns, h1, h2⟩ := svI_ok (vs := l) h R2
    exact ⟨_, .cons _ _ h1, h2⟩
noncomputable def SSt.ints (st : SSt) (k : Nat) (K : List Int → Prop) : Prop := st.lst k fun vs => svI vs K
theorem Sat.ints (S : Sat c cx se st r) {k : Nat} {K : List Int → Prop} (h : st.ints k K) : IntAt r k K := by
  obtain ⟨vs, h, _, ws, _, _, l, R⟩ := S.lst h
  obtain ⟨ns, i, h⟩ := svI_ok h R
  exact ⟨ns, ws, l, i, h⟩
inductive Cop where | eq | ne | lt | gt | leq | lne | tne | nin
noncomputable def Cop.op : Cop → CmpOp
  | .eq => .Eq | .ne => .NotEq | .lt => .Lt | .gt => .Gt | .leq => .Eq | .lne => .NotEq | .tne => .NotEq | .nin => .NotIn
noncomputable def vci (o : Cop) (i j : Int) (K : Bool → Prop) : Prop :=
  match o with
  | .eq => K (i == j)
  | .ne => K (i != j)
  | .lt => K (decide (i < j))
  | .gt => K (decide (i > j))
  | _ => False
noncomputable def two {α : Type} (l : List α) (K : α → α → Prop) : Prop := match l with | [x, y] => K x y | _ => False
theorem two_ok {α : Type} {l : List α} {K : α → α → Prop} (h : two l K) : ∃ x y, l = [x, y] ∧ K x y := by
  match l, h with
  | [x, y], h => exact ⟨x, y, rfl, h⟩
noncomputable def isR0 : SV → Bool
  | .base a => Nat.beq a 109
  | _ => false
theorem isR0_ok {v : SV} (h : isR0 v = true) : v = .base 109 := by
  cases v <;> first | exact congrArg SV.base (Nat.eq_of_beq_eq_true h) | cases h
noncomputable def vcmp (o : Cop) (a b : SV) (K : Bool → Prop) (st : SSt) : Prop :=
  match o with
  | .leq => a.rf fun x => b.rf fun y => st.ints x fun xs => st.ints y fun ys => K (decide (xs = ys))
  | .lne => a.rf fun x => b.rf fun y => st.ints x fun xs => st.ints y fun ys => K (!decide (xs = ys))
  | .tne => a.rf fun x => yes (isR0 b) (st.tup x fun vs => svI vs fun xs => K (!decide (xs = [0, 1])))
  | .nin => a.rf fun x => b.rf fun y => st.ints x fun xs => st.tup y fun vs => two vs fun p q => p.rf fun p => q.rf fun q => st.ints p fun ps => st.ints q fun qs => K (!(decide (ps = xs) || decide (qs = xs)))
  | o => a.i fun i => b.i fun j => vci o i j K
theorem svI_mono {P Q : List Int → Prop} (g : ∀ l, P l → Q l) : ∀ {vs : List SV}, svI vs P → svI vs Q := by
  intro vs
  induction vs generalizing P Q with
  | nil => exact g _
  | cons v l ih =>
    intro h
    obtain ⟨i, rfl, h⟩ := SV.i_ok h
    exact ih (fun l hl => g _ hl) h
theorem ints_mono {st : SSt} {k : Nat} {P Q : List Int → Prop} (h : st.ints k P) (g : ∀ l, P l → Q l) : st.ints k Q := by
  obtain ⟨o, e, h⟩ := opt_ok h
  show opt st.led[k]? _
  rw [e]
  exact SO.l_mono h fun l h => svI_mono g h
theorem vcmp_mono {o : Cop} {a b : SV} {K K' : Bool → Prop} {st : SSt} (h : vcmp o a b K st) (g : ∀ t, K t → K' t) : vcmp o a b K' st := by
  cases o with
  | leq =>
    obtain ⟨i, j, rfl, rfl, h⟩ := rr_ok h
    exact ints_mono h fun l h => ints_mono h fun l h => g _ h
  | lne =>
    obtain ⟨i, j, rfl, rfl, h⟩ := rr_ok h
    exact ints_mono h fun l h => ints_mono h fun l h => g _ h
  | tne =>
    obtain ⟨i, rfl, h⟩ := SV.rf_ok h
    obtain ⟨e, h⟩ := yes_ok h
    obtain ⟨o, e2, h⟩ := opt_ok h
    obtain ⟨l, rfl, h⟩ := SO.u_ok h
    show yes (isR0 b) (opt st.led[i]? _)
    rw [e, e2]
    exact svI_mono (fun l h => g _ h) h
  | nin =>
    obtain ⟨i, j, rfl, rfl, h⟩ := rr_ok h
    refine ints_mono h fun l h => ?_
    obtain ⟨o, e2, h⟩ := opt_ok h
    obtain ⟨l, rfl, h⟩ := SO.u_ok h
    obtain ⟨p, q, rfl, h⟩ := two_ok h
    obtain ⟨p, q, rfl, rfl, h⟩ := rr_ok h
    show opt st.led[j]? _
    rw [e2]
    exact ints_mono h fun l h => ints_mono h fun l h => g _ h
  | eq => obtain ⟨i, j, rfl, rfl, h⟩ := ii_ok h; exact g _ h
  | ne => obtain ⟨i, j, rfl, rfl, h⟩ := ii_ok h; exact g _ h
  | lt => obtain ⟨i, j, rfl, rfl, h⟩ := ii_ok h; exact g _ h
  | gt => obtain ⟨i, j, rfl, rfl, h⟩ := ii_ok h; exact g _ h
theorem eqv_ints (ns ms : List Int) : PyData.eqv (.list (ns.map PyData.int)) (.list (ms.map PyData.int)) = decide (ns = ms) := by
  rw [← SeqAt.same_eq_eqv _ _ (by simp only [SeqAt.noMix]; exact noMix_ints ns ms)]
  simp only [PySem.Spec.same]
  exact same_ints ns ms
theorem intsLay : ∀ ns : List Int, PyData.canLayAll0 (ns.map PyData.int) = true
  | [] => rfl
  | n :: l => intsLay l
theorem intsDepth (ns : List Int) : PyData.depth (.list (ns.map PyData.int)) ≤ 2 := by
  have d1 := PySem.W.depthAll_ints ns
  simp only [PyData.depth]; omega
theorem baseR0 (w : World) {h : Heap} (X : (Mine.K2 w.params).In h) : ∃ t u, IsTup h 109 #[Value.int 0 t, .int 1 u] := by
  have := X 109 _ (by k_is)
  exact ⟨_, _, _, this, rfl, _, rfl⟩
theorem shaped_ints (ns : List Int) : SeqAt.shaped (.tuple (ns.map PyData.int)) = true := by
  have d1 := PySem.W.depthAll_ints ns
  have d2 := intsLay ns
  simp only [SeqAt.shaped, PyData.canLay0, d2, PyData.depth, Bool.true_and]
  exact decide_eq_true (by omega)
theorem ne_tups {A : Around} {h : Heap} {a b : Addr} {vs ws : List Value} {xs ys : List Int} {Q : Value → Shared → Prop} {E : Value → Shared → Prop} {tk : Nat} {s : Shared} {w : World} (h1 : IsTup h a vs.toArray) (h2 : IsTup h b ws.toArray) (i1 : IntsAre vs xs) (i2 : IntsAre ws ys) (hu : A.units + 64 < cLine)
    (k : Q (.bool (!decide (xs = ys))) { s with heap := h, toks := tk }) : wpAny (model PySem.Challenge.rw_nn0256_01.row.prog w) A (compareOp .NotEq (.ref a) (.ref b)) Q E { s with heap := h, toks := tk } := by
  obtain ⟨o1, g1, c1, n1, d1⟩ := h1
  obtain ⟨o2, g2, c2, n2, d2⟩ := h2
  refine ne_dataH_same (Reads.tuple g1 c1 d1 (readsAll_of_ints i1)) (Reads.tuple g2 c2 d2 (readsAll_of_ints i2)) (shaped_ints _) (shaped_ints _) hu ?_ ?_
  · simp only [SeqAt.noMix]; exact noMix_ints _ _
  · simp only [PySem.Spec.same, same_ints]; exact k
theorem notin_two {A : Around} {h : Heap} {a t p q : Addr} {vs ws us : List Value} {xs ps qs : List Int} {Q : Value → Shared → Prop} {E : Value → Shared → Prop} {tk : Nat} {s : Shared} {w : World} (hT : IsTup h t #[.ref p, .ref q]) (h1 : h.IsList a vs.toArray) (h2 : h.IsList p ws.toArray) (h3 : h.IsList q us.toArray) (i1 : IntsAre vs xs) (i2 : IntsAre ws ps) (i3 : IntsAre us qs) (hu : A.units + 64 < cLine)
    (k : Q (.bool (!(decide (ps = xs) || decide (qs = xs)))) { s with heap := h, toks := tk }) : wpAny (model PySem.Challenge.rw_nn0256_01.row.prog w) A (compareOp .NotIn (.ref a) (.ref t)) Q E { s with heap := h, toks := tk } := by
  obtain ⟨o, ho, hc, n, hd⟩ := hT
  refine SeqAt.notIn_tuple_reads (Reads.tuple ho hc hd (ReadsAll.cons (reads_of_ints h2 i2) (ReadsAll.cons (reads_of_ints h3 i3) ReadsAll.nil))) (reads_of_ints h1 i1) ?_ (intsLay _) ?_ ?_
  · simp [PyData.canLayAll0, PyData.canLay0, intsLay]
  · refine Nat.lt_of_le_of_lt (Nat.add_le_add_left (Nat.min_le_right _ _) _) ?_
    refine Nat.lt_of_le_of_lt (Nat.add_le_add_left (intsDepth _) _) ?_
    omega
  · simp only [List.any_cons, List.any_nil, Bool.or_false, eqv_ints]; exact k
theorem Act.units (c : Act) : c.A.units + 64 < cLine := by have := c.hu; show c.un + 64 < cLine; omega
inductive TwoInts (r : Re) (x y : Value) (KK : List Int → List Int → Prop) : Prop
  | mk (p q : Addr) (ws us : List Value) (ns ms : List Int) (e1 : x = .ref p) (e2 : y = .ref q) (l1 : r.h.IsList p ws.toArray) (i1 : IntsAre ws ns) (l2 : r.h.IsList q us.toArray) (i2 : IntsAre us ms) (h : KK ns ms)
theorem two_rep {ρ : Nat → Addr} {n p q : Nat} : ∀ {us : List Value}, RepL ρ n [.ref p, .ref q] us → us = [.ref (ρ p), .ref (ρ q)]
  | [], h => h.elim
  | [_], h => h.2.elim
  | [_, _], h => by rw [h.1.2, h.2.1.2]
  | _ :: _ :: _ :: _, h => h.2.2.elim
theorem vcmp_ok {o : Cop} {a b : SV} {Q : SV → SSt → Prop} (h : vcmp o a b (fun t => Q (.bool t) st) st) : O2 c cx se st a b (compareOp o.op) Q := by
  intro r QQ E x y S hx hy K
  have H : (a.i fun i => b.i fun j => vci o i j fun t => Q (.bool t) st) → wpAny c.M c.A (compareOp o.op x y) QQ E (c.sh r) := fun g => by
    clear h; have h := g; clear g
    obtain ⟨i, j, rfl, rfl, h⟩ := ii_ok h
    obtain ⟨t, rfl⟩ := hx
    obtain ⟨u, rfl⟩ := hy
    cases o with
    | eq => exact eq_int (K.same S h rfl _)
    | ne => exact ne_int (K.same S h rfl _)
    | lt => exact lt_int (K.same S h rfl _)
    | gt => exact gt_int (K.same S h rfl _)
    | _ => exact h.elim
  have G : ∀ {KK : List Int → List Int → Prop}, (a.rf fun x => b.rf fun y => st.ints x fun xs => st.ints y fun ys => KK xs ys) → TwoInts r x y KK := fun g => by
    clear h H; have h := g; clear g
    obtain ⟨i, j, rfl, rfl, h⟩ := rr_ok h
    obtain ⟨_, rfl⟩ := hx
    obtain ⟨_, rfl⟩ := hy
    obtain ⟨ns, ws, l1, i1, h⟩ := S.ints h
    obtain ⟨ms, us, l2, i2, h⟩ := S.ints h
    exact ⟨_, _, _, _, _, _, rfl, rfl, l1, i1, l2, i2, h⟩
  cases o with
  | leq =>
    obtain ⟨p, q, ws, us, ns, ms, rfl, rfl, l1, i1, l2, i2, h⟩ := G h
    exact ke_eq_ints l1 l2 i1 i2 c.units (K.same S h rfl _)
  | lne =>
    obtain ⟨p, q, ws, us, ns, ms, rfl, rfl, l1, i1, l2, i2, h⟩ := G h
    exact ke_ne_ints l1 l2 i1 i2 c.units (K.same S h rfl _)
  | tne =>
    obtain ⟨i, rfl, h⟩ := SV.rf_ok h
    obtain ⟨e, h⟩ := yes_ok h
    cases isR0_ok e
    obtain ⟨_, rfl⟩ := hx
    subst hy
    obtain ⟨vs, _, h, _, ws, ht, R⟩ := S.tup h
    obtain ⟨ns, i1, h⟩ := svI_ok h R
    obtain ⟨t, u, h0⟩ := baseR0 c.w (c.X.keeps S.F.keep)
    exact ne_tups ht h0 i1 (.cons _ _ (.cons _ _ .nil)) c.units (K.same S h rfl _)
  | nin =>
    obtain ⟨i, j, rfl, rfl, h⟩ := rr_ok h
    obtain ⟨_, rfl⟩ := hx
    obtain ⟨_, rfl⟩ := hy
    obtain ⟨ns, ws, l1, i1, h⟩ := S.ints h
    obtain ⟨vs, _, h, _, us, ht, R⟩ := S.tup h
    obtain ⟨p, q, rfl, h⟩ := two_ok h
    obtain ⟨p, rfl, h⟩ := SV.rf_ok h
    obtain ⟨q, rfl, h⟩ := SV.rf_ok h
    cases two_rep R
    obtain ⟨ps, ws2, l2, i2, h⟩ := S.ints h
    obtain ⟨qs, ws3, l3, i3, h⟩ := S.ints h
    exact notin_two ht l1 l2 l3 i1 i2 i3 c.units (K.same S h rfl _)
  | _ => exact H h
theorem vneg_ok {a : SV} {Q : SV → SSt → Prop} (h : a.i fun i => Q (.int (-i)) st) : O1 c cx se st a (unaryOp .USub) Q := by
  intro r QQ E x S hx K
  obtain ⟨i, rfl, h⟩ := SV.i_ok h
  obtain ⟨t, rfl⟩ := hx
  exact neg_int (K.same S h ⟨_, rfl⟩ _)
noncomputable def idx (vs : List SV) (j : Int) (K : SV → Prop) : Prop :=
  match j with
  | .ofNat n => few n (opt vs[n]? K)
  | .negSucc n => few n (yes (Nat.ble (n + 1) vs.length) (opt vs[vs.length - (n + 1)]? K))
theorem idx_ok {vs : List SV} {K : SV → Prop} : ∀ {j : Int}, idx vs j K → ∃ v, K v ∧ -(2 ^ 63) ≤ j ∧ j < 2 ^ 63 ∧ ((0 ≤ j ∧ vs[j.toNat]? = some v) ∨ (j < 0 ∧ -(vs.length : Int) ≤ j ∧ vs[(j + vs.length).toNat]? = some v))
  | .ofNat n, h => by
    obtain ⟨hn, h⟩ := few_ok h
    obtain ⟨v, e, h⟩ := opt_ok h
    have hk : Int.ofNat n = (n : Int) := rfl
    exact ⟨v, h, by omega, by omega, .inl ⟨by omega, e⟩⟩
  | .negSucc n, h => by
    obtain ⟨hn, h⟩ := few_ok h
    obtain ⟨hm, h⟩ := yes_ok h
    obtain ⟨v, e, h⟩ := opt_ok h
    have hm' := Nat.le_of_ble_eq_true hm
    have hk : Int.negSucc n = -((n : Int) + 1) := Int.negSucc_eq n
    refine ⟨v, h, by omega, by omega, .inr ⟨by omega, by omega, ?_⟩⟩
    rw [show (Int.negSucc n + (vs.length : Int)).toNat = vs.length - (n + 1) by omega]; exact e
theorem idx_at {vs : List SV} {j : Int} {v : SV} (h : (0 ≤ j ∧ vs[j.toNat]? = some v) ∨ (j < 0 ∧ -(vs.length : Int) ≤ j ∧ vs[(j + vs.length).toNat]? = some v)) : ∃ k, seqIndex? j vs.length = some k ∧ vs[k]? = some v := by
  unfold seqIndex?
  rcases h with ⟨h3, h4⟩ | ⟨h3, h4, h5⟩
  · have := (List.getElem?_eq_some_iff.mp h4).1
    have e1 : ¬ j < 0 := by omega
    have e2 : j < (vs.length : Int) := by omega
    exact ⟨j.toNat, by simp [e1, h3, e2], h4⟩
  · have e1 : 0 ≤ j + (vs.length : Int) := by omega
    exact ⟨(j + vs.length).toNat, by simp [h3, e1]; omega, h5⟩
inductive Kop where | lst | tup | r0
noncomputable def vsub (o : Kop) (a i : SV) (st : SSt) (Q : SV → SSt → Prop) : Prop := i.i fun j =>
  match o with
  | .lst => a.rf fun k => st.lst k fun vs => idx vs j fun v => Q v st
  | .tup => a.rf fun k => st.tup k fun vs => idx vs j fun v => Q v st
  | .r0 => yes (isR0 a) (idx [.int 0, .int 1] j fun v => Q v st)
theorem tup_get {ws : List Value} {vs : List SV} {j : Int} {u : Tok} {a : Addr} {Q : SV → SSt → Prop} {QQ E : Value → Shared → Prop} (S : Sat c cx se st r) (K : KQ c cx se st r Q QQ) (ht : IsTup r.h a ws.toArray) (R : RepL r.ρ st.led.length vs ws) (h : idx vs j fun v => Q v st) :
    wpAny c.M c.A (getItem (.ref a) (.int j u)) QQ E (c.sh r) := by
  obtain ⟨v, h, h1, h2, h3⟩ := idx_ok h
  obtain ⟨n, e3, e4⟩ := idx_at h3
  obtain ⟨b, e5, rb⟩ := R.get e4
  exact getItem_tuple ht h1 h2 (by simpa [R.length] using e3) (by simpa using e5) (K.same S h rb _)
theorem vsub_get {o : Kop} {a i : SV} {Q : SV → SSt → Prop} (h : vsub o a i st Q) {r : Re} {QQ E : Value → Shared → Prop} {x y : Value} (S : Sat c cx se st r) (hx : Rep r.ρ st.led.length a x) (hy : Rep r.ρ st.led.length i y) (K : KQ c cx se st r Q QQ) : (∃ T id, (c.sh r).TypeIs x T ∧ typeLookup (.type T) "__getitem__" = pure (some (.builtin id))) ∧ wpAny c.M c.A (getItem x y) QQ E (c.sh r) := by
  obtain ⟨j, rfl, h⟩ := SV.i_ok h
  obtain ⟨u, rfl⟩ := hy
  cases o with
  | lst =>
    obtain ⟨k, rfl, h⟩ := SV.rf_ok h
    obtain ⟨_, rfl⟩ := hx
    obtain ⟨vs, h, _, ws, _, _, l, R⟩ := S.lst h
    obtain ⟨v, h, h1, h2, h3⟩ := idx_ok h
    refine ⟨⟨_, _, l.typeIs, slot_list_getitem.lookup⟩, ?_⟩
    rcases h3 with ⟨h3, h4⟩ | ⟨h3, h4, h5⟩
    · obtain ⟨b, e3, rb⟩ := R.get h4
      exact wpAny_getItem_list l h3 h2 (by simpa using e3) (K.same S h rb _)
    · obtain ⟨b, e3, rb⟩ := R.get h5
      exact wpAny_getItem_list_neg l h3 (by simpa [R.length] using h4) h1 (by simpa [R.length] using e3) (K.same S h rb _)
  | tup =>
    obtain ⟨k, rfl, h⟩ := SV.rf_ok h
    obtain ⟨_, rfl⟩ := hx
    obtain ⟨vs, _, h, _, ws, l, R⟩ := S.tup h
    exact ⟨⟨_, _, l.typeIs, slot_tuple_getitem.lookup⟩, tup_get S K l R h⟩
  | r0 =>
    obtain ⟨e, h⟩ := yes_ok h
    cases isR0_ok e
    subst hx
    obtain ⟨t, u, h0⟩ := baseR0 c.w (c.X.keeps S.F.keep)
    exact ⟨⟨_, _, IsTup.typeIs (s := c.sh r) h0, slot_tuple_getitem.lookup⟩, tup_get (ws := [_, _]) (vs := [.int 0, .int 1]) S K h0 ⟨⟨_, rfl⟩, ⟨_, rfl⟩, trivial⟩ h⟩
noncomputable def noSlice : PySem.Expr → Bool
  | .Slice .. => false
  | _ => true
theorem noSlice_ok {slice : PySem.Expr} {o i : Value} (h : noSlice slice = true) : subscripted slice false o i = operate [o, i] (getItem o i) := by
  cases slice <;> first | rfl | cases h
theorem vsub_ok {o : Kop} {a i : SV} {Q : SV → SSt → Prop} {value slice : PySem.Expr} (hs : noSlice slice = true) (h : vsub o a i st Q) : O2 c cx se st a i (subscriptTail value slice) Q := by
  intro r QQ E x y S hx hy K
  obtain ⟨⟨T, id, ht, hl⟩, hg⟩ := vsub_get (E := E) h S hx hy K
  exact tail_any ht hl hg (noSlice_ok hs)
noncomputable def upto : Int → Nat → Nat
  | .ofNat n, _ => n
  | .negSucc n, l => l - (n + 1)
noncomputable def vslc (d : Md) (a hi : SV) (st : SSt) (Q : SV → SSt → Prop) : Prop :=
  a.rf fun k => hi.i fun j => st.lst k fun vs => d.may (few vs.length (Q (.ref st.led.length) (st.push (.lst (vs.take (upto j vs.length))))))
theorem take_pick (l : List Value) : ∀ j : Int, kms_pick l none (some j) = l.take (upto j l.length)
  | .ofNat n => by
    have : ¬ Int.ofNat n < 0 := by have hk : Int.ofNat n = (n : Int) := rfl; omega
    unfold kms_pick kms_hi kms_lo
    simp only [this, if_false]
    show List.take (min n l.length - 0) (l.drop 0) = l.take n
    rw [List.drop_zero, Nat.sub_zero]
    rcases Nat.le_total n l.length with h | h
    · rw [Nat.min_eq_left h]
    · rw [Nat.min_eq_right h, List.take_of_length_le (Nat.le_refl _), List.take_of_length_le h]
  | .negSucc n => by
    have : Int.negSucc n < 0 := by have hk : Int.negSucc n = -((n : Int) + 1) := Int.negSucc_eq n; omega
    unfold kms_pick kms_hi kms_lo
    simp only [this, if_true]
    show List.take (l.length - (n + 1) - 0) (l.drop 0) = _
    rw [List.drop_zero, Nat.sub_zero]
    rfl
theorem vslc_ok {a hi : SV} {Q : SV → SSt → Prop} {value : PySem.Expr} {lo up : Option PySem.Expr} {p : Pos} (h : vslc cx.md a hi st Q) {r : Re} {QQ : Value → Shared → Prop} {E : Value → Shared → Prop} {x y : Value} (S : Sat c cx se st r) (hx : Rep r.ρ st.led.length a x) (hy : Rep r.ρ st.led.length hi y) (K : KQ c cx se st r Q QQ) :
    wpAny c.M c.A (subscriptTail value (.Slice lo up none p) x (.ref r.h.objs.size)) QQ E { c.s with heap := r.h.push { cls := .type "slice", data := .fields #[.none, y, .none] }, toks := r.tk } := by
  obtain ⟨k, rfl, h⟩ := SV.rf_ok h
  obtain ⟨j, rfl, h⟩ := SV.i_ok h
  obtain ⟨hk0, rfl⟩ := hx
  obtain ⟨u, rfl⟩ := hy
  obtain ⟨vs, h, _, ws, _, _, l, R⟩ := S.lst h
  obtain ⟨hu, h⟩ := Md.may_ok h
  obtain ⟨hz, h⟩ := few_ok h
  have pe := kms_pick_eq ws.toArray none (some j)
  rw [List.toList_toArray, take_pick] at pe
  have lp := l.push (o := { cls := .type "slice", data := .fields #[.none, .int j u, .none] })
  refine tail_any (ops := [.ref r.h.objs.size, .ref (r.ρ k)]) lp.typeIs slot_list_getitem.lookup (wpAny_getItem_list_slice lp (Heap.IsSliceOf.new ..) .none (.int _ _) .none (by simp) ?_ (R.size ▸ le64 hz)) rfl
  have up1 : ∀ b o, r.h.get? b = some o → (r.h.push { cls := .type "slice", data := .fields #[.none, .int j u, .none] }).get? b = some o := fun b o e => Heap.get?_push_of_some _ e
  have N1 := News.push (S.F.push { cls := .type "slice", data := .fields #[.none, .int j u, .none] }) (S.N.grown up1) { cls := .type "list", data := .seq (slicePick ws.toArray none (some j) none) }
  rw [pe] at N1 ⊢
  refine K.new hu S h ⟨_, 0, rfl, by rw [← R.length]; exact R.take (upto j vs.length)⟩ ((S.F.push _).push _) N1 fun q hq => Nat.ne_of_lt ?_
  show q.1 < (r.h.push _).objs.size
  rw [Heap.size_push]
  exact Nat.lt_succ_of_lt (Heap.lt_size (S.N q hq).1)
noncomputable def SV.bs (v : SV) (K : Addr → Prop) : Prop := match v with | .base i => K i | _ => False
theorem SV.bs_ok {v : SV} {K : Addr → Prop} (h : v.bs K) : Ex1 (fun i => v = .base i) K := by cases v <;> first | exact ⟨_, rfl, h⟩ | exact h.elim
noncomputable def vslB (d : Md) (a hi : SV) (st : SSt) (Q : SV → SSt → Prop) : Prop :=
  a.bs fun k => hi.i fun j => VReq (k = d.w.S) (d.may (Q (.ref st.led.length) (st.push (.isq (d.w.ns.take (upto j d.w.ns.length))))))
theorem intsTake {ws : List Value} {ns : List Int} (h : IntsAre ws ns) : ∀ k, IntsAre (ws.take k) (ns.take k) := by
  induction h with
  | nil => intro k; rw [List.take_nil, List.take_nil]; exact .nil
  | cons i t _ ih => intro k; cases k with
    | zero => exact .nil
    | succ k => exact .cons _ _ (ih k)
theorem vslB_ok {a hi : SV} {Q : SV → SSt → Prop} {value : PySem.Expr} {lo up : Option PySem.Expr} {p : Pos} (O : CxOk c cx se) (h : vslB cx.md a hi st Q) {r : Re} {QQ : Value → Shared → Prop} {E : Value → Shared → Prop} {x y : Value} (S : Sat c cx se st r) (hx : Rep r.ρ st.led.length a x) (hy : Rep r.ρ st.led.length hi y) (K : KQ c cx se st r Q QQ) :
    wpAny c.M c.A (subscriptTail value (.Slice lo up none p) x (.ref r.h.objs.size)) QQ E { c.s with heap := r.h.push { cls := .type "slice", data := .fields #[.none, y, .none] }, toks := r.tk } := by
  obtain ⟨k, rfl, h1⟩ := SV.bs_ok h
  clear h
  obtain ⟨j, rfl, e, h2⟩ := SV.i_ok h1
  clear h1
  subst hx
  obtain ⟨u, rfl⟩ := hy
  obtain ⟨hu, h3⟩ := Md.may_ok h2
  clear h2
  rw [O.w] at e h3
  subst e
  have l := c.hl.at fun o e => S.F.keep _ o e
  have hz := c.sw.hz
  have hI := c.sw.hI
  have pe := kms_pick_eq c.sw.vs.toArray none (some j)
  rw [List.toList_toArray, take_pick] at pe
  have lp := l.push (o := { cls := .type "slice", data := .fields #[.none, .int j u, .none] })
  refine tail_any (ops := [.ref r.h.objs.size, .ref c.sw.S]) lp.typeIs slot_list_getitem.lookup (wpAny_getItem_list_slice lp (Heap.IsSliceOf.new ..) .none (.int _ _) .none (by simp) ?_ (by rw [List.size_toArray]; exact le64 (Nat.le_trans hz (by decide)))) rfl
  have up1 : ∀ b o, r.h.get? b = some o → (r.h.push { cls := .type "slice", data := .fields #[.none, .int j u, .none] }).get? b = some o := fun b o e => Heap.get?_push_of_some _ e
  have N1 := News.push (S.F.push { cls := .type "slice", data := .fields #[.none, .int j u, .none] }) (S.N.grown up1) { cls := .type "list", data := .seq (slicePick c.sw.vs.toArray none (some j) none) }
  rw [pe] at N1 ⊢
  refine K.new hu S h3 ⟨_, 0, rfl, by rw [← hI.length]; exact intsTake hI _⟩ ((S.F.push _).push _) N1 fun q hq => Nat.ne_of_lt ?_
  show q.1 < (r.h.push _).objs.size
  rw [Heap.size_push]
  exact Nat.lt_succ_of_lt (Heap.lt_size (S.N q hq).1)
theorem vtup_ok {vs : List SV} {Q : SV → SSt → Prop} (h : cx.md.may (few vs.length (Q (.ref st.led.length) (st.push (.tup vs))))) : OL c cx se st vs newTuple Q := by
  intro r QQ E xs S hx K
  obtain ⟨hu, h⟩ := Md.may_ok h
  obtain ⟨hz, h⟩ := few_ok h
  exact kup_newTuple S.F S.N (fun D h' F N lt => K.new hu S h ⟨_, _, rfl, hx⟩ F N fun p hp => Nat.ne_of_lt (lt p hp)) (by rw [← hx.length]; exact le64 hz)
theorem vlst_ok {vs : List SV} {Q : SV → SSt → Prop} (h : cx.md.may (few vs.length (Q (.ref st.led.length) (st.push (.lst vs))))) : OL c cx se st vs newList Q := by
  intro r QQ E xs S hx K
  obtain ⟨hu, h⟩ := Md.may_ok h
  obtain ⟨hz, h⟩ := few_ok h
  exact newList_K S.F S.N (fun D h' F N lt => K.new hu S h ⟨_, _, rfl, hx⟩ F N fun p hp => Nat.ne_of_lt (lt p hp)) (by rw [← hx.length]; exact le64 hz)
/-- built-in functions of one argument -/
inductive Bfn where | len | slen | tlen | abs | sum | max | list | range | enum
noncomputable def Bfn.nm : Bfn → Str
  | .len => "len" | .slen => "len" | .tlen => "len" | .abs => "abs" | .sum => "sum" | .max => "max" | .list => "list" | .range => "range" | .enum => "enumerate"
noncomputable def Bfn.val : Bfn → Value
  | .len => .builtin "len" | .slen => .builtin "len" | .tlen => .builtin "len" | .abs => .builtin "abs" | .sum => .builtin "sum" | .max => .builtin "max" | .list => .type "list" | .range => .type "range" | .enum => .type "enumerate"
noncomputable def sumK : List Int → (Int → Prop) → Prop
  | [], k => k 0
  | a :: l, k => sumK l fun s => k (a + s)
theorem sumK_ok : ∀ {l : List Int} {k : Int → Prop}, sumK l k → k l.sum
  | [], _, h => h
  | a :: l, k, h => by rw [List.sum_cons]; exact sumK_ok (l := l) h
noncomputable def SO.cp (v : SO) (K : SO → Prop) : Prop := match v with | .lst l => few l.length (K (.lst l)) | .isq l => VReq (l.length ≤ 64) (K (.isq l)) | _ => False
noncomputable def vbfn (d : Md) (f : Bfn) (v : SV) (st : SSt) (Q : SV → SSt → Prop) : Prop := d.may <|
  match f with
  | .abs => v.i fun i => Q (.int (if i < 0 then -i else i)) st
  | .len => v.rf fun k => st.lst k fun vs => few vs.length (Q (.int (Int.ofNat vs.length)) st)
  | .slen => v.rf fun k => st.lst k fun vs => VReq (vs.length ≤ 16384) (Q (.int (Int.ofNat vs.length)) st)
  | .tlen => v.rf fun k => st.tup k fun vs => few vs.length (Q (.int (Int.ofNat vs.length)) st)
  | .sum => v.rf fun k => st.ints k fun ns => sumK ns fun s => Q (.int s) st
  | .max => v.rf fun k => st.ints k fun ns => VReq (0 < ns.length) (∀ M, M ∈ ns → (∀ a, a ∈ ns → a ≤ M) → Q (.int M) st)
  | .list => v.rf fun k => opt st.led[k]? fun o => o.cp fun o => Q (.ref st.led.length) (st.push o)
  | _ => False
theorem vbfn_ok {f : Bfn} {v : SV} {Q : SV → SSt → Prop} (h : vbfn cx.md f v st Q) : O1 c cx se st v (fun x => call f.val [x]) Q := by
  intro r QQ E x S hx K
  obtain ⟨hu, h⟩ := Md.may_ok h
  cases f with
  | abs =>
    obtain ⟨i, rfl, h⟩ := SV.i_ok h
    obtain ⟨t, rfl⟩ := hx
    exact call_abs_int (s := c.sh r) fun u tk => K.same S h ⟨_, rfl⟩ _
  | len =>
    obtain ⟨k, rfl, h⟩ := SV.rf_ok h
    obtain ⟨_, rfl⟩ := hx
    obtain ⟨vs, h, _, ws, _, _, l, R⟩ := S.lst h
    obtain ⟨hz, h⟩ := few_ok h
    exact kun_lenL (s := c.sh r) l (by rw [R.size]; rfl) (by show ((vs.length : Nat) : Int) ≤ 16384; omega) (K.same S h ⟨_, rfl⟩ _)
  | slen =>
    obtain ⟨k, rfl, h⟩ := SV.rf_ok h
    obtain ⟨_, rfl⟩ := hx
    obtain ⟨vs, ⟨hz, h⟩, _, ws, _, _, l, R⟩ := S.lst h
    exact kun_lenL (s := c.sh r) l (by rw [R.size]; rfl) (by show ((vs.length : Nat) : Int) ≤ 16384; omega) (K.same S h ⟨_, rfl⟩ _)
  | tlen =>
    obtain ⟨k, rfl, h⟩ := SV.rf_ok h
    obtain ⟨_, rfl⟩ := hx
    obtain ⟨vs, _, h, _, ws, l, R⟩ := S.tup h
    obtain ⟨hz, h⟩ := few_ok h
    exact kun_lenT (s := c.sh r) l (by rw [R.size]; rfl) (by show ((vs.length : Nat) : Int) ≤ 16384; omega) (K.same S h ⟨_, rfl⟩ _)
  | sum =>
    obtain ⟨k, rfl, h⟩ := SV.rf_ok h
    obtain ⟨_, rfl⟩ := hx
    obtain ⟨ns, ws, l, R, h⟩ := S.ints h
    exact PySem.W.sumK (s := c.sh r) rfl S.F S.N l R fun h' tk t' F N => K.hp hu S (sumK_ok h) ⟨_, rfl⟩ F N
  | max =>
    obtain ⟨k, rfl, h⟩ := SV.rf_ok h
    obtain ⟨_, rfl⟩ := hx
    obtain ⟨ns, ws, l, R, hz, h⟩ := S.ints h
    exact kso_max (s := c.sh r) S.F S.N l R hz rfl fun h' M t tk F N h1 h2 => K.hp hu S (h M h1 h2) ⟨_, rfl⟩ F N
  | list =>
    obtain ⟨k, rfl, h⟩ := SV.rf_ok h
    obtain ⟨_, rfl⟩ := hx
    obtain ⟨o, e, h⟩ := opt_ok h
    have hk := (List.getElem?_eq_some_iff.mp e).1
    have H : ∀ {ws : List Value} {n : Nat}, r.ω k = listOf ws.toArray n → ws.length ≤ 64 → (∀ n, RepO r.ρ st.led.length o (listOf ws.toArray n)) → Q (.ref st.led.length) (st.push o) → wpAny c.M c.A (call (.type "list") [.ref (r.ρ k)]) QQ E (c.sh r) := fun {ws n} e2 hz R h =>
      list_copyK (s := c.sh r) S.F S.N ⟨_, S.get hk, by rw [e2], n, by rw [e2]⟩ (fun D n h' F N lt => K.new hu S h (R _) F N fun p hp => Nat.ne_of_lt (lt p hp)) (by rw [List.size_toArray]; exact le64 hz)
    have z := S.obj k o e
    cases o with
    | lst vs => obtain ⟨ws, n, e2, R⟩ := z; exact H e2 (R.length ▸ (few_ok h).1) (fun n => ⟨ws, n, rfl, R⟩) (few_ok h).2
    | isq l => obtain ⟨ws, n, e2, R⟩ := z; exact H e2 (R.length ▸ h.r) (fun n => ⟨ws, n, rfl, R⟩) h.k
    | _ => exact h.elim
  | _ => exact h.elim
noncomputable def vmax2 (d : Md) (a b : SV) (st : SSt) (Q : SV → SSt → Prop) : Prop := d.may <| a.i fun i => b.i fun j => Q (.int (if j > i then j else i)) st
theorem vmax2_ok {a b : SV} {Q : SV → SSt → Prop} (h : vmax2 cx.md a b st Q) : O2 c cx se st a b (fun x y => call (.builtin "max") [x, y]) Q := by
  intro r QQ E x y S hx hy K
  obtain ⟨hu, h⟩ := Md.may_ok h
  obtain ⟨i, j, rfl, rfl, h⟩ := ii_ok h
  obtain ⟨t, rfl⟩ := hx
  obtain ⟨u, rfl⟩ := hy
  exact max_two_N (s := c.sh r) rfl S.F S.N fun h' tk F N => K.hp hu S h ⟨_, rfl⟩ F N
noncomputable def vapp (d : Md) (a x : SV) (st : SSt) (Q : SV → SSt → Prop) : Prop :=
  d.may <| a.rf fun k => st.lst k fun vs => few vs.length (yes (!d.fz.contains k) (Q .none (st.upd k (.lst (vs ++ [x])))))
noncomputable def hdK {α : Type} (l : List α) (K : α → List α → Prop) : Prop := match l with | [] => False | x :: r => K x r
theorem hdK_ok {α : Type} {l : List α} {K : α → List α → Prop} (h : hdK l K) : ∃ x t, l = x :: t ∧ K x t := by cases l <;> first | exact ⟨_, _, rfl, h⟩ | exact h.elim
noncomputable def SO.is (v : SO) (K : List Int → Prop) : Prop := match v with | .isq l => K l | _ => False
theorem SO.is_ok {v : SO} {K : List Int → Prop} (h : v.is K) : Ex1 (fun i => v = .isq i) K := by cases v <;> first | exact ⟨_, rfl, h⟩ | exact h.elim
noncomputable def vpop (d : Md) (a : SV) (st : SSt) (Q : SV → SSt → Prop) : Prop :=
  d.may <| a.rf fun k => opt st.led[k]? fun o => o.is fun l => hdK l fun v l => VReq (l.length ≤ 16384) (yes (!d.fz.contains k) (Q (.int v) (st.upd k (.isq l))))
theorem nfz {d : Md} {k : Nat} (h : (!d.fz.contains k) = true) : k ∉ d.fz := by simpa using h
theorem vapp_ok {a x : SV} {Q : SV → SSt → Prop} (h : vapp cx.md a x st Q) : O2 c cx se st a x (fun o y => call (.builtin "list.append") [o, y]) Q := by
  intro r QQ E o y S ho hy K
  obtain ⟨hu, h⟩ := Md.may_ok h
  obtain ⟨k, rfl, h⟩ := SV.rf_ok h
  obtain ⟨_, rfl⟩ := ho
  obtain ⟨vs, h, hk, ws, n, e2, l, R⟩ := S.lst h
  obtain ⟨hz, h⟩ := few_ok h
  obtain ⟨hf, h⟩ := yes_ok h
  exact append_at (its := ws.toArray) (n := n) (by rw [S.get hk, e2]) (fun h' hs hD => K.mut hu (so := .lst (vs ++ [x])) S (nfz hf) hk hs hD ⟨ws ++ [y], n + 1, by rw [List.push_toArray], R.append ⟨hy, trivial⟩⟩ h rfl) (R.size ▸ le64 hz)
theorem vpop_ok {u : Tok} {a : SV} {Q : SV → SSt → Prop} (h : vpop cx.md a st Q) : O1 c cx se st a (fun o => call (.builtin "list.pop") [o, .int 0 u]) Q := by
  intro r QQ E o S ho K
  obtain ⟨hu, h⟩ := Md.may_ok h
  obtain ⟨k, rfl, h⟩ := SV.rf_ok h
  obtain ⟨_, rfl⟩ := ho
  obtain ⟨o, e, h⟩ := opt_ok h
  obtain ⟨l, rfl, h⟩ := SO.is_ok h
  obtain ⟨v, l, rfl, hz, h⟩ := hdK_ok h
  obtain ⟨hf, h⟩ := yes_ok h
  have hk := (List.getElem?_eq_some_iff.mp e).1
  obtain ⟨ws, n, e2, R⟩ := S.obj k _ e
  cases R with
  | cons _ t R =>
    rename_i ws
    generalize hy : Value.int v t = y at e2
    have ry : Rep r.ρ st.led.length (.int v) y := ⟨t, hy.symm⟩
    have hD : r.h.get? (r.ρ k) = some (listOf (y :: ws).toArray n) := by rw [S.get hk, e2]
    refine call_meets PySem.F.slot_list_pop ⟨_, hD, rfl⟩ PySem.F.entry_list_pop (PySem.F.args_list_pop_2 _ _) (PySem.MeetsSeq.list_pop_at _ _ n 0 u 0 y (by decide) (by simp [seqIndex?]) rfl (by rw [List.size_toArray, List.length_cons, R.length]; exact Nat.le_trans (Nat.succ_le_succ hz) (Nat.le_of_ble_eq_true rfl))) ⟨hD, ?_⟩
    have q := PySem.IsL.update hD fun xs => xs.eraseIdxIfInBounds 0
    rw [show (y :: ws).toArray.eraseIdxIfInBounds 0 = ws.toArray from kl_erase [] ws y, if_neg (by simp)] at q
    exact K.mut hu (so := .isq l) S (nfz hf) hk (Heap.SameBut.update ..) q ⟨ws, n + 1, rfl, R⟩ h ry
theorem Sat.ns (S : Sat c cx se st r) (O : CxOk c cx se) : ∃ m, r.h.Ns cx.env.locals m ∧ VarsOk r.ρ st.led.length se.own st.vars m := by
  have f := S.frm
  unfold Frm at f
  split at f
  · rename_i e
    rw [O.fn e]
    exact ⟨_, S.F.ns, f⟩
  · obtain ⟨hm, hC, hv⟩ := f
    exact ⟨_, hC.ns (S.N _ (nws_mem.mpr (.inr hm))).1, hv⟩
theorem ev_loc (O : CxOk c cx se) {i : Nat} {x : Str} {v : SV} {pos : Pos} {Q : SV → SSt → Prop} (hx : se.own[i]? = some x) (hk : se.kinds.lookup x = some .local) (hd : (x == ("__debug__" : Str)) = false) (hv : st.vars[i]? = some (some v)) (h : Q v st) : EV c cx se (eval (.Name x pos) cx.env) st Q := by
  intro r QQ E S K
  obtain ⟨m, ns, V⟩ := S.ns O
  obtain ⟨y, e, ry⟩ := V i x v hx hv
  exact wpAny_Name (wpAny_loadName_local O.kind ((congrArg (List.lookup x) O.names).trans hk) ns e (K.same S h ry _)) hd
theorem ev_cel (O : CxOk c cx se) {k : Nat} {x : Str} {v : SV} {pos : Pos} {Q : SV → SSt → Prop} (hx : (x, k) ∈ se.cel) (hk : se.kinds.lookup x = some .cell) (hd : (x == ("__debug__" : Str)) = false) (hv : st.led[k]? = some (.cell (some v))) (h : Q v st) : EV c cx se (eval (.Name x pos) cx.env) st Q := by
  intro r QQ E S K
  obtain ⟨a, b⟩ := S.cells x k hx hk
  obtain ⟨y, e, ry⟩ := S.obj k _ hv
  exact wpAny_Name (wpAny_loadName_cell O.kind ((congrArg (List.lookup x) O.names).trans hk) b ⟨_, S.get a, e⟩ (K.same S h ry _)) hd
theorem ev_kel (O : CxOk c cx se) {i : Nat} {x : Str} {v : SV} {pos : Pos} {Q : SV → SSt → Prop} (hx : se.kel[i]? = some x) (hk : se.kinds.lookup x = some .cell) (hd : (x == ("__debug__" : Str)) = false) (hv : st.kvs[i]? = some v) (h : Q v st) : EV c cx se (eval (.Name x pos) cx.env) st Q := by
  intro r QQ E S K
  obtain ⟨C, oC, y, a, b, e, ry⟩ := S.kels i x v hx hv hk
  exact wpAny_Name (wpAny_loadName_cell O.kind ((congrArg (List.lookup x) O.names).trans hk) a ⟨_, (S.N _ (nws_mem.mpr (.inr b))).1, e⟩ (K.same S h ry _)) hd
theorem ev_glb (O : CxOk c cx se) {a : Addr} {x : Str} {pos : Pos} {Q : SV → SSt → Prop} (hk : se.kinds.lookup x = some .globalImplicit) (hd : (x == ("__debug__" : Str)) = false) (hv : nsIn (Mine.K2 c.w.params) mainGlobals x = some (some (.ref a))) (h : Q (.base a) st) : EV c cx se (eval (.Name x pos) cx.env) st Q := by
  intro r QQ E S K
  exact Name_function_global O.kind ((congrArg (List.lookup x) O.names).trans hk) (loadGlobal_global (env := cx.env) (show r.h.Ns cx.env.globals c.mg from O.glob ▸ (c.T.keeps S.F.keep).g) (mg_of c.X c.T.g hv) (K.same S h rfl _)) hd
theorem name_bfn (O : CxOk c cx se) (f : Bfn) {pos : Pos} {Q : Value → Shared → Prop} {E : Value → Shared → Prop} (hk : se.kinds.lookup f.nm = some .globalImplicit) (S : Sat c cx se st r) (h : Q f.val (c.sh r)) : wpAny c.M c.A (eval (.Name f.nm pos) cx.env) Q E (c.sh r) := by
  have H : ∀ x v, nsIn (Mine.K2 c.w.params) mainGlobals x = some none → bootBuiltins x = some v → x ≠ "__name__" → (x == ("__debug__" : Str)) = false → se.kinds.lookup x = some .globalImplicit → Q v (c.sh r) → wpAny c.M c.A (eval (.Name x pos) cx.env) Q E (c.sh r) := fun x v e hv hn hd hk h =>
    Name_function_global O.kind ((congrArg (List.lookup x) O.names).trans hk) (loadGlobal_builtin (env := cx.env) (show r.h.Ns cx.env.globals c.mg from O.glob ▸ (c.T.keeps S.F.keep).g) (mg_none_of c.X c.T.g e) (show r.h.Ns cx.env.builtins c.mb from O.blt ▸ (c.T.keeps S.F.keep).b) ((c.T.builtins x hn).trans hv) h) hd
  have X := c.X
  cases f
  · exact H "len" (.builtin "len") (by k_is) (by boot_by_name) (by decide) (by decide) hk h
  · exact H "len" (.builtin "len") (by k_is) (by boot_by_name) (by decide) (by decide) hk h
  · exact H "len" (.builtin "len") (by k_is) (by boot_by_name) (by decide) (by decide) hk h
  · exact H "abs" (.builtin "abs") (by k_is) (by boot_by_name) (by decide) (by decide) hk h
  · exact H "sum" (.builtin "sum") (by k_is) (by boot_by_name) (by decide) (by decide) hk h
  · exact H "max" (.builtin "max") (by k_is) (by boot_by_name) (by decide) (by decide) hk h
  · exact H "list" (.type "list") (by k_is) (by boot_by_name) (by decide) (by decide) hk h
  · exact H "range" (.type "range") (by k_is) (by boot_by_name) (by decide) (by decide) hk h
  · exact H "enumerate" (.type "enumerate") (by k_is) (by boot_by_name) (by decide) (by decide) hk h
theorem ev2 {ta tb : Sem Value} {f : Value → Value → Sem Value} {Q1 : SV → SSt → Prop} {Q2 : SV → SV → SSt → Prop} {Q : SV → SSt → Prop} (h1 : EV c cx se ta st Q1) (h2 : ∀ a st1, Q1 a st1 → EV c cx se tb st1 (Q2 a)) (h3 : ∀ a b st2, Q2 a b st2 → O2 c cx se st2 a b f Q) {QQ E : Value → Shared → Prop} (S : Sat c cx se st r) (K : KQ c cx se st r Q QQ) :
    wpAny c.M c.A ta (fun x s₁ => wpAny c.M c.A tb (fun y s₂ => wpAny c.M c.A (f x y) QQ E s₂) E s₁) E (c.sh r) :=
  h1 r _ _ S fun a st1 r1 x hq hx he S1 ra => h2 a st1 hq r1 _ _ S1 fun b st2 r2 y hq2 hx2 he2 S2 rb =>
    h3 a b st2 hq2 r2 _ _ x y S2 (ra.mono hx2) rb ((K.at hx he).at hx2 he2)
theorem ev1 {ta : Sem Value} {f : Value → Sem Value} {Q1 : SV → SSt → Prop} {Q : SV → SSt → Prop} (h1 : EV c cx se ta st Q1) (h3 : ∀ a st2, Q1 a st2 → O1 c cx se st2 a f Q) {QQ E : Value → Shared → Prop} (S : Sat c cx se st r) (K : KQ c cx se st r Q QQ) :
    wpAny c.M c.A ta (fun x s₁ => wpAny c.M c.A (f x) QQ E s₁) E (c.sh r) :=
  h1 r _ _ S fun a st1 r1 x hq hx he S1 ra => h3 a st1 hq r1 _ _ x S1 ra (K.at hx he)
noncomputable def plainE : PySem.Expr → Bool
  | .Starred .. => false
  | _ => true
theorem star_eq {e : PySem.Expr} {l : List PySem.Expr} {env : Env} (h : plainE e = true) : starEach (e :: l) env = (false, eval e env) :: starEach l env := by
  cases e <;> first | rfl | cases h
noncomputable def plainL : List PySem.Expr → Bool
  | [] => true
  | e :: l => plainE e && plainL l
theorem anyL {env : Env} {pos : Pos} : ∀ {l : List PySem.Expr}, plainL l = true → ((backTo pos (starEach l env)).any fun x => x.1) = false
  | [], _ => rfl
  | e :: l, h => by
    have h' := Bool.and_eq_true_iff.mp h
    rw [star_eq h'.1]
    have := anyL (env := env) (pos := pos) h'.2
    simpa [backTo] using this
noncomputable def clOf (cells : List (Str × Addr)) : List (Str × NameKind) → List (Str × Addr) → List (Str × Addr)
  | [], acc => acc
  | (n, k) :: r, acc => if k == .free then clOf cells r ((n, (cells.lookup n).getD 0) :: acc) else clOf cells r acc
theorem closure_eq {scope : Scope} {env : Env} (h : ∀ y ∈ scope.names, y.2 = .free → ∃ a, env.cells.lookup y.1 = some a) : closureFor scope env = pure (clOf env.cells scope.names []) := by
  unfold closureFor
  have H : ∀ (names : List (Str × NameKind)) (acc : List (Str × Addr)), (∀ y ∈ names, y.2 = .free → ∃ a, env.cells.lookup y.1 = some a) →
      (forIn names acc fun (x : Str × NameKind) (cs : List (Str × Addr)) => (match x with | (name, kind) => if (kind == NameKind.free) = true then do let c ← cellOf env name; pure (ForInStep.yield ((name, c) :: cs)) else pure (ForInStep.yield cs) : Sem (ForInStep (List (Str × Addr))))) = pure (clOf env.cells names acc) := by
    intro names
    induction names with
    | nil => intro acc _; rfl
    | cons y r ih =>
      intro acc h
      obtain ⟨n, k⟩ := y
      rw [List.forIn_cons]
      dsimp only
      conv => rhs; unfold clOf
      by_cases hk : (k == NameKind.free) = true
      · rw [if_pos hk, if_pos hk]
        obtain ⟨a, e⟩ := h _ (.head _) (by simpa using hk)
        have e' : env.cells.lookup n = some a := e
        have ec : cellOf env n = pure a := by unfold cellOf; rw [e']
        rw [ec, e']
        exact ih _ fun y hy => h y (.tail _ hy)
      · rw [if_neg hk, if_neg hk]
        exact ih _ fun y hy => h y (.tail _ hy)
  have := H scope.names [] h
  simp only [bind_pure] at this ⊢
  exact this
theorem clOf_some {cells : List (Str × Addr)} {x : Str} {a : Addr} (e : cells.lookup x = some a) : ∀ {names : List (Str × NameKind)} {acc : List (Str × Addr)}, (x, NameKind.free) ∈ names ∨ acc.lookup x = some a → (clOf cells names acc).lookup x = some a
  | [], acc, h => h.elim (fun h => nomatch h) id
  | (n, k) :: r, acc, h => by
    unfold clOf
    by_cases hk : (k == NameKind.free) = true
    · rw [if_pos hk]
      refine clOf_some e ?_
      by_cases hx : (x == n) = true
      · refine .inr ?_
        rw [List.lookup_cons, hx, ← (beq_iff_eq.mp hx), e]; rfl
      · refine h.imp (fun h => ?_) fun h => ?_
        · rcases List.mem_cons.mp h with h' | h'
          · cases h'; simp at hx
          · exact h'
        · rw [List.lookup_cons]; simpa only [hx] using h
    · rw [if_neg hk]
      refine clOf_some e (h.imp (fun h => ?_) id)
      rcases List.mem_cons.mp h with h' | h'
      · cases h'; exact absurd rfl hk
      · exact h'
/-- the names of a block, as relabel makes them -/
noncomputable def rlb (kinds : List (Str × NameKind)) (names : List (Str × NameKind)) : List (Str × NameKind) :=
  names.map fun (n, k) => if (k == .free && kinds.lookup n == some .cell) then (n, .cell) else (n, k)
theorem rlb_eq (O : CxOk c cx se) (scope : Scope) : (relabel scope cx.env).names = rlb se.kinds scope.names := by
  unfold relabel rlb
  have e : ∀ n, cx.env.kindOf n = se.kinds.lookup n := fun n => congrArg (List.lookup n) O.names
  simp only [O.kind, e]
  refine List.map_congr_left fun y _ => ?_
  obtain ⟨n, k⟩ := y
  simp
theorem rlb_cell {kinds : List (Str × NameKind)} {x : Str} : ∀ {names : List (Str × NameKind)}, (∀ y ∈ names, y.1 = x → y.2 ≠ .cell) → (rlb kinds names).lookup x = some .cell → (x, NameKind.free) ∈ names ∧ kinds.lookup x = some .cell
  | [], _, h => by cases h
  | (n, k) :: r, hc, h => by
    have ih := @rlb_cell kinds x r fun y hy => hc y (.tail _ hy)
    have h' : List.lookup x ((if (k == .free && kinds.lookup n == some .cell) then (n, NameKind.cell) else (n, k)) :: rlb kinds r) = some .cell := h
    by_cases hk : (k == .free && kinds.lookup n == some .cell) = true
    · rw [if_pos hk, List.lookup_cons] at h'
      obtain ⟨h1, h2⟩ := Bool.and_eq_true_iff.mp hk
      by_cases hx : (x == n) = true
      · cases beq_iff_eq.mp hx; cases beq_iff_eq.mp h1
        exact ⟨.head _, beq_iff_eq.mp h2⟩
      · simp only [hx] at h'
        exact (ih h').imp_left (.tail _)
    · rw [if_neg hk, List.lookup_cons] at h'
      by_cases hx : (x == n) = true
      · simp only [hx] at h'
        exact absurd (Option.some.inj h') (hc (n, k) (.head _) (beq_iff_eq.mp hx).symm)
      · simp only [hx] at h'
        exact (ih h').imp_left (.tail _)
/-- what a comprehension's scope must be like -/
structure ScOk (se : SE) (scope : Scope) : Prop where
  cell : ∀ y ∈ scope.names, y.2 ≠ .cell
  kind : scope.kind = .function
  names : ∀ y ∈ scope.names, y.2 = .local → scope.names.lookup y.1 = some .local
  free : ∀ y ∈ scope.names, y.2 = .free → se.kinds.lookup y.1 = some .cell ∧ ((∃ k, (y.1, k) ∈ se.cel) ∨ y.1 ∈ se.kel)
noncomputable def SE.inner (se : SE) (scope : Scope) (own : List Str) : SE := { kinds := rlb se.kinds scope.names, own := own, cel := se.cel, kel := se.kel }
noncomputable def Cx.inner (cx : Cx) (scope : Scope) (C : Addr) (oC : Obj) (m₂ : Str → Option Value) (ex : Led) (r₀ : Re) (fz : List Nat) (pu : Bool) : Cx :=
  { env := compEnvC scope (clOf cx.env.cells scope.names []) C cx.env, cmp := some (oC, m₂), rest := ex ++ cx.rest, ωf := r₀.ω, ρf := r₀.ρ, np := cx.np, md := { cx.md with fz := fz, pu := pu } }
theorem CxOk.inner (O : CxOk c cx se) {scope : Scope} (hk : scope.kind = .function) {own : List Str} (nd : own.Nodup) {C : Addr} {oC : Obj} {m₂ : Str → Option Value} {ex : Led} {r₀ : Re} {fz : List Nat} {pu : Bool} : CxOk c (cx.inner scope C oC m₂ ex r₀ fz pu) (se.inner scope own) :=
  ⟨rlb_eq O scope, hk, O.glob, O.blt, nd, (fun h => nomatch h), O.w, O.d, O.cl, O.npe⟩
theorem Sat.closure (S : Sat c cx se st r) {scope : Scope} (Y : ScOk se scope) : closureFor scope cx.env = pure (clOf cx.env.cells scope.names []) := by
  refine closure_eq fun y hy hf => ?_
  obtain ⟨h1, h2⟩ := Y.free y hy hf
  rcases h2 with ⟨k, h2⟩ | h2
  · exact ⟨_, (S.cells _ _ h2 h1).2⟩
  · obtain ⟨i, hi⟩ := List.mem_iff_getElem?.mp h2
    have hl := Nat.lt_of_lt_of_le (List.getElem?_eq_some_iff.mp hi).1 S.kvl
    obtain ⟨K, oK, z, a, _⟩ := S.kels i y.1 st.kvs[i] hi (by rw [List.getElem?_eq_getElem]) h1
    exact ⟨_, a⟩
theorem Sat.inner (S : Sat c cx se st r) {scope : Scope} (Y : ScOk se scope) {own : List Str} {vars : List (Option SV)} {C : Addr} {oC : Obj} {m₂ : Str → Option Value} {ex : Led} {r₀ : Re} {fz : List Nat} {pu : Bool} {h : Heap} {tk : Nat}
    (hC : LCg.NsObj oC m₂) (V : VarsOk r.ρ st.led.length own vars m₂) (F : Fr c.h₀ c.L h r.m) (N : News c.h₀ c.L h (ex ++ nws r.ρ r.ω cx.rest st.led.length)) (hm : (C, oC) ∈ ex)
    (off : ∀ k, k < st.led.length → ∀ q ∈ ex, r.ρ k ≠ q.1) (hf : ∀ k ∈ fz, k < st.led.length ∧ r.ω k = r₀.ω k ∧ r.ρ k = r₀.ρ k) :
    Sat c (cx.inner scope C oC m₂ ex r₀ fz pu) (se.inner scope own) { st with vars := vars } (r.heap h tk) := by
  refine ⟨F, ?_, S.obj, S.inj, ?_, hf, ⟨List.mem_append_left _ hm, hC, V⟩, ?_, ?_, S.kvl, S.npl⟩
  · intro p hp
    refine N p ?_
    rcases nws_mem.mp hp with h | h
    · exact List.mem_append_right _ (nws_mem.mpr (.inl h))
    · exact (List.mem_append.mp h).elim (List.mem_append_left _) fun h => List.mem_append_right _ (nws_mem.mpr (.inr h))
  · intro p hp k hk
    rcases List.mem_append.mp hp with h | h
    · exact Ne.symm (off k hk p h)
    · exact S.apart p h k hk
  · intro x k hx hl
    obtain ⟨h1, h2⟩ := rlb_cell (fun y hy _ => Y.cell y hy) hl
    obtain ⟨a, b⟩ := S.cells x k hx h2
    exact ⟨a, clOf_some b (.inl h1)⟩
  · intro i x v hi hv hl
    obtain ⟨h1, h2⟩ := rlb_cell (fun y hy _ => Y.cell y hy) hl
    obtain ⟨K, oK, y, a, b, d, e⟩ := S.kels i x v hi hv h2
    exact ⟨K, oK, y, clOf_some a (.inl h1), List.mem_append_right _ b, d, e⟩
/-- out of a block: the frame and the cells are as they were -/
theorem Sat.outer {cxi : Cx} {sei : SE} {sti : SSt} {r' : Re} (S : Sat c cx se st r) (Si : Sat c cxi sei sti r') (hx : Ext r.ρ st.led.length r'.ρ sti.led.length) (hm : r'.m = r.m) (hr : ∀ p ∈ cx.rest, p ∈ cxi.rest) (hf : ∀ k ∈ cx.md.fz, k ∈ cxi.md.fz ∧ cxi.ωf k = cx.ωf k ∧ cxi.ρf k = cx.ρf k) : Sat c cx se { st with led := sti.led } r' := by
  refine ⟨Si.F, ?_, Si.obj, Si.inj, fun p hp => Si.apart p (hr p hp), ?_, ?_, S.cellsMono hx, S.kelsMono hx, S.kvl, Nat.le_trans S.npl hx.le⟩
  · intro p hp
    refine Si.N p (nws_mem.mpr ?_)
    exact (nws_mem.mp hp).imp_right (hr p)
  · intro k hk
    obtain ⟨a, b⟩ := hf k hk
    obtain ⟨e1, e2, e3⟩ := Si.frz k a
    exact ⟨e1, e2.trans b.1, e3.trans b.2⟩
  · rw [hm]; exact S.frm.mono hx
noncomputable def TV (c : Act) (cx : Cx) (se : SE) (t : PySem.Expr) (st : SSt) (Q : Bool → SSt → Prop) : Prop :=
  ∀ r QQ E, Sat c cx se st r → (∀ b st' r', Q b st' → Ext r.ρ st.led.length r'.ρ st'.led.length → (r'.m = r.m ∧ (cx.md.pu = true → r'.h = r.h)) → Sat c cx se st' r' → QQ b (c.sh r')) → wpAny c.M c.A (isTrue t cx.env (eval t cx.env)) QQ E (c.sh r)
noncomputable def loopC (f : SV → List SO → (SV → List SO → Prop) → Prop) : List SV → List SV → List SO → (List SV → List SO → Prop) → Prop
  | [], ys, led, Q => Q ys led
  | x :: vs, ys, led, Q => f x led fun y led' => loopC f vs (ys ++ [y]) led' Q
noncomputable def loopT (f : SV → List SO → (Option SV → List SO → Prop) → Prop) : List SV → List SV → List SO → (List SV → List SO → Prop) → Prop
  | [], ys, led, Q => Q ys led
  | x :: vs, ys, led, Q => f x led fun y led' => (match y with | some y => loopT f vs (ys ++ [y]) led' Q | none => loopT f vs ys led' Q)
theorem off3x {I C D : Addr} {oI oC oD : Obj} {l : Led} (o : LCg.Off3 I C D l) : ∀ p ∈ l, ∀ q ∈ [(I, oI), (C, oC), (D, oD)], p.1 ≠ q.1 := fun p hp q hq => by
  have h := o.mem p hp
  rcases List.mem_cons.mp hq with rfl | hq
  · exact h.1
  rcases List.mem_cons.mp hq with rfl | hq
  · exact h.2.1
  rcases List.mem_cons.mp hq with rfl | hq
  · exact h.2.2
  · cases hq
open PyProof.Rows.LCg in
theorem turn_end {scope : Scope} {I C D : Addr} {oI oC oD : Obj} {m₂ m : Str → Option Value} {r₀ : Re} {fz : List Nat} {pu : Bool} {sei : SE} {sti : SSt} {r' : Re} {SS : Led → Prop} {rest : Value → Led → Prop} {y : Value} {h : Heap} {tk : Nat} {s : Shared} (hs : ∃ g u, s = { c.s with heap := g, toks := u })
    (Si : Sat c (cx.inner scope C oC m₂ [(I, oI), (C, oC), (D, oD)] r₀ fz pu) sei sti r') (hm : r'.m = m) (hSS : SS (nws r'.ρ r'.ω cx.rest sti.led.length)) (hr : rest y (nws r'.ρ r'.ω cx.rest sti.led.length))
    (hne : ∀ p ∈ cx.rest, p.1 ≠ I ∧ p.1 ≠ C ∧ p.1 ≠ D) : CompEnd c.h₀ c.L m { s with heap := h, toks := tk } I oI C oC D oD SS rest y (c.sh r') := by
  obtain ⟨g, u, rfl⟩ := hs
  refine ⟨r'.h, r'.tk, nws r'.ρ r'.ω cx.rest sti.led.length, rfl, hm ▸ Si.F, fun p hp => Si.N p (nws_mem.mpr ?_), Off3.of fun p hp => ?_, hSS, hr⟩
  · rcases List.mem_cons.mp hp with rfl | hp
    · exact .inr (.head _)
    rcases List.mem_cons.mp hp with rfl | hp
    · exact .inr (.tail _ (.head _))
    rcases List.mem_cons.mp hp with rfl | hp
    · exact .inr (.tail _ (.tail _ (.head _)))
    · exact (nws_mem.mp hp).imp_right fun h => .tail _ (.tail _ (.tail _ h))
  · rcases nws_mem.mp hp with ⟨k, hk, rfl⟩ | hp
    · exact ⟨Ne.symm (Si.apart _ (.head _) k hk), Ne.symm (Si.apart _ (.tail _ (.head _)) k hk), Ne.symm (Si.apart _ (.tail _ (.tail _ (.head _))) k hk)⟩
    · exact hne p hp
/-- what the turns of a comprehension keep -/
structure Turn (c : Act) (cx : Cx) (se : SE) (st : SSt) (r₀ : Re) (fz : List Nat) (all : List SV) (P : Nat → Value → Prop) (SS : Led → Prop) (s : Shared) (scope : Scope) (x : Str) : Prop where
  Y : ScOk se scope
  hs : ∃ h tk, s = { c.s with heap := h, toks := tk }
  S₀ : Sat c cx se st r₀
  hfz : ∀ k ∈ cx.md.fz, k ∈ fz
  hfz2 : ∀ k ∈ fz, k < st.led.length
  HP : ∀ i v sv, P i v → all[i]? = some sv → Rep r₀.ρ st.led.length sv v
  HS : ∀ (r' : Re) n', Ext r₀.ρ st.led.length r'.ρ n' → (∀ k ∈ fz, r'.ω k = r₀.ω k) → SS (nws r'.ρ r'.ω cx.rest n')
structure Mid (c : Act) (cx : Cx) (se : SE) (st : SSt) (r₀ : Re) (fz : List Nat) (led : List SO) (r : Re) : Prop where
  S : Sat c cx se { st with led := led } r
  hx : Ext r₀.ρ st.led.length r.ρ led.length
  hm : r.m = r₀.m
  hf : ∀ k ∈ fz, r.ω k = r₀.ω k
section
variable {r₀ : Re} {fz : List Nat} {pu : Bool} {all : List SV} {P : Nat → Value → Prop} {SS : Led → Prop} {s : Shared} {scope : Scope} {x : Str} {elt ct : PySem.Expr}
open PyProof.Rows.LCg in
theorem Turn.enter (T : Turn c cx se st r₀ fz all P SS s scope x) {led : List SO} {r : Re} (M : Mid c cx se st r₀ fz led r) {i : Nat} {sv : SV} (hi : all[i]? = some sv) {v : Value} {I C D : Addr} {oI oC oD : Obj} {m₂ : Str → Option Value} {h : Heap} {tk : Nat} (hP : P i v) (hC : NsObj oC m₂) (hv : m₂ x = some v) (F : Fr c.h₀ c.L h r₀.m)
    (N : News c.h₀ c.L h ((I, oI) :: (C, oC) :: (D, oD) :: nws r.ρ r.ω cx.rest led.length)) (off : Off3 I C D (nws r.ρ r.ω cx.rest led.length)) :
    Sat c (cx.inner scope C oC m₂ [(I, oI), (C, oC), (D, oD)] r₀ fz pu) (se.inner scope [x]) { st with vars := [some sv], led := led } (r.heap h tk) ∧ ∀ p ∈ cx.rest, p.1 ≠ I ∧ p.1 ≠ C ∧ p.1 ≠ D := by
  refine ⟨M.S.inner T.Y hC ?_ (M.hm ▸ F) N (.tail _ (.head _)) (fun k hk => off3x off _ (M.S.mem hk)) fun k hk => ⟨Nat.lt_of_lt_of_le (T.hfz2 k hk) M.hx.le, M.hf k hk, M.hx.eq k (T.hfz2 k hk)⟩, fun p hp => off.mem p (nws_mem.mpr (.inr hp))⟩
  intro j y w e1 e2
  match j with
  | 0 => cases e1; cases e2; exact ⟨v, hv, (T.HP i v sv hP hi).mono M.hx⟩
theorem Turn.leave (T : Turn c cx se st r₀ fz all P SS s scope x) {led : List SO} {r r' : Re} (M : Mid c cx se st r₀ fz led r) {I C D : Addr} {oI oC oD : Obj} {m₂ : Str → Option Value} {sei : SE} {sti : SSt}
    (Si : Sat c (cx.inner scope C oC m₂ [(I, oI), (C, oC), (D, oD)] r₀ fz pu) sei sti r') (hx : Ext r.ρ led.length r'.ρ sti.led.length) (hm : r'.m = r.m) : Mid c cx se st r₀ fz sti.led r' :=
  ⟨T.S₀.outer Si (M.hx.trans hx) (hm.trans M.hm) (fun p hp => List.mem_append_right _ hp) fun k hk => ⟨T.hfz k hk, (T.S₀.frz k hk).2⟩, M.hx.trans hx, hm.trans M.hm, fun k hk => (Si.frz k hk).2.1⟩
open PyProof.Rows.LCg in
theorem turnsU (T : Turn c cx se st r₀ fz all P SS s scope x) {f : SV → List SO → (SV → List SO → Prop) → Prop} {Qf : List SV → List SO → Prop} {Fin : List Value → Led → Prop}
    (hf : ∀ sv led K I oI C oC D oD m₂, f sv led K → EV c (cx.inner scope C oC m₂ [(I, oI), (C, oC), (D, oD)] r₀ fz pu) (se.inner scope [x]) (eval elt (cx.inner scope C oC m₂ [(I, oI), (C, oC), (D, oD)] r₀ fz pu).env) { st with vars := [some sv], led := led } fun y s2 => K y s2.led)
    (hFin : ∀ ys led r ws, Qf ys led → Mid c cx se st r₀ fz led r → RepL r.ρ led.length ys ws → Fin ws (nws r.ρ r.ω cx.rest led.length)) :
    ∀ (items : List SV) (i : Nat) (ys : List SV) (ws : List Value) (led : List SO) (r : Re), (∀ j : Nat, items[j]? = all[i + j]?) → loopC f items ys led Qf → Mid c cx se st r₀ fz led r → RepL r.ρ led.length ys ws →
      CompRest PySem.Challenge.rw_nn0256_01.row.prog c.w c.A c.h₀ c.L r₀.m cx.env elt x scope (clOf cx.env.cells scope.names []) s SS P Fin items.length i ws (nws r.ρ r.ω cx.rest led.length)
  | [], i, ys, ws, led, r, _, hl, M, R => hFin ys led r ws hl M R
  | sv :: vs, i, ys, ws, led, r, ha, hl, M, R => by
    refine CompRest.succ fun v I oI C oC D m₂ h tk E' hP hC hv F N off ne => ?_
    obtain ⟨g, u, hs⟩ := T.hs
    obtain ⟨Si, hne⟩ := T.enter M (i := i) (sv := sv) (ha 0).symm (tk := tk) hP hC hv F N off
    have e := hf sv led _ I oI C oC D (lst ws) m₂ hl _ (CompEnd c.h₀ c.L r₀.m { s with heap := h, toks := tk } I oI C oC D (lst ws) SS (fun y news' => CompRest PySem.Challenge.rw_nn0256_01.row.prog c.w c.A c.h₀ c.L r₀.m cx.env elt x scope (clOf cx.env.cells scope.names []) s SS P Fin vs.length (i + 1) (ws ++ [y]) news')) E' Si
      fun y st' r' yv hq hx he S' ry => by
        have M' := T.leave M S' hx he.1
        exact turn_end ⟨g, u, hs⟩ S' (he.1.trans M.hm) (T.HS _ _ M'.hx M'.hf) (turnsU T hf hFin vs (i + 1) (ys ++ [y]) (ws ++ [yv]) st'.led r' (fun j => by rw [Nat.add_assoc, Nat.add_comm 1 j, ← ha (j + 1)]; rfl) hq M' ((R.mono hx).append ⟨ry, trivial⟩)) hne
    subst hs
    exact e
open PyProof.Rows.LCg PyProof.Rows.LCt in
theorem turnsT (T : Turn c cx se st r₀ fz all P SS s scope x) {f : SV → List SO → (Option SV → List SO → Prop) → Prop} {Qf : List SV → List SO → Prop} {Fin : List Value → Led → Prop}
    (hf : ∀ sv led K I oI C oC D oD m₂, f sv led K → TV c (cx.inner scope C oC m₂ [(I, oI), (C, oC), (D, oD)] r₀ fz pu) (se.inner scope [x]) ct { st with vars := [some sv], led := led } fun b s2 =>
      (b = true → EV c (cx.inner scope C oC m₂ [(I, oI), (C, oC), (D, oD)] r₀ fz pu) (se.inner scope [x]) (eval elt (cx.inner scope C oC m₂ [(I, oI), (C, oC), (D, oD)] r₀ fz pu).env) s2 fun y s3 => K (some y) s3.led) ∧ (b = false → K none s2.led))
    (hFin : ∀ ys led r ws, Qf ys led → Mid c cx se st r₀ fz led r → RepL r.ρ led.length ys ws → Fin ws (nws r.ρ r.ω cx.rest led.length)) :
    ∀ (items : List SV) (i : Nat) (ys : List SV) (ws : List Value) (led : List SO) (r : Re), (∀ j : Nat, items[j]? = all[i + j]?) → loopT f items ys led Qf → Mid c cx se st r₀ fz led r → RepL r.ρ led.length ys ws →
      CompRestT PySem.Challenge.rw_nn0256_01.row.prog c.w c.A c.h₀ c.L r₀.m cx.env ct elt x scope (clOf cx.env.cells scope.names []) s SS P Fin items.length i ws (nws r.ρ r.ω cx.rest led.length)
  | [], i, ys, ws, led, r, _, hl, M, R => hFin ys led r ws hl M R
  | sv :: vs, i, ys, ws, led, r, ha, hl, M, R => by
    refine CompRestT.succ fun v I oI C oC D m₂ h tk E' hP hC hv F N off ne => ?_
    obtain ⟨g, u, hs⟩ := T.hs
    obtain ⟨Si, hne⟩ := T.enter M (i := i) (sv := sv) (ha 0).symm (tk := tk) hP hC hv F N off
    have hj : ∀ j : Nat, vs[j]? = all[i + 1 + j]? := fun j => by rw [Nat.add_assoc, Nat.add_comm 1 j, ← ha (j + 1)]; rfl
    have e := hf sv led _ I oI C oC D (lst ws) m₂ hl _ (fun ok s' => if ok = true then
        wpAny c.M c.A (eval elt (cx.inner scope C oC m₂ [(I, oI), (C, oC), (D, lst ws)] r₀ fz pu).env) (CompEnd c.h₀ c.L r₀.m { s with heap := h, toks := tk } I oI C oC D (lst ws) SS (fun y news' => CompRestT PySem.Challenge.rw_nn0256_01.row.prog c.w c.A c.h₀ c.L r₀.m cx.env ct elt x scope (clOf cx.env.cells scope.names []) s SS P Fin vs.length (i + 1) (ws ++ [y]) news')) E' s'
        else CompEnd c.h₀ c.L r₀.m { s with heap := h, toks := tk } I oI C oC D (lst ws) SS (fun _ news' => CompRestT PySem.Challenge.rw_nn0256_01.row.prog c.w c.A c.h₀ c.L r₀.m cx.env ct elt x scope (clOf cx.env.cells scope.names []) s SS P Fin vs.length (i + 1) ws news') Value.none s') E' Si
      fun b st' r' hq hx he S' => by
        cases b with
        | true =>
          rw [if_pos rfl]
          refine hq.1 rfl r' _ _ S' fun y st2 r2 yv hq2 hx2 he2 S2 ry => ?_
          have M' := T.leave M S2 (hx.trans hx2) (he2.1.trans he.1)
          exact turn_end ⟨g, u, hs⟩ S2 (he2.1.trans (he.1.trans M.hm)) (T.HS _ _ M'.hx M'.hf) (turnsT T hf hFin vs (i + 1) (ys ++ [y]) (ws ++ [yv]) st2.led r2 hj hq2 M' ((R.mono (hx.trans hx2)).append ⟨ry, trivial⟩)) hne
        | false =>
          rw [if_neg (by decide)]
          have M' := T.leave M S' hx he.1
          exact turn_end ⟨g, u, hs⟩ S' (he.1.trans M.hm) (T.HS _ _ M'.hx M'.hf) (turnsT T hf hFin vs (i + 1) ys ws st'.led r' hj (hq.2 rfl) M' (R.mono hx)) hne
    subst hs
    exact e
end
theorem evl_nil {pos : Pos} {env : Env} {Q : List SV → SSt → Prop} (h : Q [] st) : EVL c cx se (spliced (backTo pos (starEach [] env))) st Q := by
  intro r QQ E S K
  exact args_nil (K _ _ r _ h Ext.refl ⟨rfl, fun _ => rfl⟩ S trivial)
theorem evl_cons {pos : Pos} {env : Env} {e : PySem.Expr} {l : List PySem.Expr} {Q1 : SV → SSt → Prop} {Q : List SV → SSt → Prop} (pe : plainE e = true) (h1 : EV c cx se (eval e env) st Q1) (h2 : ∀ a st1, Q1 a st1 → EVL c cx se (spliced (backTo pos (starEach l env))) st1 fun vs st2 => Q (a :: vs) st2) : EVL c cx se (spliced (backTo pos (starEach (e :: l) env))) st Q := by
  intro r QQ E S K
  refine args_cons (h1 r _ _ S fun a st1 r1 x hq hx he S1 ra => h2 a st1 hq r1 _ _ S1 fun vs st2 r2 xs hq2 hx2 he2 S2 rs => ?_) (star_eq pe)
  exact K _ _ r2 _ hq2 (hx.trans hx2) ⟨he2.1.trans he.1, fun p => (he2.2 p).trans (he.2 p)⟩ S2 ⟨ra.mono hx2, rs⟩
theorem callW {f : Value} {e : PySem.Expr} {l : List PySem.Expr} {env : Env} {pos : Pos} {first : List Value} {QQ E : Value → Shared → Prop} {s : Shared} (hf : (∃ id, f = .builtin id) ∨ (first = [] ∧ ∃ T, f = .type T)) (pe : plainL (e :: l) = true) (h : wpAny c.M c.A (spliced (backTo pos (starEach (e :: l) env))) (fun vs s₁ => wpAny c.M c.A (call f (first ++ vs)) QQ E s₁) E s) :
    wpAny c.M c.A (callWith pos f first (backTo pos (starEach (e :: l) env)) []) QQ E s := by
  have pe' := Bool.and_eq_true_iff.mp pe
  rcases hf with ⟨id, rfl⟩ | ⟨rfl, T, rfl⟩
  · exact PyProof.Rows.callWith_method1 h (star_eq pe'.1) (anyL pe'.2)
  · exact PyProof.Rows.callWith_type1 h (star_eq pe'.1) (anyL pe'.2)
theorem Bfn.shape (f : Bfn) {first : List Value} (h : first = []) : (∃ id, f.val = .builtin id) ∨ (first = [] ∧ ∃ T, f.val = .type T) := by
  cases f <;> first | exact .inl ⟨_, rfl⟩ | exact .inr ⟨h, _, rfl⟩
theorem wp_bfn (O : CxOk c cx se) (f : Bfn) {e : PySem.Expr} {pos pos' : Pos} (hk : se.kinds.lookup f.nm = some .globalImplicit) (pe : plainE e = true) {Q1 : SV → SSt → Prop} (h1 : EV c cx se (eval e cx.env) st Q1) {QQ E : Value → Shared → Prop} (S : Sat c cx se st r)
    (h2 : ∀ a st1 r1 x, Q1 a st1 → Ext r.ρ st.led.length r1.ρ st1.led.length → (r1.m = r.m ∧ (cx.md.pu = true → r1.h = r.h)) → Sat c cx se st1 r1 → Rep r1.ρ st1.led.length a x → wpAny c.M c.A (call f.val [x]) QQ E (c.sh r1)) :
    wpAny c.M c.A (eval (.Call (.Name f.nm pos') [e] [] pos) cx.env) QQ E (c.sh r) := by
  have H : ∀ nm, (wpAny c.M c.A (eval (.Name nm pos') cx.env) (fun f s₁ => wpAny c.M c.A (callWith pos f [] (backTo pos (starEach [e] cx.env)) []) QQ E s₁) E (c.sh r)) → wpAny c.M c.A (eval (.Call (.Name nm pos') [e] [] pos) cx.env) QQ E (c.sh r) := fun nm h => Call_ h rfl
  refine H _ (name_bfn O f hk S (callW (f.shape rfl) (by simp [plainL, pe]) (args_cons (h1 r _ _ S fun a st1 r1 x hq hx he S1 ra => args_nil (h2 a st1 r1 x hq hx he S1 ra)) (star_eq pe))))
theorem ev_max2 (O : CxOk c cx se) {e e' : PySem.Expr} {pos pos' : Pos} (hk : se.kinds.lookup ("max" : Str) = some .globalImplicit) (pe : plainE e = true) (pe' : plainE e' = true) {Q1 : SV → SSt → Prop} {Q2 : SV → SV → SSt → Prop} {Q : SV → SSt → Prop} (h1 : EV c cx se (eval e cx.env) st Q1) (h2 : ∀ a st1, Q1 a st1 → EV c cx se (eval e' cx.env) st1 (Q2 a))
    (h3 : ∀ a b st2, Q2 a b st2 → vmax2 cx.md a b st2 Q) : EV c cx se (eval (.Call (.Name "max" pos') [e, e'] [] pos) cx.env) st Q := by
  intro r QQ E S K
  refine Call_ (name_bfn O .max hk S (callW (.inl ⟨_, rfl⟩) (by simp [plainL, pe, pe']) ?_)) rfl
  refine args_cons (h1 r _ _ S fun a st1 r1 x hq hx he S1 ra => ?_) (star_eq pe)
  refine args_cons (h2 a st1 hq r1 _ _ S1 fun b st2 r2 y hq2 hx2 he2 S2 rb => ?_) (star_eq pe')
  exact args_nil (vmax2_ok (h3 a b st2 hq2) r2 _ _ x y S2 (ra.mono hx2) rb ((K.at hx he).at hx2 he2))
noncomputable def rngL (n : Nat) : List SV := (List.range n).map fun i => .int (Int.ofNat i)
theorem rng_ok : ∀ n : Nat, n ≤ 64 → PySem.Builtin.Range.small 0 (n : Int) 1 = true ∧ PySem.Builtin.Range.rangeSize 0 (n : Int) 1 = (n : Int) := by
  intro n h
  have : ∀ n : Fin 65, PySem.Builtin.Range.small 0 (n.val : Int) 1 = true ∧ PySem.Builtin.Range.rangeSize 0 (n.val : Int) 1 = (n.val : Int) := by decide +kernel
  exact this ⟨n, Nat.lt_succ_of_le h⟩
theorem off1 {D : Addr} : ∀ {l : Led}, LCg.Off1 D l → ∀ p ∈ l, p.1 ≠ D
  | [], _, _, h => nomatch h
  | _ :: _, x, p, h => by
    rcases List.mem_cons.mp h with rfl | h
    · exact x.1
    · exact off1 x.2 p h
theorem Mid.fin {r₀ : Re} {fz : List Nat} {led : List SO} {Q : SV → SSt → Prop} {QQ : Value → Shared → Prop} (hu : cx.md.pu = false) (K : KQ c cx se st r₀ Q QQ) {ys : List SV} {ws : List Value} (M : Mid c cx se st r₀ fz led r) (R : RepL r.ρ led.length ys ws) (h : Q (.ref led.length) ({ st with led := led }.push (.lst ys))) {s : Shared} (hs : ∃ h tk, s = { c.s with heap := h, toks := tk }) : LCg.FinE c.h₀ c.L r₀.m s QQ ws (nws r.ρ r.ω cx.rest led.length) := by
  obtain ⟨g, u, rfl⟩ := hs
  intro D h' tk F N off
  exact (K.at M.hx ⟨M.hm, fun p => by rw [hu] at p; cases p⟩).new hu M.S h ⟨ws, ws.length, rfl, R⟩ (M.hm ▸ F) N (off1 off)
theorem Mid.start (S : Sat c cx se st r) {fz : List Nat} : Mid c cx se st r fz st.led r := ⟨S, Ext.refl, rfl, fun _ _ => rfl⟩
theorem Turn.list (S : Sat c cx se st r) {k : Nat} {vs : List SV} {ws : List Value} {n : Nat} (hk : k < st.led.length) (e : r.ω k = listOf ws.toArray n) (R : RepL r.ρ st.led.length vs ws) {s : Shared} (hs : ∃ h tk, s = { c.s with heap := h, toks := tk }) {scope : Scope} (Y : ScOk se scope) {x : Str} :
    Turn c cx se st r (k :: cx.md.fz) vs (fun i v => ws.toArray[i]? = some v) (LCg.SrcAt c.h₀ (r.ρ k) ws.toArray) s scope x := by
  refine ⟨Y, hs, S, fun j hj => .tail _ hj, fun j hj => ?_, fun i v sv hp hi => ?_, fun r' n' hx hf => ?_⟩
  · rcases List.mem_cons.mp hj with rfl | hj
    · exact hk
    · exact (S.frz j hj).1
  · obtain ⟨b, e1, rb⟩ := R.get hi
    have : some b = some v := by rw [← e1, ← hp]; simp
    cases this; exact rb
  · refine .inr ⟨r'.ω k, nws_mem.mpr (.inl ⟨k, Nat.lt_of_lt_of_le hk hx.le, by rw [hx.eq k hk]⟩), ?_, n, ?_⟩
    · rw [hf k (.head _), e]
    · rw [hf k (.head _), e]
theorem Turn.rng (S : Sat c cx se st r) {n : Nat} {s : Shared} (hs : ∃ h tk, s = { c.s with heap := h, toks := tk }) {scope : Scope} (Y : ScOk se scope) {x : Str} :
    Turn c cx se st r cx.md.fz (rngL n) (fun i v => ∃ t, v = .int (0 + (i : Int)) t) (fun _ => True) s scope x := by
  refine ⟨Y, hs, S, fun j hj => hj, fun j hj => (S.frz j hj).1, fun i v sv ⟨t, hv⟩ hi => ?_, fun _ _ _ _ => trivial⟩
  unfold rngL at hi
  rw [List.getElem?_map] at hi
  cases e : (List.range n)[i]? with
  | none => rw [e] at hi; cases hi
  | some j =>
    rw [e] at hi; cases hi
    have := (List.getElem?_eq_some_iff.mp e).2
    rw [List.getElem_range] at this
    subst this
    exact ⟨t, by rw [hv, Int.zero_add]; rfl⟩
noncomputable def vsrc (d : Md) (v : SV) (st : SSt) (K : Md → List SV → Prop) : Prop := d.may <| v.rf fun k => st.lst k fun vs => few vs.length (K { d with fz := k :: d.fz } vs)
noncomputable def vrng (d : Md) (v : SV) (K : List SV → Prop) : Prop := d.may <| v.i fun j => few j.toNat (K (rngL j.toNat))
noncomputable def SSt.fin (st : SSt) (Q : SV → SSt → Prop) (ys : List SV) (led : List SO) : Prop := Q (.ref led.length) ({ st with led := led }.push (.lst ys))
end
section
variable {c : Act} {cx : Cx} {se : SE} {st : SSt} {r : Re}
/-- state after state: evaluated -/
noncomputable def frcN : Nat → (Nat → Prop) → Prop
  | 0, K => K 0
  | n + 1, K => frcN n fun m => K (Nat.succ m)
noncomputable def frcV (v : SV) (K : SV → Prop) : Prop := match v with | .ref k => frcN k fun k => K (.ref k) | .int i => K (.int i) | .bool b => K (.bool b) | .none => K .none | .base a => K (.base a)
noncomputable def frcVs : List SV → (List SV → Prop) → Prop
  | [], K => K []
  | v :: l, K => frcV v fun v => frcVs l fun l => K (v :: l)
noncomputable def frcOV (v : Option SV) (K : Option SV → Prop) : Prop := match v with | none => K none | some v => frcV v fun v => K (some v)
noncomputable def frcO (o : SO) (K : SO → Prop) : Prop := match o with | .lst l => frcVs l fun l => K (.lst l) | .tup l => frcVs l fun l => K (.tup l) | .cell v => frcOV v fun v => K (.cell v) | .isq l => K (.isq l)
noncomputable def frcLd : List SO → (List SO → Prop) → Prop
  | [], K => K []
  | o :: l, K => frcO o fun o => frcLd l fun l => K (o :: l)
noncomputable def frcVr : List (Option SV) → (List (Option SV) → Prop) → Prop
  | [], K => K []
  | v :: l, K => frcOV v fun v => frcVr l fun l => K (v :: l)
noncomputable def frcS (s : SSt) (K : SSt → Prop) : Prop := frcVr s.vars fun vars => frcVs s.kvs fun kvs => frcLd s.led fun led => K ⟨vars, kvs, led⟩
theorem frcN_ok : ∀ {n : Nat} {K : Nat → Prop}, frcN n K → K n
  | 0, _, h => h
  | n + 1, K, h => frcN_ok (n := n) (K := fun m => K (Nat.succ m)) h
theorem frcV_ok {v : SV} {K : SV → Prop} (h : frcV v K) : K v := by
  cases v with
  | ref k => exact frcN_ok (K := fun k => K (.ref k)) h
  | _ => exact h
theorem frcVs_ok : ∀ {l : List SV} {K : List SV → Prop}, frcVs l K → K l
  | [], _, h => h
  | _ :: l, _, h => frcVs_ok (l := l) (frcV_ok h)
theorem frcOV_ok {v : Option SV} {K : Option SV → Prop} (h : frcOV v K) : K v := by cases v with | none => exact h | some v => exact frcV_ok (K := fun v => K (some v)) h
theorem frcO_ok {o : SO} {K : SO → Prop} (h : frcO o K) : K o := by
  cases o with
  | lst l => exact frcVs_ok h
  | tup l => exact frcVs_ok h
  | cell v => exact frcOV_ok (K := fun v => K (.cell v)) h
  | isq l => exact h
theorem frcLd_ok : ∀ {l : List SO} {K : List SO → Prop}, frcLd l K → K l
  | [], _, h => h
  | _ :: l, _, h => frcLd_ok (l := l) (frcO_ok h)
theorem frcVr_ok : ∀ {l : List (Option SV)} {K : List (Option SV) → Prop}, frcVr l K → K l
  | [], _, h => h
  | _ :: l, _, h => frcVr_ok (l := l) (frcOV_ok h)
theorem frcS_ok {s : SSt} {K : SSt → Prop} (h : frcS s K) : K s := frcLd_ok (frcVs_ok (frcVr_ok h))
noncomputable def noSet : PySem.Expr → Bool
  | .Set .. => false
  | _ => true
theorem noSet_ok {e : PySem.Expr} {env : Env} (h : noSet e = true) : ∀ x, foldedSetIterable e env x = pure x := by
  intro x
  cases e <;> first | rfl | cases h
abbrev Elt : Type := Md → SSt → SV → List SO → (SV → List SO → Prop) → Prop
abbrev EltT : Type := Md → SSt → SV → List SO → (Option SV → List SO → Prop) → Prop
noncomputable def EltOk (c : Act) (se : SE) (elt : PySem.Expr) (f : Elt) : Prop := ∀ (cx : Cx) (st1 : SSt) sv led K, CxOk c cx se → f cx.md st1 sv led K → EV c cx se (eval elt cx.env) { st1 with vars := [some sv], led := led } fun y s2 => K y s2.led
noncomputable def EltTOk (c : Act) (se : SE) (ct elt : PySem.Expr) (f : EltT) : Prop := ∀ (cx : Cx) (st1 : SSt) sv led K, CxOk c cx se → f cx.md st1 sv led K → TV c cx se ct { st1 with vars := [some sv], led := led } fun b s2 =>
  (b = true → EV c cx se (eval elt cx.env) s2 fun y s3 => K (some y) s3.led) ∧ (b = false → K none s2.led)
open PyProof.Rows.LCg in
theorem src_cL (O : CxOk c cx se) {elt : PySem.Expr} {x : Str} {scope : Scope} {f : Elt} (Y : ScOk se scope) (hf : EltOk c (se.inner scope [x]) elt f) (S1 : Sat c cx se st r) {v : SV} {xv : Value} (rv : Rep r.ρ st.led.length v xv) {G : List SV → List SO → Prop}
    (h : vsrc cx.md v st fun d vs => loopC (f d st) vs [] st.led G) {Fin : Shared → List Value → Led → Prop} (hF : ∀ g fz ys led r' ws, cx.md.pu = false → G ys led → Mid c cx se st r fz led r' → RepL r'.ρ led.length ys ws → Fin { c.s with heap := g, toks := r.tk } ws (nws r'.ρ r'.ω cx.rest led.length)) :
    CompSrc PySem.Challenge.rw_nn0256_01.row.prog c.w c.A c.h₀ c.L r.m cx.env elt x scope (clOf cx.env.cells scope.names []) Fin xv (c.sh r) := by
  obtain ⟨hu, h⟩ := Md.may_ok h
  obtain ⟨k, rfl, h⟩ := SV.rf_ok h
  obtain ⟨_, rfl⟩ := rv
  obtain ⟨vs, h, hk, ws, n, e, _, R⟩ := S1.lst h
  obtain ⟨hz, h⟩ := few_ok h
  refine CompSrc.ledger (k := n) rfl S1.F S1.N (by have z := S1.mem hk; rw [e] at z; exact z) (R.size ▸ le64 hz) fun g => ?_
  rw [R.size]
  exact turnsU (pu := cx.md.pu) (Turn.list S1 hk e R ⟨g, r.tk, rfl⟩ Y) (fun sv led K' I oI C oC D oD m₂ hh => hf _ st sv led K' (O.inner Y.kind (by simp)) hh)
    (fun ys led r' ws' hfin M R' => hF g _ ys led r' ws' hu hfin M R') vs 0 [] [] st.led r (fun j => by rw [Nat.zero_add]) h (Mid.start S1) trivial
open PyProof.Rows.LCg in
theorem ev_cL (O : CxOk c cx se) {elt src : PySem.Expr} {x : Str} {px pos : Pos} {scope : Scope} {f : Elt} {Q1 Q : SV → SSt → Prop} (Y : ScOk se scope) (hx : scope.names.lookup x = some .local) (hs : noSet src = true) (hf : EltOk c (se.inner scope [x]) elt f) (h1 : EV c cx se (eval src cx.env) st Q1)
    (h2 : ∀ v st1, Q1 v st1 → vsrc cx.md v st1 fun d vs => loopC (f d st1) vs [] st1.led (st1.fin Q)) : EV c cx se (eval (.ListComp elt [⟨.Name x px, src, [], 0⟩] scope pos) cx.env) st Q := by
  intro r QQ E S K
  refine ListComp_U S.F (S.closure Y) Y.cell Y.kind Y.names hx (h1 r _ E S fun v st1 r1 xv hq hx1 he S1 rv => ?_) (noSet_ok hs)
  rw [← he.1]
  exact src_cL O Y hf S1 rv (h2 v st1 hq) fun g fz ys led r' ws hu hfin M R' => M.fin hu (K.at hx1 he) R' hfin ⟨g, r1.tk, rfl⟩
open PyProof.Rows.LCg PyProof.Rows.LCt in
theorem ev_cT (O : CxOk c cx se) {ct elt src : PySem.Expr} {x : Str} {px pos : Pos} {scope : Scope} {f : EltT} {Q1 Q : SV → SSt → Prop} (Y : ScOk se scope) (hx : scope.names.lookup x = some .local) (hs : noSet src = true) (hf : EltTOk c (se.inner scope [x]) ct elt f) (h1 : EV c cx se (eval src cx.env) st Q1)
    (h2 : ∀ v st1, Q1 v st1 → vsrc cx.md v st1 fun d vs => loopT (f d st1) vs [] st1.led (st1.fin Q)) : EV c cx se (eval (.ListComp elt [⟨.Name x px, src, [ct], 0⟩] scope pos) cx.env) st Q := by
  intro r QQ E S K
  refine ListComp_T S.F (S.closure Y) Y.cell Y.kind Y.names hx (h1 r _ E S fun v st1 r1 xv hq hx1 he S1 rv => ?_) (noSet_ok hs)
  obtain ⟨hu, h⟩ := Md.may_ok (h2 v st1 hq)
  obtain ⟨k, rfl, h⟩ := SV.rf_ok h
  obtain ⟨_, rfl⟩ := rv
  obtain ⟨vs, h, hk, ws, n, e, _, R⟩ := S1.lst h
  obtain ⟨hz, h⟩ := few_ok h
  rw [← he.1]
  refine CompSrcT.ledger (k := n) rfl S1.F S1.N (by have z := S1.mem hk; rw [e] at z; exact z) (R.size ▸ le64 hz) fun g => ?_
  rw [R.size]
  exact turnsT (pu := cx.md.pu) (Turn.list S1 hk e R ⟨g, r1.tk, rfl⟩ Y) (fun sv led K' I oI C oC D oD m₂ hh => hf _ st1 sv led K' (O.inner Y.kind (by simp)) hh)
    (fun ys led r' ws' hfin M R' => M.fin hu (K.at hx1 he) R' hfin ⟨g, r1.tk, rfl⟩) vs 0 [] [] st1.led r1 (fun j => by rw [Nat.zero_add]) h (Mid.start S1) trivial
noncomputable def natI (i : Int) (K : Nat → Prop) : Prop := match i with | .ofNat n => K n | .negSucc _ => False
theorem natI_ok {i : Int} {K : Nat → Prop} (h : natI i K) : ∃ n : Nat, i = (n : Int) ∧ K n := by cases i <;> first | exact ⟨_, rfl, h⟩ | exact h.elim
noncomputable def vrg (d : Md) (v : SV) (K : Nat → Prop) : Prop := d.may <| v.i fun j => natI j fun n => few n (K n)
/-- range(n): the range object, and what stands then -/
theorem wp_range (O : CxOk c cx se) {e : PySem.Expr} {pos pos' : Pos} (hk : se.kinds.lookup Bfn.range.nm = some .globalImplicit) (pe : plainE e = true) {Q1 : SV → SSt → Prop} (h1 : EV c cx se (eval e cx.env) st Q1) {Z : SSt → Nat → Prop} (h2 : ∀ v st1, Q1 v st1 → vrg cx.md v (Z st1)) {QQ E : Value → Shared → Prop} (S : Sat c cx se st r)
    (h : ∀ st1 r1 a n t u v, cx.md.pu = false → Z st1 n → Ext r.ρ st.led.length r1.ρ st1.led.length → r1.m = r.m → Sat c cx se st1 r1 → IsRange r1.h a 0 (n : Int) 1 t u v → PySem.Builtin.Range.small 0 (n : Int) 1 = true → PySem.Builtin.Range.rangeSize 0 (n : Int) 1 = (n : Int) → n ≤ sizeLine → QQ (.ref a) (c.sh r1)) :
    wpAny c.M c.A (eval (.Call (.Name Bfn.range.nm pos') [e] [] pos) cx.env) QQ E (c.sh r) := by
  refine wp_bfn O .range hk pe h1 S fun v st1 r1 x hq hx he S1 ra => ?_
  obtain ⟨hu, h3⟩ := Md.may_ok (h2 v st1 hq)
  obtain ⟨j, rfl, h3⟩ := SV.i_ok h3
  obtain ⟨n, rfl, h3⟩ := natI_ok h3
  obtain ⟨hz, h3⟩ := few_ok h3
  obtain ⟨t, rfl⟩ := ra
  exact range1_rows (s := c.sh r1) S1.F S1.N fun h' tk t₁ u₁ v₁ hr F N _ => h st1 (r1.heap h' tk) _ n t₁ u₁ v₁ hu h3 hx he.1 (S1.heap F N) hr (rng_ok n hz).1 (rng_ok n hz).2 (le64 hz)
theorem rngL_len (n : Nat) : (rngL n).length = n := by simp [rngL]
open PyProof.Rows.LCg in
theorem src_cR (O : CxOk c cx se) {elt : PySem.Expr} {x : Str} {scope : Scope} {f : Elt} (Y : ScOk se scope) (hf : EltOk c (se.inner scope [x]) elt f) (S1 : Sat c cx se st r) {a : Addr} {n : Nat} {t u v : Tok} (hr : IsRange r.h a 0 (n : Int) 1 t u v) (hs : PySem.Builtin.Range.small 0 (n : Int) 1 = true) (hn : PySem.Builtin.Range.rangeSize 0 (n : Int) 1 = (n : Int)) (hz : n ≤ sizeLine) {G : List SV → List SO → Prop}
    (h : loopC (f cx.md st) (rngL n) [] st.led G) {Fin : Shared → List Value → Led → Prop} (hF : ∀ g fz ys led r' ws, G ys led → Mid c cx se st r fz led r' → RepL r'.ρ led.length ys ws → Fin { c.s with heap := g, toks := r.tk } ws (nws r'.ρ r'.ω cx.rest led.length)) :
    CompSrc PySem.Challenge.rw_nn0256_01.row.prog c.w c.A c.h₀ c.L r.m cx.env elt x scope (clOf cx.env.cells scope.names []) Fin (.ref a) (c.sh r) := by
  refine CompSrc.range (n := n) rfl S1.F S1.N hr hs hn hz fun g => ?_
  have T := turnsU (pu := cx.md.pu) (Turn.rng S1 (n := n) (s := { c.s with heap := g, toks := r.tk }) ⟨g, r.tk, rfl⟩ Y) (elt := elt) (f := f cx.md st) (fun sv led K' I oI C oC D oD m₂ hh => hf _ st sv led K' (O.inner Y.kind (by simp)) hh)
    (fun ys led r' ws' hfin M R' => hF g _ ys led r' ws' hfin M R') (rngL n) 0 [] [] st.led r (fun j => by rw [Nat.zero_add]) h (Mid.start S1) trivial
  rw [rngL_len] at T
  exact T
open PyProof.Rows.LCg in
theorem ev_cR (O : CxOk c cx se) {elt e : PySem.Expr} {x : Str} {px pos pos' pos'' : Pos} {scope : Scope} {f : Elt} {Q1 Q : SV → SSt → Prop} (Y : ScOk se scope) (hx : scope.names.lookup x = some .local) (hk : se.kinds.lookup Bfn.range.nm = some .globalImplicit) (pe : plainE e = true) (hf : EltOk c (se.inner scope [x]) elt f) (h1 : EV c cx se (eval e cx.env) st Q1)
    (h2 : ∀ v st1, Q1 v st1 → vrg cx.md v fun n => loopC (f cx.md st1) (rngL n) [] st1.led (st1.fin Q)) : EV c cx se (eval (.ListComp elt [⟨.Name x px, .Call (.Name Bfn.range.nm pos') [e] [] pos'', [], 0⟩] scope pos) cx.env) st Q := by
  intro r QQ E S K
  refine ListComp_U S.F (S.closure Y) Y.cell Y.kind Y.names hx (wp_range O hk pe h1 h2 S fun st1 r1 a n t u v hu h hx1 hm S1 hr hs hn hz => ?_) fun _ => rfl
  rw [← hm]
  exact src_cR O Y hf S1 hr hs hn hz h fun g fz ys led r' ws hfin M R' => M.fin hu (K.at hx1 ⟨hm, fun p => by rw [hu] at p; cases p⟩) R' hfin ⟨g, r1.tk, rfl⟩
open PyProof.Rows.LCg PyProof.Rows.LCt in
theorem ev_cRT (O : CxOk c cx se) {ct elt e : PySem.Expr} {x : Str} {px pos pos' pos'' : Pos} {scope : Scope} {f : EltT} {Q1 Q : SV → SSt → Prop} (Y : ScOk se scope) (hx : scope.names.lookup x = some .local) (hk : se.kinds.lookup Bfn.range.nm = some .globalImplicit) (pe : plainE e = true) (hf : EltTOk c (se.inner scope [x]) ct elt f) (h1 : EV c cx se (eval e cx.env) st Q1)
    (h2 : ∀ v st1, Q1 v st1 → vrg cx.md v fun n => loopT (f cx.md st1) (rngL n) [] st1.led (st1.fin Q)) : EV c cx se (eval (.ListComp elt [⟨.Name x px, .Call (.Name Bfn.range.nm pos') [e] [] pos'', [ct], 0⟩] scope pos) cx.env) st Q := by
  intro r QQ E S K
  refine ListComp_T S.F (S.closure Y) Y.cell Y.kind Y.names hx (wp_range O hk pe h1 h2 S fun st1 r1 a n t u v hu h hx1 hm S1 hr hs hn hz => ?_) fun _ => rfl
  rw [← hm]
  refine CompSrcT.range (n := n) rfl S1.F S1.N hr hs hn hz fun g => ?_
  have T := turnsT (pu := cx.md.pu) (Turn.rng S1 (n := n) (s := { c.s with heap := g, toks := r1.tk }) ⟨g, r1.tk, rfl⟩ Y) (elt := elt) (ct := ct) (f := f cx.md st1) (fun sv led K' I oI C oC D oD m₂ hh => hf _ st1 sv led K' (O.inner Y.kind (by simp)) hh)
    (fun ys led r' ws' hfin M R' => M.fin hu (K.at hx1 ⟨hm, fun p => by rw [hu] at p; cases p⟩) R' hfin ⟨g, r1.tk, rfl⟩) (rngL n) 0 [] [] st1.led r1 (fun j => by rw [Nat.zero_add]) h (Mid.start S1) trivial
  rw [rngL_len] at T
  exact T
/-- enumerate: an element of pure ints, the results named beforehand -/
noncomputable def allE (f : Nat → SV → (SV → Prop) → Prop) : Nat → List SV → List Int → Prop
  | _, [], [] => True
  | i, x :: vs, g :: gs => f i x (fun y => y = SV.int g) ∧ allE f (i + 1) vs gs
  | _, _, _ => False
inductive VEnum (f : Nat → SV → (SV → Prop) → Prop) (vs : List SV) (K : List Int → Prop) : Prop
  | mk (gs : List Int) (a : allE f 0 vs gs) (k : K gs)
theorem allE_ok {f : Nat → SV → (SV → Prop) → Prop} : ∀ {vs : List SV} {gs : List Int} {i : Nat}, allE f i vs gs → vs.length = gs.length ∧ ∀ (j : Nat) x, vs[j]? = some x → ∃ g, gs[j]? = some g ∧ f (i + j) x fun y => y = SV.int g
  | [], [], _, _ => ⟨rfl, fun _ _ h => nomatch h⟩
  | x :: vs, g :: gs, i, ⟨h, t⟩ => by
    obtain ⟨a, b⟩ := allE_ok t
    refine ⟨congrArg (· + 1) a, fun j y hj => ?_⟩
    match j with
    | 0 => cases hj; exact ⟨g, rfl, h⟩
    | j + 1 =>
      obtain ⟨g', e, q⟩ := b j y (by simpa using hj)
      exact ⟨g', by simpa using e, by rw [← Nat.add_assoc, Nat.add_right_comm]; exact q⟩
theorem repI {ρ : Nat → Addr} {n : Nat} {gs : List Int} : ∀ {ws : List Value}, ws.length = gs.length → (∀ (i : Nat) (z : Value), ws[i]? = some z → ∃ g, gs[i]? = some g ∧ ∃ t, z = Value.int g t) → RepL ρ n (gs.map SV.int) ws := by
  induction gs with
  | nil => intro ws hl _; cases ws <;> first | trivial | cases hl
  | cons g gs ih =>
    intro ws hl h
    cases ws with
    | nil => cases hl
    | cons w ws =>
      refine ⟨?_, ih (Nat.succ.inj hl) fun i z hz => ?_⟩
      · obtain ⟨g', e, t, rfl⟩ := h 0 w rfl
        cases e; exact ⟨t, rfl⟩
      · obtain ⟨g', e, t⟩ := h (i + 1) z (by simpa using hz)
        exact ⟨g', by simpa using e, t⟩
open PyProof.Rows.LCg in
theorem ev_cE (O : CxOk c cx se) {elt src : PySem.Expr} {x y : Str} {px py tp pos pos' pos'' : Pos} {k : Nat} {scope : Scope} {f : Md → SSt → Nat → SV → (SV → Prop) → Prop} {Q1 Q : SV → SSt → Prop} (Y : ScOk se scope) (hx : scope.names.lookup x = some .local) (hy : scope.names.lookup y = some .local) (hxy : x ≠ y) (hk : se.kinds.lookup Bfn.enum.nm = some .globalImplicit) (pe : plainE src = true)
    (hf : ∀ (c : Act) (cx : Cx) (st1 : SSt) i sv K, CxOk c cx (se.inner scope [x, y]) → f cx.md st1 i sv K → EV c cx (se.inner scope [x, y]) (eval elt cx.env) { st1 with vars := [some (.int (Int.ofNat i)), some sv] } fun y _ => K y) (h1 : EV c cx se (eval src cx.env) st Q1)
    (h2 : ∀ v st1, Q1 v st1 → vsrc cx.md v st1 fun d vs => VEnum (f { cx.md with pu := true } st1) vs fun gs => Q (.ref st1.led.length) (st1.push (.lst (gs.map SV.int)))) :
    EV c cx se (eval (.ListComp elt [⟨.Tuple [.Name x px, .Name y py] k tp, .Call (.Name Bfn.enum.nm pos') [src] [] pos'', [], 0⟩] scope pos) cx.env) st Q := by
  intro r QQ E S K
  refine comp_enum S.F (S.closure Y) Y.cell Y.kind Y.names hx hy hxy (wp_bfn O .enum hk pe h1 S fun v st1 r1 xv hq hx1 he S1 rv => ?_) fun _ => rfl
  obtain ⟨hu, h⟩ := Md.may_ok (h2 v st1 hq)
  obtain ⟨k, rfl, h⟩ := SV.rf_ok h
  obtain ⟨_, rfl⟩ := rv
  obtain ⟨vs, h, hkn, ws, n, e, _, R⟩ := S1.lst h
  obtain ⟨hz, gs, h3, h⟩ := few_ok h
  obtain ⟨hl, hg⟩ := allE_ok h3
  rw [← he.1]
  refine enum_src (s := c.sh r1) (its := ws) (n := n) (fun i z => ∃ g, gs[i]? = some g ∧ ∃ t, z = Value.int g t) rfl S1.F S1.N (by have z := S1.mem hkn; rw [e] at z; exact z) (by rw [← R.length]; exact le64 hz) ?_ ?_
  · intro i v t C oC m₂ s E' Q' hi hC hx' hy' F N hQ
    obtain ⟨b, e1⟩ : ∃ b, vs[i]? = some b := by
      have := (List.getElem?_eq_some_iff.mp (by simpa using hi : ws[i]? = some v)).1
      rw [← R.length] at this
      exact ⟨_, List.getElem?_eq_getElem this⟩
    obtain ⟨v', e2, rb⟩ := R.get e1
    have e3 : v' = v := Option.some.inj (e2.symm.trans (by simpa using hi))
    subst e3
    obtain ⟨g, e4, hv⟩ := hg i b e1
    rw [Nat.zero_add] at hv
    let c' : Act := { c with s := s }
    have S1' : Sat c' cx se st1 r1 := ⟨S1.F, S1.N, S1.obj, S1.inj, S1.apart, S1.frz, S1.frm, S1.cells, S1.kels, S1.kvl, S1.npl⟩
    have O' : CxOk c' cx se := ⟨O.names, O.kind, O.glob, O.blt, O.nd, O.fn, O.w, O.d, O.cl, O.npe⟩
    have off : ∀ k, k < st1.led.length → ∀ q ∈ [(C, oC)], r1.ρ k ≠ q.1 := by
      intro k hk q hq
      rw [List.mem_singleton.mp hq]
      intro ee
      have z1 := (N (C, oC) (.head _)).1
      have z2 := (N _ (.tail _ (S1.mem hk))).1
      rw [show (r1.ρ k, r1.ω k).1 = C from ee, z1] at z2
      obtain ⟨es, ep, hd, _⟩ := hC
      have z3 : oC = r1.ω k := Option.some.inj z2
      rw [z3] at hd
      have z4 := S1.obj k _ (List.getElem?_eq_getElem hk)
      cases hs : st1.led[k] with
      | lst l => rw [hs] at z4; obtain ⟨_, _, q, _⟩ := z4; rw [q] at hd; cases hd
      | isq l => rw [hs] at z4; obtain ⟨_, _, q, _⟩ := z4; rw [q] at hd; cases hd
      | tup l => rw [hs] at z4; obtain ⟨_, _, q, _⟩ := z4; rw [q] at hd; cases hd
      | cell l => rw [hs] at z4; cases l with
        | none => rw [show (r1.ω k).data = _ from z4] at hd; cases hd
        | some l => obtain ⟨_, q, _⟩ := z4; rw [q] at hd; cases hd
    have Si := S1'.inner Y (own := [x, y]) (vars := [some (.int (Int.ofNat i)), some b]) (r₀ := r1) (fz := cx.md.fz) (pu := true) (tk := s.toks) hC (by
      intro j z w e1 e2
      match j with
      | 0 => cases e1; cases e2; exact ⟨_, hx', t, rfl⟩
      | 1 => cases e1; cases e2; exact ⟨_, hy', rb⟩) F (ex := [(C, oC)]) N (.head _) off fun k hk => ⟨(S1.frz k hk).1, rfl, rfl⟩
    refine hf c' _ st1 i b _ (O'.inner Y.kind (by simpa using hxy)) hv _ _ E' Si fun y st' r' xv hq hx he S' ry => ?_
    subst hq
    have ry' : ∃ t, xv = Value.int g t := ry
    have e6 := hQ xv r'.tk ⟨g, e4, ry'⟩
    have e7 : r'.h = s.heap := he.2 rfl
    show Q' xv { s with heap := r'.h, toks := r'.tk }
    rw [e7]; exact e6
  · intro D h' tk ys F N lt hlen hV
    exact (K.at hx1 he).new hu S1 h ⟨ys, ys.length, rfl, repI (hlen.trans (R.length.symm.trans hl)) hV⟩ F N fun p hp => Nat.ne_of_lt (lt p hp)
noncomputable def SV.ren (τ : Nat → Nat) : SV → SV
  | .ref k => .ref (τ k)
  | v => v
noncomputable def SO.ren (τ : Nat → Nat) : SO → SO
  | .lst vs => .lst (vs.map (SV.ren τ))
  | .tup vs => .tup (vs.map (SV.ren τ))
  | .cell v => .cell (v.map (SV.ren τ))
  | .isq l => .isq l
structure LedOk (ρ : Nat → Addr) (ω : Nat → Obj) (rest : Led) (led : List SO) : Prop where
  obj : ∀ k o, led[k]? = some o → RepO ρ led.length o (ω k)
  inj : ∀ i j, i < led.length → j < led.length → ρ i = ρ j → i = j
  apart : ∀ p ∈ rest, ∀ k, k < led.length → p.1 ≠ ρ k
/-- the contract of a def: its objects and arguments in a numbering of their own; T hands on what may come back -/
noncomputable def SSpec (w : Scr) (f : Addr) (d : Nat) (pre : List SO) (args : List SV) (T : (SV → List SO → Prop) → Prop) : Prop :=
  ∀ R, T R → ∀ ρ ω rest vs, LedOk ρ ω rest pre → RepL ρ pre.length args vs → SpecB w f (d + 6) (nws ρ ω rest pre.length) vs fun x news' =>
    ∃ v led' ρ' ω', R v led' ∧ Ext ρ pre.length ρ' led'.length ∧ Rep ρ' led'.length v x ∧ LedOk ρ' ω' rest led' ∧ news' = nws ρ' ω' rest led'.length
noncomputable def tau (σ : List Nat) (n k : Nat) : Nat := match σ[k]? with | some j => j | none => n + (k - σ.length)
noncomputable def pos : List Nat → Nat → Option Nat
  | [], _ => none
  | j :: r, k => match Nat.beq j k with | true => some 0 | false => (pos r k).map (· + 1)
theorem pos_some : ∀ {σ : List Nat} {k i : Nat}, pos σ k = some i → σ[i]? = some k
  | j :: r, k, i, h => by
    unfold pos at h
    split at h
    · rename_i e; cases h; rw [Nat.eq_of_beq_eq_true e]; rfl
    · obtain ⟨i', e, rfl⟩ := Option.map_eq_some_iff.mp h
      simpa using pos_some e
theorem pos_none : ∀ {σ : List Nat} {k : Nat}, pos σ k = none → k ∉ σ
  | [], _, _, h => nomatch h
  | j :: r, k, h, hm => by
    unfold pos at h
    split at h
    · cases h
    · rename_i e
      rcases List.mem_cons.mp hm with rfl | hm
      · rw [Nat.beq_refl] at e; cases e
      · exact pos_none (Option.map_eq_none_iff.mp h) hm
noncomputable def absorb (σ : List Nat) (led led' : List SO) : List SO :=
  ((List.range led.length).map fun k => match pos σ k with | some i => ((led'[i]?).getD (.tup [])).ren (tau σ led.length) | none => (led[k]?).getD (.tup [])) ++ (led'.drop σ.length).map (SO.ren (tau σ led.length))
noncomputable def okS (σ fz : List Nat) : Bool := match σ with | [] => true | k :: r => !r.contains k && !fz.contains k && okS r fz
theorem okS_ok : ∀ {σ fz : List Nat}, okS σ fz = true → σ.Nodup ∧ ∀ k ∈ fz, k ∉ σ
  | [], _, _ => ⟨List.nodup_nil, fun _ _ h => nomatch h⟩
  | k :: r, fz, h => by
    obtain ⟨h1, h2⟩ := Bool.and_eq_true_iff.mp h
    obtain ⟨h3, h4⟩ := Bool.and_eq_true_iff.mp h1
    obtain ⟨a, b⟩ := okS_ok h2
    refine ⟨List.nodup_cons.mpr ⟨by simpa using h3, a⟩, fun j hj hm => ?_⟩
    rcases List.mem_cons.mp hm with rfl | hm
    · exact absurd hj (by simpa using h4)
    · exact b j hj hm
inductive VCall (d : Md) (f : Addr) (vs : List SV) (st : SSt) (Q : SV → SSt → Prop) : Prop
  | mk (dd : Nat) {pre : List SO} {args : List SV} {T : (SV → List SO → Prop) → Prop} (σ : List Nat) (s : SSpec d.w f dd pre args T) (h : dd + 1 ≤ d.d) (o : okS σ d.fz = true) (p : σ.map (fun k => st.led[k]?) = pre.map (fun o => some (o.ren (tau σ st.led.length)))) (a : vs = args.map (SV.ren (tau σ st.led.length)))
      (t : T fun v led' => frcV (v.ren (tau σ st.led.length)) fun v => frcLd (absorb σ st.led led') fun led => Q v { st with led := led }) : VCall d f vs st Q
section
variable {ρ ρ' : Nat → Addr} {n n' : Nat} {τ : Nat → Nat}
theorem Rep.ren (H : ∀ i, i < n → τ i < n' ∧ ρ' (τ i) = ρ i) : ∀ {v : SV} {x : Value}, Rep ρ n v x → Rep ρ' n' (v.ren τ) x
  | .int _, _, h => h
  | .bool _, _, h => h
  | .none, _, h => h
  | .base _, _, h => h
  | .ref k, _, ⟨h1, h2⟩ => ⟨(H k h1).1, h2.trans (by rw [(H k h1).2])⟩
theorem RepL.ren (H : ∀ i, i < n → τ i < n' ∧ ρ' (τ i) = ρ i) : ∀ {v : List SV} {x : List Value}, RepL ρ n v x → RepL ρ' n' (v.map (SV.ren τ)) x
  | [], [], h => h
  | _ :: _, _ :: _, h => ⟨h.1.ren H, RepL.ren H h.2⟩
theorem RepO.ren (H : ∀ i, i < n → τ i < n' ∧ ρ' (τ i) = ρ i) : ∀ {v : SO} {x : Obj}, RepO ρ n v x → RepO ρ' n' (v.ren τ) x
  | .lst _, _, ⟨ws, k, h1, h2⟩ => ⟨ws, k, h1, h2.ren H⟩
  | .tup _, _, ⟨ws, k, h1, h2⟩ => ⟨ws, k, h1, h2.ren H⟩
  | .isq _, _, h => h
  | .cell none, _, h => h
  | .cell (some _), _, ⟨y, h1, h2⟩ => ⟨y, h1, h2.ren H⟩
theorem Rep.unren (H : ∀ i, τ i < n' → i < n ∧ ρ' (τ i) = ρ i) : ∀ {v : SV} {x : Value}, Rep ρ' n' (v.ren τ) x → Rep ρ n v x
  | .int _, _, h => h
  | .bool _, _, h => h
  | .none, _, h => h
  | .base _, _, h => h
  | .ref k, _, ⟨h1, h2⟩ => ⟨(H k h1).1, h2.trans (by rw [(H k h1).2])⟩
theorem RepL.unren (H : ∀ i, τ i < n' → i < n ∧ ρ' (τ i) = ρ i) : ∀ {v : List SV} {x : List Value}, RepL ρ' n' (v.map (SV.ren τ)) x → RepL ρ n v x
  | [], [], h => h
  | _ :: _, _ :: _, h => ⟨h.1.unren H, RepL.unren H h.2⟩
theorem RepO.unren (H : ∀ i, τ i < n' → i < n ∧ ρ' (τ i) = ρ i) : ∀ {v : SO} {x : Obj}, RepO ρ' n' (v.ren τ) x → RepO ρ n v x
  | .lst _, _, ⟨ws, k, h1, h2⟩ => ⟨ws, k, h1, h2.unren H⟩
  | .tup _, _, ⟨ws, k, h1, h2⟩ => ⟨ws, k, h1, h2.unren H⟩
  | .isq _, _, h => h
  | .cell none, _, h => h
  | .cell (some _), _, ⟨y, h1, h2⟩ => ⟨y, h1, h2.unren H⟩
end
theorem absorb_len {σ : List Nat} {led led' : List SO} : (absorb σ led led').length = led.length + (led'.length - σ.length) := by simp [absorb]
structure Keys (c : Act) (cx : Cx) (se : SE) (st : SSt) (r : Re) (σ : List Nat) (pre : List SO) : Prop where
  len : σ.length = pre.length
  at1 : ∀ (i k : Nat), σ[i]? = some k → ∃ o, pre[i]? = some o ∧ st.led[k]? = some (o.ren (tau σ st.led.length))
  inσ : ∀ (i k : Nat), σ[i]? = some k → k < st.led.length
  tauσ : ∀ (i k : Nat), σ[i]? = some k → tau σ st.led.length i = k
  tauN : ∀ (i : Nat), σ.length ≤ i → tau σ st.led.length i = st.led.length + (i - σ.length)
  hun : ∀ i, tau σ st.led.length i < st.led.length → i < pre.length ∧ r.ρ (tau σ st.led.length i) = (fun i => r.ρ (tau σ st.led.length i)) i
  getσ : ∀ (i : Nat), i < pre.length → ∃ k : Nat, σ[i]? = some k
theorem keys {σ : List Nat} {pre : List SO} (hpre : σ.map (fun k => st.led[k]?) = pre.map (fun o => some (o.ren (tau σ st.led.length)))) : Keys c cx se st r σ pre := by
  have hlen : σ.length = pre.length := by simpa using congrArg List.length hpre
  have at1 : ∀ (i k : Nat), σ[i]? = some k → ∃ o, pre[i]? = some o ∧ st.led[k]? = some (o.ren (tau σ st.led.length)) := fun i k e => by
    have := congrArg (fun l => l[i]?) hpre
    simp only [List.getElem?_map, e, Option.map_some] at this
    cases e2 : pre[i]? with
    | none => rw [e2] at this; cases this
    | some o => rw [e2] at this; exact ⟨o, rfl, Option.some.inj this⟩
  have inσ : ∀ (i k : Nat), σ[i]? = some k → k < st.led.length := fun i k e => by
    obtain ⟨o, _, e2⟩ := at1 i k e
    exact (List.getElem?_eq_some_iff.mp e2).1
  have tauσ : ∀ (i k : Nat), σ[i]? = some k → tau σ st.led.length i = k := fun i k e => by unfold tau; rw [e]
  have tauN : ∀ (i : Nat), σ.length ≤ i → tau σ st.led.length i = st.led.length + (i - σ.length) := fun i h => by unfold tau; rw [List.getElem?_eq_none h]
  have hun : ∀ i, tau σ st.led.length i < st.led.length → i < pre.length ∧ r.ρ (tau σ st.led.length i) = (fun i => r.ρ (tau σ st.led.length i)) i := fun i hi => by
    refine ⟨?_, rfl⟩
    rcases Nat.lt_or_ge i σ.length with h | h
    · exact hlen ▸ h
    · rw [tauN i h] at hi; omega
  have getσ : ∀ (i : Nat), i < pre.length → ∃ k : Nat, σ[i]? = some k := fun i hi => ⟨_, List.getElem?_eq_getElem (hlen ▸ hi)⟩
  exact ⟨hlen, at1, inσ, tauσ, tauN, hun, getσ⟩
theorem sub_led (S : Sat c cx se st r) {σ : List Nat} {pre : List SO} (Y : Keys c cx se st r σ pre) (hnd : σ.Nodup) {rest' : Led} (hr : ∀ p ∈ rest', (∃ k, k < st.led.length ∧ k ∉ σ ∧ p = (r.ρ k, r.ω k)) ∨ p ∈ cx.rest) : LedOk (fun i => r.ρ (tau σ st.led.length i)) (fun i => r.ω (tau σ st.led.length i)) rest' pre := by
  obtain ⟨hlen, at1, inσ, tauσ, tauN, hun, getσ⟩ := Y
  refine ⟨fun i o e => ?_, fun i j hi hj e => ?_, fun p hp i hi => ?_⟩
  · obtain ⟨k, ek⟩ := getσ i (List.getElem?_eq_some_iff.mp e).1
    obtain ⟨o', e1, e2⟩ := at1 i k ek
    rw [e] at e1; cases e1
    have := S.obj k _ e2
    show RepO (fun i => r.ρ (tau σ st.led.length i)) _ o (r.ω (tau σ st.led.length i))
    rw [tauσ i k ek]
    exact this.unren hun
  · obtain ⟨k, ek⟩ := getσ i hi
    obtain ⟨k', ek'⟩ := getσ j hj
    have e' : r.ρ (tau σ st.led.length i) = r.ρ (tau σ st.led.length j) := e
    rw [tauσ i k ek, tauσ j k' ek'] at e'
    have := S.inj k k' (inσ i k ek) (inσ j k' ek') e'
    subst this
    exact (List.getElem?_inj (hlen ▸ hi) hnd).mp (ek.trans ek'.symm)
  · obtain ⟨k, ek⟩ := getσ i hi
    show p.1 ≠ r.ρ (tau σ st.led.length i)
    rw [tauσ i k ek]
    rcases hr p hp with ⟨k', h1, h2, rfl⟩ | h
    · intro e
      have := S.inj k' k h1 (inσ i k ek) e
      subst this
      exact h2 (List.mem_of_getElem? ek)
    · exact S.apart p h k (inσ i k ek)
theorem vcall_ok {f : Addr} {vs : List SV} {Q : SV → SSt → Prop} (O : CxOk c cx se) (hu : cx.md.pu = false) (h : VCall cx.md f vs st Q) : OL c cx se st vs (fun xs => call (.ref f) xs) Q := by
  obtain @⟨dd, pre, args, T, σ, hS, hd, hok, hpre, rfl, hT⟩ := h
  obtain ⟨hnd, hfz⟩ := okS_ok hok
  intro r QQ E xs S hx K
  have hdd : dd + 1 ≤ c.d := Nat.le_trans hd O.d
  have Y := keys (c := c) (cx := cx) (se := se) (r := r) hpre
  obtain ⟨hlen, at1, inσ, tauσ, tauN, hun, getσ⟩ := id Y
  let ρσ : Nat → Addr := fun i => r.ρ (tau σ st.led.length i)
  let ωσ : Nat → Obj := fun i => r.ω (tau σ st.led.length i)
  let rest' : Led := ((List.range st.led.length).filter fun k => !σ.contains k).map (fun k => (r.ρ k, r.ω k)) ++ cx.rest
  have memr : ∀ p, p ∈ rest' ↔ (∃ k, k < st.led.length ∧ k ∉ σ ∧ p = (r.ρ k, r.ω k)) ∨ p ∈ cx.rest := fun p => by
    simp only [rest', List.mem_append, List.mem_map, List.mem_filter, List.mem_range]
    constructor
    · rintro (⟨k, ⟨h1, h2⟩, rfl⟩ | h)
      · exact .inl ⟨k, h1, by simpa using h2, rfl⟩
      · exact .inr h
    · rintro (⟨k, h1, h2, rfl⟩ | h)
      · exact .inl ⟨k, ⟨h1, by simpa using h2⟩, rfl⟩
      · exact .inr h
  have hLed : LedOk ρσ ωσ rest' pre := sub_led S Y hnd fun p hp => (memr p).mp hp
  have hN : News c.h₀ c.L r.h (nws ρσ ωσ rest' pre.length) := fun p hp => by
    refine S.N p (nws_mem.mpr ?_)
    rcases nws_mem.mp hp with ⟨i, hi, rfl⟩ | h
    · obtain ⟨k, ek⟩ := getσ i hi
      refine .inl ⟨k, inσ i k ek, ?_⟩
      show (r.ρ (tau σ _ i), r.ω (tau σ _ i)) = _
      rw [tauσ i k ek]
    · exact ((memr p).mp h).imp_left fun ⟨k, h1, _, h3⟩ => ⟨k, h1, h3⟩
  rw [O.w] at hS
  refine hS _ hT ρσ ωσ rest' xs hLed (hx.unren hun) c.loose c.mean c.mg c.mb c.dp c.un c.gd c.cn c.cs c.a c.ccd c.cl c.outer c.A₀ c.base c.h₀ c.L r.m (c.sh r) QQ E c.hl c.B S.F c.X hN c.T c.hk (by have := c.hd; omega) (by have := c.hu; omega) ?_
  rintro x news' h' tk' ⟨v, led', ρ', ω', hR0, hext, hrep, hL, rfl⟩ F' N'
  have hR : Q (v.ren (tau σ st.led.length)) { st with led := absorb σ st.led led' } := frcLd_ok (frcV_ok (K := fun v => frcLd (absorb σ st.led led') fun led => Q v { st with led := led }) hR0)
  have hle : pre.length ≤ led'.length := hext.le
  let r'' : Re := ⟨fun k => if k < st.led.length then r.ρ k else ρ' (σ.length + (k - st.led.length)), fun k => if k < st.led.length then (match pos σ k with | some i => ω' i | none => r.ω k) else ω' (σ.length + (k - st.led.length)), r.m, h', tk'⟩
  have hl : (absorb σ st.led led').length = st.led.length + (led'.length - σ.length) := absorb_len
  have ro : ∀ k, k < st.led.length → r''.ρ k = r.ρ k := fun k hk => if_pos hk
  have key : ∀ i, i < led'.length → tau σ st.led.length i < (absorb σ st.led led').length ∧ r''.ρ (tau σ st.led.length i) = ρ' i ∧ r''.ω (tau σ st.led.length i) = ω' i := fun i hi => by
    rcases Nat.lt_or_ge i σ.length with h | h
    · obtain ⟨k, ek⟩ := getσ i (hlen ▸ h)
      have hk := inσ i k ek
      rw [tauσ i k ek]
      refine ⟨by rw [hl]; omega, (ro k hk).trans ?_, ?_⟩
      · rw [hext.eq i (hlen ▸ h)]
        show _ = r.ρ (tau σ _ i)
        rw [tauσ i k ek]
      · show (if k < st.led.length then _ else _) = _
        rw [if_pos hk]
        cases ep : pos σ k with
        | none => exact absurd (List.mem_of_getElem? ek) (pos_none ep)
        | some j =>
          have := (List.getElem?_inj h hnd).mp (ek.trans (pos_some ep).symm)
          rw [this]
    · rw [tauN i h]
      refine ⟨by rw [hl]; omega, ?_, ?_⟩
      · show (if _ < st.led.length then _ else _) = _
        rw [if_neg (by omega)]; congr 1; omega
      · show (if _ < st.led.length then _ else _) = _
        rw [if_neg (by omega)]; congr 1; omega
  have split : ∀ k, k < (absorb σ st.led led').length → (∃ i, i < led'.length ∧ tau σ st.led.length i = k) ∨ (k < st.led.length ∧ k ∉ σ ∧ r''.ω k = r.ω k) := fun k hk => by
    rcases Nat.lt_or_ge k st.led.length with h | h
    · cases ep : pos σ k with
      | none => exact .inr ⟨h, pos_none ep, by show (if k < st.led.length then _ else _) = _; rw [if_pos h, ep]⟩
      | some i =>
        have e := pos_some ep
        exact .inl ⟨i, by have := (List.getElem?_eq_some_iff.mp e).1; omega, tauσ i k e⟩
    · refine .inl ⟨σ.length + (k - st.led.length), by rw [hl] at hk; omega, ?_⟩
      rw [tauN _ (by omega)]; omega
  have hex : Ext r.ρ st.led.length r''.ρ (absorb σ st.led led').length := ⟨by rw [hl]; omega, ro⟩
  have hren : ∀ i, i < led'.length → tau σ st.led.length i < (absorb σ st.led led').length ∧ r''.ρ (tau σ st.led.length i) = ρ' i := fun i hi => ⟨(key i hi).1, (key i hi).2.1⟩
  refine K _ { st with led := absorb σ st.led led' } r'' _ hR hex ⟨rfl, fun p => by rw [hu] at p; cases p⟩ ⟨F', ?_, ?_, ?_, ?_, ?_, S.frm.mono hex, S.cellsMono hex, S.kelsMono hex, S.kvl, Nat.le_trans S.npl hex.le⟩ (hrep.ren hren)
  · intro p hp
    refine N' p (nws_mem.mpr ?_)
    rcases nws_mem.mp hp with ⟨k, hk, rfl⟩ | h
    · rcases split k hk with ⟨i, hi, rfl⟩ | ⟨h1, h2, h3⟩
      · exact .inl ⟨i, hi, by rw [(key i hi).2.1, (key i hi).2.2]⟩
      · exact .inr ((memr _).mpr (.inl ⟨k, h1, h2, by rw [ro k h1, h3]⟩))
    · exact .inr ((memr p).mpr (.inr h))
  · intro k o e
    have hk := (List.getElem?_eq_some_iff.mp e).1
    rcases Nat.lt_or_ge k st.led.length with h | h
    · have e' : (some (match pos σ k with | some i => ((led'[i]?).getD (.tup [])).ren (tau σ st.led.length) | none => (st.led[k]?).getD (.tup [])) : Option SO) = some o := by
        rw [← e]
        show _ = (_ ++ _)[k]?
        rw [List.getElem?_append_left (by simpa using h), List.getElem?_map, List.getElem?_range h]; rfl
      cases ep : pos σ k with
      | none =>
        rw [ep] at e'
        dsimp only at e'
        rw [List.getElem?_eq_getElem h] at e'
        have e3 : r''.ω k = r.ω k := by show (if k < st.led.length then _ else _) = _; rw [if_pos h, ep]
        rw [e3]
        exact (S.obj k o (by rw [List.getElem?_eq_getElem h]; exact e')).mono hex
      | some i =>
        have e0 := pos_some ep
        have hi : i < led'.length := by have := (List.getElem?_eq_some_iff.mp e0).1; omega
        rw [ep] at e'
        dsimp only at e'
        rw [List.getElem?_eq_getElem hi] at e'
        have e4 : led'[i].ren (tau σ st.led.length) = o := Option.some.inj e'
        have := (hL.obj i _ (List.getElem?_eq_getElem hi)).ren hren
        rw [e4] at this
        have e3 := (key i hi).2.2
        rw [tauσ i k e0] at e3
        rw [e3]; exact this
    · have hi : σ.length + (k - st.led.length) < led'.length := by have := hk; rw [hl] at this; omega
      have e' : some (led'[σ.length + (k - st.led.length)].ren (tau σ st.led.length)) = some o := by
        rw [← e]
        show _ = (_ ++ _)[k]?
        rw [List.getElem?_append_right (by simpa using h), List.getElem?_map, List.getElem?_drop, List.length_map, List.length_range, List.getElem?_eq_getElem hi]; rfl
      have e4 := Option.some.inj e'
      have := (hL.obj _ _ (List.getElem?_eq_getElem hi)).ren hren
      rw [e4] at this
      have e3 := (key _ hi).2.2
      rw [tauN _ (by omega), show st.led.length + (σ.length + (k - st.led.length) - σ.length) = k by omega] at e3
      rw [e3]; exact this
  · intro a b ha hb e
    rcases split a ha with ⟨i, hi, rfl⟩ | ⟨h1, h2, h3⟩ <;> rcases split b hb with ⟨j, hj, rfl⟩ | ⟨g1, g2, g3⟩
    · rw [(key i hi).2.1, (key j hj).2.1] at e
      rw [hL.inj i j hi hj e]
    · rw [(key i hi).2.1, ro b g1] at e
      exact absurd e.symm (hL.apart (r.ρ b, r.ω b) ((memr _).mpr (.inl ⟨b, g1, g2, rfl⟩)) i hi)
    · rw [(key j hj).2.1, ro a h1] at e
      exact absurd e (hL.apart (r.ρ a, r.ω a) ((memr _).mpr (.inl ⟨a, h1, h2, rfl⟩)) j hj)
    · rw [ro a h1, ro b g1] at e
      exact S.inj a b h1 g1 e
  · intro p hp k hk
    rcases split k hk with ⟨i, hi, rfl⟩ | ⟨h1, h2, h3⟩
    · rw [(key i hi).2.1]; exact hL.apart p ((memr p).mpr (.inr hp)) i hi
    · rw [ro k h1]; exact S.apart p hp k h1
  · intro k hk
    obtain ⟨a, b, b2⟩ := S.frz k hk
    refine ⟨Nat.lt_of_lt_of_le a hex.le, ?_, (hex.eq k a).trans b2⟩
    show (if k < st.led.length then _ else _) = _
    rw [if_pos a]
    cases ep : pos σ k with
    | none => exact b
    | some i => exact absurd (List.mem_of_getElem? (pos_some ep)) (hfz k hk)
noncomputable def SO.ce (v : SO) (K : SV → Prop) : Prop := match v with | .cell (some i) => K i | _ => False
theorem SO.ce_ok {v : SO} {K : SV → Prop} (h : v.ce K) : ∃ i, v = .cell (some i) ∧ K i := by
  cases v with
  | cell o => cases o <;> first | exact ⟨_, rfl, h⟩ | exact h.elim
  | _ => exact h.elim
/-- which road an operator takes, seen from the values -/
noncomputable def roadB (o : Bop) (a : SV) : Bop := match o, a with | .add, .ref _ => .cat | o, _ => o
noncomputable def roadC (o : Cop) (a b : SV) : Cop := match a with
  | .ref _ => (match o with | .eq => .leq | .ne => (match b with | .base _ => .tne | _ => .lne) | o => o)
  | _ => o
noncomputable def roadK (a : SV) (st : SSt) : Kop := match a with
  | .base _ => .r0
  | .ref k => (match st.led[k]? with | some (.tup _) => .tup | _ => .lst)
  | _ => .lst
theorem roadB_op (o : Bop) (a : SV) : (roadB o a).op = o.op := by cases o <;> cases a <;> rfl
theorem roadC_op (o : Cop) (a b : SV) : (roadC o a b).op = o.op := by cases a <;> first | rfl | (cases o <;> first | rfl | (cases b <;> rfl))
/-- the program's expressions, read; the last numbers are positions -/
inductive IE where
  | int (i : Int) (p : Nat) | tt (b : Bool) (p : Nat) | loc (i p : Nat) | cel (j k p : Nat) | kel (i p : Nat) | glb (x : Str) (a : Addr) (p : Nat)
  | bin (o : Bop) (a b : IE) (p : Nat) | neg (a : IE) (p : Nat) | cmp (o : Cop) (a b : IE) (p : Nat) | and (a b : IE) (p : Nat) | ife (o : Cop) (a b t e : IE) (p p' : Nat)
  | sub (a i : IE) (p : Nat) | slc (a i : IE) (p p' : Nat) | slB (a i : IE) (p p' : Nat) | tup (l : IE) (p : Nat) | lst (l : IE) (p : Nat) | bfn (f : Bfn) (a : IE) (p p' : Nat) | max2 (a b : IE) (p p' : Nat)
  | call (x : Str) (f : Addr) (l : IE) (p p' : Nat) | app (a x : IE) (p ap : Nat) | pop (a : IE) (p ap p' : Nat)
  | cL (e s : IE) (x : Str) (sc : List (Str × NameKind)) (p px : Nat) | cT (e : IE) (o : Cop) (a b s : IE) (x : Str) (sc : List (Str × NameKind)) (p px p' : Nat)
  | cR (e s : IE) (x : Str) (sc : List (Str × NameKind)) (p px p1 p2 : Nat) | cRT (e : IE) (o : Cop) (a b s : IE) (x : Str) (sc : List (Str × NameKind)) (p px p1 p2 p' : Nat)
  | cE (e s : IE) (x y : Str) (sc : List (Str × NameKind)) (p px py tp p1 p2 : Nat)
  | or (l : IE) (p : Nat) | nil | cons (a l : IE)
/-- a position in one number -/
noncomputable def dpos (n : Nat) : Pos := ⟨n / 1099511627776, n / 268435456 % 4096, n / 4096 % 65536, n % 4096⟩
noncomputable def gsc (l : List (Str × NameKind)) : Scope := ⟨.function, l, false, false, []⟩
mutual
/-- the condition of an expression -/
noncomputable def vc : IE → Md → SSt → (SV → SSt → Prop) → Prop
  | .int i _, _, st, Q => Q (.int i) st
  | .tt b _, _, st, Q => Q (.bool b) st
  | .loc i _, _, st, Q => opt st.vars[i]? fun o => opt o fun v => Q v st
  | .cel _ k _, _, st, Q => opt st.led[k]? fun o => o.ce fun v => Q v st
  | .kel i _, _, st, Q => opt st.kvs[i]? fun v => Q v st
  | .glb _ a _, _, st, Q => Q (.base a) st
  | .bin o a b _, d, st, Q => vc a d st fun x s1 => vc b d s1 fun y s2 => vbin d (roadB o x) x y s2 Q
  | .neg a _, d, st, Q => vc a d st fun x s1 => x.i fun i => Q (.int (-i)) s1
  | .cmp o a b _, d, st, Q => vc a d st fun x s1 => vc b d s1 fun y s2 => vcmp (roadC o x y) x y (fun t => Q (.bool t) s2) s2
  | .and a b _, d, st, Q => vc a d st fun x s1 => x.t fun t => VIf t (vc b d s1 Q) (Q (.bool t) s1)
  | .ife o a b t e _ _, d, st, Q => vc a d st fun x s1 => vc b d s1 fun y s2 => vcmp (roadC o x y) x y (fun c => VIf c (vc t d s2 Q) (vc e d s2 Q)) s2
  | .sub a i _, d, st, Q => vc a d st fun x s1 => vc i d s1 fun y s2 => vsub (roadK x s2) x y s2 Q
  | .slB a i _ _, d, st, Q => vc a d st fun x s1 => vc i d s1 fun y s2 => vslB d x y s2 Q
  | .slc a i _ _, d, st, Q => vc a d st fun x s1 => vc i d s1 fun y s2 => vslc d x y s2 Q
  | .tup l _, d, st, Q => vl l d st fun vs s1 => d.may (few vs.length (Q (.ref s1.led.length) (s1.push (.tup vs))))
  | .lst l _, d, st, Q => vl l d st fun vs s1 => d.may (few vs.length (Q (.ref s1.led.length) (s1.push (.lst vs))))
  | .bfn f a _ _, d, st, Q => vc a d st fun x s1 => vbfn d f x s1 Q
  | .max2 a b _ _, d, st, Q => vc a d st fun x s1 => vc b d s1 fun y s2 => vmax2 d x y s2 Q
  | .call _ f l _ _, d, st, Q => vl l d st fun vs s1 => d.may (VCall d f vs s1 Q)
  | .app a x _ _, d, st, Q => vc a d st fun o s1 => o.rf fun k => s1.lst k fun _ => vc x d s1 fun y s2 => vapp d o y s2 Q
  | .pop a _ _ _, d, st, Q => vc a d st fun o s1 => vpop d o s1 Q
  | .cL e s _ _ _ _, d, st, Q => vc s d st fun v s1 => vsrc d v s1 fun d' vs => loopC (fun sv led K => vc e d' { s1 with vars := [some sv], led := led } fun y s2 => K y s2.led) vs [] s1.led (s1.fin Q)
  | .cT e o a b s _ _ _ _ _, d, st, Q => vc s d st fun v s1 => vsrc d v s1 fun d' vs => loopT (fun sv led K => vc a d' { s1 with vars := [some sv], led := led } fun x s2 => vc b d' s2 fun y s3 => vcmp (roadC o x y) x y (fun c => VIf c (vc e d' s3 fun y s4 => K (some y) s4.led) (K none s3.led)) s3) vs [] s1.led (s1.fin Q)
  | .cR e s _ _ _ _ _ _, d, st, Q => vc s d st fun v s1 => vrg d v fun n => loopC (fun sv led K => vc e d { s1 with vars := [some sv], led := led } fun y s2 => K y s2.led) (rngL n) [] s1.led (s1.fin Q)
  | .cRT e o a b s _ _ _ _ _ _ _, d, st, Q => vc s d st fun v s1 => vrg d v fun n => loopT (fun sv led K => vc a d { s1 with vars := [some sv], led := led } fun x s2 => vc b d s2 fun y s3 => vcmp (roadC o x y) x y (fun c => VIf c (vc e d s3 fun y s4 => K (some y) s4.led) (K none s3.led)) s3) (rngL n) [] s1.led (s1.fin Q)
  | .cE e s _ _ _ _ _ _ _ _ _, d, st, Q => vc s d st fun v s1 => vsrc d v s1 fun _ vs => VEnum (fun i sv K => vc e { d with pu := true } { s1 with vars := [some (.int (Int.ofNat i)), some sv] } fun y _ => K y) vs fun gs => Q (.ref s1.led.length) (s1.push (.lst (gs.map SV.int)))
  | .or _ _, _, _, _ => False
  | .nil, _, _, _ => False
  | .cons _ _, _, _, _ => False
noncomputable def vl : IE → Md → SSt → (List SV → SSt → Prop) → Prop
  | .nil, _, st, Q => Q [] st
  | .cons a l, d, st, Q => vc a d st fun x s1 => vl l d s1 fun xs s2 => Q (x :: xs) s2
  | _, _, _, _ => False
end
noncomputable def nmOk (se : SE) (x : Str) (k : NameKind) : Bool := se.kinds.lookup x == some k && !(x == ("__debug__" : Str))
theorem nmOk_ok {se : SE} {x : Str} {k : NameKind} (h : nmOk se x k = true) : se.kinds.lookup x = some k ∧ (x == ("__debug__" : Str)) = false := by
  obtain ⟨a, b⟩ := Bool.and_eq_true_iff.mp h
  exact ⟨beq_iff_eq.mp a, by simpa using b⟩
noncomputable def scB (se : SE) (scope : Scope) (own : List Str) : Bool :=
  scope.kind == .function && scope.names.all (fun y => y.2 != .cell && (y.2 != .local || scope.names.lookup y.1 == some .local) && (y.2 != .free || (se.kinds.lookup y.1 == some .cell && (se.cel.any (fun p => p.1 == y.1) || se.kel.contains y.1)))) && own.all fun x => scope.names.lookup x == some .local
theorem scB_ok {se : SE} {scope : Scope} {own : List Str} (h : scB se scope own = true) : ScOk se scope ∧ ∀ x ∈ own, scope.names.lookup x = some .local := by
  obtain ⟨h1, h2⟩ := Bool.and_eq_true_iff.mp h
  obtain ⟨h0, h1⟩ := Bool.and_eq_true_iff.mp h1
  have H := List.all_eq_true.mp h1
  refine ⟨⟨fun y hy => ?_, beq_iff_eq.mp h0, fun y hy e => ?_, fun y hy e => ?_⟩, fun x hx => by simpa using List.all_eq_true.mp h2 x hx⟩
  · have := (Bool.and_eq_true_iff.mp (Bool.and_eq_true_iff.mp (H y hy)).1).1
    simpa using this
  · have := (Bool.and_eq_true_iff.mp (Bool.and_eq_true_iff.mp (H y hy)).1).2
    rw [e] at this
    simpa using this
  · have := (Bool.and_eq_true_iff.mp (H y hy)).2
    rw [e] at this
    have h3 : se.kinds.lookup y.1 = some .cell ∧ (se.cel.any (fun p => p.1 == y.1) = true ∨ se.kel.contains y.1 = true) := by simpa using this
    refine ⟨h3.1, h3.2.imp (fun h => ?_) fun h => by simpa using h⟩
    obtain ⟨p, hp, e⟩ := List.any_eq_true.mp h
    exact ⟨p.2, by rw [← beq_iff_eq.mp e]; exact hp⟩
/-- a global name that holds a def or a table -/
noncomputable def GOk (x : Str) (a : Addr) : Prop := ∀ w : World, nsIn (Mine.K2 w.params) mainGlobals x = some (some (.ref a)) ∧ (a = 109 ∨ keepIn (Mine.K2 w.params) (.ref a) = true)
noncomputable def MethOk (o : PySem.Expr) (nm : Str) (apos : Pos) (args : List PySem.Expr) (pos : Pos) : Prop := ∀ env : Env, ∃ pl : Sem Bool, eval (.Call (.Attribute o nm apos) args [] pos) env = (do
  let ov ← eval o env
  standAt apos.atName
  let (f, first) ← holding [ov] (getMethod ov nm pl)
  callWith pos f first (backTo pos (starEach args env)) [])
noncomputable def methB : PySem.Expr → Bool
  | .Name .. => true
  | .Subscript .. => true
  | _ => false
theorem meth_ok {o e : PySem.Expr} {nm : Str} {apos pos : Pos} (h : methB o = true) (hp : (apos.endLine == pos.line) = true) (pe : plainE e = true) : MethOk o nm apos [e] pos := fun env => by
  have F : methodCallForm 1 (backTo pos (starEach [e] env)) [] = true := by rw [star_eq pe]; rfl
  have e1 : eval (.Call (.Attribute o nm apos) [e] [] pos) env = (do
    let ov ← eval o env
    standAt apos.atName
    methodCall o nm apos pos env ov 1 (backTo pos (starEach [e] env)) []) := by
    cases o with
    | Name _ _ => rfl
    | Subscript _ _ _ => rfl
    | _ => cases h
  refine ⟨(do return (← importBound o env).getD true), e1.trans ?_⟩
  unfold methodCall calleeOf methodCallPos
  simp only [F, if_true, hp, Bool.or_true]
  rfl
/-- what an expression reads as: the expression, the list, whether the reading holds -/
structure Rd where
  e : PySem.Expr
  l : List PySem.Expr
  ok : Bool
noncomputable def gtab : List (Str × Addr) := [("gcd", 41), ("gcd_all", 48), ("row_dot", 53), ("row_less", 58), ("nearest_whole", 65), ("gram_numbers", 72), ("is_exchanged", 79), ("shorten_row", 86), ("exchange_rows", 93), ("lll", 98), ("over_one_bottom", 103), ("whole_relations", 108), ("R0", 109), ("rat", 116), ("radd", 123), ("rmul", 130), ("_law_take", 137), ("_law_box", 144), ("_law_drawn", 149), ("_law_cross", 156), ("_law_is_made", 161)]
theorem GOk.of {x : Str} {a : Addr} (h : ∀ w : World, nsIn (Mine.K2 w.params) mainGlobals x = some (some (.ref a))) (g : ∀ w : World, a = 109 ∨ keepIn (Mine.K2 w.params) (.ref a) = true) : GOk x a := fun w => ⟨h w, g w⟩
theorem gtab_ok : ∀ p ∈ gtab, GOk p.1 p.2 := by
  unfold gtab
  repeat' (refine List.forall_mem_cons.mpr ⟨?_, ?_⟩)
  all_goals first | exact List.forall_mem_nil _ | exact GOk.of (fun w => by k_is) (fun w => .inl rfl) | exact GOk.of (fun w => by k_is) (fun w => .inr (by k_is))
noncomputable def R1 (e : PySem.Expr) (b : Bool) : Rd := ⟨e, [], b⟩
noncomputable def nmAt (l : List Str) (i : Nat) : Str := (l[i]?).getD ""
/-- the reading -/
noncomputable def rd : IE → SE → Rd
  | .int i p, _ => R1 (.Constant (.int i) 0 (dpos p)) true
  | .tt b p, _ => R1 (.Constant (.bool b) 0 (dpos p)) true
  | .loc i p, se => R1 (.Name (nmAt se.own i) (dpos p)) (Nat.blt i se.own.length && nmOk se (nmAt se.own i) .local)
  | .cel j k p, se => R1 (.Name (nmAt (se.cel.map (·.1)) j) (dpos p)) (se.cel[j]? == some (nmAt (se.cel.map (·.1)) j, k) && nmOk se (nmAt (se.cel.map (·.1)) j) .cell)
  | .kel i p, se => R1 (.Name (nmAt se.kel i) (dpos p)) (Nat.blt i se.kel.length && nmOk se (nmAt se.kel i) .cell)
  | .glb x a p, se => R1 (.Name x (dpos p)) (gtab.contains (x, a) && nmOk se x .globalImplicit)
  | .bin o a b p, se => R1 (.BinOp (rd a se).e o.op (rd b se).e (dpos p)) ((rd a se).ok && (rd b se).ok)
  | .neg a p, se => R1 (.UnaryOp .USub (rd a se).e (dpos p)) (rd a se).ok
  | .cmp o a b p, se => R1 (.Compare (rd a se).e [o.op] [(rd b se).e] (dpos p)) (noSet (rd b se).e && ((rd a se).ok && (rd b se).ok))
  | .and a b p, se => R1 (.BoolOp .And [(rd a se).e, (rd b se).e] (dpos p)) ((rd a se).ok && (rd b se).ok)
  | .ife o a b t e p p', se => R1 (.IfExp (.Compare (rd a se).e [o.op] [(rd b se).e] (dpos p')) (rd t se).e (rd e se).e (dpos p)) (noSet (rd b se).e && (((rd a se).ok && (rd b se).ok) && ((rd t se).ok && (rd e se).ok)))
  | .sub a i p, se => R1 (.Subscript (rd a se).e (rd i se).e (dpos p)) (noSlice (rd i se).e && ((rd a se).ok && (rd i se).ok))
  | .slB a i p p', se => R1 (.Subscript (rd a se).e (.Slice none (some (rd i se).e) none (dpos p')) (dpos p)) ((rd a se).ok && (rd i se).ok)
  | .slc a i p p', se => R1 (.Subscript (rd a se).e (.Slice none (some (rd i se).e) none (dpos p')) (dpos p)) ((rd a se).ok && (rd i se).ok)
  | .tup l p, se => R1 (.Tuple (rd l se).l 0 (dpos p)) (rd l se).ok
  | .lst l p, se => R1 (.List (rd l se).l (dpos p)) (rd l se).ok
  | .bfn f a p p', se => R1 (.Call (.Name f.nm (dpos p')) [(rd a se).e] [] (dpos p)) (nmOk se f.nm .globalImplicit && (plainE (rd a se).e && (rd a se).ok))
  | .max2 a b p p', se => R1 (.Call (.Name "max" (dpos p')) [(rd a se).e, (rd b se).e] [] (dpos p)) ((nmOk se "max" .globalImplicit && (plainE (rd a se).e && plainE (rd b se).e)) && ((rd a se).ok && (rd b se).ok))
  | .call x f l p p', se => R1 (.Call (.Name x (dpos p')) (rd l se).l [] (dpos p)) (((gtab.contains (x, f) && !Nat.beq f 109) && (nmOk se x .globalImplicit && (plainL (rd l se).l && !(rd l se).l.isEmpty))) && (rd l se).ok)
  | .app a x p ap, se => R1 (.Call (.Attribute (rd a se).e "append" (dpos ap)) [(rd x se).e] [] (dpos p)) ((methB (rd a se).e && (plainE (rd x se).e && ((dpos ap).endLine == (dpos p).line))) && ((rd a se).ok && (rd x se).ok))
  | .pop a p ap p', se => R1 (.Call (.Attribute (rd a se).e "pop" (dpos ap)) [.Constant (.int 0) 0 (dpos p')] [] (dpos p)) ((methB (rd a se).e && ((dpos ap).endLine == (dpos p).line)) && (rd a se).ok)
  | .cL e s x sc p px, se => R1 (.ListComp (rd e (se.inner (gsc sc) [x])).e [⟨.Name x (dpos px), (rd s se).e, [], 0⟩] (gsc sc) (dpos p)) ((scB se (gsc sc) [x] && noSet (rd s se).e) && ((rd e (se.inner (gsc sc) [x])).ok && (rd s se).ok))
  | .cT e o a b s x sc p px p', se => R1 (.ListComp (rd e (se.inner (gsc sc) [x])).e [⟨.Name x (dpos px), (rd s se).e, [.Compare (rd a (se.inner (gsc sc) [x])).e [o.op] [(rd b (se.inner (gsc sc) [x])).e] (dpos p')], 0⟩] (gsc sc) (dpos p)) ((scB se (gsc sc) [x] && (noSet (rd s se).e && noSet (rd b (se.inner (gsc sc) [x])).e)) && (((rd e (se.inner (gsc sc) [x])).ok && (rd s se).ok) && ((rd a (se.inner (gsc sc) [x])).ok && (rd b (se.inner (gsc sc) [x])).ok)))
  | .cR e s x sc p px p1 p2, se => R1 (.ListComp (rd e (se.inner (gsc sc) [x])).e [⟨.Name x (dpos px), .Call (.Name Bfn.range.nm (dpos p1)) [(rd s se).e] [] (dpos p2), [], 0⟩] (gsc sc) (dpos p)) ((scB se (gsc sc) [x] && (nmOk se Bfn.range.nm .globalImplicit && plainE (rd s se).e)) && ((rd e (se.inner (gsc sc) [x])).ok && (rd s se).ok))
  | .cRT e o a b s x sc p px p1 p2 p', se => R1 (.ListComp (rd e (se.inner (gsc sc) [x])).e [⟨.Name x (dpos px), .Call (.Name Bfn.range.nm (dpos p1)) [(rd s se).e] [] (dpos p2), [.Compare (rd a (se.inner (gsc sc) [x])).e [o.op] [(rd b (se.inner (gsc sc) [x])).e] (dpos p')], 0⟩] (gsc sc) (dpos p)) ((scB se (gsc sc) [x] && ((nmOk se Bfn.range.nm .globalImplicit && plainE (rd s se).e) && noSet (rd b (se.inner (gsc sc) [x])).e)) && (((rd e (se.inner (gsc sc) [x])).ok && (rd s se).ok) && ((rd a (se.inner (gsc sc) [x])).ok && (rd b (se.inner (gsc sc) [x])).ok)))
  | .cE e s x y sc p px py tp p1 p2, se => R1 (.ListComp (rd e (se.inner (gsc sc) [x, y])).e [⟨.Tuple [.Name x (dpos px), .Name y (dpos py)] 0 (dpos tp), .Call (.Name Bfn.enum.nm (dpos p1)) [(rd s se).e] [] (dpos p2), [], 0⟩] (gsc sc) (dpos p)) (((scB se (gsc sc) [x, y] && !(x == y)) && (nmOk se Bfn.enum.nm .globalImplicit && plainE (rd s se).e)) && ((rd e (se.inner (gsc sc) [x, y])).ok && (rd s se).ok))
  | .or l p, se => R1 (.BoolOp .Or (rd l se).l (dpos p)) (rd l se).ok
  | .nil, _ => ⟨.Constant .none 0 (dpos 0), [], true⟩
  | .cons a l, se => ⟨.Constant .none 0 (dpos 0), (rd a se).e :: (rd l se).l, plainE (rd a se).e && ((rd a se).ok && (rd l se).ok)⟩
theorem noSet_bim {o : CmpOp} {e : PySem.Expr} (h : noSet e = true) : behindInMarks o e = false := by cases e <;> first | rfl | cases h
theorem vbin_road {o : Bop} {a b : SV} {Q : SV → SSt → Prop} (h : vbin cx.md (roadB o a) a b st Q) : O2 c cx se st a b (binaryOp o.op) Q := roadB_op o a ▸ vbin_ok h
theorem vcmp_road {o : Cop} {a b : SV} {Q : SV → SSt → Prop} (h : vcmp (roadC o a b) a b (fun t => Q (.bool t) st) st) : O2 c cx se st a b (compareOp o.op) Q := roadC_op o a b ▸ vcmp_ok h
theorem tv_cmp {o : Cop} {l r' : PySem.Expr} {p : Pos} {Q1 : SV → SSt → Prop} {Q2 : SV → SV → SSt → Prop} {Q : Bool → SSt → Prop} (hr : noSet r' = true) (h1 : EV c cx se (eval l cx.env) st Q1) (h2 : ∀ a st1, Q1 a st1 → EV c cx se (eval r' cx.env) st1 (Q2 a)) (h3 : ∀ a b st2, Q2 a b st2 → vcmp (roadC o a b) a b (fun t => Q t st2) st2) : TV c cx se (.Compare l [o.op] [r'] p) st Q := by
  intro r QQ E S K
  refine wpAny_isTrue_Compare1 (h1 r _ _ S fun a st1 r1 x hq hx he S1 ra => h2 a st1 hq r1 _ _ S1 fun b st2 r2 y hq2 hx2 he2 S2 rb => ?_) (noSet_bim hr)
  refine vcmp_road (Q := fun v s => ∃ t, v = .bool t ∧ s = st2 ∧ Q t st2) (o := o) (a := a) (b := b) ?_ r2 _ _ x y S2 (ra.mono hx2) rb ?_
  · have := h3 a b st2 hq2
    exact vcmp_mono this fun t h => ⟨t, rfl, rfl, h⟩
  · rintro _ _ r3 z ⟨t, rfl, rfl, hQ⟩ hx3 he3 S3 hz
    cases hz
    exact wpAny_truthy_bool (K t _ r3 hQ ((hx.trans hx2).trans hx3) ⟨he3.1.trans (he2.1.trans he.1), fun p => (he3.2 p).trans ((he2.2 p).trans (he.2 p))⟩ S3)
theorem EltOk.of {c : Act} {se : SE} {e : IE} {elt : PySem.Expr} (ih : ∀ {cx : Cx} {st : SSt} {Q : SV → SSt → Prop}, CxOk c cx se → vc e cx.md st Q → EV c cx se (eval elt cx.env) st Q) : EltOk c se elt fun d s1 sv led K => vc e d { s1 with vars := [some sv], led := led } fun y s2 => K y s2.led :=
  fun cx st1 sv led K O h => ih O h
theorem EltTOk.of {c : Act} {se : SE} {o : Cop} {e a b : IE} {elt l r' : PySem.Expr} {p : Pos} (hr : noSet r' = true) (ih : ∀ {cx : Cx} {st : SSt} {Q : SV → SSt → Prop}, CxOk c cx se → vc e cx.md st Q → EV c cx se (eval elt cx.env) st Q)
    (ia : ∀ {cx : Cx} {st : SSt} {Q : SV → SSt → Prop}, CxOk c cx se → vc a cx.md st Q → EV c cx se (eval l cx.env) st Q) (ib : ∀ {cx : Cx} {st : SSt} {Q : SV → SSt → Prop}, CxOk c cx se → vc b cx.md st Q → EV c cx se (eval r' cx.env) st Q) :
    EltTOk c se (.Compare l [o.op] [r'] p) elt fun d s1 sv led K => vc a d { s1 with vars := [some sv], led := led } fun x s2 => vc b d s2 fun y s3 => vcmp (roadC o x y) x y (fun c => VIf c (vc e d s3 fun y s4 => K (some y) s4.led) (K none s3.led)) s3 :=
  fun cx st1 sv led K O h => tv_cmp hr (ia O h) (fun _ _ h => ib O h) fun _ _ _ h => vcmp_mono h fun _ h => ⟨fun e => ih O (h.t e), h.f⟩
theorem meth_call {o : PySem.Expr} {nm : Str} {apos pos : Pos} {args : List PySem.Expr} {id : String} (hm : MethOk o nm apos args pos) (slot : Slot "list" nm id) (hty : typeOf (.builtin id) = pure (.type "method_descriptor")) {Q1 : SV → SSt → Prop} {QQ E : Value → Shared → Prop} (S : Sat c cx se st r) (ho : EV c cx se (eval o cx.env) st Q1)
    (hl : ∀ a st1, Q1 a st1 → a.rf fun k => st1.lst k fun _ => True)
    (h : ∀ a st1 r1 x, Q1 a st1 → Ext r.ρ st.led.length r1.ρ st1.led.length → (r1.m = r.m ∧ (cx.md.pu = true → r1.h = r.h)) → Sat c cx se st1 r1 → Rep r1.ρ st1.led.length a x → wpAny c.M c.A (callWith pos (.builtin id) [x] (backTo pos (starEach args cx.env)) []) QQ E (c.sh r1)) :
    wpAny c.M c.A (eval (.Call (.Attribute o nm apos) args [] pos) cx.env) QQ E (c.sh r) := by
  obtain ⟨pl, he⟩ := hm cx.env
  refine MethodCall_ (pl := pl) (ho r _ _ S fun a st1 r1 x hq hx hm S1 ra => ?_) he
  obtain ⟨k, rfl, hl⟩ := SV.rf_ok (hl a st1 hq)
  obtain ⟨vs, _, hk, ws, n, e, _⟩ := S1.lst hl
  obtain ⟨hk', rfl⟩ := ra
  exact listMethod_K S1.N (by have z := S1.mem hk; rw [e] at z; exact z) slot hty (h _ st1 r1 _ hq hx hm S1 ⟨hk', rfl⟩)
theorem vapp_lst {d : Md} {a x : SV} {Q : SV → SSt → Prop} (h : vapp d a x st Q) : a.rf fun k => st.lst k fun _ => True := by
  obtain ⟨_, h⟩ := Md.may_ok h
  obtain ⟨k, rfl, h⟩ := SV.rf_ok h
  obtain ⟨o, e, h⟩ := opt_ok h
  show opt st.led[k]? _
  rw [e]; exact SO.l_mono h fun _ _ => trivial
theorem vpop_lst {d : Md} {a : SV} {Q : SV → SSt → Prop} (h : vpop d a st Q) : a.rf fun k => st.lst k fun _ => True := by
  obtain ⟨_, h⟩ := Md.may_ok h
  obtain ⟨k, rfl, h⟩ := SV.rf_ok h
  obtain ⟨o, e, h⟩ := opt_ok h
  obtain ⟨l, rfl, h⟩ := SO.is_ok h
  show opt st.led[k]? _
  rw [e]; trivial
theorem gcall {f : Addr} {l : List PySem.Expr} {e : PySem.Expr} {x : Str} {p p' : Pos} {Q1 : List SV → SSt → Prop} {Q : SV → SSt → Prop} (O : CxOk c cx se) (h : GOk x f) (hf : Nat.beq f 109 = false) (n : nmOk se x .globalImplicit = true) (pe : plainL (e :: l) = true) (hl : EVL c cx se (spliced (backTo p (starEach (e :: l) cx.env))) st Q1)
    (h3 : ∀ vs st1, Q1 vs st1 → cx.md.may (VCall cx.md f vs st1 Q)) : EV c cx se (eval (.Call (.Name x p') (e :: l) [] p) cx.env) st Q := by
  intro r QQ E S K
  obtain ⟨hk, hd⟩ := nmOk_ok n
  obtain ⟨hg, hkeep⟩ := h c.w
  have hkeep : keepIn (Mine.K2 c.w.params) (.ref f) = true := hkeep.elim (fun e => by rw [e] at hf; cases hf) id
  have pe' := Bool.and_eq_true_iff.mp pe
  refine Call_ (Name_function_global O.kind ((congrArg (List.lookup x) O.names).trans hk) (loadGlobal_global (env := cx.env) (show r.h.Ns cx.env.globals c.mg from O.glob ▸ (c.T.keeps S.F.keep).g) (mg_of c.X c.T.g hg) ?_) hd) rfl
  refine callWith_K c.X hkeep (hl r _ _ S fun vs st1 r1 xs hq hx he S1 ra => ?_) (star_eq pe'.1) (anyL pe'.2)
  obtain ⟨hu, h4⟩ := Md.may_ok (h3 vs st1 hq)
  exact ⟨c.X.keeps S1.F.keep, vcall_ok O hu h4 r1 _ _ xs S1 ra (K.at hx he)⟩
theorem a2 {a b : Bool} (h : (a && b) = true) : a = true ∧ b = true := Bool.and_eq_true_iff.mp h
theorem own_at {l : List Str} {i : Nat} (h : Nat.blt i l.length = true) : l[i]? = some (nmAt l i) := by
  have h' : i < l.length := by simpa using h
  unfold nmAt
  rw [List.getElem?_eq_getElem h']; rfl
theorem g_ok {x : Str} {a : Addr} (h : gtab.contains (x, a) = true) : GOk x a := gtab_ok (x, a) (by simpa using h)
noncomputable def EOk (ir : IE) : Prop := ∀ {se : SE}, (rd ir se).ok = true → ∀ {c : Act} {cx : Cx} {st : SSt} {Q : SV → SSt → Prop}, CxOk c cx se → vc ir cx.md st Q → EV c cx se (eval (rd ir se).e cx.env) st Q
noncomputable def LOk (ir : IE) : Prop := ∀ {se : SE}, (rd ir se).ok = true → ∀ {c : Act} {cx : Cx} {st : SSt} {Q : List SV → SSt → Prop} {p : Pos}, CxOk c cx se → vl ir cx.md st Q → EVL c cx se (spliced (backTo p (starEach (rd ir se).l cx.env))) st Q
theorem v_ok (ir : IE) : EOk ir ∧ LOk ir := by
  induction ir with
  | int i p => exact ⟨fun _ _ _ _ _ O h r QQ E S K => wpAny_Constant_int (K.same S h ⟨_, rfl⟩ _), fun _ _ _ _ _ _ _ v => False.elim v⟩
  | tt b p => exact ⟨fun _ _ _ _ _ O h r QQ E S K => wpAny_Constant_bool (K.same S h rfl _), fun _ _ _ _ _ _ _ v => False.elim v⟩
  | loc i p =>
    refine ⟨fun w _ _ _ _ O h => ?_, fun _ _ _ _ _ _ _ v => False.elim v⟩
    obtain ⟨w1, w2⟩ := a2 w
    obtain ⟨a, e, h⟩ := opt_ok h
    obtain ⟨v, rfl, h⟩ := opt_ok h
    exact ev_loc O (own_at w1) (nmOk_ok w2).1 (nmOk_ok w2).2 e h
  | cel j k p =>
    refine ⟨fun w _ _ _ _ O h => ?_, fun _ _ _ _ _ _ _ v => False.elim v⟩
    obtain ⟨w1, w2⟩ := a2 w
    obtain ⟨a, e, h⟩ := opt_ok h
    obtain ⟨v, rfl, h⟩ := SO.ce_ok h
    exact ev_cel O (List.mem_of_getElem? (beq_iff_eq.mp w1)) (nmOk_ok w2).1 (nmOk_ok w2).2 e h
  | kel i p =>
    refine ⟨fun w _ _ _ _ O h => ?_, fun _ _ _ _ _ _ _ v => False.elim v⟩
    obtain ⟨w1, w2⟩ := a2 w
    obtain ⟨a, e, h⟩ := opt_ok h
    exact ev_kel O (own_at w1) (nmOk_ok w2).1 (nmOk_ok w2).2 e h
  | glb x a p => exact ⟨fun w _ _ _ _ O h => ev_glb O (nmOk_ok (a2 w).2).1 (nmOk_ok (a2 w).2).2 (g_ok (a2 w).1 _).1 h, fun _ _ _ _ _ _ _ v => False.elim v⟩
  | bin o a b p ia ib => exact ⟨fun w _ _ _ _ O h r QQ E S K => wpAny_BinOp (ev2 (ia.1 (a2 w).1 O h) (fun _ _ h => ib.1 (a2 w).2 O h) (fun _ _ _ h => vbin_road h) S K), fun _ _ _ _ _ _ _ v => False.elim v⟩
  | neg a p ia => exact ⟨fun w _ _ _ _ O h r QQ E S K => wpAny_UnaryOp (ev1 (ia.1 w O h) (fun _ _ h => vneg_ok h) S K), fun _ _ _ _ _ _ _ v => False.elim v⟩
  | cmp o a b p ia ib => exact ⟨fun w _ _ _ _ O h r QQ E S K => wpAny_Compare1 (ev2 (ia.1 (a2 (a2 w).2).1 O h) (fun _ _ h => ib.1 (a2 (a2 w).2).2 O h) (fun _ _ _ h => vcmp_road h) S K) (noSet_bim (a2 w).1), fun _ _ _ _ _ _ _ v => False.elim v⟩
  | and a b p ia ib =>
    refine ⟨fun w _ _ _ _ O h r QQ E S K => BoolOp_and (ia.1 (a2 w).1 O h r _ _ S fun a st1 r1 x hq hx he S1 ra => ?_), fun _ _ _ _ _ _ _ v => False.elim v⟩
    obtain ⟨t, rfl, hv⟩ := SV.t_ok hq
    cases ra
    refine wpAny_truthy_bool ?_
    cases t with
    | true => exact BoolOp_one (ib.1 (a2 w).2 O (VIf.t hv rfl) r1 _ _ S1 (K.at hx he))
    | false => exact (K.at hx he).same S1 (VIf.f hv rfl) rfl _
  | ife o a b t e p p' ia ib it ie =>
    refine ⟨fun w _ _ _ _ O h r QQ E S K => ?_, fun _ _ _ _ _ _ _ v => False.elim v⟩
    obtain ⟨w0, w⟩ := a2 w
    obtain ⟨w1, w2⟩ := a2 w
    refine IfExp_ (tv_cmp (Q := fun t s => (t = true → EV _ _ _ _ s _) ∧ (t = false → EV _ _ _ _ s _)) w0 (ia.1 (a2 w1).1 O h) (fun _ _ h => ib.1 (a2 w1).2 O h) (fun _ _ _ h => vcmp_mono h fun _ h => ⟨fun e => it.1 (a2 w2).1 O (h.t e), fun e => ie.1 (a2 w2).2 O (h.f e)⟩) r _ _ S fun t st1 r1 hq hx he S1 => ?_)
    cases t with
    | true => exact hq.1 rfl r1 _ _ S1 (K.at hx he)
    | false => exact hq.2 rfl r1 _ _ S1 (K.at hx he)
  | sub a i p ia ii => exact ⟨fun w _ _ _ _ O h r QQ E S K => Subscript_ (ev2 (ia.1 (a2 (a2 w).2).1 O h) (fun _ _ h => ii.1 (a2 (a2 w).2).2 O h) (fun _ _ _ h => vsub_ok (a2 w).1 h) S K), fun _ _ _ _ _ _ _ v => False.elim v⟩
  | slB a i p p' ia ii => exact ⟨fun w _ _ _ _ O h r QQ E S K => Subscript_ (ia.1 (a2 w).1 O h r _ _ S fun a st1 r1 x hq hx he S1 ra => wpAny_Slice (wpAny_evalPart_none (wpAny_evalPart_some (ii.1 (a2 w).2 O hq r1 _ _ S1 fun b st2 r2 y hq2 hx2 he2 S2 rb => wpAny_evalPart_none (vslB_ok O hq2 S2 (ra.mono hx2) rb ((K.at hx he).at hx2 he2)))))), fun _ _ _ _ _ _ _ v => False.elim v⟩
  | slc a i p p' ia ii => exact ⟨fun w _ _ _ _ O h r QQ E S K => Subscript_ (ia.1 (a2 w).1 O h r _ _ S fun a st1 r1 x hq hx he S1 ra => wpAny_Slice (wpAny_evalPart_none (wpAny_evalPart_some (ii.1 (a2 w).2 O hq r1 _ _ S1 fun b st2 r2 y hq2 hx2 he2 S2 rb => wpAny_evalPart_none (vslc_ok hq2 S2 (ra.mono hx2) rb ((K.at hx he).at hx2 he2)))))), fun _ _ _ _ _ _ _ v => False.elim v⟩
  | tup l p il => exact ⟨fun w _ _ _ _ O h r QQ E S K => Tuple_ (il.2 w O h r _ _ S fun vs st1 r1 xs hq hx he S1 ra => vtup_ok hq r1 _ _ xs S1 ra (K.at hx he)), fun _ _ _ _ _ _ _ v => False.elim v⟩
  | lst l p il => exact ⟨fun w _ _ _ _ O h r QQ E S K => List_ (il.2 w O h r _ _ S fun vs st1 r1 xs hq hx he S1 ra => vlst_ok hq r1 _ _ xs S1 ra (K.at hx he)), fun _ _ _ _ _ _ _ v => False.elim v⟩
  | bfn f a p p' ia => exact ⟨fun w _ _ _ _ O h r QQ E S K => wp_bfn O f (nmOk_ok (a2 w).1).1 (a2 (a2 w).2).1 (ia.1 (a2 (a2 w).2).2 O h) S fun a st1 r1 x hq hx he S1 ra => vbfn_ok hq r1 _ _ x S1 ra (K.at hx he), fun _ _ _ _ _ _ _ v => False.elim v⟩
  | max2 a b p p' ia ib => exact ⟨fun w _ _ _ _ O h => ev_max2 O (nmOk_ok (a2 (a2 w).1).1).1 (a2 (a2 (a2 w).1).2).1 (a2 (a2 (a2 w).1).2).2 (ia.1 (a2 (a2 w).2).1 O h) (fun _ _ h => ib.1 (a2 (a2 w).2).2 O h) fun _ _ _ h => h, fun _ _ _ _ _ _ _ v => False.elim v⟩
  | call x f l p p' il =>
    refine ⟨fun {se} w _ _ _ _ O h => ?_, fun _ _ _ _ _ _ _ v => False.elim v⟩
    obtain ⟨w1, w2⟩ := a2 w
    obtain ⟨w1, w3⟩ := a2 w1
    obtain ⟨wa, wb⟩ := a2 w1
    obtain ⟨wc, w4⟩ := a2 w3
    obtain ⟨wd, w5⟩ := a2 w4
    clear w3 w4
    have I := fun {c cx st Q} (O : CxOk c cx se) h => il.2 w2 (c := c) (cx := cx) (st := st) (Q := Q) (p := dpos p) O h
    show EV _ _ _ (eval (.Call (.Name x (dpos p')) (rd l se).l [] (dpos p)) _) _ _
    clear w w2 w1
    generalize (rd l se).l = es at *
    cases es with
    | nil => cases w5
    | cons e es => exact gcall O (g_ok wa) (by simpa using wb) wc wd (I O h) fun _ _ h => h
  | app a x p ap ia ix =>
    refine ⟨fun w _ _ _ _ O h r QQ E S K => ?_, fun _ _ _ _ _ _ _ v => False.elim v⟩
    obtain ⟨w0, w⟩ := a2 w
    obtain ⟨w1, w2⟩ := a2 w0
    obtain ⟨w2, w3⟩ := a2 w2
    refine meth_call (meth_ok w1 w3 w2) PySem.F.slot_list_append PySem.F.type_list_append S (ia.1 (a2 w).1 O h) (fun a st1 hq => ?_) fun a st1 r1 y hq hx1 he S1 ra => ?_
    · obtain ⟨k, rfl, h⟩ := SV.rf_ok hq
      obtain ⟨o, e, h⟩ := opt_ok h
      show opt st1.led[k]? _
      rw [e]; exact SO.l_mono h fun _ _ => trivial
    · obtain ⟨k, e0, h⟩ := SV.rf_ok hq
      obtain ⟨_, h, _⟩ := S1.lst h
      refine callW (.inl ⟨_, rfl⟩) (by simp [plainL, w2]) (args_cons (ix.1 (a2 w).2 O h r1 _ _ S1 fun b st2 r2 z hq2 hx2 he2 S2 rb => args_nil ?_) (star_eq w2))
      exact vapp_ok hq2 r2 _ _ y z S2 (ra.mono hx2) rb ((K.at hx1 he).at hx2 he2)
  | pop a p ap p' ia =>
    refine ⟨fun w _ _ _ _ O h r QQ E S K => ?_, fun _ _ _ _ _ _ _ v => False.elim v⟩
    obtain ⟨w0, w⟩ := a2 w
    refine meth_call (meth_ok (a2 w0).1 (a2 w0).2 rfl) PySem.F.slot_list_pop PySem.F.type_list_pop S (ia.1 w O h) (fun a st1 hq => vpop_lst hq) fun a st1 r1 x hq hx he S1 ra => ?_
    exact callW (.inl ⟨_, rfl⟩) rfl (args_cons (wpAny_Constant_int (args_nil (vpop_ok hq (r1.heap r1.h (r1.tk + 1)) _ _ x (S1.heap S1.F S1.N) ra ((K.at hx he).at (r' := r1.heap r1.h (r1.tk + 1)) Ext.refl ⟨rfl, fun _ => rfl⟩)))) rfl)
  | cL e s x sc p px ie is => exact ⟨fun w _ _ _ _ O h => ev_cL O (scB_ok (a2 (a2 w).1).1).1 ((scB_ok (a2 (a2 w).1).1).2 _ (.head _)) (a2 (a2 w).1).2 (EltOk.of fun O h => ie.1 (a2 (a2 w).2).1 O h) (is.1 (a2 (a2 w).2).2 O h) fun _ _ h => h, fun _ _ _ _ _ _ _ v => False.elim v⟩
  | cT e o a b s x sc p px p' ie ia ib is => exact ⟨fun w _ _ _ _ O h => ev_cT O (scB_ok (a2 (a2 w).1).1).1 ((scB_ok (a2 (a2 w).1).1).2 _ (.head _)) (a2 (a2 (a2 w).1).2).1 (EltTOk.of (a2 (a2 (a2 w).1).2).2 (fun O h => ie.1 (a2 (a2 (a2 w).2).1).1 O h) (fun O h => ia.1 (a2 (a2 (a2 w).2).2).1 O h) (fun O h => ib.1 (a2 (a2 (a2 w).2).2).2 O h)) (is.1 (a2 (a2 (a2 w).2).1).2 O h) fun _ _ h => h, fun _ _ _ _ _ _ _ v => False.elim v⟩
  | cR e s x sc p px p1 p2 ie is => exact ⟨fun w _ _ _ _ O h => ev_cR O (scB_ok (a2 (a2 w).1).1).1 ((scB_ok (a2 (a2 w).1).1).2 _ (.head _)) (nmOk_ok (a2 (a2 (a2 w).1).2).1).1 (a2 (a2 (a2 w).1).2).2 (EltOk.of fun O h => ie.1 (a2 (a2 w).2).1 O h) (is.1 (a2 (a2 w).2).2 O h) fun _ _ h => h, fun _ _ _ _ _ _ _ v => False.elim v⟩
  | cRT e o a b s x sc p px p1 p2 p' ie ia ib is => exact ⟨fun w _ _ _ _ O h => ev_cRT O (scB_ok (a2 (a2 w).1).1).1 ((scB_ok (a2 (a2 w).1).1).2 _ (.head _)) (nmOk_ok (a2 (a2 (a2 (a2 w).1).2).1).1).1 (a2 (a2 (a2 (a2 w).1).2).1).2 (EltTOk.of (a2 (a2 (a2 w).1).2).2 (fun O h => ie.1 (a2 (a2 (a2 w).2).1).1 O h) (fun O h => ia.1 (a2 (a2 (a2 w).2).2).1 O h) (fun O h => ib.1 (a2 (a2 (a2 w).2).2).2 O h)) (is.1 (a2 (a2 (a2 w).2).1).2 O h) fun _ _ h => h, fun _ _ _ _ _ _ _ v => False.elim v⟩
  | cE e s x y sc p px py tp p1 p2 ie is => exact ⟨fun w _ _ _ _ O h => ev_cE (f := fun d s1 i sv K => vc e d { s1 with vars := [some (.int (Int.ofNat i)), some sv] } fun y _ => K y) O (scB_ok (a2 (a2 (a2 w).1).1).1).1 ((scB_ok (a2 (a2 (a2 w).1).1).1).2 _ (.head _)) ((scB_ok (a2 (a2 (a2 w).1).1).1).2 _ (.tail _ (.head _))) (by simpa using (a2 (a2 (a2 w).1).1).2) (nmOk_ok (a2 (a2 (a2 w).1).2).1).1 (a2 (a2 (a2 w).1).2).2 (fun _ _ _ _ _ _ O h => ie.1 (a2 (a2 w).2).1 O h) (is.1 (a2 (a2 w).2).2 O h) fun _ _ h => h, fun _ _ _ _ _ _ _ v => False.elim v⟩
  | or l p il => exact ⟨fun _ _ _ _ _ _ h => False.elim h, fun _ _ _ _ _ _ _ v => False.elim v⟩
  | nil => exact ⟨fun _ _ _ _ _ _ h => h.elim, fun _ _ _ _ _ _ O h => evl_nil h⟩
  | cons a l ia il => exact ⟨fun _ _ _ _ _ _ h => h.elim, fun w _ _ _ _ _ O h => evl_cons (a2 w).1 (ia.1 (a2 (a2 w).2).1 O h) fun _ _ h => il.2 (a2 (a2 w).2).2 O h⟩
end
section
variable {c : Act} {cx : Cx} {se : SE} {st : SSt} {r : Re}
noncomputable def KS (c : Act) (cx : Cx) (se : SE) (r : Re) (Q : Option SV → SSt → Prop) (QQ : Flow → Shared → Prop) : Prop :=
  (∀ st' r', Q none st' → (∀ k, k < cx.np → r'.ρ k = r.ρ k) → Sat c cx se st' r' → QQ .next (c.sh r')) ∧
  (∀ v st' r' x, Q (some v) st' → (∀ k, k < cx.np → r'.ρ k = r.ρ k) → Sat c cx se st' r' → Rep r'.ρ st'.led.length v x → QQ (.ret x) (c.sh r'))
/-- a statement, from a state that st stands for: none: on; some v: return v -/
noncomputable def WS (c : Act) (cx : Cx) (se : SE) (t : Sem Flow) (st : SSt) (Q : Option SV → SSt → Prop) : Prop :=
  ∀ r QQ E, PassesOwn c.M c.A cx.env E → Sat c cx se st r → KS c cx se r Q QQ → wpAny c.M c.A t QQ E (c.sh r)
/-- a store -/
noncomputable def SJ (c : Act) (cx : Cx) (se : SE) (v : SV) (f : Value → Sem Unit) (st : SSt) (Q : SSt → Prop) : Prop :=
  ∀ r (QQ : Unit → Shared → Prop) E x, Sat c cx se st r → Rep r.ρ st.led.length v x → (∀ st' r', Q st' → Ext r.ρ st.led.length r'.ρ st'.led.length → Sat c cx se st' r' → QQ () (c.sh r')) → wpAny c.M c.A (f x) QQ E (c.sh r)
theorem KS.at {r r1 : Re} {Q : Option SV → SSt → Prop} {QQ : Flow → Shared → Prop} (K : KS c cx se r Q QQ) (h : ∀ k, k < cx.np → r1.ρ k = r.ρ k) : KS c cx se r1 Q QQ :=
  ⟨fun st' r' q e => K.1 st' r' q fun k hk => (e k hk).trans (h k hk), fun v st' r' x q e => K.2 v st' r' x q fun k hk => (e k hk).trans (h k hk)⟩
theorem Sat.pin (S : Sat c cx se st r) {ρ' : Nat → Addr} {n' : Nat} (hx : Ext r.ρ st.led.length ρ' n') : ∀ k, k < cx.np → ρ' k = r.ρ k := fun k hk => hx.eq k (Nat.lt_of_lt_of_le hk S.npl)
theorem varsSet {ρ : Nat → Addr} {n : Nat} {own : List Str} {vars : List (Option SV)} {m : Str → Option Value} (f : VarsOk ρ n own vars m) (nd : own.Nodup) {i : Nat} {x : Str} {v : SV} {y : Value} (hx : own[i]? = some x) (rv : Rep ρ n v y) : VarsOk ρ n own (vars.set i (some v)) fun z => if z = x then some y else m z := by
  intro j z w e1 e2
  rw [List.getElem?_set] at e2
  by_cases hij : i = j
  · subst hij
    rw [hx] at e1; cases e1
    rw [if_pos rfl] at e2
    split at e2
    · cases e2; exact ⟨y, if_pos rfl, rv⟩
    · cases e2
  · rw [if_neg hij] at e2
    obtain ⟨q, a, b⟩ := f j z w e1 e2
    refine ⟨q, ?_, b⟩
    show (if z = x then some y else m z) = _
    rw [if_neg fun e => hij ?_]; · exact a
    subst e
    exact (List.getElem?_inj (List.getElem?_eq_some_iff.mp hx).1 nd).mp (hx.trans e1.symm)
theorem frm_none {ρ : Nat → Addr} {n : Nat} {own : List Str} {vars : List (Option SV)} {m : Str → Option Value} (hc : cx.cmp = none) : Frm ρ n cx own vars m ↔ VarsOk ρ n own vars m := by
  obtain ⟨env, cmp, rest, ωf, ρf, np, md⟩ := cx
  cases hc
  exact Iff.rfl
theorem Sat.setv (S : Sat c cx se st r) (O : CxOk c cx se) (hc : cx.cmp = none) {i : Nat} {x : Str} {v : SV} {y : Value} {h' : Heap} {tk : Nat} (hx : se.own[i]? = some x) (rv : Rep r.ρ st.led.length v y) (F : Fr c.h₀ c.L h' fun z => if z = x then some y else r.m z) (N : News c.h₀ c.L h' (nws r.ρ r.ω cx.rest st.led.length)) :
    Sat c cx se (st.setv i v) (r.frame (fun z => if z = x then some y else r.m z) h' tk) :=
  ⟨F, N, S.obj, S.inj, S.apart, S.frz, (frm_none hc).mpr (varsSet ((frm_none hc).mp S.frm) O.nd hx rv), S.cells, S.kels, S.kvl, S.npl⟩
theorem sj_loc (O : CxOk c cx se) (hc : cx.cmp = none) {i : Nat} {x : Str} {v : SV} {Q : SSt → Prop} (hx : se.own[i]? = some x) (hk : se.kinds.lookup x = some .local) (h : Q (st.setv i v)) : SJ c cx se v (fun y => storeName cx.env x y) st Q := by
  intro r QQ E y S rv K
  have e := O.fn hc
  have hkk : c.env.kindOf x = some .local := by rw [← e]; exact (congrArg (List.lookup x) O.names).trans hk
  show wpAny _ _ (storeName cx.env x y) _ _ _
  rw [e]
  exact storeX_L S.F S.N (fun h' F N => K _ (r.frame _ h' (r.tk + 1)) h Ext.refl (S.setv O hc hx rv F N)) c.hk hkk
theorem sj_cel (O : CxOk c cx se) {k : Nat} {x : Str} {v : SV} {v0 : Option SV} {Q : SSt → Prop} (hx : (x, k) ∈ se.cel) (hk : se.kinds.lookup x = some .cell) (hl : st.led[k]? = some (.cell v0)) (hz : k ∉ cx.md.fz) (h : Q (st.upd k (.cell (some v)))) : SJ c cx se v (fun y => storeName cx.env x y) st Q := by
  intro r QQ E y S rv K
  obtain ⟨a, b⟩ := S.cells x k hx hk
  have z := S.obj k _ hl
  have z2 : ∃ o, (r.ω k).data = .cell o := by
    cases v0 with
    | none => exact ⟨_, z⟩
    | some _ => obtain ⟨q, e, _⟩ := z; exact ⟨_, e⟩
  obtain ⟨o, z2⟩ := z2
  refine wpAny_storeName_cell O.kind ((congrArg (List.lookup x) O.names).trans hk) b ⟨_, S.get a, z2⟩ fun h' ⟨o', e1, e2⟩ hs => ?_
  have hl' : (st.upd k (.cell (some v))).led.length = st.led.length := List.length_set
  exact K _ (r.upd k o' h' r.tk) h (hl' ▸ Ext.refl) (S.upd hz a hs e1 ⟨y, e2, rv⟩)
noncomputable def vset (d : Md) (o i v : SV) (st : SSt) (Q : SSt → Prop) : Prop :=
  o.rf fun k => i.i fun j => natI j fun n => st.lst k fun vs => few vs.length (yes (Nat.blt n vs.length) (yes (!d.fz.contains k) (Q (st.upd k (.lst (vs.set n v))))))
theorem wp_set {o i v : SV} {Q : SSt → Prop} (h : vset cx.md o i v st Q) {QQ : Unit → Shared → Prop} {E : Value → Shared → Prop} {x y z : Value} (S : Sat c cx se st r) (ho : Rep r.ρ st.led.length o x) (hi : Rep r.ρ st.led.length i y) (hv : Rep r.ρ st.led.length v z) (K : ∀ st' r', Q st' → Ext r.ρ st.led.length r'.ρ st'.led.length → Sat c cx se st' r' → QQ () (c.sh r')) :
    wpAny c.M c.A (setItem x y z) QQ E (c.sh r) := by
  obtain ⟨k, rfl, h⟩ := SV.rf_ok h
  obtain ⟨j, rfl, h⟩ := SV.i_ok h
  obtain ⟨n, rfl, h⟩ := natI_ok h
  obtain ⟨_, rfl⟩ := ho
  obtain ⟨u, rfl⟩ := hi
  obtain ⟨vs, h, hk, ws, m, e, l, R⟩ := S.lst h
  obtain ⟨hz, h⟩ := few_ok h
  obtain ⟨hn, h⟩ := yes_ok h
  obtain ⟨hf, h⟩ := yes_ok h
  have hn' : n < vs.length := by simpa using hn
  have hD : r.h.get? (r.ρ k) = some (listOf ws.toArray m) := by rw [S.get hk, e]
  have q := PySem.IsL.update hD fun xs => xs.setIfInBounds n z
  rw [show ws.toArray.setIfInBounds n z = (ws.set n z).toArray by simp, if_pos (by simp)] at q
  have hl' : (st.upd k (.lst (vs.set n v))).led.length = st.led.length := List.length_set
  refine ki_setAt (s := c.sh r) hD (by omega) (by omega) (by rw [R.size]; omega) ?_
  rw [Int.toNat_natCast]
  exact K _ (r.upd k (listOf (ws.set n z).toArray m) _ r.tk) h (hl' ▸ Ext.refl) (S.upd (nfz hf) hk (Heap.SameBut.update ..) q ⟨_, _, rfl, R.set hv n⟩)
noncomputable def SO.cl (v : SO) (P : Prop) : Prop := match v with | .cell _ => P | _ => False
theorem SO.cl_ok {v : SO} {P : Prop} (h : v.cl P) : ∃ o, v = .cell o ∧ P := by cases v <;> first | exact ⟨_, rfl, h⟩ | exact h.elim
/-- targets -/
inductive IT where
  | loc (i p : Nat) | cel (j k p : Nat) | sub (a i : IE) (p : Nat)
noncomputable def IT.ie : IT → IE
  | .loc i p => .loc i p
  | .cel j k p => .cel j k p
  | .sub a i p => .sub a i p
noncomputable def rt (t : IT) (se : SE) : PySem.Expr := (rd t.ie se).e
noncomputable def rtB (t : IT) (se : SE) : Bool := (rd t.ie se).ok
theorem rt_plain {t : IT} : plainE (rt t se) = true := by cases t <;> rfl
/-- a store to a target -/
noncomputable def vtg (t : IT) (d : Md) (st : SSt) (v : SV) (Q : SSt → Prop) : Prop :=
  match t with
  | .loc i _ => Q (st.setv i v)
  | .cel _ k _ => opt st.led[k]? fun o => o.cl (yes (!d.fz.contains k) (Q (st.upd k (.cell (some v)))))
  | .sub a i _ => vc a d st fun x s1 => vc i d s1 fun y s2 => vset d x y v s2 Q
theorem tg_ok {t : IT} (w : rtB t se = true) {v : SV} {Q : SSt → Prop} (O : CxOk c cx se) (hc : cx.cmp = none) (h : vtg t cx.md st v Q) : SJ c cx se v (fun y => assign (rt t se) cx.env y) st Q := by
  intro r QQ E y S rv K
  cases t with
  | loc i p => exact PyProof.Rows.assign_Name (sj_loc O hc (own_at (a2 w).1) (nmOk_ok (a2 w).2).1 h r QQ E y S rv K)
  | cel j k p =>
    obtain ⟨o, e, h⟩ := opt_ok h
    obtain ⟨o, rfl, h⟩ := SO.cl_ok h
    obtain ⟨hf, h⟩ := yes_ok h
    exact PyProof.Rows.assign_Name (sj_cel O (List.mem_of_getElem? (beq_iff_eq.mp (a2 w).1)) (nmOk_ok (a2 w).2).1 e (nfz hf) h r QQ E y S rv K)
  | sub a i p => exact kas_sub ((v_ok a).1 (a2 (a2 w).2).1 O h r _ _ S fun a st1 r1 x hq hx he S1 ra => (v_ok i).1 (a2 (a2 w).2).2 O hq r1 _ _ S1 fun b st2 r2 z hq2 hx2 he2 S2 rb => wp_set hq2 S2 (ra.mono hx2) rb (rv.mono (hx.trans hx2)) fun st' r' q x3 S3 => K st' r' q ((hx.trans hx2).trans x3) S3)
/-- tests -/
inductive ITs where
  | cmp (o : Cop) (a b : IE) (p : Nat) | call (x : Str) (f : Addr) (l : IE) (p p' : Nat) | or (l : ITs) (p : Nat) | nil | cons (t r : ITs)
noncomputable def ITs.ie : ITs → IE
  | .cmp o a b p => .cmp o a b p
  | .call x f l p p' => .call x f l p p'
  | .or l p => .or l.ie p
  | .nil => .nil
  | .cons t r => .cons t.ie r.ie
noncomputable def vt : ITs → Md → SSt → (Bool → SSt → Prop) → Prop
  | .cmp o a b _, d, st, Q => vc a d st fun x s1 => vc b d s1 fun y s2 => vcmp (roadC o x y) x y (fun t => Q t s2) s2
  | .call x f l p p', d, st, Q => vc (.call x f l p p') d st fun x s1 => x.t fun t => Q t s1
  | .or l _, d, st, Q => vt l d st Q
  | .nil, _, st, Q => Q false st
  | .cons t r, d, st, Q => vt t d st fun b s1 => VIf b (Q true s1) (vt r d s1 Q)
noncomputable def ITs.isL : ITs → Bool
  | .nil => true
  | .cons _ _ => true
  | _ => false
noncomputable def ITs.okL : ITs → Bool
  | .or l _ => l.isL && l.okL
  | .cons t r => (!t.isL && r.isL) && (t.okL && r.okL)
  | _ => true
theorem vt_ok (t : ITs) : ∀ {st : SSt}, (rd t.ie se).ok = true → t.okL = true → ∀ {Q : Bool → SSt → Prop}, CxOk c cx se → vt t cx.md st Q → (t.isL = false → TV c cx se (rd t.ie se).e st Q) ∧
    (t.isL = true → ∀ r QQ E (p : Pos) (whole : Sem Value), Sat c cx se st r → (∀ b st' r', Q b st' → Ext r.ρ st.led.length r'.ρ st'.led.length → (r'.m = r.m ∧ (cx.md.pu = true → r'.h = r.h)) → Sat c cx se st' r' → QQ b (c.sh r')) → wpAny c.M c.A (isTrue (.BoolOp .Or (rd t.ie se).l p) cx.env whole) QQ E (c.sh r)) := by
  induction t with
  | cmp o a b p => exact fun w _ _ O h => ⟨fun _ => tv_cmp (a2 w).1 ((v_ok a).1 (a2 (a2 w).2).1 O h) (fun _ _ h => (v_ok b).1 (a2 (a2 w).2).2 O h) fun _ _ _ h => h, nofun⟩
  | call x f l p p' =>
    refine fun w _ _ O h => ⟨fun _ r QQ E S K => isTrue_plain ((v_ok (.call x f l p p')).1 w O h r _ _ S fun a st1 r1 x hq hx he S1 ra => ?_) rfl, nofun⟩
    obtain ⟨t, rfl, hq⟩ := SV.t_ok hq
    cases ra
    exact wpAny_truthy_bool (K t st1 r1 hq hx he S1)
  | or l p il => exact fun w k _ O h => ⟨fun _ r QQ E S K => (il w (a2 k).2 O h).2 (a2 k).1 r QQ E _ _ S K, nofun⟩
  | nil => exact fun w _ _ O h => ⟨nofun, fun _ r QQ E p w S K => isTrue_or_nil (K _ _ r h Ext.refl ⟨rfl, fun _ => rfl⟩ S)⟩
  | cons t l it il =>
    exact fun w k _ O h => ⟨nofun, fun hL r QQ E p wh S K => isTrue_or ((it (a2 (a2 w).2).1 (a2 (a2 k).2).1 O h).1 (by simpa using (a2 (a2 k).1).1) r _ _ S fun b st1 r1 hq hx he S1 => by
      cases b with
      | true => exact K _ st1 r1 (hq.t rfl) hx he S1
      | false => exact (il (a2 (a2 w).2).2 (a2 (a2 k).2).2 O (hq.f rfl)).2 (a2 (a2 k).1).2 r1 QQ E p wh S1 fun b st2 r2 hq2 hx2 he2 S2 => K b st2 r2 hq2 (hx.trans hx2) ⟨he2.1.trans he.1, fun p => (he2.2 p).trans (he.2 p)⟩ S2)⟩
noncomputable def Cx.loop (cx : Cx) (ex : Led) (r₀ : Re) (fz : List Nat) : Cx := { cx with rest := ex ++ cx.rest, ωf := r₀.ω, ρf := r₀.ρ, md := { cx.md with fz := fz } }
theorem CxOk.loop (O : CxOk c cx se) {ex : Led} {r₀ : Re} {fz : List Nat} : CxOk c (cx.loop ex r₀ fz) se := ⟨O.names, O.kind, O.glob, O.blt, O.nd, O.fn, O.w, O.d, O.cl, O.npe⟩
structure LMid (c : Act) (cx : Cx) (se : SE) (r₀ : Re) (fz : List Nat) (ads : List Addr) (st : SSt) (r : Re) : Prop where
  S : Sat c cx se st r
  pin : ∀ k, k < cx.np → r.ρ k = r₀.ρ k
  fzs : ∀ k ∈ fz, k < st.led.length ∧ r.ω k = r₀.ω k ∧ r.ρ k = r₀.ρ k
  off : ∀ p ∈ nws r.ρ r.ω cx.rest st.led.length, p.1 ∉ ads
theorem loop_frm {ρ : Nat → Addr} {n : Nat} {own : List Str} {vars : List (Option SV)} {m : Str → Option Value} {ex : Led} {r₀ : Re} {fz : List Nat} (hc : cx.cmp = none) : Frm ρ n (cx.loop ex r₀ fz) own vars m ↔ Frm ρ n cx own vars m := by
  obtain ⟨env, cmp, rest, ωf, ρf, np, md⟩ := cx
  cases hc
  exact Iff.rfl
section
variable {r₀ : Re} {fz : List Nat} {ads : List Addr} {its : Led}
theorem LMid.enter (M : LMid c cx se r₀ fz ads st r) (hc : cx.cmp = none) {h : Heap} {tk : Nat} (hi : ∀ q ∈ its, q.1 ∈ ads) (F : Fr c.h₀ c.L h r.m) (N : News c.h₀ c.L h (its ++ nws r.ρ r.ω cx.rest st.led.length)) : Sat c (cx.loop its r₀ fz) se st (r.heap h tk) := by
  have S := M.S
  refine ⟨F, fun p hp => N p ?_, S.obj, S.inj, fun p hp k hk => ?_, M.fzs, (loop_frm hc).mpr S.frm, S.cells, fun i x v a b d => ?_, S.kvl, S.npl⟩
  · rcases nws_mem.mp hp with h | h
    · exact List.mem_append_right _ (nws_mem.mpr (.inl h))
    · exact (List.mem_append.mp h).elim (List.mem_append_left _) fun h => List.mem_append_right _ (nws_mem.mpr (.inr h))
  · rcases List.mem_append.mp hp with h | h
    · exact fun e => M.off _ (S.mem hk) (show r.ρ k ∈ ads from e ▸ hi p h)
    · exact S.apart p h k hk
  · obtain ⟨K, oK, y, e, f, g⟩ := S.kels i x v a b d
    exact ⟨K, oK, y, e, List.mem_append_right _ f, g⟩
theorem LMid.leave (hk : se.kel = []) (hc : cx.cmp = none) (hads : ∀ a ∈ ads, ∃ q ∈ its, q.1 = a) (hfz : ∀ k ∈ cx.md.fz, k ∈ fz ∧ r₀.ω k = cx.ωf k ∧ r₀.ρ k = cx.ρf k) (offr : ∀ p ∈ cx.rest, p.1 ∉ ads) (S : Sat c (cx.loop its r₀ fz) se st r) (pin : ∀ k, k < cx.np → r.ρ k = r₀.ρ k) : LMid c cx se r₀ fz ads st r := by
  refine ⟨⟨S.F, fun p hp => S.N p (nws_mem.mpr ((nws_mem.mp hp).imp_right (List.mem_append_right _))), S.obj, S.inj, fun p hp => S.apart p (List.mem_append_right _ hp), fun k hz => ?_, (loop_frm hc).mp S.frm, S.cells, fun i x v a => ?_, S.kvl, S.npl⟩, pin, S.frz, fun p hp ha => ?_⟩
  · obtain ⟨a, b, d⟩ := hfz k hz
    obtain ⟨e1, e2, e3⟩ := S.frz k a
    exact ⟨e1, e2.trans b, e3.trans d⟩
  · rw [hk] at a; cases a
  · rcases nws_mem.mp hp with ⟨k, hk, rfl⟩ | h
    · obtain ⟨q, hq, e⟩ := hads _ ha
      exact S.apart q (List.mem_append_left _ hq) k hk e
    · exact offr p h ha
/-- the elements of a list or a tuple -/
noncomputable def SO.lu (v : SO) (K : List SV → Prop) : Prop := match v with | .lst i => K i | .tup i => K i | .isq l => K (l.map SV.int) | _ => False
theorem lu_at {ρ : Nat → Addr} {n : Nat} {o : SO} {ob : Obj} {K : List SV → Prop} {ws : List Value} {m : Nat} (h : o.lu K) (R : RepO ρ n o ob) (e : ob.data = .seq ws.toArray m) : ∃ vs, K vs ∧ RepL ρ n vs ws := by
  have H : ∀ {us : List Value} {j : Nat}, ob.data = .seq us.toArray j → us = ws := fun {us j} e2 => by
    rw [e] at e2; cases e2; rfl
  cases o with
  | lst vs => obtain ⟨us, j, e2, r⟩ := R; cases H (by rw [e2]); exact ⟨vs, h, r⟩
  | tup vs => obtain ⟨us, j, e2, r⟩ := R; cases H (by rw [e2]); exact ⟨vs, h, r⟩
  | isq l => obtain ⟨us, j, e2, r⟩ := R; cases H (by rw [e2]); exact ⟨_, h, repInts r⟩
  | cell _ => exact h.elim
/-- on after a turn, or out -/
noncomputable def nxt (o : Option SV) (P : Prop) (K : SV → Prop) : Prop := match o with | none => P | some v => K v
/-- the turns over an object that stays: it is read anew at each turn -/
noncomputable def loopR (f : Nat → SV → SSt → (Option SV → SSt → Prop) → Prop) (k : Nat) : Nat → Nat → SSt → (Option SV → SSt → Prop) → Prop
  | 0, _, st, Q => Q none st
  | n + 1, i, st, Q => opt st.led[k]? fun o => o.lu fun vs => opt vs[i]? fun v => f i v st fun o st' => nxt o (loopR f k n (i + 1) st' Q) fun v => Q (some v) st'
/-- what a turn is given -/
noncomputable def IP (b : Bool) (n : Nat) (i : Nat) (sv : SV) (r : Re) (v : Value) : Prop :=
  match b with
  | false => Rep r.ρ n sv v
  | true => ∃ T t x, v = .ref T ∧ IsTup r.h T #[.int (Int.ofNat i) t, x] ∧ Rep r.ρ n sv x
noncomputable def itm (b : Bool) : Nat → List Value → List Itm
  | _, [] => []
  | i, v :: r => (match b with | false => Itm.val v | true => .pair (fun t => .int (i : Int) t) v) :: itm b (i + 1) r
theorem itm_val : ∀ {vs : List Value} {i : Nat}, itm false i vs = vs.map Itm.val
  | [], _ => rfl
  | v :: r, i => congrArg (Itm.val v :: ·) (itm_val (vs := r) (i := i + 1))
theorem itm_pair : ∀ {vs : List Value} {i : Nat}, itm true i vs = enumItems i vs
  | [], _ => rfl
  | v :: r, i => congrArg (Itm.pair (fun t => .int (i : Int) t) v :: ·) (itm_pair (vs := r) (i := i + 1))
theorem allObj : ∀ {ws : List (Addr × String)} {k : Led → Prop}, (∀ its : Led, its.map (·.1) = ws.map (·.1) → k its) → AllObj ws k
  | [], k, h => h [] rfl
  | w :: r, k, h => fun o _ => allObj fun its e => h ((w.1, o) :: its) (congrArg (w.1 :: ·) e)
/-- one turn of a loop: the target is set, the body runs -/
noncomputable def TurnOk (c : Act) (cx : Cx) (se : SE) (b : Bool) (r₀ : Re) (fz : List Nat) (target : PySem.Expr) (body : List Stmt) (f : Nat → SV → SSt → (Option SV → SSt → Prop) → Prop) : Prop :=
  ∀ its i sv st K, f i sv st K → ∀ r QQ E v, PassesOwn c.M c.A c.env E → Sat c (cx.loop its r₀ fz) se st r → IP b st.led.length i sv r v → KS c (cx.loop its r₀ fz) se r K QQ →
    wpAny c.M c.A (assign target c.env v) (fun _ s₂ => wpAny c.M c.A (execs body c.env) QQ E s₂) E (c.sh r)
/-- what the turns of a loop keep -/
structure LT (c : Act) (cx : Cx) (se : SE) (r₀ : Re) (fz : List Nat) (ads : List Addr) (s : Shared) : Prop where
  kel : se.kel = []
  cmp : cx.cmp = none
  hs : ∃ g u, s = { c.s with heap := g, toks := u }
  hfz : ∀ k ∈ cx.md.fz, k ∈ fz ∧ r₀.ω k = cx.ωf k ∧ r₀.ρ k = cx.ρf k
  offr : ∀ p ∈ cx.rest, p.1 ∉ ads
theorem turns {b : Bool} {ws : List (Addr × String)} {s : Shared} (T : LT c cx se r₀ fz (ws.map (·.1)) s) {k : Nat} (hk : k ∈ fz) {all : List Value} {m : Nat} (hd : (r₀.ω k).data = .seq all.toArray m) {target : PySem.Expr} {body : List Stmt} {f : Nat → SV → SSt → (Option SV → SSt → Prop) → Prop} (hf : TurnOk c cx se b r₀ fz target body f)
    {Q : Option SV → SSt → Prop} {QQ : Flow → Shared → Prop} {E : Value → Shared → Prop} (hE : PassesOwn c.M c.A c.env E) (K : KS c cx se r₀ Q QQ) : ∀ (vs : List Value) (i : Nat) (st : SSt) (r : Re), (∀ j : Nat, vs[j]? = all[i + j]?) → loopR f k vs.length i st Q → LMid c cx se r₀ fz (ws.map (·.1)) st r →
    ItemsRest PySem.Challenge.rw_nn0256_01.row.prog c.w c.A E c.h₀ c.env target body QQ s ws [(r₀.ρ k, r₀.ω k)] (itm b i vs) r.m (nws r.ρ r.ω cx.rest st.led.length)
  | [], i, st, r, ha, h, M => by
    obtain ⟨g, u, hs⟩ := T.hs
    intro h' tk F N
    subst hs
    exact K.1 st (r.heap h' tk) h M.pin (M.S.heap F N)
  | v :: vs, i, st, r, ha, h, M => by
    obtain ⟨g, u, hs⟩ := T.hs
    obtain ⟨o, e, h1⟩ := opt_ok h
    obtain ⟨e1, e2, e3⟩ := M.fzs k hk
    obtain ⟨us, h2, R⟩ := lu_at h1 (M.S.obj k o e) (e2 ▸ hd)
    obtain ⟨sv, e4, h3⟩ := opt_ok h2
    obtain ⟨v', e5, rv⟩ := R.get e4
    have ev : v' = v := by
      have := ha 0
      rw [Nat.add_zero, e5] at this
      exact (Option.some.inj this).symm
    subst ev
    have main : ∀ h' tk y, Fr c.h₀ c.L h' r.m → IP b st.led.length i sv (r.heap h' tk) y → AllObj ws fun its => News c.h₀ c.L h' (its ++ nws r.ρ r.ω cx.rest st.led.length) →
        wpAny c.M c.A (assign target c.env y) (fun _ s₂ => wpAny c.M c.A (execs body c.env) (UnrPostW c.h₀ c.L { s with heap := h', toks := tk } its (fun m' n' => SubL [(r₀.ρ k, r₀.ω k)] n' ∧ ItemsRest PySem.Challenge.rw_nn0256_01.row.prog c.w c.A E c.h₀ c.env target body QQ s ws [(r₀.ρ k, r₀.ω k)] (itm b (i + 1) vs) m' n') QQ) E s₂) E { s with heap := h', toks := tk } := fun h' tk y F hy => allObj fun its hi N => by
      have i1 : ∀ q ∈ its, q.1 ∈ ws.map (·.1) := fun q hq => hi ▸ List.mem_map.mpr ⟨q, hq, rfl⟩
      have i2 : ∀ a ∈ ws.map (·.1), ∃ q ∈ its, q.1 = a := fun a ha => by rw [← hi] at ha; exact List.mem_map.mp ha
      have Si := M.enter T.cmp (tk := tk) i1 F N
      have z := hf its i sv st _ h3 (r.heap h' tk) (UnrPostW c.h₀ c.L { s with heap := h', toks := tk } its (fun m' n' => SubL [(r₀.ρ k, r₀.ω k)] n' ∧ ItemsRest PySem.Challenge.rw_nn0256_01.row.prog c.w c.A E c.h₀ c.env target body QQ s ws [(r₀.ρ k, r₀.ω k)] (itm b (i + 1) vs) m' n') QQ) E y hE Si hy ⟨fun st' r' hq hp S' => ?_, fun x st' r' xv hq hp S' rx => ?_⟩
      · subst hs; exact z
      · have M' := LMid.leave T.kel T.cmp i2 T.hfz T.offr S' fun j hj => (hp j hj).trans (M.pin j hj)
        refine ⟨r'.h, r'.tk, r'.m, nws r'.ρ r'.ω cx.rest st'.led.length, ?_, S'.F, fun p hp => S'.N p (nws_mem.mpr ?_), fun p hp q hq e => M'.off p hp (e ▸ i1 q hq), ⟨nws_mem.mpr (.inl ⟨k, (M'.fzs k hk).1, ?_⟩), trivial⟩, ?_⟩
        · subst hs; rfl
        · rcases List.mem_append.mp hp with hp | hp
          · exact .inr (List.mem_append_left _ hp)
          · exact (nws_mem.mp hp).imp_right (List.mem_append_right _)
        · rw [(M'.fzs k hk).2.1, (M'.fzs k hk).2.2]
        · exact turns T hk hd hf hE K vs (i + 1) st' r' (fun j => by rw [Nat.add_assoc, Nat.add_comm 1 j, ← ha (j + 1)]; rfl) hq M'
      · have M' := LMid.leave T.kel T.cmp i2 T.hfz T.offr S' fun j hj => (hp j hj).trans (M.pin j hj)
        exact K.2 x st' r' xv hq M'.pin M'.S rx
    cases b with
    | false => exact ItemsRest.val fun h' tk F => main h' tk v' F rv
    | true => exact ItemsRest.pair fun U t h' tk ht F => main h' tk (.ref U) F ⟨U, t, v', rfl, ht, rv⟩
end
theorem assignEach_cons {e : PySem.Expr} {l : List PySem.Expr} {env : Env} (h : plainE e = true) : assignEach (e :: l) env = (false, assign e env) :: assignEach l env := by
  cases e <;> first | rfl | cases h
theorem sj_two {t1 t2 : IT} (w1 : rtB t1 se = true) (w2 : rtB t2 se = true) {v1 v2 : SV} {Q : SSt → Prop} (O : CxOk c cx se) (hc : cx.cmp = none) (h : vtg t1 cx.md st v1 fun s1 => vtg t2 cx.md s1 v2 Q) {QQ : Unit → Shared → Prop} {E : Value → Shared → Prop} {x y : Value} (S : Sat c cx se st r) (rx : Rep r.ρ st.led.length v1 x) (ry : Rep r.ρ st.led.length v2 y)
    (K : ∀ st' r', Q st' → Ext r.ρ st.led.length r'.ρ st'.led.length → Sat c cx se st' r' → QQ () (c.sh r')) : wpAny c.M c.A (assignInOrder [assign (rt t1 se) cx.env, assign (rt t2 se) cx.env] [x, y]) QQ E (c.sh r) :=
  assignInOrder_cons (tg_ok w1 O hc h r _ E x S rx fun st1 r1 hq hx S1 => assignInOrder_cons (tg_ok w2 O hc hq r1 _ E y S1 (ry.mono hx) fun st2 r2 hq2 hx2 S2 => assignInOrder_nil (K st2 r2 hq2 (hx.trans hx2) S2)))
theorem sj_pair {t1 t2 : IT} {p : Pos} (w1 : rtB t1 se = true) (w2 : rtB t2 se = true) {v1 v2 : SV} {Q : SSt → Prop} (O : CxOk c cx se) (hc : cx.cmp = none) (h : vtg t1 cx.md st v1 fun s1 => vtg t2 cx.md s1 v2 Q) {QQ : Unit → Shared → Prop} {E : Value → Shared → Prop} {T : Addr} {x y : Value} (S : Sat c cx se st r) (ht : IsTup r.h T #[x, y]) (rx : Rep r.ρ st.led.length v1 x) (ry : Rep r.ρ st.led.length v2 y)
    (K : ∀ st' r', Q st' → Ext r.ρ st.led.length r'.ρ st'.led.length → Sat c cx se st' r' → QQ () (c.sh r')) : wpAny c.M c.A (assign (.Tuple [rt t1 se, rt t2 se] 0 p) cx.env (.ref T)) QQ E (c.sh r) := by
  have e : assignEach [rt t1 se, rt t2 se] cx.env = [(false, assign (rt t1 se) cx.env), (false, assign (rt t2 se) cx.env)] := by rw [assignEach_cons rt_plain, assignEach_cons rt_plain]; rfl
  refine unpackN_ (s := c.sh r) S.F S.N ht rfl (by rw [e]; rfl) (by rw [e]; rfl) fun h' F N => ?_
  rw [e]
  exact sj_two w1 w2 O hc h (S.heap (tk' := r.tk) F N) rx ry K
/-- what the body of a block does -/
noncomputable def BodyOk (c : Act) (se : SE) (body : List Stmt) (B : Md → SSt → (Option SV → SSt → Prop) → Prop) : Prop := ∀ (cx : Cx) st Q, CxOk c cx se → cx.cmp = none → B cx.md st Q → WS c cx se (execs body cx.env) st Q
theorem turn_val (O : CxOk c cx se) (hc : cx.cmp = none) {t : IT} (w : rtB t se = true) {body : List Stmt} {B : Md → SSt → (Option SV → SSt → Prop) → Prop} (hB : BodyOk c se body B) {r₀ : Re} {fz : List Nat} : TurnOk c cx se false r₀ fz (rt t se) body fun _ sv s1 K => vtg t { cx.md with fz := fz } s1 sv fun s2 => B { cx.md with fz := fz } s2 K := by
  intro its i sv st K h r QQ E v hE S hv KK
  have O' := O.loop (ex := its) (r₀ := r₀) (fz := fz)
  rw [← O.fn hc] at hE ⊢
  exact tg_ok w O' hc h r _ E v S hv fun st1 r1 hq hx S1 => hB _ st1 K O' hc hq r1 QQ E hE S1 (KK.at (S.pin hx))
theorem turn_pair (O : CxOk c cx se) (hc : cx.cmp = none) {t1 t2 : IT} {p : Pos} (w1 : rtB t1 se = true) (w2 : rtB t2 se = true) {body : List Stmt} {B : Md → SSt → (Option SV → SSt → Prop) → Prop} (hB : BodyOk c se body B) {r₀ : Re} {fz : List Nat} :
    TurnOk c cx se true r₀ fz (.Tuple [rt t1 se, rt t2 se] 0 p) body fun i sv s1 K => vtg t1 { cx.md with fz := fz } s1 (.int (Int.ofNat i)) fun s2 => vtg t2 { cx.md with fz := fz } s2 sv fun s3 => B { cx.md with fz := fz } s3 K := by
  intro its i sv st K h r QQ E v hE S ⟨T, t, x, e, ht, rx⟩ KK
  subst e
  have O' := O.loop (ex := its) (r₀ := r₀) (fz := fz)
  rw [← O.fn hc] at hE ⊢
  exact sj_pair w1 w2 O' hc h S ht ⟨t, rfl⟩ rx fun st1 r1 hq hx S1 => hB _ st1 K O' hc hq r1 QQ E hE S1 (KK.at (S.pin hx))
theorem LT.start (S : Sat c cx se st r) (hk : se.kel = []) (hc : cx.cmp = none) {k : Nat} {ads : List Addr} (h : ∀ p ∈ nws r.ρ r.ω cx.rest st.led.length, p.1 ∉ ads) : LT c cx se r (k :: cx.md.fz) ads (c.sh r) :=
  ⟨hk, hc, ⟨r.h, r.tk, rfl⟩, fun j hj => ⟨.tail _ hj, (S.frz j hj).2⟩, fun p hp => h p (nws_mem.mpr (.inr hp))⟩
theorem LMid.start (S : Sat c cx se st r) {k : Nat} (hk : k < st.led.length) {ads : List Addr} (h : ∀ p ∈ nws r.ρ r.ω cx.rest st.led.length, p.1 ∉ ads) : LMid c cx se r (k :: cx.md.fz) ads st r :=
  ⟨S, fun _ _ => rfl, fun j hj => by
    rcases List.mem_cons.mp hj with rfl | hj
    · exact ⟨hk, rfl, rfl⟩
    · exact ⟨(S.frz j hj).1, rfl, rfl⟩, h⟩
theorem for_list (S : Sat c cx se st r) (hk : se.kel = []) (hc : cx.cmp = none) {k : Nat} {o : SO} (e : st.led[k]? = some o) {f : Nat → SV → SSt → (Option SV → SSt → Prop) → Prop} {Q : Option SV → SSt → Prop} {QQ : Flow → Shared → Prop} {E : Value → Shared → Prop} {target : PySem.Expr} {body : List Stmt}
    (h : o.lu fun vs => few vs.length (loopR f k vs.length 0 st Q)) (hf : TurnOk c cx se false r (k :: cx.md.fz) target body f) (hE : PassesOwn c.M c.A c.env E) (K : KS c cx se r Q QQ) :
    wpAny c.M c.A (pyIter (.ref (r.ρ k))) (fun it s₂ => TurnsAt PySem.Challenge.rw_nn0256_01.row.prog c.w c.A c.h₀ c.env target body QQ E it s₂) E (c.sh r) := by
  have hl := (List.getElem?_eq_some_iff.mp e).1
  have off : ∀ I : Addr, (∀ p ∈ nws r.ρ r.ω cx.rest st.led.length, p.1 < I) → ∀ p ∈ nws r.ρ r.ω cx.rest st.led.length, p.1 ∉ [I] := fun I h p hp hm => Nat.ne_of_lt (h p hp) (List.mem_singleton.mp hm)
  have H : ∀ {ws : List Value} {m : Nat}, (r.ω k).data = .seq ws.toArray m → ∀ (I : Addr) (nm : String), (∀ p ∈ nws r.ρ r.ω cx.rest st.led.length, p.1 < I) → ItemsRest PySem.Challenge.rw_nn0256_01.row.prog c.w c.A E c.h₀ c.env target body QQ (c.sh r) [(I, nm)] [(r.ρ k, r.ω k)] (ws.map Itm.val) r.m (nws r.ρ r.ω cx.rest st.led.length) := fun {ws m} hd I nm lt => by
    obtain ⟨vs, h1, R⟩ := lu_at h (S.obj k o e) hd
    rw [← itm_val (i := 0)]
    refine turns (ws := [(I, nm)]) (LT.start S hk hc (off I lt)) (.head _) hd hf hE K ws 0 st r (fun j => by rw [Nat.zero_add]) ?_ (LMid.start S hl (off I lt))
    rw [← R.length]; exact (few_ok h1).2
  have R := S.obj k o e
  cases o with
  | lst vs => obtain ⟨ws, m, e2, _⟩ := R; exact iter_listTurns (s := c.sh r) rfl S.F S.N (S.mem hl) (by rw [e2]) (by rw [e2]) fun I lt => H (by rw [e2]) I _ lt
  | isq vs => obtain ⟨ws, m, e2, _⟩ := R; exact iter_listTurns (s := c.sh r) rfl S.F S.N (S.mem hl) (by rw [e2]) (by rw [e2]) fun I lt => H (by rw [e2]) I _ lt
  | tup vs => obtain ⟨ws, m, e2, _⟩ := R; exact iter_tupTurns (s := c.sh r) rfl S.F S.N (S.mem hl) (by rw [e2]) (by rw [e2]) fun I lt => H (by rw [e2]) I _ lt
  | cell _ => exact h.elim
theorem for_enum (S : Sat c cx se st r) (hk : se.kel = []) (hc : cx.cmp = none) {k : Nat} {elts : List PySem.Expr} {kk : Nat} {tp : Pos} {f : Nat → SV → SSt → (Option SV → SSt → Prop) → Prop} {Q : Option SV → SSt → Prop} {QQ : Flow → Shared → Prop} {E : Value → Shared → Prop} {body : List Stmt}
    (h : st.lst k fun vs => few vs.length (loopR f k vs.length 0 st Q)) (hf : TurnOk c cx se true r (k :: cx.md.fz) (.Tuple elts kk tp) body f) (hE : PassesOwn c.M c.A c.env E) (K : KS c cx se r Q QQ) :
    wpAny c.M c.A (call (.type "enumerate") [.ref (r.ρ k)]) (fun xv s₁ => wpAny c.M c.A (pyIter xv) (fun it s₂ => TurnsAt PySem.Challenge.rw_nn0256_01.row.prog c.w c.A c.h₀ c.env (.Tuple elts kk tp) body QQ E it s₂) E s₁) E (c.sh r) := by
  obtain ⟨vs, h, hl, ws, m, e2, _, R⟩ := S.lst h
  refine ktu_enum (s := c.sh r) (xs := enumItems 0 ws) rfl S.F S.N (S.mem hl) (by rw [e2]) (by rw [e2]) rfl fun I lt => ?_
  have off : ∀ p ∈ nws r.ρ r.ω cx.rest st.led.length, p.1 ∉ [I + 1, I] := fun p hp hm => by
    have := lt p hp
    rcases List.mem_cons.mp hm with e | hm
    · exact Nat.ne_of_lt (Nat.lt_succ_of_lt this) e
    · exact Nat.ne_of_lt this (List.mem_singleton.mp hm)
  rw [← itm_pair]
  refine turns (ws := [(I + 1, "enumerate"), (I, "list_iterator")]) (LT.start S hk hc off) (.head _) (by rw [e2]) hf hE K ws 0 st r (fun j => by rw [Nat.zero_add]) ?_ (LMid.start S hl off)
  rw [← R.length]; exact (few_ok h).2
noncomputable def noComp : PySem.Expr → Bool
  | .ListComp .. => false
  | .SetComp .. => false
  | .DictComp .. => false
  | _ => true
theorem swaps_no {e : PySem.Expr} {t : Option PySem.Expr} {l : Nat} {env : Env} (h : noComp e = true) : swapsWith e t l env = pure false := by
  cases e <;> first | rfl | cases h
theorem swaps_cel {e : PySem.Expr} {x : Str} {p : Pos} {l : Nat} {env : Env} (h : env.kindOf x = some .cell) : swapsWith e (some (.Name x p)) l env = pure false := by
  have H : (env.kindOf x == some NameKind.local) = false := by rw [h]; rfl
  cases e <;> first | rfl | (unfold swapsWith; simp only [H, Bool.and_false, Bool.false_and])
theorem ws_store {T value : PySem.Expr} {p : Pos} (h0 : swapsWithSole [T] value p.line cx.env = pure false) (h00 : swappedStores [T] value cx.env = pure none) (pT : plainE T = true) {Q1 : SV → SSt → Prop} {Q : Option SV → SSt → Prop} (h1 : EV c cx se (eval value cx.env) st Q1)
    (h2 : ∀ v st1, Q1 v st1 → SJ c cx se v (fun y => assign T cx.env y) st1 fun s => Q none s) : WS c cx se (exec (.Assign [T] value p) cx.env) st Q := by
  intro r QQ E hE S K
  refine wpAny_Assign_stores (h1 r _ _ S fun v st1 r1 x hq hx he S1 rv => ?_) h0 h00
  rw [assignEach_cons pT]
  exact h2 v st1 hq r1 _ E x S1 rv fun st' r' hq' hx' S' => K.1 st' r' hq' (fun k hk => (S1.pin hx' k hk).trans (S.pin hx k hk)) S'
/-- a target that is stored at once -/
noncomputable def tgB (t : IT) (e : PySem.Expr) : Bool := match t with | .cel .. => true | _ => noComp e
theorem tg_form {t : IT} {e : PySem.Expr} {l : Nat} (O : CxOk c cx se) (w : rtB t se = true) (h : tgB t e = true) : swapsWith e (some (rt t se)) l cx.env = pure false ∧ swappedStores [rt t se] e cx.env = pure none := by
  cases t with
  | loc i p => exact ⟨swaps_no h, rfl⟩
  | cel j k p => exact ⟨swaps_cel ((congrArg (List.lookup _) O.names).trans (nmOk_ok (a2 w).2).1), rfl⟩
  | sub a i p => exact ⟨swaps_no h, rfl⟩
theorem ws_asg {t : IT} {e : IE} {p : Pos} (O : CxOk c cx se) (hc : cx.cmp = none) (wt : rtB t se = true) (we : (rd e se).ok = true) (hb : tgB t (rd e se).e = true) {Q : Option SV → SSt → Prop} (h : vc e cx.md st fun v s1 => vtg t cx.md s1 v fun s2 => Q none s2) : WS c cx se (exec (.Assign [rt t se] (rd e se).e p) cx.env) st Q := by
  obtain ⟨h1, h2⟩ := tg_form O wt hb (l := p.line)
  exact ws_store h1 h2 rt_plain ((v_ok e).1 we O h) fun v st1 hq => tg_ok wt O hc hq
theorem RepL.two {ρ : Nat → Addr} {n : Nat} {a b : SV} {ws : List Value} (R : RepL ρ n [a, b] ws) : ∃ x y, ws = [x, y] ∧ Rep ρ n a x ∧ Rep ρ n b y := by
  cases ws with
  | nil => exact R.elim
  | cons x ws =>
    cases ws with
    | nil => exact R.2.elim
    | cons y ws =>
      cases ws with
      | nil => exact ⟨x, y, rfl, R.1, R.2.1⟩
      | cons _ _ => exact R.2.2.elim
/-- two targets; the stores keep their order -/
theorem swapped_sub {a b i j : PySem.Expr} {p q : Pos} {l : List PySem.Expr} {pt pv : Pos} {env : Env} : swappedStores [.Tuple [.Subscript a i p, .Subscript b j q] 0 pt] (.Tuple l 0 pv) env = pure none := by
  unfold swappedStores
  dsimp only
  split
  · rfl
  · split
    · rfl
    · rfl
theorem ws_asT {t1 t2 : IT} {e : IE} {pt p : Pos} (O : CxOk c cx se) (hc : cx.cmp = none) (w1 : rtB t1 se = true) (w2 : rtB t2 se = true) (we : (rd e se).ok = true) (hn : ∀ l t, swapsWith (rd e se).e t l cx.env = pure false) (hs : swappedStores [.Tuple [rt t1 se, rt t2 se] 0 pt] (rd e se).e cx.env = pure none) {Q : Option SV → SSt → Prop}
    (h : vc e cx.md st fun v s1 => v.rf fun k => s1.tup k fun vs => two vs fun v1 v2 => vtg t1 cx.md s1 v1 fun s2 => vtg t2 cx.md s2 v2 fun s3 => Q none s3) : WS c cx se (exec (.Assign [.Tuple [rt t1 se, rt t2 se] 0 pt] (rd e se).e p) cx.env) st Q := by
  refine ws_store (hn _ _) hs rfl ((v_ok e).1 we O h) fun v st1 hq r QQ E y S rv K => ?_
  obtain ⟨k, rfl, hq⟩ := SV.rf_ok hq
  obtain ⟨_, rfl⟩ := rv
  obtain ⟨vs, _, hq, _, ws, ht, R⟩ := S.tup hq
  obtain ⟨v1, v2, rfl, hq⟩ := two_ok hq
  obtain ⟨x, y, rfl, rx, ry⟩ := R.two
  exact sj_pair w1 w2 O hc hq S ht rx ry K
theorem star_no {e : PySem.Expr} (h : plainE e = true) : (match (generalizing := false) e with | PySem.Expr.Starred _ _ => true | _ => false) = false := by cases e <;> first | rfl | cases h
theorem swapped_some {a b : PySem.Expr} {x y : Str} {pi pj pt pv : Pos} {env : Env} (hb : (env.blockKind != .function) = false) (ki : env.kindOf x = some .local) (kj : env.kindOf y = some .local) (ne : (x == y) = false) (hl : (pi.line == pj.line) = true) (pa : plainE a = true) (pb : plainE b = true) (hf : (foldedForSure 8 a && foldedForSure 8 b) = false) (hca : (constantsAlone 8 a && constantsAlone 8 b) = false) :
    swappedStores [.Tuple [.Name x pi, .Name y pj] 0 pt] (.Tuple [a, b] 0 pv) env = pure (some [x, y]) := by
  have e4 : (pj.line == pi.line) = true := by simpa using (beq_iff_eq.mp hl).symm
  have e5 : (y == x) = false := by simpa using fun e => (by simpa using ne : ¬ x = y) e.symm
  unfold swappedStores
  dsimp only
  rw [hb]
  refine (if_neg (by decide : ¬ (false = true))).trans ?_
  refine (if_neg ?_).trans ?_
  · intro h
    rcases Bool.or_eq_true_iff.mp h with h | h
    · cases h.symm.trans (star_no pa)
    · rcases Bool.or_eq_true_iff.mp h with h | h
      · cases h.symm.trans (star_no pb)
      · cases h
  have hN : List.filterMap (fun e => match e with | PySem.Expr.Name id pos => if (env.kindOf id == some NameKind.local && pos.line == pi.line) = true then some id else none | _ => none) [.Name x pi, .Name y pj] = [x, y] := by
    simp only [List.filterMap_cons, List.filterMap_nil, ki, kj, e4, beq_self_eq_true, Bool.and_self, if_true]
  refine Eq.trans (b := if (([x, y] : List Str).length != 2 || ([x, y] : List Str).eraseDups.length != ([x, y] : List Str).length) = true then pure none else if (foldedForSure 8 a && (foldedForSure 8 b && true)) = true then pure none else if (constantsAlone 8 a && (constantsAlone 8 b && true)) = true then unsupported "assign.tuple-of-constant-expressions:order-of-the-stores" else pure (some [x, y])) ?_ ?_
  · exact congrArg (fun (l : List Str) => if (l.length != 2 || l.eraseDups.length != l.length) = true then pure none else if (foldedForSure 8 a && (foldedForSure 8 b && true)) = true then pure none else if (constantsAlone 8 a && (constantsAlone 8 b && true)) = true then (unsupported "assign.tuple-of-constant-expressions:order-of-the-stores" : Sem (Option (List Str))) else pure (some l)) hN
  · rw [Bool.and_true, Bool.and_true, hf, hca, if_neg, if_neg (by decide), if_neg (by decide)]
    simp [List.eraseDups_cons, e5]
theorem ws_asS {i j : Nat} {a b : IE} {pi pj pt pv p : Pos} (O : CxOk c cx se) (hc : cx.cmp = none) (wi : Nat.blt i se.own.length = true) (ni : nmOk se (nmAt se.own i) .local = true) (wj : Nat.blt j se.own.length = true) (nj : nmOk se (nmAt se.own j) .local = true) (ne : (nmAt se.own i == nmAt se.own j) = false) (hl : (pi.line == pj.line) = true)
    (wa : (rd a se).ok = true) (wb : (rd b se).ok = true) (pa : plainE (rd a se).e = true) (pb : plainE (rd b se).e = true) (hf : (foldedForSure 8 (rd a se).e && foldedForSure 8 (rd b se).e) = false) (hca : (constantsAlone 8 (rd a se).e && constantsAlone 8 (rd b se).e) = false) {Q : Option SV → SSt → Prop}
    (h : vc a cx.md st fun x s1 => vc b cx.md s1 fun y s2 => cx.md.may (Q none (((s2.push (.tup [x, y])).setv j y).setv i x))) : WS c cx se (exec (.Assign [.Tuple [.Name (nmAt se.own i) pi, .Name (nmAt se.own j) pj] 0 pt] (.Tuple [(rd a se).e, (rd b se).e] 0 pv) p) cx.env) st Q := by
  intro r QQ E hE S K
  have ki := (congrArg (List.lookup (nmAt se.own i)) O.names).trans (nmOk_ok ni).1
  have kj := (congrArg (List.lookup (nmAt se.own j)) O.names).trans (nmOk_ok nj).1
  have hbk : cx.env.blockKind = .function := by unfold Env.blockKind; rw [O.kind]; rfl
  refine Assign_Tuple_swapped (names := [nmAt se.own i, nmAt se.own j]) (Tuple_ (args_cons ((v_ok a).1 wa O h r _ _ S fun x st1 r1 xv hq hx he S1 rx => args_cons ((v_ok b).1 wb O hq r1 _ _ S1 fun y st2 r2 yv hq2 hx2 he2 S2 ry => args_nil ?_) (star_eq pb)) (star_eq pa))) rfl ?_
  · obtain ⟨hu, hq2⟩ := Md.may_ok hq2
    refine vtup_ok (vs := [x, y]) (cx := cx) (Q := fun v s => v = .ref st2.led.length ∧ s = st2.push (.tup [x, y])) (by unfold Md.may; rw [hu]; exact ⟨rfl, rfl⟩) r2 _ E [xv, yv] S2 ⟨rx.mono hx2, ry, trivial⟩ fun v st3 r3 z hq3 hx3 he3 S3 rz => ?_
    obtain ⟨rfl, rfl⟩ := hq3
    obtain ⟨_, rfl⟩ := rz
    obtain ⟨vs, e, hv, hk, ws, ht, R⟩ := S3.tup (k := st2.led.length) (K := fun vs => vs = [x, y]) (by
      show opt (st2.led ++ [SO.tup [x, y]])[st2.led.length]? _
      rw [List.getElem?_append_right (Nat.le_refl _), Nat.sub_self]; rfl)
    subst hv
    obtain ⟨u, v, rfl, ru, rv⟩ := R.two
    · refine unpackItemsN_ (s := c.sh r3) S3.F S3.N ht rfl rfl fun h' F N => ?_
      have S4 := S3.heap (tk' := r3.tk) F N
      refine assignInOrder_cons (wpAny_bindName <| sj_loc O hc (v := y) (own_at wj) (nmOk_ok nj).1 (Q := fun s => s = _) rfl _ _ E v S4 rv fun st5 r5 e5 hx5 S5 => ?_)
      subst e5
      refine assignInOrder_cons (wpAny_bindName <| sj_loc O hc (v := x) (own_at wi) (nmOk_ok ni).1 (Q := fun s => s = _) rfl _ _ E u S5 (ru.mono hx5) fun st6 r6 e6 hx6 S6 => assignInOrder_nil ?_)
      subst e6
      exact K.1 _ r6 hq2 (fun k hk => (S5.pin hx6 k hk).trans ((S4.pin hx5 k hk).trans ((S2.pin hx3 k hk).trans ((S1.pin hx2 k hk).trans (S.pin hx k hk))))) S6
  · exact swapped_some (by rw [hbk]; rfl) ki kj ne hl pa pb hf hca
/-- name = [..] on one line -/
theorem Mid.finA (O : CxOk c cx se) (hc : cx.cmp = none) {i : Nat} {x : Str} (hx : se.own[i]? = some x) {r₀ : Re} {fz : List Nat} {led : List SO} {Q : Option SV → SSt → Prop} {QQ : Flow → Shared → Prop} (K : KS c cx se r₀ Q QQ) {ys : List SV} {ws : List Value} (M : Mid c cx se st r₀ fz led r) (S₀ : Sat c cx se st r₀) (R : RepL r.ρ led.length ys ws) {g : Heap} {u : Nat} (h : st.fin (fun v s => Q none (s.setv i v)) ys led) :
    LCg.FinA c.h₀ c.L r₀.m { c.s with heap := g, toks := u } x QQ ws (nws r.ρ r.ω cx.rest led.length) := by
  intro D h' tk F N off
  refine K.1 _ ((r.push led.length D (LCg.lst ws) h' tk).frame (fun z => if z = x then some (.ref D) else r.m z) h' tk) h (fun k hk => ((M.hx.trans (push_ext (o := LCg.lst ws) (h' := h') (tk' := tk) (D := D))).eq k (Nat.lt_of_lt_of_le hk S₀.npl))) (M.S.pushm (vars' := st.vars.set i (some (.ref led.length))) (M.hm ▸ F) N (off1 off) ⟨ws, ws.length, rfl, R⟩ ?_)
  refine (frm_none hc).mpr (varsSet (((frm_none hc).mp M.S.frm).mono push_ext) O.nd hx ⟨Nat.lt_succ_self _, ?_⟩)
  show Value.ref D = Value.ref (if led.length = led.length then D else _)
  rw [if_pos rfl]
noncomputable def scA (scope : Scope) (y : Str) : Bool := !(scope.names.any fun (n, k) => n == y && (k == .local || k == .cell))
theorem swaps_yes (O : CxOk c cx se) {elt src : PySem.Expr} {x y : Str} {px py pos : Pos} {scope : Scope} {l : Nat} (hk : se.kinds.lookup y = some .local) (hl : (py.line == pos.line) = true) (hs : scA scope y = true) : swapsWith (.ListComp elt [⟨.Name x px, src, [], 0⟩] scope pos) (some (.Name y py)) l cx.env = pure true := by
  have hb : cx.env.blockKind = .function := by unfold Env.blockKind; rw [O.kind]; rfl
  have k1 : cx.env.kindOf y = some .local := (congrArg (List.lookup y) O.names).trans hk
  have e : (PySem.Expr.ListComp elt [⟨.Name x px, src, [], 0⟩] scope pos).pos = pos := rfl
  unfold swapsWith
  unfold scA at hs
  simp only [hb, k1, e, hl, hs, beq_self_eq_true, Bool.and_self]
open PyProof.Rows.LCg in
theorem ws_asC (O : CxOk c cx se) (hc : cx.cmp = none) {elt src : PySem.Expr} {i : Nat} {x y : Str} {px py pos p : Pos} {scope : Scope} {f : Elt} {Q1 : SV → SSt → Prop} {Q : Option SV → SSt → Prop} (hy : se.own[i]? = some y) (hk : se.kinds.lookup y = some .local) (hl : (py.line == pos.line) = true) (ha : scA scope y = true) (Y : ScOk se scope) (hx : scope.names.lookup x = some .local) (hs : noSet src = true)
    (hf : EltOk c (se.inner scope [x]) elt f) (h1 : EV c cx se (eval src cx.env) st Q1) (h2 : ∀ v st1, Q1 v st1 → vsrc cx.md v st1 fun d vs => loopC (f d st1) vs [] st1.led (st1.fin fun v s => Q none (s.setv i v))) : WS c cx se (exec (.Assign [.Name y py] (.ListComp elt [⟨.Name x px, src, [], 0⟩] scope pos) p) cx.env) st Q := by
  intro r QQ E hE S K
  have e := O.fn hc
  refine Assign_ListComp_U S.F (by rw [e]) (swaps_yes O hk hl ha) (S.closure Y) Y.cell Y.kind Y.names hx ((congrArg (List.lookup y) O.names).trans hk) (by rw [O.kind]; rfl) (h1 r _ E S fun v st1 r1 xv hq hx1 he S1 rv => ?_) (noSet_ok hs)
  rw [← he.1]
  exact src_cL O Y hf S1 rv (h2 v st1 hq) fun g fz ys led r' ws hu hfin M R' => M.finA O hc hy (K.at (S.pin hx1)) S1 R' hfin
open PyProof.Rows.LCg in
theorem ws_asR (O : CxOk c cx se) (hc : cx.cmp = none) {elt e : PySem.Expr} {i : Nat} {x y : Str} {px py pos p p1 p2 : Pos} {scope : Scope} {f : Elt} {Q1 : SV → SSt → Prop} {Q : Option SV → SSt → Prop} (hy : se.own[i]? = some y) (hk : se.kinds.lookup y = some .local) (hl : (py.line == pos.line) = true) (ha : scA scope y = true) (Y : ScOk se scope) (hx : scope.names.lookup x = some .local) (hr : se.kinds.lookup Bfn.range.nm = some .globalImplicit) (pe : plainE e = true)
    (hf : EltOk c (se.inner scope [x]) elt f) (h1 : EV c cx se (eval e cx.env) st Q1) (h2 : ∀ v st1, Q1 v st1 → vrg cx.md v fun n => loopC (f cx.md st1) (rngL n) [] st1.led (st1.fin fun v s => Q none (s.setv i v))) : WS c cx se (exec (.Assign [.Name y py] (.ListComp elt [⟨.Name x px, .Call (.Name Bfn.range.nm p1) [e] [] p2, [], 0⟩] scope pos) p) cx.env) st Q := by
  intro r QQ E hE S K
  have e := O.fn hc
  refine Assign_ListComp_U S.F (by rw [e]) (swaps_yes O hk hl ha) (S.closure Y) Y.cell Y.kind Y.names hx ((congrArg (List.lookup y) O.names).trans hk) (by rw [O.kind]; rfl) (wp_range O hr pe h1 h2 S fun st1 r1 a n t u v hu h hx1 hm S1 hr hs hn hz => ?_) fun _ => rfl
  rw [← hm]
  exact src_cR O Y hf S1 hr hs hn hz h fun g fz ys led r' ws hfin M R' => M.finA O hc hy (K.at (S.pin hx1)) S1 R' hfin
/-- x += e, x -= e -/
noncomputable def Bop.aug : Bop → Int → Int → (Int → Prop) → Prop
  | .add, a, b, K => K (a + b)
  | .sub, a, b, K => K (a - b)
  | _, _, _, _ => False
theorem aug_ok {o : Bop} {a b : Int} {t u : Tok} {P : Int → Prop} (h : o.aug a b P) {QQ : Value → Shared → Prop} {E : Value → Shared → Prop} {s : Shared} (K : ∀ m tk t, P m → QQ (.int m t) { s with toks := tk }) : wpAny c.M c.A (inplaceOp o.op (.int a t) (.int b u)) QQ E s := by
  cases o with
  | add => exact iadd_int (K _ _ _ h)
  | sub => exact isub_int (K _ _ _ h)
  | _ => exact h.elim
theorem ws_aug {o : Bop} {i : Nat} {e : IE} {pt p : Pos} (O : CxOk c cx se) (hc : cx.cmp = none) (wi : Nat.blt i se.own.length = true) (ni : nmOk se (nmAt se.own i) .local = true) (we : (rd e se).ok = true) {Q : Option SV → SSt → Prop}
    (h : opt st.vars[i]? fun v0 => opt v0 fun v0 => vc e cx.md st fun y s1 => v0.i fun a => y.i fun b => o.aug a b fun m => Q none (s1.setv i (.int m))) : WS c cx se (exec (.AugAssign (.Name (nmAt se.own i) pt) o.op (rd e se).e p) cx.env) st Q := by
  intro r QQ E hE S K
  obtain ⟨v0, e0, h⟩ := opt_ok h
  obtain ⟨v0, rfl, h⟩ := opt_ok h
  obtain ⟨m, ns, V⟩ := S.ns O
  obtain ⟨y, ey, ry⟩ := V i _ v0 (own_at wi) e0
  refine wpAny_AugAssign_Name (wpAny_loadName_local O.kind ((congrArg (List.lookup _) O.names).trans (nmOk_ok ni).1) ns ey ((v_ok e).1 we O h r _ _ S fun v st1 r1 x hq hx he S1 rx => ?_))
  obtain ⟨a, b, rfl, rfl, hq⟩ := ii_ok hq
  obtain ⟨t, rfl⟩ := ry
  obtain ⟨u, rfl⟩ := rx
  exact aug_ok hq fun m tk t hQ => sj_loc O hc (v := .int m) (own_at wi) (nmOk_ok ni).1 hQ (r1.heap r1.h tk) _ E (.int m t) (S1.heap S1.F S1.N) ⟨t, rfl⟩ fun st' r' q x3 S3 => K.1 st' r' q (fun k hk => (S1.pin (r := r1) x3 k hk).trans (S.pin hx k hk)) S3
theorem ws_auS {o : Bop} {a : IE} {i : Nat} {e : IE} {pi pt p : Pos} (O : CxOk c cx se) (hc : cx.cmp = none) (wa : (rd a se).ok = true) (wi : Nat.blt i se.own.length = true) (ni : nmOk se (nmAt se.own i) .local = true) (we : (rd e se).ok = true) {Q : Option SV → SSt → Prop}
    (h : vc a cx.md st fun x s1 => opt s1.vars[i]? fun y => opt y fun y => vsub .lst x y s1 fun old s3 => vc e cx.md s3 fun z s4 => old.i fun m => z.i fun n => o.aug m n fun q => vset cx.md x y (.int q) s4 fun s5 => Q none s5) : WS c cx se (exec (.AugAssign (.Subscript (rd a se).e (.Name (nmAt se.own i) pi) pt) o.op (rd e se).e p) cx.env) st Q := by
  intro r QQ E hE S K
  refine wpAny_AugAssign_Subscript ((v_ok a).1 wa O h r _ _ S fun x st1 r1 xv hq hx he S1 rx => ?_)
  obtain ⟨yo, e0, hqa⟩ := opt_ok hq
  obtain ⟨y, e00, hqb⟩ := opt_ok hqa
  subst e00
  clear hq hqa
  refine ev_loc O (own_at wi) (nmOk_ok ni).1 (nmOk_ok ni).2 e0 (Q := fun v s => v = y ∧ s = st1) ⟨rfl, rfl⟩ r1 _ _ S1 fun y' st2 r2 yv hq2 hx2 he2 S2 ry => ?_
  obtain ⟨rfl, rfl⟩ := hq2
  refine (vsub_get hqb S2 (rx.mono hx2) ry fun old st3 r3 ov hq3 hx3 he3 S3 ro => ?_).2
  refine (v_ok e).1 we O hq3 r3 _ _ S3 fun z st4 r4 zv hq4 hx4 he4 S4 rz => ?_
  obtain ⟨m, n, rfl, rfl, hq4⟩ := ii_ok hq4
  obtain ⟨t, rfl⟩ := ro
  obtain ⟨u, rfl⟩ := rz
  exact aug_ok hq4 fun q tk t hQ => wp_set hQ (r := r4.heap r4.h tk) (S4.heap S4.F S4.N) (rx.mono (hx2.trans (hx3.trans hx4))) (ry.mono (hx3.trans hx4)) ⟨t, rfl⟩ fun st' r' q x3 S5 => K.1 st' r' q (fun k hk => (S4.pin (r := r4) x3 k hk).trans ((S3.pin hx4 k hk).trans ((S2.pin hx3 k hk).trans ((S1.pin hx2 k hk).trans (S.pin hx k hk))))) S5
theorem ws_exp {e : IE} {p : Pos} (O : CxOk c cx se) (we : (rd e se).ok = true) (hn : noComp (rd e se).e = true) {Q : Option SV → SSt → Prop} (h : vc e cx.md st fun _ s1 => Q none s1) : WS c cx se (exec (.Expr (rd e se).e p) cx.env) st Q := fun r QQ E hE S K =>
  wpAny_Expr_any ((v_ok e).1 we O h r _ _ S fun v st1 r1 x hq hx he S1 rx => K.1 st1 r1 hq (S.pin hx) S1) (by unfold interactive; rw [O.kind]; rfl) (swaps_no hn)
theorem ws_ret {e : IE} {p : Pos} (O : CxOk c cx se) (we : (rd e se).ok = true) {Q : Option SV → SSt → Prop} (h : vc e cx.md st fun v s1 => Q (some v) s1) : WS c cx se (exec (.Return (some (rd e se).e) p) cx.env) st Q := fun r QQ E hE S K =>
  wpAny_Return_some ((v_ok e).1 we O h r _ _ S fun v st1 r1 x hq hx he S1 rx => K.2 v st1 r1 x hq (S.pin hx) S1 rx)
theorem ws_rtn {p : Pos} {Q : Option SV → SSt → Prop} (h : Q (some .none) st) : WS c cx se (exec (.Return none p) cx.env) st Q := fun r QQ E hE S K =>
  wpAny_Return_none (K.2 .none st r .none h (fun _ _ => rfl) S rfl)
theorem ws_ite {t : ITs} {a b : List Stmt} {p : Pos} (O : CxOk c cx se) (w : (rd t.ie se).ok = true) (k : t.okL = true) (hL : t.isL = false) {P1 P2 : SSt → Prop} {Q : Option SV → SSt → Prop} (h : vt t cx.md st fun b s1 => VIf b (P1 s1) (P2 s1)) (h1 : ∀ s1, P1 s1 → WS c cx se (execs a cx.env) s1 Q) (h2 : ∀ s1, P2 s1 → WS c cx se (execs b cx.env) s1 Q) :
    WS c cx se (exec (.If (rd t.ie se).e a b p) cx.env) st Q := fun r QQ E hE S K =>
  wpAny_If ((vt_ok t w k O h).1 hL r _ _ S fun b st1 r1 hq hx he S1 => by
    cases b with
    | true => exact h1 st1 (hq.t rfl) r1 _ _ hE S1 (K.at (S.pin hx))
    | false => exact h2 st1 (hq.f rfl) r1 _ _ hE S1 (K.at (S.pin hx)))
/-- for over a range -/
noncomputable def loopN (f : Int → SSt → (Option SV → SSt → Prop) → Prop) (a c : Int) : Nat → Nat → SSt → (Option SV → SSt → Prop) → Prop
  | 0, _, st, Q => Q none st
  | n + 1, i, st, Q => f (a + Int.ofNat i * c) st fun o st' => nxt o (loopN f a c n (i + 1) st' Q) fun v => Q (some v) st'
noncomputable def one1 (c : Int) : Bool := c == 1 || c == -1
theorem one1_ok {c x : Int} (h : one1 c = true) : c ≠ 0 ∧ PySem.Builtin.divisionGoesByPylong x c = false := by
  have h' : c = 1 ∨ c = -1 := by simpa [one1] using h
  rcases h' with rfl | rfl
  · exact ⟨by decide, rfl⟩
  · exact ⟨by decide, rfl⟩
/-- the numbers of a range, from its arguments -/
noncomputable def vrgs (d : Md) (vs : List SV) (K : Int → Int → Nat → Prop) : Prop := d.may <|
  match vs with
  | [n] => n.i fun n => go 0 n 1 K
  | [a, b] => a.i fun a => b.i fun b => go a b 1 K
  | [a, b, c] => a.i fun a => b.i fun b => c.i fun c => go a b c K
  | _ => False
where go (a b c : Int) (K : Int → Int → Nat → Prop) : Prop := yes (one1 c) <| yes (PySem.Builtin.Range.small a b c) <| natI (PySem.Builtin.Range.rangeSize a b c) fun n => few n (K a c n)
theorem turnsN (kel : se.kel = []) (hc : cx.cmp = none) {r₀ : Re} {I : Addr} {s : Shared} (hs : ∃ g u, s = { c.s with heap := g, toks := u }) (hfz : ∀ k ∈ cx.md.fz, r₀.ω k = cx.ωf k ∧ r₀.ρ k = cx.ρf k) (offr : ∀ p ∈ cx.rest, p.1 ∉ [I]) (O : CxOk c cx se) {i : Nat} {x : Str} (hx : se.own[i]? = some x) {a cc : Int} {n : Nat} {body : List Stmt} {B : Md → SSt → (Option SV → SSt → Prop) → Prop} (hB : BodyOk c se body B) {Q : Option SV → SSt → Prop} {QQ : Flow → Shared → Prop} {E : Value → Shared → Prop} (hE : PassesOwn c.M c.A c.env E) (K : KS c cx se r₀ Q QQ) :
    ∀ (k j : Nat) (st : SSt) (r : Re), loopN (fun v s1 K => B cx.md (s1.setv i (.int v)) K) a cc k j st Q → LMid c cx se r₀ cx.md.fz [I] st r → KrsRest PySem.Challenge.rw_nn0256_01.row.prog c.w c.A E c.h₀ c.env x body QQ s I a cc n k j r.m (nws r.ρ r.ω cx.rest st.led.length)
  | 0, j, st, r, h, M => by
    obtain ⟨g, u, hs⟩ := hs
    intro h' tk F N
    subst hs
    exact K.1 st (r.heap h' tk) h M.pin (M.S.heap F N)
  | k + 1, j, st, r, h, M => by
    have hs' := hs
    obtain ⟨g, u, hs'⟩ := hs'
    refine KrsRest.succ (v := a + Int.ofNat j * cc) rfl fun t h' tk F N => ?_
    have S0 : Sat c (cx.loop [(I, krsIt (a + ((j + 1 : Nat) : Int) * cc) ((n : Int) - ((j + 1 : Nat) : Int)) cc)] r₀ cx.md.fz) se (st.setv i (.int (a + Int.ofNat j * cc))) (r.frame (fun y => if y = x then some (.int (a + Int.ofNat j * cc) t) else r.m y) h' tk) := by
      have M1 : LMid c cx se r₀ cx.md.fz [I] (st.setv i (.int (a + Int.ofNat j * cc))) (r.frame (fun y => if y = x then some (.int (a + Int.ofNat j * cc) t) else r.m y) h' tk) := ⟨M.S.setv O hc (i := i) (v := .int (a + Int.ofNat j * cc)) hx ⟨t, rfl⟩ F fun p hp => N p (.tail _ hp), M.pin, M.fzs, M.off⟩
      exact M1.enter hc (its := [(I, _)]) (tk := tk) (fun q hq => by rw [List.mem_singleton.mp hq]; exact .head _) F N
    have O' := O.loop (ex := [(I, krsIt (a + ((j + 1 : Nat) : Int) * cc) ((n : Int) - ((j + 1 : Nat) : Int)) cc)]) (r₀ := r₀) (fz := cx.md.fz)
    have e := O.fn hc
    have z := hB (cx.loop [(I, krsIt (a + ((j + 1 : Nat) : Int) * cc) ((n : Int) - ((j + 1 : Nat) : Int)) cc)] r₀ cx.md.fz) _ _ O' hc h _ (UnrPost c.h₀ c.L { s with heap := h', toks := tk } I (krsIt (a + ((j + 1 : Nat) : Int) * cc) ((n : Int) - ((j + 1 : Nat) : Int)) cc) (KrsRest PySem.Challenge.rw_nn0256_01.row.prog c.w c.A E c.h₀ c.env x body QQ s I a cc n k (j + 1)) QQ) E (e ▸ hE) S0 ⟨fun st' r' hq hp S' => ?_, fun v st' r' xv hq hp S' rx => ?_⟩
    · have z' : wpAny c.M c.A (execs body c.env) (UnrPost c.h₀ c.L { s with heap := h', toks := tk } I (krsIt (a + ((j + 1 : Nat) : Int) * cc) ((n : Int) - ((j + 1 : Nat) : Int)) cc) (KrsRest PySem.Challenge.rw_nn0256_01.row.prog c.w c.A E c.h₀ c.env x body QQ s I a cc n k (j + 1)) QQ) E (c.sh (r.frame (fun y => if y = x then some (.int (a + Int.ofNat j * cc) t) else r.m y) h' tk)) := e ▸ z
      subst hs'
      exact z'
    · have M' := LMid.leave (ads := [I]) kel hc (fun b hb => ⟨_, .head _, (List.mem_singleton.mp hb).symm⟩) (fun k hk => ⟨hk, hfz k hk⟩) offr S' fun j hj => (hp j hj).trans (M.pin j hj)
      refine ⟨r'.h, r'.tk, r'.m, nws r'.ρ r'.ω cx.rest st'.led.length, ?_, S'.F, fun p hp => S'.N p (nws_mem.mpr ?_), fun p hp e => M'.off p hp (List.mem_singleton.mpr e), ?_⟩
      · subst hs'; rfl
      · rcases List.mem_cons.mp hp with hp | hp
        · exact .inr (hp ▸ List.mem_append_left _ (.head _))
        · exact (nws_mem.mp hp).imp_right (List.mem_append_right _)
      · exact turnsN kel hc hs hfz offr O hx hB hE K k (j + 1) st' r' hq M'
    · have M' := LMid.leave (ads := [I]) kel hc (fun b hb => ⟨_, .head _, (List.mem_singleton.mp hb).symm⟩) (fun k hk => ⟨hk, hfz k hk⟩) offr S' fun j hj => (hp j hj).trans (M.pin j hj)
      exact K.2 v st' r' xv hq M'.pin M'.S rx
theorem for_rng (S : Sat c cx se st r) (hk : se.kel = []) (hc : cx.cmp = none) (O : CxOk c cx se) {i : Nat} {x : Str} (hx : se.own[i]? = some x) {a b cc : Int} {R : Addr} {t u v : Tok} {n : Nat} (hr : IsRange r.h R a b cc t u v) (hs : PySem.Builtin.Range.small a b cc = true) (hn : PySem.Builtin.Range.rangeSize a b cc = (n : Int)) {body : List Stmt} {B : Md → SSt → (Option SV → SSt → Prop) → Prop} (hB : BodyOk c se body B) {Q : Option SV → SSt → Prop} {QQ : Flow → Shared → Prop} {E : Value → Shared → Prop}
    (hE : PassesOwn c.M c.A c.env E) (K : KS c cx se r Q QQ) (h : loopN (fun v s1 K => B cx.md (s1.setv i (.int v)) K) a cc n 0 st Q) : wpAny c.M c.A (pyIter (.ref R)) (fun it s₂ => LoopAtV PySem.Challenge.rw_nn0256_01.row.prog c.w c.A c.h₀ c.env x body QQ E it s₂) E (c.sh r) := by
  refine krs_iter (s := c.sh r) rfl hr hs hn S.F S.N fun I lt => ?_
  have off : ∀ p ∈ nws r.ρ r.ω cx.rest st.led.length, p.1 ∉ [I] := fun p hp hm => Nat.ne_of_lt (lt p hp) (List.mem_singleton.mp hm)
  exact turnsN hk hc ⟨r.h, r.tk, rfl⟩ (fun k hk => (S.frz k hk).2) (fun p hp => off p (nws_mem.mpr (.inr hp))) O hx hB hE K n 0 st r h ⟨S, fun _ _ => rfl, fun j hj => ⟨(S.frz j hj).1, rfl, rfl⟩, off⟩
theorem rng_call {vs : List SV} {G : Int → Int → Nat → Prop} (h : vrgs cx.md vs G) (S : Sat c cx se st r) {xs : List Value} (R : RepL r.ρ st.led.length vs xs) {QQ E : Value → Shared → Prop}
    (K : ∀ h' tk A a b cc n t u v, G a cc n → Sat c cx se st (r.heap h' tk) → IsRange h' A a b cc t u v → PySem.Builtin.Range.small a b cc = true → PySem.Builtin.Range.rangeSize a b cc = ((n : Nat) : Int) → QQ (.ref A) (c.sh (r.heap h' tk))) : wpAny c.M c.A (call (.type "range") xs) QQ E (c.sh r) := by
  obtain ⟨hu, h⟩ := Md.may_ok h
  have G1 : ∀ {a b cc : Int}, vrgs.go a b cc G → one1 cc = true ∧ ∃ n : Nat, G a cc n ∧ PySem.Builtin.Range.small a b cc = true ∧ PySem.Builtin.Range.rangeSize a b cc = (n : Int) := fun {a b cc} h => by
    obtain ⟨h1, h⟩ := yes_ok h
    obtain ⟨h2, h⟩ := yes_ok h
    obtain ⟨n, e, h⟩ := natI_ok h
    exact ⟨h1, n, (few_ok h).2, h2, e⟩
  cases vs with
  | nil => exact h.elim
  | cons a vs =>
    cases xs with
    | nil => exact R.elim
    | cons x xs =>
      obtain ⟨ra, R⟩ := R
      cases vs with
      | nil =>
        obtain ⟨a, rfl, h⟩ := SV.i_ok h
        obtain ⟨t, rfl⟩ := ra
        obtain ⟨_, n, g, h2, e⟩ := G1 h
        cases xs with
        | cons _ _ => exact R.elim
        | nil => exact range1_rows (s := c.sh r) S.F S.N fun h' tk t₁ u₁ v₁ hr F N _ => K h' tk _ _ _ _ n _ _ _ g (S.heap F N) hr h2 e
      | cons b vs =>
        cases xs with
        | nil => exact R.elim
        | cons y xs =>
          obtain ⟨rb, R⟩ := R
          cases vs with
          | nil =>
            have hA : (a.i fun a => b.i fun b => vrgs.go a b 1 G) := h
            clear h
            obtain ⟨a, b, rfl, rfl, hC⟩ := ii_ok hA
            obtain ⟨t, rfl⟩ := ra
            obtain ⟨u, rfl⟩ := rb
            obtain ⟨_, n, g, h2, e⟩ := G1 hC
            cases xs with
            | cons _ _ => exact R.elim
            | nil => exact range2_rows (s := c.sh r) S.F S.N fun h' tk t₁ u₁ v₁ hr F N _ => K h' tk _ _ _ _ n _ _ _ g (S.heap F N) hr h2 e
          | cons d vs =>
            cases vs with
            | cons _ _ => exact h.elim
            | nil =>
              cases xs with
              | nil => exact R.elim
              | cons z xs =>
                obtain ⟨rd, R⟩ := R
                cases xs with
                | cons _ _ => exact R.elim
                | nil =>
                  have hA : (a.i fun a => b.i fun b => d.i fun d => vrgs.go a b d G) := h
                  clear h
                  obtain ⟨a, rfl, hB⟩ := SV.i_ok hA
                  clear hA
                  obtain ⟨b, d, rfl, rfl, hC⟩ := ii_ok hB
                  obtain ⟨t, rfl⟩ := ra
                  obtain ⟨u, rfl⟩ := rb
                  obtain ⟨v, rfl⟩ := rd
                  obtain ⟨h1, n, g, h2, e⟩ := G1 hC
                  exact range3_rows (s := c.sh r) S.F S.N (one1_ok (x := 0) h1).1 (fun h' tk t₁ u₁ v₁ hr F N _ => K h' tk _ _ _ _ n _ _ _ g (S.heap F N) hr h2 e) (.inl (one1_ok h1).2)
theorem ws_fR {i : Nat} {l : IE} {e : PySem.Expr} {es : List PySem.Expr} {body : List Stmt} {pt p1 p2 p : Pos} (O : CxOk c cx se) (hk : se.kel = []) (hc : cx.cmp = none) (wi : Nat.blt i se.own.length = true) (ni : nmOk se (nmAt se.own i) .local = true) (nr : nmOk se Bfn.range.nm .globalImplicit = true) (wl : (rd l se).ok = true) (el : (rd l se).l = e :: es) (pe : plainL (e :: es) = true) {B : Md → SSt → (Option SV → SSt → Prop) → Prop} (hB : BodyOk c se body B) {Q : Option SV → SSt → Prop}
    (h : vl l cx.md st fun vs s1 => vrgs cx.md vs fun a cc n => loopN (fun v s2 K => B cx.md (s2.setv i (.int v)) K) a cc n 0 s1 Q) : WS c cx se (exec (.For (.Name (nmAt se.own i) pt) (.Call (.Name Bfn.range.nm p1) (rd l se).l [] p2) body [] p) cx.env) st Q := by
  intro r QQ E hE S K
  have he := O.fn hc
  have z := (v_ok l).2 wl (p := p2) O h
  rw [el] at z ⊢
  refine For_invVF (m := r.m) (by rw [he]; exact S.F) ((congrArg (List.lookup _) O.names).trans (nmOk_ok ni).1) (by rw [O.kind]; rfl) ?_ (fun _ => rfl) hE
  refine Call_ (name_bfn O .range (nmOk_ok nr).1 S (callW (Bfn.shape .range rfl) pe (z r _ _ S fun vs st1 r1 xs hq hx hm S1 rs => ?_))) rfl
  refine rng_call hq S1 rs fun h' tk A a b cc n t u v g S2 hr hs hn => ?_
  rw [he] at hE ⊢
  exact for_rng S2 hk hc O (own_at wi) hr hs hn hB hE (K.at (S.pin hx)) g
theorem ws_fL {t : IT} {s : IE} {body : List Stmt} {p : Pos} (O : CxOk c cx se) (hk : se.kel = []) (hc : cx.cmp = none) (wt : rtB t se = true) (ws : (rd s se).ok = true) (hs : noSet (rd s se).e = true) {B : Md → SSt → (Option SV → SSt → Prop) → Prop} (hB : BodyOk c se body B) {Q : Option SV → SSt → Prop}
    (h : vc s cx.md st fun v s1 => v.rf fun k => opt s1.led[k]? fun o => o.lu fun vs => few vs.length (loopR (fun _ sv s2 K => vtg t { cx.md with fz := k :: cx.md.fz } s2 sv fun s3 => B { cx.md with fz := k :: cx.md.fz } s3 K) k vs.length 0 s1 Q)) : WS c cx se (exec (.For (rt t se) (rd s se).e body [] p) cx.env) st Q := by
  intro r QQ E hE S K
  have he := O.fn hc
  have z := (v_ok s).1 ws O h
  rw [he] at hE z ⊢
  refine For_turns S.F (z r _ _ S fun v st1 r1 x hq hx hm S1 rx => ?_) (noSet_ok hs) hE
  obtain ⟨k, rfl, hq⟩ := SV.rf_ok hq
  obtain ⟨_, rfl⟩ := rx
  obtain ⟨o, eo, hq⟩ := opt_ok hq
  exact for_list S1 hk hc eo hq (turn_val O hc wt hB) hE (K.at (S.pin hx))
theorem ws_fE {t1 t2 : IT} {s : IE} {body : List Stmt} {pt p1 p2 p : Pos} (O : CxOk c cx se) (hk : se.kel = []) (hc : cx.cmp = none) (w1 : rtB t1 se = true) (w2 : rtB t2 se = true) (nr : nmOk se Bfn.enum.nm .globalImplicit = true) (ws : (rd s se).ok = true) (pe : plainE (rd s se).e = true) {B : Md → SSt → (Option SV → SSt → Prop) → Prop} (hB : BodyOk c se body B) {Q : Option SV → SSt → Prop}
    (h : vc s cx.md st fun v s1 => v.rf fun k => s1.lst k fun vs => few vs.length (loopR (fun i sv s2 K => vtg t1 { cx.md with fz := k :: cx.md.fz } s2 (.int (Int.ofNat i)) fun s3 => vtg t2 { cx.md with fz := k :: cx.md.fz } s3 sv fun s4 => B { cx.md with fz := k :: cx.md.fz } s4 K) k vs.length 0 s1 Q)) : WS c cx se (exec (.For (.Tuple [rt t1 se, rt t2 se] 0 pt) (.Call (.Name Bfn.enum.nm p1) [(rd s se).e] [] p2) body [] p) cx.env) st Q := by
  intro r QQ E hE S K
  have he := O.fn hc
  have hE' : PassesOwn c.M c.A c.env E := he ▸ hE
  have z : wpAny c.M c.A (eval (.Call (.Name Bfn.enum.nm p1) [(rd s se).e] [] p2) cx.env) (fun xv s₁ => wpAny c.M c.A (pyIter xv) (fun it s₂ => TurnsAt PySem.Challenge.rw_nn0256_01.row.prog c.w c.A c.h₀ c.env (.Tuple [rt t1 se, rt t2 se] 0 pt) body QQ E it s₂) E s₁) E (c.sh r) := by
    refine wp_bfn O .enum (nmOk_ok nr).1 pe ((v_ok s).1 ws O h) S fun v st1 r1 x hq hx hm S1 rx => ?_
    obtain ⟨k, rfl, hq⟩ := SV.rf_ok hq
    obtain ⟨_, rfl⟩ := rx
    exact for_enum S1 hk hc hq (turn_pair O hc w1 w2 hB) hE' (K.at (S.pin hx))
  rw [he] at z ⊢
  exact For_turns S.F z (fun _ => rfl) hE'
section
open PyProof.Rows.LCg PySem.Spec
variable {prog : Program} {w : World} {A : Around} {E : Value → Shared → Prop} {s : Shared} {h₀ : Heap} {L : Addr} {m : Str → Option Value} {env : Env}
inductive EndK (h₀ : Heap) (L : Addr) (m : Str → Option Value) (s₁ : Shared) (I : Addr) (oI : Obj) (C : Addr) (oC : Obj) (D : Addr) (oD : Obj) (K : Addr) (oK : Obj) (rest : Value → Led → Prop) (y : Value) : Shared → Prop
  | mk (h' : Heap) (tk : Nat) (news' : Led) (F : Fr h₀ L h' m) (N : News h₀ L h' ((I, oI) :: (C, oC) :: (D, oD) :: (K, oK) :: news')) (off : ∀ p ∈ news', p.1 ≠ I ∧ p.1 ≠ C ∧ p.1 ≠ D ∧ p.1 ≠ K) (R : rest y news') : EndK h₀ L m s₁ I oI C oC D oD K oK rest y { s₁ with heap := h', toks := tk }
/-- the turns of a comprehension whose variable is a cell, over a range from 0 -/
noncomputable def RestK (prog : Program) (w : World) (A : Around) (h₀ : Heap) (L : Addr) (m : Str → Option Value) (env : Env) (elt : Expr) (x : Str) (scope : Scope) (cl : List (Str × Addr)) (s : Shared)
    (Fin : List Value → Led → Prop) : Nat → Nat → List Value → Led → Prop
  | 0, _, ys, news => Fin ys news
  | k + 1, i, ys, news => ∀ t I oI C oC m₂ D K oK h tk (E' : Value → Shared → Prop), NsObj oC m₂ → oK.data = .cell (some (.int (i : Nat) t)) → Fr h₀ L h m → News h₀ L h ((I, oI) :: (C, oC) :: (D, lst ys) :: (K, oK) :: news) → (∀ p ∈ news, p.1 ≠ I ∧ p.1 ≠ C ∧ p.1 ≠ D ∧ p.1 ≠ K) →
      ((@Ne Nat I C) ∧ (@Ne Nat I D) ∧ (@Ne Nat C D) ∧ (@Ne Nat I K) ∧ (@Ne Nat C K) ∧ (@Ne Nat D K)) →
      wpAny (model prog w) A (eval elt (compEnvC scope ((x, K) :: cl) C env)) (EndK h₀ L m { s with heap := h, toks := tk } I oI C oC D (lst ys) K oK (fun y news' => RestK prog w A h₀ L m env elt x scope cl s Fin k (i + 1) (ys ++ [y]) news')) E' { s with heap := h, toks := tk }
theorem RestK.zero {elt : Expr} {x : Str} {scope : Scope} {cl : List (Str × Addr)} {Fin : List Value → Led → Prop} {i : Nat} {ys : List Value} {news : Led} (h : Fin ys news) : RestK prog w A h₀ L m env elt x scope cl s Fin 0 i ys news := h
theorem RestK.succ {elt : Expr} {x : Str} {scope : Scope} {cl : List (Str × Addr)} {Fin : List Value → Led → Prop} {k i : Nat} {ys : List Value} {news : Led}
   (h : ∀ t I oI C oC m₂ D K oK h tk (E' : Value → Shared → Prop), NsObj oC m₂ → oK.data = .cell (some (.int (i : Nat) t)) → Fr h₀ L h m → News h₀ L h ((I, oI) :: (C, oC) :: (D, lst ys) :: (K, oK) :: news) → (∀ p ∈ news, p.1 ≠ I ∧ p.1 ≠ C ∧ p.1 ≠ D ∧ p.1 ≠ K) →
      ((@Ne Nat I C) ∧ (@Ne Nat I D) ∧ (@Ne Nat C D) ∧ (@Ne Nat I K) ∧ (@Ne Nat C K) ∧ (@Ne Nat D K)) →
      wpAny (model prog w) A (eval elt (compEnvC scope ((x, K) :: cl) C env)) (EndK h₀ L m { s with heap := h, toks := tk } I oI C oC D (lst ys) K oK (fun y news' => RestK prog w A h₀ L m env elt x scope cl s Fin k (i + 1) (ys ++ [y]) news')) E' { s with heap := h, toks := tk }) :
   RestK prog w A h₀ L m env elt x scope cl s Fin (k + 1) i ys news := h
inductive SrcK (prog : Program) (w : World) (A : Around) (h₀ : Heap) (L : Addr) (m : Str → Option Value) (env : Env) (elt : Expr) (x : Str) (scope : Scope) (cl : List (Str × Addr)) (Fin : Shared → List Value → Led → Prop) : Value → Shared → Prop
  | mk {s₁ : Shared} (r : Addr) (t u v : Tok) (n : Nat) (b : Int) (news : Led) (hh : A.handled = none) (F : Fr h₀ L s₁.heap m) (N : News h₀ L s₁.heap news) (hr : IsRange s₁.heap r 0 b 1 t u v) (hsm : Builtin.Range.small 0 b 1 = true) (hn : Builtin.Range.rangeSize 0 b 1 = ((n : Nat) : Int)) (hsz : n ≤ sizeLine)
     (R : ∀ g, RestK prog w A h₀ L m env elt x scope cl { s₁ with heap := g } (Fin { s₁ with heap := g }) n 0 [] news) : SrcK prog w A h₀ L m env elt x scope cl Fin (.ref r) s₁
theorem srcK {elt : Expr} {x : Str} {scope : Scope} {cl : List (Str × Addr)} {Fin : Shared → List Value → Led → Prop} {r : Addr} {b : Int} {t u v : Tok} {news : Led} {s₁ : Shared} (n : Nat)
    (hh : A.handled = none) (F : Fr h₀ L s₁.heap m) (N : News h₀ L s₁.heap news) (hr : IsRange s₁.heap r 0 b 1 t u v) (hsm : Builtin.Range.small 0 b 1 = true) (hn : Builtin.Range.rangeSize 0 b 1 = ((n : Nat) : Int)) (hsz : n ≤ sizeLine)
    (h : ∀ g, RestK prog w A h₀ L m env elt x scope cl { s₁ with heap := g } (Fin { s₁ with heap := g }) n 0 [] news) :
    SrcK prog w A h₀ L m env elt x scope cl Fin (.ref r) s₁ := ⟨r, t, u, v, n, b, news, hh, F, N, hr, hsm, hn, hsz, h⟩
theorem lookup_relabel_cell {env : Env} : ∀ {names : List (Str × NameKind)} {x : Str}, names.lookup x = some .cell →
    (names.map fun (n, k) => if (k == NameKind.free && env.scope.kind == .function && env.kindOf n == some .cell) then (n, NameKind.cell) else (n, k)).lookup x = some .cell
  | [], _, h => by simp at h
  | (n, k) :: r, x, h => by
    have ih := @lookup_relabel_cell env r x
    show List.lookup x ((if (k == NameKind.free && env.scope.kind == .function && env.kindOf n == some .cell) = true then (n, NameKind.cell) else (n, k)) :: _) = _
    cases hx : x == n with
    | true =>
      simp only [List.lookup_cons, hx] at h
      cases h
      simp [List.lookup_cons, hx]
    | false =>
      simp only [List.lookup_cons, hx] at h
      by_cases hc : (k == NameKind.free && env.scope.kind == .function && env.kindOf n == some .cell) = true
      · rw [if_pos hc]; simp only [List.lookup_cons, hx]; exact ih h
      · rw [if_neg hc]; simp only [List.lookup_cons, hx]; exact ih h
abbrev cellO (v : Option Value) : Obj := { cls := .type "cell", data := .cell v }
theorem newEnvK {scope : Scope} {globals : Addr} {cl : List (Str × Addr)} {qual : Str} {x : Str} {Q : Env → Shared → Prop} (hpc : ∀ h, pushCells h scope.names = h.push (cellO none)) (hcf : ∀ k acc, cellsFrom k scope.names acc = (x, k) :: acc)
    (hQ : Q { scope, locals := s.heap.objs.size, globals, cells := (x, s.heap.objs.size + 1) :: cl, qual, func := none, code := env.code, frame := env.frame, builtins := env.builtins } { s with heap := (s.heap.push { cls := .type "dict", data := .dict #[] }).push (cellO none) }) :
    wpAny (model prog w) A (newFunctionEnv scope globals cl [] qual none .none (some env)) Q E s := by
  simp only [newFunctionEnv, Option.isSome_some, if_true]
  refine wpAny_bind (wpAny_alloc ?_)
  refine wpAny_bind (wpAny_layCells _ (fun name kind cells => by cases hkc : kind == NameKind.cell <;> simp [hkc]) _ _ _ _ ?_)
  rw [show ({ s with heap := s.heap.push { cls := .type "dict", data := .dict #[] } } : Shared).heap.objs.size = s.heap.objs.size + 1 from Heap.size_push .., hcf, hpc]
  simp only [List.forIn_nil]
  exact wpAny_bind (wpAny_pure (wpAny_pure hQ))
/-- what stands but for one object -/
noncomputable def Kp1 (I : Addr) (h h' : Heap) : Prop := ∀ b o, b ≠ I → h.get? b = some o → h'.get? b = some o
/-- the turns -/
inductive KInv (h₀ : Heap) (L : Addr) (m : Str → Option Value) (I C D K : Addr) (n : Nat) (Rst : Nat → Nat → List Value → Led → Prop) (s₂ : Shared) : Nat → Shared → Prop
  | mk (h' : Heap) (tk i : Nat) (ys : List Value) (m' : Str → Option Value) (news' : Led) (oK : Obj) (v0 : Option Value) (hi : i ≤ n) (hyl : ys.length = i) (hst' : IsRangeIter h' I (0 + (i : Nat) * 1) ((n : Int) - (i : Nat)) 1) (F' : Fr h₀ L h' m) (hn' : h'.Ns C m') (N' : News h₀ L h' ((D, lst ys) :: (K, oK) :: news')) (dK : oK.data = .cell v0)
     (off' : ∀ p ∈ news', p.1 ≠ I ∧ p.1 ≠ C ∧ p.1 ≠ D ∧ p.1 ≠ K) (R' : Rst (n - i) i ys news') : KInv h₀ L m I C D K n Rst s₂ (n + 1 - i) { s₂ with heap := h', toks := tk }
theorem block_K {elt iter : Expr} {x : Str} {px : Pos} {scope : Scope} {cl : List (Str × Addr)} {pos : Pos} {s₂ : Shared} {I : Addr} {n : Nat} {news : Led}
    {Fin : List Value → Led → Prop} {RR : Value → Addr → Result → Shared → Prop}
    (hh : A.handled = none) (hsz : n ≤ sizeLine) (hpc : ∀ h, pushCells h scope.names = h.push (cellO none)) (hcf : ∀ k acc, cellsFrom k scope.names acc = (x, k) :: acc)
    (hkind : scope.kind = .function) (hx : scope.names.lookup x = some .cell) (hst : IsRangeIter s₂.heap I (0 + ((0 : Nat) : Int) * 1) ((n : Int) - ((0 : Nat) : Int)) 1) (hIlt : I < s₂.heap.objs.size)
    (F : Fr h₀ L s₂.heap m) (N : News h₀ L s₂.heap news) (hIL : L ≠ I) (hI₀ : h₀.get? I = none) (off : ∀ p ∈ news, p.1 ≠ I)
    (R : RestK prog w A h₀ L m env elt x scope cl s₂ Fin n 0 [] news)
    (hRR : ∀ D C h tk m' ys news', Fr h₀ L h m → News h₀ L h ((D, lst ys) :: news') → (∀ p ∈ news', p.1 ≠ D) → h.Ns C m' → h₀.get? C = none → h₀.get? D = none → C ≠ L → D ≠ L → C ≠ D → (∀ p ∈ news', p.1 ≠ C) → Fin ys news' → RR (.ref D) C (.ok .next) { s₂ with heap := h, toks := tk }) :
    wpAny (model prog w) A (newList []) (fun acc s₃ => wpAny (model prog w) A (newFunctionEnv scope env.globals cl [] env.qual none .none (some env)) (fun cenv s₄ =>
      codeAny (model prog w) A (.compStart (.ListComp elt [⟨.Name x px, iter, [], 0⟩] scope pos) 0 (.ref I) acc { cenv with scope := relabel scope env }) (RR acc cenv.locals) s₄) E s₃) E s₂ := by
  have W := range_walks (prog := prog) (w := w) (I := I) hh 0 n
  refine wpAny_newObj_type (newEnvK hpc hcf ?_)
  dsimp only
  have hH1 : (s₂.heap.push { cls := .type "list", dict := none, data := .seq ([] : List Value).toArray }).objs.size = s₂.heap.objs.size + 1 := Heap.size_push ..
  rw [hH1]
  generalize hD : s₂.heap.objs.size = D at *
  generalize hH : ((s₂.heap.push { cls := .type "list", dict := none, data := .seq ([] : List Value).toArray }).push { cls := .type "dict", data := .dict #[] }).push (cellO none) = H at *
  have pD : H.get? D = some (lst []) := by
    rw [← hH, ← hD]; exact Heap.get?_push_of_some _ (Heap.get?_push_of_some _ (Heap.get?_push_size _ rfl))
  have nC : H.Ns (D + 1) (fun _ => none) := by
    have h1 := Heap.Ns.new (s₂.heap.push { cls := .type "list", dict := none, data := .seq ([] : List Value).toArray }) (.type "dict")
    rw [hH1] at h1
    rw [← hH]
    exact h1.keeps fun b o e => Heap.get?_push_of_some _ e
  have pK : H.get? (D + 1 + 1) = some (cellO none) := by
    rw [← hH]
    have e : ((s₂.heap.push { cls := .type "list", dict := none, data := .seq ([] : List Value).toArray }).push { cls := .type "dict", data := .dict #[] }).objs.size = D + 1 + 1 := by rw [Heap.size_push, hH1]
    rw [← e]; exact Heap.get?_push_size _ rfl
  have old : ∀ b o, s₂.heap.get? b = some o → H.get? b = some o := fun b o e => by
    rw [← hH]; exact Heap.get?_push_of_some _ (Heap.get?_push_of_some _ (Heap.get?_push_of_some _ e))
  have lt0 : ∀ b o, s₂.heap.get? b = some o → b < D := fun b o e => hD ▸ Heap.lt_size e
  have fresh₀ : ∀ a, D ≤ a → h₀.get? a = none := fun a ha => by
    cases e : h₀.get? a with
    | none => rfl
    | some o' => exact absurd (lt0 _ _ (F.keep a o' e)) (Nat.not_lt.mpr ha)
  have hLlt : L < D := hD ▸ F.ns.lt
  have a1 : D < D + 1 := Nat.lt_succ_self _
  have a2 : D + 1 < D + 1 + 1 := Nat.lt_succ_self _
  have a3 : D < D + 1 + 1 := Nat.lt_trans a1 a2
  generalize hCe : D + 1 = C at *
  generalize hKe : C + 1 = K at *
  have hD₀ := fresh₀ D (Nat.le_refl _)
  have hC₀ := fresh₀ C (Nat.le_of_lt a1)
  have hK₀ := fresh₀ K (Nat.le_of_lt a3)
  have neL : D ≠ L ∧ C ≠ L ∧ K ≠ L := ⟨Nat.ne_of_gt hLlt, Nat.ne_of_gt (Nat.lt_trans hLlt a1), Nat.ne_of_gt (Nat.lt_trans hLlt a3)⟩
  have neI : I ≠ D ∧ I ≠ C ∧ I ≠ K := ⟨Nat.ne_of_lt hIlt, Nat.ne_of_lt (Nat.lt_trans hIlt a1), Nat.ne_of_lt (Nat.lt_trans hIlt a3)⟩
  have neDC : C ≠ D ∧ K ≠ D ∧ C ≠ K := ⟨Nat.ne_of_gt a1, Nat.ne_of_gt a3, Nat.ne_of_lt a2⟩
  have off₀ : ∀ p ∈ news, p.1 ≠ I ∧ p.1 ≠ C ∧ p.1 ≠ D ∧ p.1 ≠ K := fun p hp => by
    have h1 := lt0 _ _ (N p hp).1
    exact ⟨off p hp, Nat.ne_of_lt (Nat.lt_trans h1 a1), Nat.ne_of_lt h1, Nat.ne_of_lt (Nat.lt_trans h1 a3)⟩
  have st₀ : IsRangeIter H I (0 + ((0 : Nat) : Int) * 1) ((n : Int) - ((0 : Nat) : Int)) 1 := old _ _ hst
  have loop : ∀ s₃ : Shared, s₃ = { s₂ with heap := H } →
      codeAny (model prog w) A (.compLoop (.ListComp elt [⟨.Name x px, iter, [], 0⟩] scope pos) 0 (.ref I) (.ref D) (compEnvC scope ((x, K) :: cl) C env)) (RR (.ref D) C) s₃ := by
    rintro s₃ rfl
    refine codeAny_compLoop_tests
      (KInv h₀ L m I C D K n (RestK prog w A h₀ L m env elt x scope cl s₂ Fin) s₂) ?_ (n + 1)
      ⟨H, s₂.toks, 0, [], _, news, cellO none, none, Nat.zero_le _, rfl, st₀, F.keeps old, nC, fun p hp => ?_, rfl, off₀, R⟩
    · rintro k s' ⟨h', tk, i, ys, m', news', oK, v0, hi, hyl, hst', F', hn', N', dK, off', R'⟩
      by_cases hlt : i < n
      · obtain ⟨j, hj⟩ : ∃ j, n - i = j + 1 := ⟨n - i - 1, by omega⟩
        rw [hj] at R'
        refine W.item i _ _ _ hlt hst' fun v h₂ tk₂ hPv hst₂ hk₂ => ?_
        obtain ⟨t, rfl⟩ := hPv
        have k2 : Kp1 I h' h₂ := fun b o hb e => hk₂ b o (by simpa using hb) e
        have pK₂ : h₂.IsCell K v0 := ⟨oK, k2 _ _ (Ne.symm neI.2.2) (N' _ (.tail _ (.head _))).1, dK⟩
        refine wpAny_assign_Name (wpAny_storeName_cell (c := K) (by simp [compEnvC, relabel, hkind]) (lookup_relabel_cell hx) (by simp [compEnvC]) pK₂ (fun h₃ hc₃ hs₃ => ?_))
        refine wpAny_tests_nil ?_
        simp only [if_true]
        refine hide fun P kk => ?_
        obtain ⟨oK₃, eK₃, dK₃⟩ := hc₃
        refine kk ?_; clear kk P
        have k3 : ∀ b o, b ≠ I → b ≠ K → h'.get? b = some o → h₃.get? b = some o := fun b o h1 h2 e => hs₃.extBut b o h2 (k2 b o h1 e)
        have st₃ : IsRangeIter h₃ I (0 + ((i + 1 : Nat) : Int) * 1) ((n : Int) - ((i + 1 : Nat) : Int)) 1 := hs₃.extBut _ _ neI.2.2 hst₂
        have n₃ : h₃.Ns C m' := hn'.at' fun o e => k3 _ o (Ne.symm neI.2.1) neDC.2.2 e
        refine hide fun P kk => ?_
        obtain ⟨oC, heC, hoC⟩ := ns_obj n₃
        refine kk ?_; clear kk P
        have F₃ : Fr h₀ L h₃ m := ⟨F'.ns.at' fun o e => k3 _ o hIL (Ne.symm neL.2.2) e, fun b o e => k3 b o (fun q => by rw [q, hI₀] at e; cases e) (fun q => by rw [q, hK₀] at e; cases e) (F'.keep b o e), F'.above⟩
        have N₃ : News h₀ L h₃ ((I, _) :: (C, oC) :: (D, lst ys) :: (K, oK₃) :: news') := fun p hp => by
          rcases List.mem_cons.mp hp with rfl | hp
          · exact ⟨st₃, Ne.symm hIL, hI₀⟩
          rcases List.mem_cons.mp hp with rfl | hp
          · exact ⟨heC, neL.2.1, hC₀⟩
          rcases List.mem_cons.mp hp with rfl | hp
          · exact ⟨k3 _ _ (Ne.symm neI.1) (Ne.symm neDC.2.1) (N' _ (.head _)).1, neL.1, hD₀⟩
          rcases List.mem_cons.mp hp with rfl | hp
          · exact ⟨eK₃, neL.2.2, hK₀⟩
          · have o4 := off' p hp
            have z := N' p (.tail _ (.tail _ hp))
            exact ⟨k3 _ _ o4.1 o4.2.2.2 z.1, z.2⟩
        refine wpAny_mono (R' t I _ C oC _ D K oK₃ h₃ _ _ hoC (by rw [dK₃, Int.zero_add]) F₃ N₃ off' ⟨neI.2.1, neI.1, neDC.1, neI.2.2, neDC.2.2, Ne.symm neDC.2.1⟩) (fun y s₄ h₄ => ?_) fun _ _ e => e
        obtain ⟨h₄, tk₄, news₄, F₄, N₄, off₄, R₄⟩ := h₄
        have zI := (N₄ _ (.head _)).1
        have zC := (N₄ _ (.tail _ (.head _))).1
        have zD := (N₄ _ (.tail _ (.tail _ (.head _)))).1
        have zK := (N₄ _ (.tail _ (.tail _ (.tail _ (.head _))))).1
        refine append_at (hsz := by show ys.toArray.size ≤ sizeLine; rw [List.size_toArray, hyl]; exact Nat.le_trans hi hsz) zD fun h₅ hs₅ hD₅ => ?_
        have k5 : Kp1 D h₄ h₅ := fun b o hb e => hs₅.extBut b o hb e
        refine ⟨n + 1 - (i + 1), by omega, ⟨h₅, tk₄, i + 1, ys ++ [y], m', news₄, oK₃, _, hlt, by rw [List.length_append, List.length_singleton, hyl], k5 _ _ neI.1 zI, F₄.change hs₅ neL.1 hD₀,
          (hoC.ns zC).sameBut hs₅ neDC.1, fun p hp => ?_, dK₃, off₄, ?_⟩⟩
        · rcases List.mem_cons.mp hp with rfl | hp
          · exact ⟨hD₅.trans (congrArg some (lst_snoc ys y)), neL.1, hD₀⟩
          rcases List.mem_cons.mp hp with rfl | hp
          · exact ⟨k5 _ _ neDC.2.1 zK, neL.2.2, hK₀⟩
          · have z := N₄ p (.tail _ (.tail _ (.tail _ (.tail _ hp))))
            exact ⟨k5 _ _ (off₄ p hp).2.2.1 z.1, z.2⟩
        · rw [show n - (i + 1) = j by omega]
          exact R₄
      · obtain rfl : i = n := Nat.le_antisymm hi (Nat.not_lt.mp hlt)
        rw [Nat.sub_self] at R'
        refine W.done _ _ _ hst' fun h₂ tk₂ hk₂ => ?_
        have k2 : Kp1 I h' h₂ := fun b o hb e => hk₂ b o (by simpa using hb) e
        refine hRR _ _ h₂ tk₂ m' ys news' (fr_but F' hk₂ hIL hI₀) (fun p hp => ?_) (fun p hp => (off' p hp).2.2.1) (hn'.at' fun o e => k2 _ o (Ne.symm neI.2.1) e) hC₀ hD₀ neL.2.1 neL.1 neDC.1 (fun p hp => (off' p hp).2.1) R'
        rcases List.mem_cons.mp hp with rfl | hp
        · exact ⟨k2 _ _ (Ne.symm neI.1) (N' _ (.head _)).1, neL.1, hD₀⟩
        · have z := N' p (.tail _ (.tail _ hp))
          exact ⟨k2 _ _ (off' p hp).1 z.1, z.2⟩
    · rcases List.mem_cons.mp hp with rfl | hp
      · exact ⟨pD, neL.1, hD₀⟩
      rcases List.mem_cons.mp hp with rfl | hp
      · exact ⟨pK, neL.2.2, hK₀⟩
      · exact ⟨old _ _ (N p hp).1, (N p hp).2⟩
  exact codeAny_compStart_list (loop _ rfl) (W.self 0 _ _ _ st₀ (loop _ rfl))
noncomputable def FinAK (h₀ : Heap) (L : Addr) (m : Str → Option Value) (s : Shared) (y : Str) (Q : Flow → Shared → Prop) (ys : List Value) (news : Led) : Prop :=
  ∀ D h tk, Fr h₀ L h (fun z => if z = y then some (.ref D) else m z) → News h₀ L h ((D, lst ys) :: news) → (∀ p ∈ news, p.1 ≠ D) → Q .next { s with heap := h, toks := tk }
theorem Assign_ListComp_K {elt iter : Expr} {x y : Str} {px py : Pos} {scope : Scope} {cl : List (Str × Addr)} {pos spos : Pos} {Q : Flow → Shared → Prop} (_F₀ : Fr h₀ L s.heap m) (hLe : env.locals = L)
    (hsw : swapsWith (.ListComp elt [⟨.Name x px, iter, [], 0⟩] scope pos) (some (.Name y py)) spos.line env = pure true)
    (hclos : closureFor scope env = pure cl) (hpc : ∀ h, pushCells h scope.names = h.push (cellO none)) (hcf : ∀ k acc, cellsFrom k scope.names acc = (x, k) :: acc) (hkind : scope.kind = .function)
    (hnames : ∀ z ∈ scope.names, z.2 = .local → scope.names.lookup z.1 = some .local) (hx : scope.names.lookup x = some .cell)
    (hy : env.kindOf y = some .local) (hp : (env.scope.kind == .class || (env.scope.kind == .module && env.locals != env.globals)) = false)
    (h : wpAny (model prog w) A (eval iter env) (SrcK prog w A h₀ L m env elt x scope cl (fun s₂ => FinAK h₀ L m s₂ y Q)) E s)
    (hs : ∀ x, foldedSetIterable iter env x = pure x := by intro _; rfl) :
    wpAny (model prog w) A (exec (.Assign [.Name y py] (.ListComp elt [⟨.Name x px, iter, [], 0⟩] scope pos) spos) env) Q E s := by
  subst hLe
  rw [exec_Assign_Name_used _ _ _ _ hsw]
  refine wpAny_bind (wpAny_standAt (wpAny_bind ?_))
  show wpAny _ A (do let _ ← comprehension (.ListComp elt [⟨.Name x px, iter, [], 0⟩] scope pos) scope env _ (newList []) false (eval iter env) (some (assign (.Name y py) env))) _ _ s
  refine wpAny_bind (wpAny_mono (wpAny_comprehension_free (use := some (assign (.Name y py) env)) (Q := fun _ s' => Q .next s') rfl hs hclos hkind hnames
    (wpAny_mono h (fun xv s₁ h₁ => ?_) fun _ _ e => e)) (fun _ s' hq => wpAny_pure (wpAny_pure hq)) fun _ _ e => e)
  obtain ⟨r, t, u, v, n, b, news, hh, F, N, hr, hsm, hn, hsz, R⟩ := h₁
  refine wpAny_pyIter_range hr hsm ?_
  refine block_K hh hsz hpc hcf hkind hx (by show IsRangeIter _ _ _ _ _; rw [hn]; simpa using Heap.get?_push_size _ rfl) ?_
      (F.keeps fun _ _ e => Heap.get?_push_of_some _ e) (N.grown fun _ _ e => Heap.get?_push_of_some _ e) (Nat.ne_of_lt F.ns.lt) (next_is_new F) (fun p hp => Nat.ne_of_lt (Heap.lt_size (N p hp).1)) (R _) ?_
  · show s₁.heap.objs.size < (s₁.heap.push _).objs.size
    rw [Heap.size_push]; exact Nat.lt_succ_self _
  · intro D C h' tk m' ys news' F' N' o1 hn hC₀ hD₀ hCL hDL hCD offC fin
    show wpAny _ A (assign (.Name y py) env (.ref D)) _ _ _
    refine wpAny_assign_Name (wpAny_storeName_local hy F'.ns (fun h₂ hn₂ hs₂ => ?_) hp)
    have hL₀ : h₀.get? env.locals = none := Heap.get?_none_of_le F'.above
    have F₂ : Fr h₀ env.locals h₂ (fun z => if z = y then some (.ref D) else m z) := ⟨hn₂, fun b o e => hs₂.extBut b o (fun q => by rw [q, hL₀] at e; cases e) (F'.keep b o e), F'.above⟩
    refine ⟨m', hn.sameBut hs₂ hCL, fun h'' hs'' => fin D h'' _ (F₂.change hs'' hCL hC₀) (fun p hp => ?_) o1⟩
    have z : h₂.get? p.1 = some p.2 := hs₂.extBut _ _ (N' p hp).2.1 (N' p hp).1
    refine ⟨hs''.extBut _ _ ?_ z, (N' p hp).2⟩
    rcases List.mem_cons.mp hp with rfl | hp
    · exact Ne.symm hCD
    · exact offC p hp
end
/-- a comprehension over a range, its variable a cell of its own -/
noncomputable def scE (x m : Str) : Scope := gsc [(".0", .local), (x, .cell), ("range", .globalImplicit), (m, .free)]
noncomputable def SE.innK (se : SE) (x m : Str) : SE := ⟨rlb se.kinds (scE x m).names, [], se.cel, [x]⟩
noncomputable def Cx.innK (cx : Cx) (x m : Str) (K C : Addr) (oC : Obj) (m₂ : Str → Option Value) (ex : Led) (r₀ : Re) (fz : List Nat) : Cx :=
  { env := compEnvC (scE x m) ((x, K) :: clOf cx.env.cells (scE x m).names []) C cx.env, cmp := some (oC, m₂), rest := ex ++ cx.rest, ωf := r₀.ω, ρf := r₀.ρ, np := cx.np, md := { cx.md with fz := fz } }
structure KOk (se : SE) (x m : Str) : Prop where
  hx : (scE x m).names.lookup x = some .cell
  nc : ∀ p ∈ se.cel, p.1 ≠ x
  hm : se.kinds.lookup m = some .cell
  hc : ∃ k, (m, k) ∈ se.cel
variable {x m : Str}
theorem KOk.closure (Y : KOk se x m) (S : Sat c cx se st r) : closureFor (scE x m) cx.env = pure (clOf cx.env.cells (scE x m).names []) := by
  refine closure_eq fun y hy hf => ?_
  have e : y.1 = m := by
    have hy' : y ∈ [((".0" : Str), NameKind.local), (x, .cell), ("range", .globalImplicit), (m, .free)] := hy
    simp only [List.mem_cons, List.not_mem_nil, or_false] at hy'
    rcases hy' with rfl | rfl | rfl | rfl <;> first | rfl | cases hf
  obtain ⟨k, hk⟩ := Y.hc
  rw [e]
  exact ⟨_, (S.cells _ _ hk Y.hm).2⟩
theorem CxOk.innK (O : CxOk c cx se) {x m : Str} {K C : Addr} {oC : Obj} {m₂ : Str → Option Value} {ex : Led} {r₀ : Re} {fz : List Nat} : CxOk c (cx.innK x m K C oC m₂ ex r₀ fz) (se.innK x m) :=
  ⟨rlb_eq O _, rfl, O.glob, O.blt, List.nodup_nil, (fun h => nomatch h), O.w, O.d, O.cl, O.npe⟩
open PyProof.Rows.LCg in
theorem turnsK (O : CxOk c cx se) (Y : KOk se x m) {r₀ : Re} (S₀ : Sat c cx se st r₀) {s : Shared} (hs : ∃ h tk, s = { c.s with heap := h, toks := tk }) {elt : PySem.Expr} {f : SV → List SO → (SV → List SO → Prop) → Prop} {Qf : List SV → List SO → Prop} {Fin : List Value → Led → Prop}
    (hf : ∀ (cx' : Cx) sv led K, CxOk c cx' (se.innK x m) → cx'.md = cx.md → f sv led K → EV c cx' (se.innK x m) (eval elt cx'.env) ⟨[], [sv], led⟩ fun y s2 => K y s2.led)
    (hFin : ∀ ys led r ws, Qf ys led → Mid c cx se st r₀ cx.md.fz led r → RepL r.ρ led.length ys ws → Fin ws (nws r.ρ r.ω cx.rest led.length)) :
    ∀ (k i : Nat) (ys : List SV) (ws : List Value) (led : List SO) (r : Re), loopC f ((List.range' i k).map fun i => .int (Int.ofNat i)) ys led Qf → Mid c cx se st r₀ cx.md.fz led r → RepL r.ρ led.length ys ws →
      RestK PySem.Challenge.rw_nn0256_01.row.prog c.w c.A c.h₀ c.L r₀.m cx.env elt x (scE x m) (clOf cx.env.cells (scE x m).names []) s Fin k i ws (nws r.ρ r.ω cx.rest led.length)
  | 0, i, ys, ws, led, r, hl, M, R => hFin ys led r ws hl M R
  | k + 1, i, ys, ws, led, r, hl, M, R => by
    refine RestK.succ fun t I oI C oC m₂ D K oK h tk E' hC hK F N off ne => ?_
    have hs0 := hs
    obtain ⟨g, u, hs'⟩ := hs0
    have offx : ∀ j, j < led.length → ∀ q ∈ [(I, oI), (C, oC), (D, lst ws), (K, oK)], q.1 ≠ r.ρ j := fun j hj => by
      have o := off _ (M.S.mem hj)
      exact List.forall_mem_cons.mpr ⟨Ne.symm o.1, List.forall_mem_cons.mpr ⟨Ne.symm o.2.1, List.forall_mem_cons.mpr ⟨Ne.symm o.2.2.1, List.forall_mem_cons.mpr ⟨Ne.symm o.2.2.2, List.forall_mem_nil _⟩⟩⟩⟩
    let cx' := cx.innK x m K C oC m₂ [(I, oI), (C, oC), (D, lst ws), (K, oK)] r₀ cx.md.fz
    have Si : Sat c cx' (se.innK x m) ⟨[], [.int (Int.ofNat i)], led⟩ (r.heap h tk) := by
      have S := M.S
      refine ⟨M.hm ▸ F, fun p hp => N p ?_, S.obj, S.inj, fun p hp j hj => ?_, fun j hj => ⟨Nat.lt_of_lt_of_le (S₀.frz j hj).1 M.hx.le, M.hf j hj, M.hx.eq j (S₀.frz j hj).1⟩, ⟨.tail _ (.head _), hC, fun j y w e => nomatch e⟩, fun y j hy hl => ?_, fun j y v e1 e2 hl => ?_, Nat.le_refl _, S.npl⟩
      · rcases nws_mem.mp hp with h | h
        · exact List.mem_append_right [(I, oI), (C, oC), (D, lst ws), (K, oK)] (nws_mem.mpr (.inl h))
        · exact (List.mem_append.mp h).elim (List.mem_append_left _) fun h => List.mem_append_right [(I, oI), (C, oC), (D, lst ws), (K, oK)] (nws_mem.mpr (.inr h))
      · exact (List.mem_append.mp hp).elim (offx j hj p) fun h => S.apart p h j hj
      · have hne := Y.nc _ hy
        obtain ⟨h1, h2⟩ := rlb_cell (names := (scE x m).names) (x := y) (fun z hz e hc => by
          have hz' : z ∈ [((".0" : Str), NameKind.local), (x, .cell), ("range", .globalImplicit), (m, .free)] := hz
          simp only [List.mem_cons, List.not_mem_nil, or_false] at hz'
          rcases hz' with rfl | rfl | rfl | rfl <;> first | exact hne e.symm | cases hc) hl
        obtain ⟨a, b⟩ := S.cells y j hy h2
        refine ⟨a, ?_⟩
        show List.lookup y ((x, K) :: _) = _
        have e : (y == x) = false := by simpa using hne
        rw [List.lookup_cons, e]
        exact clOf_some b (.inl h1)
      · match j, e1, e2 with
        | 0, e1, e2 =>
          cases e1; cases e2
          refine ⟨K, oK, .int (Int.ofNat i) t, ?_, .tail _ (.tail _ (.tail _ (.head _))), hK, t, rfl⟩
          show List.lookup x ((x, K) :: _) = _
          rw [List.lookup_cons, beq_self_eq_true]
    have e := hf cx' _ led _ (O.innK) rfl hl (r.heap h tk) (EndK c.h₀ c.L r₀.m { s with heap := h, toks := tk } I oI C oC D (lst ws) K oK (fun y news' => RestK PySem.Challenge.rw_nn0256_01.row.prog c.w c.A c.h₀ c.L r₀.m cx.env elt x (scE x m) (clOf cx.env.cells (scE x m).names []) s Fin k (i + 1) (ws ++ [y]) news')) E' Si fun y st' r' yv hq hx he S' ry => by
      have M' : Mid c cx se st r₀ cx.md.fz st'.led r' := ⟨S₀.outer S' (M.hx.trans hx) (he.1.trans M.hm) (fun p hp => List.mem_append_right _ hp) fun j hj => ⟨hj, (S₀.frz j hj).2⟩, M.hx.trans hx, he.1.trans M.hm, fun j hj => (S'.frz j hj).2.1⟩
      rw [show c.sh r' = { { s with heap := h, toks := tk } with heap := r'.h, toks := r'.tk } by subst hs'; rfl]
      refine ⟨r'.h, r'.tk, nws r'.ρ r'.ω cx.rest st'.led.length, (he.1.trans M.hm) ▸ S'.F, fun p hp => S'.N p (nws_mem.mpr ?_), fun p hp => ?_, turnsK O Y S₀ hs hf hFin k (i + 1) (ys ++ [y]) (ws ++ [yv]) st'.led r' hq M' ((R.mono hx).append ⟨ry, trivial⟩)⟩
      · rcases List.mem_append.mp (show p ∈ [(I, oI), (C, oC), (D, lst ws), (K, oK)] ++ nws r'.ρ r'.ω cx.rest st'.led.length from hp) with hp | hp
        · exact .inr (List.mem_append_left _ hp)
        · exact (nws_mem.mp hp).imp_right (List.mem_append_right _)
      · rcases nws_mem.mp hp with ⟨j, hj, rfl⟩ | hp
        · have a := fun q hq => S'.apart q (List.mem_append_left _ hq) j hj
          exact ⟨Ne.symm (a (I, oI) (.head _)), Ne.symm (a (C, oC) (.tail _ (.head _))), Ne.symm (a (D, lst ws) (.tail _ (.tail _ (.head _)))), Ne.symm (a (K, oK) (.tail _ (.tail _ (.tail _ (.head _)))))⟩
        · exact off p (nws_mem.mpr (.inr hp))
    subst hs'
    exact e
theorem Mid.finK (O : CxOk c cx se) (hc : cx.cmp = none) {i : Nat} {x : Str} (hx : se.own[i]? = some x) {r₀ : Re} {fz : List Nat} {led : List SO} {Q : Option SV → SSt → Prop} {QQ : Flow → Shared → Prop} (K : KS c cx se r₀ Q QQ) {ys : List SV} {ws : List Value} (M : Mid c cx se st r₀ fz led r) (S₀ : Sat c cx se st r₀) (R : RepL r.ρ led.length ys ws) {g : Heap} {u : Nat} (h : st.fin (fun v s => Q none (s.setv i v)) ys led) :
    FinAK c.h₀ c.L r₀.m { c.s with heap := g, toks := u } x QQ ws (nws r.ρ r.ω cx.rest led.length) := by
  intro D h' tk F N off
  refine K.1 _ ((r.push led.length D (LCg.lst ws) h' tk).frame (fun z => if z = x then some (.ref D) else r.m z) h' tk) h (fun k hk => ((M.hx.trans (push_ext (o := LCg.lst ws) (h' := h') (tk' := tk) (D := D))).eq k (Nat.lt_of_lt_of_le hk S₀.npl))) (M.S.pushm (vars' := st.vars.set i (some (.ref led.length))) (M.hm ▸ F) N off ⟨ws, ws.length, rfl, R⟩ ?_)
  refine (frm_none hc).mpr (varsSet (((frm_none hc).mp M.S.frm).mono push_ext) O.nd hx ⟨Nat.lt_succ_self _, ?_⟩)
  show Value.ref D = Value.ref (if led.length = led.length then D else _)
  rw [if_pos rfl]
theorem range_eq (n : Nat) : (rngL n) = (List.range' 0 n).map fun i => .int (Int.ofNat i) := by unfold rngL; rw [List.range_eq_range']
theorem ws_asE (O : CxOk c cx se) (hc : cx.cmp = none) (Y : KOk se x m) {elt : PySem.Expr} {ie : IE} {e : PySem.Expr} {i : Nat} {y : Str} {px py pos p p1 p2 : Pos} {Q1 : SV → SSt → Prop} {Q : Option SV → SSt → Prop} (hy : se.own[i]? = some y) (hk : se.kinds.lookup y = some .local) (hl : (py.line == pos.line) = true) (ha : scA (scE x m) y = true) (hr : se.kinds.lookup Bfn.range.nm = some .globalImplicit) (pe : plainE e = true)
    (we : (rd ie (se.innK x m)).ok = true) (hee : elt = (rd ie (se.innK x m)).e) (h1 : EV c cx se (eval e cx.env) st Q1) (h2 : ∀ v st1, Q1 v st1 → vrg cx.md v fun n => loopC (fun sv led K => vc ie cx.md ⟨[], [sv], led⟩ fun y s2 => K y s2.led) (rngL n) [] st1.led (st1.fin fun v s => Q none (s.setv i v))) :
    WS c cx se (exec (.Assign [.Name y py] (.ListComp elt [⟨.Name x px, .Call (.Name Bfn.range.nm p1) [e] [] p2, [], 0⟩] (scE x m) pos) p) cx.env) st Q := by
  intro r QQ E hE S K
  have e := O.fn hc
  refine Assign_ListComp_K S.F (by rw [e]) (swaps_yes O hk hl ha) (Y.closure S) (fun _ => rfl) (fun _ _ => rfl) rfl (fun z hz hloc => ?_) Y.hx ((congrArg (List.lookup y) O.names).trans hk) (by rw [O.kind]; rfl) (wp_range O hr pe h1 h2 S fun st1 r1 a n t u v hu h hx1 hm S1 hr hs hn hz => ?_) fun _ => rfl
  · have hz' : z ∈ [((".0" : Str), NameKind.local), (x, .cell), ("range", .globalImplicit), (m, .free)] := hz
    simp only [List.mem_cons, List.not_mem_nil, or_false] at hz'
    rcases hz' with rfl | rfl | rfl | rfl <;> first | rfl | cases hloc
  · rw [← hm]
    refine srcK (s₁ := c.sh r1) n rfl S1.F S1.N hr hs hn hz fun g => ?_
    rw [range_eq] at h
    refine turnsK O Y S1 ⟨g, r1.tk, rfl⟩ (fun cx' sv led K O' em hh => ?_) (fun ys led r' ws hfin M R' => M.finK O hc hy (K.at (S.pin hx1)) S1 R' hfin) n 0 [] [] st1.led r1 h (Mid.start S1) trivial
    rw [hee]
    exact (v_ok ie).1 we O' (em ▸ hh)
/-- one state seen as another: what is not needed is left behind -/
noncomputable def varsR (τ : Nat → Nat) : List (Option SV) → List (Option SV) → Prop
  | [], _ => True
  | none :: l', _ :: l => varsR τ l' l
  | some v :: l', some u :: l => u = v.ren τ ∧ varsR τ l' l
  | _, _ => False
theorem varsR_at {τ : Nat → Nat} : ∀ {l' l : List (Option SV)} {i : Nat} {v : SV}, varsR τ l' l → l'[i]? = some (some v) → l[i]? = some (some (v.ren τ))
  | none :: l', _ :: l, i, v, h, e => by
    cases i with
    | zero => cases e
    | succ i => exact varsR_at (l' := l') (l := l) (i := i) h (by simpa using e)
  | some u :: l', some w :: l, i, v, h, e => by
    cases i with
    | zero => cases e; exact congrArg some (congrArg some h.1)
    | succ i => exact varsR_at (l' := l') (l := l) (i := i) h.2 (by simpa using e)
  | none :: l', [], i, v, h, e => h.elim
  | some _ :: _, [], i, v, h, e => h.elim
  | some _ :: _, none :: _, i, v, h, e => h.elim
inductive RenTo (np : Nat) (fz : List Nat) (s st' : SSt) : Prop
  | mk (σ : List Nat) (o : okS σ [] = true) (p : σ.map (fun k => s.led[k]?) = st'.led.map (fun o => some (o.ren (tau σ s.led.length)))) (v : varsR (tau σ s.led.length) st'.vars s.vars) (n : σ.take np = List.range np) (f : (fz.all fun k => σ[k]? == some k) = true)
/-- on to the next turn -/
inductive VNext (np n : Nat) (I : Nat → SSt → Prop) (s : SSt) : Prop
  | mk (n' : Nat) (s' : SSt) (h : n' < n) (r : RenTo np [] s s') (i : I n' s')
theorem Sat.ren (S : Sat c cx se st r) (O : CxOk c cx se) (kel : se.kel = []) (hc : cx.cmp = none) {st' : SSt} (H : RenTo cx.np cx.md.fz st st') : ∃ r', Sat c cx se st' r' ∧ r'.h = r.h ∧ r'.m = r.m ∧ r'.tk = r.tk ∧ ∀ k, k < cx.np → r'.ρ k = r.ρ k := by
  obtain ⟨σ, hok, hpre, hv, hp, hfz⟩ := H
  have hnd := (okS_ok hok).1
  have Y := keys (c := c) (cx := cx) (se := se) (r := r) hpre
  have L := sub_led S Y hnd (rest' := cx.rest) fun p hp => .inr hp
  have pin : ∀ k, k < cx.np → σ[k]? = some k := fun k hk => by
    have : (σ.take cx.np)[k]? = some k := by rw [hp, List.getElem?_range hk]
    rwa [List.getElem?_take_of_lt hk] at this
  have pin2 : ∀ k, k < cx.np → tau σ st.led.length k = k := fun k hk => Y.tauσ k k (pin k hk)
  have npl : cx.np ≤ st'.led.length := by
    rw [← Y.len]
    have := congrArg List.length hp
    rw [List.length_take, List.length_range] at this
    omega
  refine ⟨⟨fun i => r.ρ (tau σ st.led.length i), fun i => r.ω (tau σ st.led.length i), r.m, r.h, r.tk⟩, ⟨S.F, fun p hp => S.N p (nws_mem.mpr ?_), L.obj, L.inj, L.apart, (fun k hk => ?_), (frm_none hc).mpr fun i x v e1 e2 => ?_, fun x k hm hl => ?_, (fun i x v a => by rw [kel] at a; cases a), (by rw [kel]; exact Nat.zero_le _), npl⟩, rfl, rfl, rfl, fun k hk => congrArg r.ρ (pin2 k hk)⟩
  · rcases nws_mem.mp hp with ⟨i, hi, rfl⟩ | h
    · obtain ⟨k, ek⟩ := Y.getσ i hi
      exact .inl ⟨_, by rw [Y.tauσ i k ek]; exact Y.inσ i k ek, rfl⟩
    · exact .inr h
  · have e := beq_iff_eq.mp (List.all_eq_true.mp hfz k hk)
    have e2 := Y.tauσ k k e
    obtain ⟨_, f1, f2⟩ := S.frz k hk
    refine ⟨by rw [← Y.len]; exact (List.getElem?_eq_some_iff.mp e).1, ?_, ?_⟩
    · show r.ω (tau σ st.led.length k) = _
      rw [e2]; exact f1
    · show r.ρ (tau σ st.led.length k) = _
      rw [e2]; exact f2
  · obtain ⟨y, a, b⟩ := (frm_none hc).mp S.frm i x _ e1 (varsR_at hv e2)
    exact ⟨y, a, b.unren Y.hun⟩
  · have hk := O.cl _ hm
    exact ⟨Nat.lt_of_lt_of_le hk npl, (S.cells x k hm hl).2.trans (congrArg (fun z => some (r.ρ z)) (pin2 k hk).symm)⟩
/-- while: an invariant over states that are seen anew at each turn -/
inductive VWhile (T : SSt → (Bool → SSt → Prop) → Prop) (B : SSt → (Option SV → SSt → Prop) → Prop) (d : Md) (st : SSt) (Q : Option SV → SSt → Prop) : Prop
  | mk (I : Nat → SSt → Prop) (n₀ : Nat) (st₀ : SSt) (fz : d.fz = []) (i : I n₀ st₀) (r : RenTo d.np [] st st₀) (h : ∀ n s, I n s → T s fun b s1 => VIf b (B s1 fun o s2 => nxt o (frcS s2 fun s2 => VNext d.np n I s2) fun v => Q (some v) s2) (Q none s1))
theorem ws_whl {t : ITs} {body : List Stmt} {p : Pos} (O : CxOk c cx se) (kel : se.kel = []) (hc : cx.cmp = none) (w : (rd t.ie se).ok = true) (k : t.okL = true) (hL : t.isL = false) {B : Md → SSt → (Option SV → SSt → Prop) → Prop} (hB : BodyOk c se body B) {Q : Option SV → SSt → Prop} (h : VWhile (fun s K => vt t cx.md s K) (fun s K => B cx.md s K) cx.md st Q) : WS c cx se (exec (.While (rd t.ie se).e body [] p) cx.env) st Q := by
  intro r QQ E hE S K
  obtain ⟨I, n₀, st₀, hz, h0, hr, hi⟩ := h
  rw [← O.npe] at hr hi
  obtain ⟨r₀, S₀, e1, e2, e3, pin⟩ := S.ren O kel hc (hz.symm ▸ hr)
  refine While_inv2 (h₀ := c.h₀) (L := c.L) (fun n m news => ∃ st' r', I n st' ∧ Sat c cx se st' r' ∧ (∀ k, k < cx.np → r'.ρ k = r.ρ k) ∧ r'.m = m ∧ nws r'.ρ r'.ω cx.rest st'.led.length = news) (n₀ := n₀) S.F (show News c.h₀ c.L r.h _ by rw [← e1]; exact S₀.N) ⟨st₀, r₀, h0, S₀, pin, e2, rfl⟩ ?_ hE
  rintro n m₁ news₁ h₁ tk₁ F₁ N₁ ⟨st', r', hI, S', pin', rfl, rfl⟩
  refine (vt_ok t w k O (hi n st' hI)).1 hL (r'.heap h₁ tk₁) _ _ (S'.heap F₁ N₁) fun b s1 r1 hq hx he S1 => ?_
  have pin1 : ∀ k, k < cx.np → r1.ρ k = r.ρ k := fun k hk => (hx.eq k (Nat.lt_of_lt_of_le hk S'.npl)).trans (pin' k hk)
  cases b with
  | false => exact K.1 s1 r1 (hq.f rfl) pin1 S1
  | true =>
    refine hB cx s1 _ O hc (hq.t rfl) r1 _ E hE S1 ⟨fun s2 r2 hq2 hp2 S2 => ?_, fun v s2 r2 x hq2 hp2 S2 rx => K.2 v s2 r2 x hq2 (fun k hk => (hp2 k hk).trans (pin1 k hk)) S2 rx⟩
    obtain ⟨n', s', hn, hr', hI'⟩ := frcS_ok (K := fun s2 => VNext cx.np n I s2) hq2
    obtain ⟨r3, S3, f1, f2, f3, pin3⟩ := S2.ren O kel hc (hz.symm ▸ hr')
    exact ⟨r2.h, r2.tk, r2.m, _, n', rfl, S2.F, (show News c.h₀ c.L r2.h _ by rw [← f1]; exact S3.N), hn, s', r3, hI', S3, fun k hk => (pin3 k hk).trans ((hp2 k hk).trans (pin1 k hk)), f2, rfl⟩
/-- what is not needed is left behind -/
inductive VGc (d : Md) (s : SSt) (K : SSt → Prop) : Prop
  | mk (s' : SSt) (r : RenTo d.np d.fz s s') (k : K s')
/-- the program's statements, read -/
inductive IS where
  | asg (t : IT) (e : IE) (p : Nat)
  | asC (i : Nat) (e s : IE) (x : Str) (sc : List (Str × NameKind)) (p px pt ps : Nat)
  | asR (i : Nat) (e s : IE) (x : Str) (sc : List (Str × NameKind)) (p px p1 p2 pt ps : Nat)
  | asE (i : Nat) (e s : IE) (x m : Str) (p px p1 p2 pt ps : Nat)
  | asK (t1 t2 : IT) (x : Str) (f : Addr) (l : IE) (p1 p2 pt p : Nat)
  | asX (a1 i1 a2 i2 l : IE) (q1 q2 pl pt p : Nat)
  | asS (i j : Nat) (a b : IE) (pi pj pt pv p : Nat)
  | aug (o : Bop) (i : Nat) (e : IE) (pt p : Nat)
  | auS (o : Bop) (a : IE) (i : Nat) (e : IE) (pi pt p : Nat)
  | exp (e : IE) (p : Nat)
  | ite (t : ITs) (a b : IS) (p : Nat)
  | fL (t : IT) (s : IE) (b : IS) (p : Nat)
  | fE (t1 t2 : IT) (s : IE) (b : IS) (pt p1 p2 p : Nat)
  | fR (i : Nat) (l : IE) (b : IS) (pt p1 p2 p : Nat)
  | whl (t : ITs) (b : IS) (p : Nat)
  | ret (e : IE) (p : Nat) | rtn (p : Nat) | rse (s : Stmt)
  | nil | gcc (r : IS) | cons (a r : IS)
noncomputable def IS.isL : IS → Bool
  | .nil => true
  | .gcc _ => true
  | .cons _ _ => true
  | _ => false
structure RdS where
  s : Stmt
  l : List Stmt
  ok : Bool
noncomputable def S1 (s : Stmt) (b : Bool) : RdS := ⟨s, [], b⟩
noncomputable def nmB (se : SE) (i : Nat) : Bool := Nat.blt i se.own.length && nmOk se (nmAt se.own i) .local
noncomputable def tB (t : ITs) (se : SE) : Bool := (rd t.ie se).ok && (t.okL && !t.isL)
noncomputable def kB (se : SE) (x m : Str) : Bool := ((scE x m).names.lookup x == some .cell && se.cel.all fun p => p.1 != x) && (se.kinds.lookup m == some .cell && se.cel.any fun p => p.1 == m)
theorem kB_ok {se : SE} {x m : Str} (h : kB se x m = true) : KOk se x m := by
  obtain ⟨h1, h2⟩ := a2 h
  refine ⟨beq_iff_eq.mp (a2 h1).1, fun p hp => by simpa using List.all_eq_true.mp (a2 h1).2 p hp, beq_iff_eq.mp (a2 h2).1, ?_⟩
  obtain ⟨p, hp, e⟩ := List.any_eq_true.mp (a2 h2).2
  exact ⟨p.2, by rw [← beq_iff_eq.mp e]; exact hp⟩
noncomputable def rdS : IS → SE → RdS
  | .asg t e p, se => S1 (.Assign [rt t se] (rd e se).e (dpos p)) (rtB t se && ((rd e se).ok && tgB t (rd e se).e))
  | .asC i e s x sc p px pt ps, se => S1 (.Assign [.Name (nmAt se.own i) (dpos pt)] (.ListComp (rd e (se.inner (gsc sc) [x])).e [⟨.Name x (dpos px), (rd s se).e, [], 0⟩] (gsc sc) (dpos p)) (dpos ps)) ((nmB se i && (((dpos pt).line == (dpos p).line) && scA (gsc sc) (nmAt se.own i))) && ((scB se (gsc sc) [x] && noSet (rd s se).e) && ((rd e (se.inner (gsc sc) [x])).ok && (rd s se).ok)))
  | .asR i e s x sc p px p1 p2 pt ps, se => S1 (.Assign [.Name (nmAt se.own i) (dpos pt)] (.ListComp (rd e (se.inner (gsc sc) [x])).e [⟨.Name x (dpos px), .Call (.Name Bfn.range.nm (dpos p1)) [(rd s se).e] [] (dpos p2), [], 0⟩] (gsc sc) (dpos p)) (dpos ps)) ((nmB se i && (((dpos pt).line == (dpos p).line) && scA (gsc sc) (nmAt se.own i))) && ((scB se (gsc sc) [x] && (nmOk se Bfn.range.nm .globalImplicit && plainE (rd s se).e)) && ((rd e (se.inner (gsc sc) [x])).ok && (rd s se).ok)))
  | .asE i e s x m p px p1 p2 pt ps, se => S1 (.Assign [.Name (nmAt se.own i) (dpos pt)] (.ListComp (rd e (se.innK x m)).e [⟨.Name x (dpos px), .Call (.Name Bfn.range.nm (dpos p1)) [(rd s se).e] [] (dpos p2), [], 0⟩] (scE x m) (dpos p)) (dpos ps)) ((nmB se i && (((dpos pt).line == (dpos p).line) && scA (scE x m) (nmAt se.own i))) && ((kB se x m && (nmOk se Bfn.range.nm .globalImplicit && plainE (rd s se).e)) && ((rd e (se.innK x m)).ok && (rd s se).ok)))
  | .asK t1 t2 x f l p1 p2 pt p, se => S1 (.Assign [.Tuple [rt t1 se, rt t2 se] 0 (dpos pt)] (rd (.call x f l p1 p2) se).e (dpos p)) ((rtB t1 se && rtB t2 se) && (rd (.call x f l p1 p2) se).ok)
  | .asX a1 i1 a2 i2 l q1 q2 pl pt p, se => S1 (.Assign [.Tuple [rt (.sub a1 i1 q1) se, rt (.sub a2 i2 q2) se] 0 (dpos pt)] (rd (.tup l pl) se).e (dpos p)) ((rtB (.sub a1 i1 q1) se && rtB (.sub a2 i2 q2) se) && (rd (.tup l pl) se).ok)
  | .asS i j a b pi pj pt pv p, se => S1 (.Assign [.Tuple [.Name (nmAt se.own i) (dpos pi), .Name (nmAt se.own j) (dpos pj)] 0 (dpos pt)] (.Tuple [(rd a se).e, (rd b se).e] 0 (dpos pv)) (dpos p)) (((nmB se i && nmB se j) && (!(nmAt se.own i == nmAt se.own j) && ((dpos pi).line == (dpos pj).line))) && (((rd a se).ok && (rd b se).ok) && ((plainE (rd a se).e && plainE (rd b se).e) && (!(foldedForSure 8 (rd a se).e && foldedForSure 8 (rd b se).e) && !(constantsAlone 8 (rd a se).e && constantsAlone 8 (rd b se).e)))))
  | .aug o i e pt p, se => S1 (.AugAssign (.Name (nmAt se.own i) (dpos pt)) o.op (rd e se).e (dpos p)) (nmB se i && (rd e se).ok)
  | .auS o a i e pi pt p, se => S1 (.AugAssign (.Subscript (rd a se).e (.Name (nmAt se.own i) (dpos pi)) (dpos pt)) o.op (rd e se).e (dpos p)) (nmB se i && ((rd a se).ok && (rd e se).ok))
  | .exp e p, se => S1 (.Expr (rd e se).e (dpos p)) ((rd e se).ok && noComp (rd e se).e)
  | .ite t a b p, se => S1 (.If (rd t.ie se).e (rdS a se).l (rdS b se).l (dpos p)) (tB t se && ((a.isL && b.isL) && ((rdS a se).ok && (rdS b se).ok)))
  | .fL t s b p, se => S1 (.For (rt t se) (rd s se).e (rdS b se).l [] (dpos p)) ((rtB t se && ((rd s se).ok && noSet (rd s se).e)) && (b.isL && (rdS b se).ok))
  | .fE t1 t2 s b pt p1 p2 p, se => S1 (.For (.Tuple [rt t1 se, rt t2 se] 0 (dpos pt)) (.Call (.Name Bfn.enum.nm (dpos p1)) [(rd s se).e] [] (dpos p2)) (rdS b se).l [] (dpos p)) (((rtB t1 se && rtB t2 se) && (nmOk se Bfn.enum.nm .globalImplicit && ((rd s se).ok && plainE (rd s se).e))) && (b.isL && (rdS b se).ok))
  | .fR i l b pt p1 p2 p, se => S1 (.For (.Name (nmAt se.own i) (dpos pt)) (.Call (.Name Bfn.range.nm (dpos p1)) (rd l se).l [] (dpos p2)) (rdS b se).l [] (dpos p)) ((nmB se i && (nmOk se Bfn.range.nm .globalImplicit && ((rd l se).ok && (plainL (rd l se).l && !(rd l se).l.isEmpty)))) && (b.isL && (rdS b se).ok))
  | .whl t b p, se => S1 (.While (rd t.ie se).e (rdS b se).l [] (dpos p)) (tB t se && (b.isL && (rdS b se).ok))
  | .ret e p, se => S1 (.Return (some (rd e se).e) (dpos p)) (rd e se).ok
  | .rtn p, se => S1 (.Return none (dpos p)) true
  | .rse s, se => S1 s true
  | .nil, _ => ⟨.Pass (dpos 0), [], true⟩
  | .gcc r, se => ⟨.Pass (dpos 0), (rdS r se).l, r.isL && (rdS r se).ok⟩
  | .cons a r, se => ⟨.Pass (dpos 0), (rdS a se).s :: (rdS r se).l, (!a.isL && r.isL) && ((rdS a se).ok && (rdS r se).ok)⟩
/-- the condition of a statement -/
noncomputable def vs : IS → Md → SSt → (Option SV → SSt → Prop) → Prop
  | .asg t e _, d, st, Q => vc e d st fun v s1 => vtg t d s1 v fun s2 => Q none s2
  | .asC i e s _ _ _ _ _ _, d, st, Q => vc s d st fun v s1 => vsrc d v s1 fun d' vs => loopC (fun sv led K => vc e d' { s1 with vars := [some sv], led := led } fun y s2 => K y s2.led) vs [] s1.led (s1.fin fun v s => Q none (s.setv i v))
  | .asR i e s _ _ _ _ _ _ _ _, d, st, Q => vc s d st fun v s1 => vrg d v fun n => loopC (fun sv led K => vc e d { s1 with vars := [some sv], led := led } fun y s2 => K y s2.led) (rngL n) [] s1.led (s1.fin fun v s => Q none (s.setv i v))
  | .asE i e s _ _ _ _ _ _ _ _, d, st, Q => vc s d st fun v s1 => vrg d v fun n => loopC (fun sv led K => vc e d ⟨[], [sv], led⟩ fun y s2 => K y s2.led) (rngL n) [] s1.led (s1.fin fun v s => Q none (s.setv i v))
  | .asK t1 t2 x f l p1 p2 _ _, d, st, Q => vc (.call x f l p1 p2) d st fun v s1 => v.rf fun k => s1.tup k fun vs => two vs fun v1 v2 => vtg t1 d s1 v1 fun s2 => vtg t2 d s2 v2 fun s3 => Q none s3
  | .asX a1 i1 a2 i2 l q1 q2 pl _ _, d, st, Q => vc (.tup l pl) d st fun v s1 => v.rf fun k => s1.tup k fun vs => two vs fun v1 v2 => vtg (.sub a1 i1 q1) d s1 v1 fun s2 => vtg (.sub a2 i2 q2) d s2 v2 fun s3 => Q none s3
  | .asS i j a b _ _ _ _ _, d, st, Q => vc a d st fun x s1 => vc b d s1 fun y s2 => d.may (Q none (((s2.push (.tup [x, y])).setv j y).setv i x))
  | .aug o i e _ _, d, st, Q => opt st.vars[i]? fun v0 => opt v0 fun v0 => vc e d st fun y s1 => v0.i fun a => y.i fun b => o.aug a b fun m => Q none (s1.setv i (.int m))
  | .auS o a i e _ _ _, d, st, Q => vc a d st fun x s1 => opt s1.vars[i]? fun y => opt y fun y => vsub .lst x y s1 fun old s3 => vc e d s3 fun z s4 => old.i fun m => z.i fun n => o.aug m n fun q => vset d x y (.int q) s4 fun s5 => Q none s5
  | .exp e _, d, st, Q => vc e d st fun _ s1 => Q none s1
  | .ite t a b _, d, st, Q => vt t d st fun c s1 => VIf c (vs a d s1 Q) (vs b d s1 Q)
  | .fL t s b _, d, st, Q => vc s d st fun v s1 => v.rf fun k => opt s1.led[k]? fun o => o.lu fun us => few us.length (loopR (fun _ sv s2 K => vtg t { d with fz := k :: d.fz } s2 sv fun s3 => vs b { d with fz := k :: d.fz } s3 K) k us.length 0 s1 Q)
  | .fE t1 t2 s b _ _ _ _, d, st, Q => vc s d st fun v s1 => v.rf fun k => s1.lst k fun us => few us.length (loopR (fun i sv s2 K => vtg t1 { d with fz := k :: d.fz } s2 (.int (Int.ofNat i)) fun s3 => vtg t2 { d with fz := k :: d.fz } s3 sv fun s4 => vs b { d with fz := k :: d.fz } s4 K) k us.length 0 s1 Q)
  | .fR i l b _ _ _ _, d, st, Q => vl l d st fun us s1 => vrgs d us fun a cc n => loopN (fun v s2 K => vs b d (s2.setv i (.int v)) K) a cc n 0 s1 Q
  | .whl t b _, d, st, Q => VWhile (fun s K => vt t d s K) (fun s K => vs b d s K) d st Q
  | .ret e _, d, st, Q => vc e d st fun v s1 => Q (some v) s1
  | .rtn _, _, st, Q => Q (some .none) st
  | .rse _, _, _, _ => False
  | .nil, _, st, Q => Q none st
  | .gcc r, d, st, Q => VGc d st fun s => vs r d s Q
  | .cons a r, d, st, Q => vs a d st fun o s1 => nxt o (frcS s1 fun s1 => vs r d s1 Q) fun v => Q (some v) s1
theorem nb {b : Bool} (h : (!b) = true) : b = false := by cases b <;> first | rfl | cases h
noncomputable def SOk (c : Act) (se : SE) (ir : IS) : Prop := (rdS ir se).ok = true → ∀ {cx : Cx} {st : SSt} {Q : Option SV → SSt → Prop}, CxOk c cx se → cx.cmp = none → vs ir cx.md st Q →
  (ir.isL = false → WS c cx se (exec (rdS ir se).s cx.env) st Q) ∧ (ir.isL = true → WS c cx se (execs (rdS ir se).l cx.env) st Q)
theorem s_ok (kel : se.kel = []) (ir : IS) : SOk c se ir := by
  induction ir with
  | asg t e p => exact fun w _ _ _ O hc h => ⟨fun _ => ws_asg O hc (a2 w).1 (a2 (a2 w).2).1 (a2 (a2 w).2).2 h, nofun⟩
  | asC i e s x sc p px pt ps =>
    refine fun w _ _ _ O hc h => ⟨fun _ => ?_, nofun⟩
    obtain ⟨w1, w2⟩ := a2 w
    obtain ⟨w3, w4⟩ := a2 w1
    obtain ⟨w5, w6⟩ := a2 w2
    have Y := scB_ok (a2 w5).1
    exact ws_asC O hc (own_at (a2 w3).1) (nmOk_ok (a2 w3).2).1 (a2 w4).1 (a2 w4).2 Y.1 (Y.2 _ (.head _)) (a2 w5).2 (EltOk.of fun O h => (v_ok e).1 (a2 w6).1 O h) ((v_ok s).1 (a2 w6).2 O h) fun _ _ h => h
  | asR i e s x sc p px p1 p2 pt ps =>
    refine fun w _ _ _ O hc h => ⟨fun _ => ?_, nofun⟩
    obtain ⟨w1, w2⟩ := a2 w
    obtain ⟨w3, w4⟩ := a2 w1
    obtain ⟨w5, w6⟩ := a2 w2
    have Y := scB_ok (a2 w5).1
    exact ws_asR O hc (own_at (a2 w3).1) (nmOk_ok (a2 w3).2).1 (a2 w4).1 (a2 w4).2 Y.1 (Y.2 _ (.head _)) (nmOk_ok (a2 (a2 w5).2).1).1 (a2 (a2 w5).2).2 (EltOk.of fun O h => (v_ok e).1 (a2 w6).1 O h) ((v_ok s).1 (a2 w6).2 O h) fun _ _ h => h
  | asE i e s x m p px p1 p2 pt ps =>
    refine fun w _ _ _ O hc h => ⟨fun _ => ?_, nofun⟩
    obtain ⟨w1, w2⟩ := a2 w
    obtain ⟨w3, w4⟩ := a2 w1
    obtain ⟨w5, w6⟩ := a2 w2
    exact ws_asE O hc (kB_ok (a2 w5).1) (own_at (a2 w3).1) (nmOk_ok (a2 w3).2).1 (a2 w4).1 (a2 w4).2 (nmOk_ok (a2 (a2 w5).2).1).1 (a2 (a2 w5).2).2 (a2 w6).1 rfl ((v_ok s).1 (a2 w6).2 O h) fun _ _ h => h
  | asK t1 t2 x f l p1 p2 pt p => exact fun w _ _ _ O hc h => ⟨fun _ => ws_asT O hc (a2 (a2 w).1).1 (a2 (a2 w).1).2 (a2 w).2 (fun _ _ => rfl) rfl h, nofun⟩
  | asX a1 i1 a2' i2 l q1 q2 pl pt p => exact fun w _ _ _ O hc h => ⟨fun _ => ws_asT O hc (a2 (a2 w).1).1 (a2 (a2 w).1).2 (a2 w).2 (fun _ _ => rfl) swapped_sub h, nofun⟩
  | asS i j a b pi pj pt pv p =>
    refine fun w _ _ _ O hc h => ⟨fun _ => ?_, nofun⟩
    obtain ⟨w1, w2⟩ := a2 w
    obtain ⟨w3, w4⟩ := a2 w1
    obtain ⟨w5, w6⟩ := a2 w2
    obtain ⟨w7, w8⟩ := a2 w6
    exact ws_asS O hc (a2 (a2 w3).1).1 (a2 (a2 w3).1).2 (a2 (a2 w3).2).1 (a2 (a2 w3).2).2 (nb (a2 w4).1) (a2 w4).2 (a2 w5).1 (a2 w5).2 (a2 w7).1 (a2 w7).2 (nb (a2 w8).1) (nb (a2 w8).2) h
  | aug o i e pt p => exact fun w _ _ _ O hc h => ⟨fun _ => ws_aug O hc (a2 (a2 w).1).1 (a2 (a2 w).1).2 (a2 w).2 h, nofun⟩
  | auS o a i e pi pt p => exact fun w _ _ _ O hc h => ⟨fun _ => ws_auS O hc (a2 (a2 w).2).1 (a2 (a2 w).1).1 (a2 (a2 w).1).2 (a2 (a2 w).2).2 h, nofun⟩
  | exp e p => exact fun w _ _ _ O hc h => ⟨fun _ => ws_exp O (a2 w).1 (a2 w).2 h, nofun⟩
  | ite t a b p ia ib => exact fun w _ _ _ O hc h => ⟨fun _ => ws_ite O (a2 (a2 w).1).1 (a2 (a2 (a2 w).1).2).1 (nb (a2 (a2 (a2 w).1).2).2) h (fun s1 h => (ia (a2 (a2 (a2 w).2).2).1 O hc h).2 (a2 (a2 (a2 w).2).1).1) fun s1 h => (ib (a2 (a2 (a2 w).2).2).2 O hc h).2 (a2 (a2 (a2 w).2).1).2, nofun⟩
  | fL t s b p ib => exact fun w _ _ _ O hc h => ⟨fun _ => ws_fL O kel hc (a2 (a2 w).1).1 (a2 (a2 (a2 w).1).2).1 (a2 (a2 (a2 w).1).2).2 (B := fun d s K => vs b d s K) (fun cx _ _ O hc h => (ib (a2 (a2 w).2).2 O hc h).2 (a2 (a2 w).2).1) h, nofun⟩
  | fE t1 t2 s b pt p1 p2 p ib => exact fun w _ _ _ O hc h => ⟨fun _ => ws_fE O kel hc (a2 (a2 (a2 w).1).1).1 (a2 (a2 (a2 w).1).1).2 (a2 (a2 (a2 w).1).2).1 (a2 (a2 (a2 (a2 w).1).2).2).1 (a2 (a2 (a2 (a2 w).1).2).2).2 (B := fun d s K => vs b d s K) (fun cx _ _ O hc h => (ib (a2 (a2 w).2).2 O hc h).2 (a2 (a2 w).2).1) h, nofun⟩
  | fR i l b pt p1 p2 p ib =>
    refine fun w _ _ _ O hc h => ⟨fun _ => ?_, nofun⟩
    obtain ⟨w1, w2⟩ := a2 w
    obtain ⟨w3, w4⟩ := a2 w1
    obtain ⟨w5, w6⟩ := a2 (a2 w4).2
    obtain ⟨w7, w8⟩ := a2 w6
    cases el : (rd l se).l with
    | nil => rw [el] at w8; cases w8
    | cons e es => exact ws_fR O kel hc (a2 w3).1 (a2 w3).2 (a2 w4).1 w5 el (el ▸ w7) (B := fun d s K => vs b d s K) (fun cx _ _ O hc h => (ib (a2 w2).2 O hc h).2 (a2 w2).1) h
  | whl t b p ib => exact fun w _ _ _ O hc h => ⟨fun _ => ws_whl O kel hc (a2 (a2 w).1).1 (a2 (a2 (a2 w).1).2).1 (nb (a2 (a2 (a2 w).1).2).2) (B := fun d s K => vs b d s K) (fun cx _ _ O hc h => (ib (a2 (a2 w).2).2 O hc h).2 (a2 (a2 w).2).1) h, nofun⟩
  | ret e p => exact fun w _ _ _ O hc h => ⟨fun _ => ws_ret O w h, nofun⟩
  | rtn p => exact fun w _ _ _ O hc h => ⟨fun _ => ws_rtn h, nofun⟩
  | rse s => exact fun w _ _ _ O hc h => False.elim h
  | nil => exact fun w _ _ _ O hc h => ⟨nofun, fun _ r QQ E hE S K => wpAny_execs_nil (K.1 _ r h (fun _ _ => rfl) S)⟩
  | gcc b ib =>
    refine fun w _ _ _ O hc h => ⟨nofun, fun _ r QQ E hE S K => ?_⟩
    obtain ⟨s', hr, h⟩ := h
    rw [← O.npe] at hr
    obtain ⟨r1, S1, e1, e2, e3, pin⟩ := S.ren O kel hc hr
    have z := (ib (a2 w).2 O hc h).2 (a2 w).1 r1 QQ E hE S1 (K.at pin)
    unfold Act.sh at z ⊢
    rw [e1, e3] at z
    exact z
  | cons a b ia ir =>
    refine fun w _ _ _ O hc h => ⟨nofun, fun _ r QQ E hE S K => wpAny_execs_cons ?_⟩
    refine (ia (a2 (a2 w).2).1 O hc h).1 (nb (a2 (a2 w).1).1) r _ E hE S ⟨fun st' r' hq hp S' => ?_, fun v st' r' x hq hp S' rx => K.2 v st' r' x hq hp S' rx⟩
    exact (ir (a2 (a2 w).2).2 O hc (frcS_ok (K := fun s1 => vs b _ s1 _) hq)).2 (a2 (a2 w).1).2 r' QQ E hE S' (K.at hp)
end
section
variable {c : Act} {cx : Cx} {se : SE} {st : SSt} {r : Re}
/-- the cells of a block, numbered -/
noncomputable def celK : List (Str × NameKind) → Nat → List (Str × Nat)
  | [], _ => []
  | (x, k) :: r, n => if k == .cell then (x, n) :: celK r (n + 1) else celK r n
noncomputable def cel0 : List (Str × NameKind) → List (Str × SV) → List SO
  | [], _ => []
  | (x, k) :: r, b => if k == .cell then .cell (b.lookup x) :: cel0 r b else cel0 r b
theorem cellsFrom_eq : ∀ {kinds : List (Str × NameKind)} {n : Nat} {acc : List (Str × Addr)}, cellsFrom n kinds acc = (celK kinds n).reverse ++ acc
  | [], _, _ => rfl
  | (x, k) :: r, n, acc => by
    unfold cellsFrom celK
    cases k == NameKind.cell with
    | true => rw [if_pos rfl, if_pos rfl, cellsFrom_eq, List.reverse_cons, List.append_assoc]; rfl
    | false => rw [if_neg (by decide), if_neg (by decide), cellsFrom_eq]
theorem celK_at : ∀ {kinds : List (Str × NameKind)} {n i : Nat} {x : Str} {a : Nat}, (celK kinds n)[i]? = some (x, a) → a = n + i ∧ ∀ m, (celK kinds m)[i]? = some (x, m + i)
  | [], _, _, _, _, h => nomatch h
  | (y, k) :: r, n, i, x, a, h => by
    unfold celK at h ⊢
    cases hk : k == NameKind.cell with
    | false => rw [hk, if_neg (by decide)] at h; simp only [Bool.false_eq_true, if_false]; exact celK_at h
    | true =>
      rw [hk, if_pos rfl] at h
      simp only [if_true]
      cases i with
      | zero => cases h; exact ⟨rfl, fun _ => rfl⟩
      | succ i =>
        obtain ⟨e, g⟩ := celK_at (kinds := r) (i := i) (by simpa using h)
        exact ⟨by omega, fun m => by rw [List.getElem?_cons_succ, g (m + 1)]; congr 2; omega⟩
theorem cel0_at : ∀ {kinds : List (Str × NameKind)} {b : List (Str × SV)} {i : Nat} {o : SO}, (cel0 kinds b)[i]? = some o → ∃ x, (celK kinds 0)[i]? = some (x, 0 + i) ∧ o = .cell (b.lookup x) ∧ (x, NameKind.cell) ∈ kinds
  | [], _, _, _, h => nomatch h
  | (y, k) :: r, b, i, o, h => by
    unfold cel0 at h
    unfold celK
    cases hk : k == NameKind.cell with
    | false =>
      rw [hk, if_neg (by decide)] at h
      obtain ⟨x, e, f, g⟩ := cel0_at h
      simp only [Bool.false_eq_true, if_false]
      exact ⟨x, e, f, .tail _ g⟩
    | true =>
      rw [hk, if_pos rfl] at h
      simp only [if_true]
      cases i with
      | zero => cases h; exact ⟨y, rfl, rfl, (beq_iff_eq.mp hk) ▸ .head _⟩
      | succ i =>
        obtain ⟨x, e, f, g⟩ := cel0_at (kinds := r) (i := i) (by simpa using h)
        exact ⟨x, by rw [List.getElem?_cons_succ, (celK_at e).2 (0 + 1)]; congr 2; omega, f, .tail _ g⟩
theorem cel_len : ∀ {kinds : List (Str × NameKind)} {b : List (Str × SV)} {n : Nat}, (celK kinds n).length = (cel0 kinds b).length
  | [], _, _ => rfl
  | (y, k) :: r, b, n => by
    unfold cel0 celK
    cases k == NameKind.cell with
    | false => rw [if_neg (by decide), if_neg (by decide)]; exact cel_len
    | true => rw [if_pos rfl, if_pos rfl]; exact congrArg (· + 1) cel_len
theorem cells_at {cm : Str → Option Value} {l : List (Str × Addr)} {cells : Led} (X : CellsAre cm l cells) : cells.length = l.length ∧ ∀ (i : Nat) x a, l[i]? = some (x, a) → ∃ o, cells[i]? = some (a, o) ∧ o.data = .cell (cm x) := by
  induction X with
  | nil => exact ⟨rfl, fun _ _ _ h => nomatch h⟩
  | cons hd _ ih =>
    refine ⟨congrArg (· + 1) ih.1, fun i x a h => ?_⟩
    cases i with
    | zero => cases h; exact ⟨_, rfl, hd⟩
    | succ i => exact ih.2 i x a (by simpa using h)
theorem nws_ext {ρ : Nat → Addr} {ω : Nat → Obj} {rest : Led} {n : Nat} : ∀ {cells : Led}, nws (fun k => if k < n then ρ k else ((cells.reverse[k - n]?).getD (0, default)).1) (fun k => if k < n then ω k else ((cells.reverse[k - n]?).getD (0, default)).2) rest (n + cells.length) = cells ++ nws ρ ω rest n
  | [] => nws_eq fun k hk => ⟨if_pos hk, if_pos hk⟩
  | p :: cs => by
    have e : ((p :: cs).reverse[n + cs.length - n]?).getD (0, default) = p := by
      rw [List.reverse_cons, Nat.add_sub_cancel_left, List.getElem?_append_right (by simp), List.length_reverse, Nat.sub_self]; rfl
    show (_ :: nws _ _ rest (n + cs.length)) = p :: (cs ++ _)
    rw [← nws_ext (cells := cs)]
    refine congr (congrArg List.cons ?_) (nws_eq fun k hk => ?_)
    · show ((if n + cs.length < n then _ else _), (if n + cs.length < n then _ else _)) = p
      rw [if_neg (by omega), if_neg (by omega), Nat.add_eq, e]
    · by_cases h : k < n
      · rw [if_pos h, if_pos h, if_pos h, if_pos h]; exact ⟨rfl, rfl⟩
      · rw [if_neg h, if_neg h, if_neg h, if_neg h, List.reverse_cons, List.getElem?_append_left (by simp; omega)]; exact ⟨rfl, rfl⟩
theorem bindL_eq {kindOf : Str → Option NameKind} {x : Str} (hx : kindOf x = some .local) : ∀ {b : List (Str × Value)} {m : Str → Option Value}, (b.map (·.1)).Nodup → bindL kindOf b m x = match b.lookup x with | some v => some v | none => m x
  | [], _, _ => rfl
  | (n, v) :: r, m, nd => by
    have nd' := List.nodup_cons.mp nd
    show bindL kindOf r _ x = _
    rw [bindL_eq hx nd'.2, List.lookup_cons]
    by_cases h : x = n
    · subst h
      have : r.lookup x = none := List.lookup_eq_none_iff.mpr fun p hp => by
        have : ¬ p.1 = x := fun e => nd'.1 (List.mem_map.mpr ⟨p, hp, e⟩)
        simpa using fun e : x = p.1 => this e.symm
      rw [this, hx]; simp
    · have e : (x == n) = false := by simpa using h
      rw [e]
      dsimp only
      cases r.lookup x with
      | some w => rfl
      | none => dsimp only; split <;> simp [h]
theorem bindC_eq {kindOf : Str → Option NameKind} {x : Str} (hx : kindOf x = some .cell) : ∀ {b : List (Str × Value)} {m : Str → Option Value}, (b.map (·.1)).Nodup → bindC kindOf b m x = match b.lookup x with | some v => some v | none => m x
  | [], _, _ => rfl
  | (n, v) :: r, m, nd => by
    have nd' := List.nodup_cons.mp nd
    show bindC kindOf r _ x = _
    rw [bindC_eq hx nd'.2, List.lookup_cons]
    by_cases h : x = n
    · subst h
      have : r.lookup x = none := List.lookup_eq_none_iff.mpr fun p hp => by
        have : ¬ p.1 = x := fun e => nd'.1 (List.mem_map.mpr ⟨p, hp, e⟩)
        simpa using fun e : x = p.1 => this e.symm
      rw [this, hx]; simp
    · have e : (x == n) = false := by simpa using h
      rw [e]
      dsimp only
      cases r.lookup x with
      | some w => rfl
      | none => dsimp only; split <;> simp [h]
theorem zip_rep {ρ : Nat → Addr} {n : Nat} {x : Str} : ∀ {ps : List Str} {args : List SV} {xs : List Value}, RepL ρ n args xs → (∀ sv, (ps.zip args).lookup x = some sv → ∃ v, (ps.zip xs).lookup x = some v ∧ Rep ρ n sv v) ∧ ((ps.zip args).lookup x = none → (ps.zip xs).lookup x = none)
  | [], _, _, _ => ⟨fun _ h => (nomatch h), fun _ => rfl⟩
  | _ :: _, [], [], _ => ⟨fun _ h => (nomatch h), fun _ => rfl⟩
  | p :: ps, a :: args, v :: xs, R => by
    have ih := zip_rep (x := x) (ps := ps) R.2
    show (∀ sv, List.lookup x ((p, a) :: ps.zip args) = some sv → _) ∧ (List.lookup x ((p, a) :: ps.zip args) = none → List.lookup x ((p, v) :: ps.zip xs) = none)
    rw [List.zip_cons_cons, List.lookup_cons, List.lookup_cons]
    cases x == p with
    | true => exact ⟨fun sv h => ⟨v, rfl, Option.some.inj h ▸ R.1⟩, nofun⟩
    | false => exact ih
theorem lookup_mem {x : Str} {a : Addr} : ∀ {l : List (Str × Addr)}, (x, a) ∈ l → (l.map (·.1)).Nodup → l.lookup x = some a
  | (y, b) :: r, h, nd => by
    have nd' := List.nodup_cons.mp nd
    rw [List.lookup_cons]
    rcases List.mem_cons.mp h with e | h
    · cases e; simp
    · have : ¬ x = y := fun e => nd'.1 (List.mem_map.mpr ⟨_, h, e⟩)
      have e : (x == y) = false := by simpa using this
      rw [e]; exact lookup_mem h nd'.2
noncomputable def gsm (l : List (Str × NameKind)) (m : List (Str × Const)) : Scope := ⟨.function, l, false, false, m⟩
/-- a def of the program: its place, its parameters, its names, its body -/
structure FnRec where
  oc : Value
  od : Option Addr
  name : Str
  qual : Str
  params : Arguments
  dV : Value
  kV : Value
  doc : Value
  pm : Value
  an : Option Addr
  cdv : Value
  ct : Value
  osl : Array (Option Value)
  more : List (Str × Const)
structure Def (f : Addr) (ps : List Str) (kinds : List (Str × NameKind)) (body : List Stmt) : Prop where
  h : ∀ w : World, ∃ r : FnRec, (Mine.K2 w.params).lookup f = some { cls := r.oc, dict := r.od, data := .func (fnOf r.name r.qual r.params body (gsm kinds r.more) r.dV r.kV r.doc r.pm r.an r.cdv r.ct), slots := r.osl } ∧ codeIn (Mine.K2 w.params) r.cdv r.qual = true ∧
      ∀ vs : List Value, vs.length = ps.length → bindArgs (fnOf r.name r.qual r.params body (gsm kinds r.more) r.dV r.kV r.doc r.pm r.an r.cdv r.ct) ⟨vs, []⟩ = pure (ps.zip vs)
noncomputable def SE.of (kinds : List (Str × NameKind)) (own : List Str) (n : Nat) : SE := ⟨kinds, own, celK kinds n, []⟩
noncomputable def uniq : List Str → Bool
  | [] => true
  | x :: r => !r.contains x && uniq r
theorem uniq_ok : ∀ {l : List Str}, uniq l = true → l.Nodup
  | [], _ => List.nodup_nil
  | x :: r, h => List.nodup_cons.mpr ⟨by simpa using (a2 h).1, uniq_ok (a2 h).2⟩
noncomputable def defOk (kinds : List (Str × NameKind)) (own ps : List Str) (ir : IS) (n : Nat) : Bool :=
  ((uniq ps && uniq own) && (uniq ((celK kinds 0).map (·.1)) && (own.all (fun x => kinds.lookup x == some .local) && ps.all (fun x => kinds.lookup x == some .local || kinds.lookup x == some .cell)))) && ((ir.isL && (rdS ir (SE.of kinds own n)).ok) && (celK kinds 0).all fun p => kinds.lookup p.1 == some .cell)
/-- what comes back, seen from the caller's objects -/
inductive VRet (np : Nat) (R : SV → List SO → Prop) (v : SV) (led : List SO) : Prop
  | mk (σ : List Nat) (v' : SV) (led' : List SO) (o : okS σ [] = true) (p : σ.map (fun k => led[k]?) = led'.map (fun o => some (o.ren (tau σ led.length)))) (e : v = v'.ren (tau σ led.length)) (n : σ.take np = List.range np) (r : R v' led')
noncomputable def retV (o : Option SV) : SV := match o with | none => .none | some v => v
theorem celK_len {kinds : List (Str × NameKind)} {n m : Nat} : (celK kinds n).length = (celK kinds m).length := cel_len.trans (cel_len (b := []) (n := m)).symm
theorem celK_names {kinds : List (Str × NameKind)} {n m : Nat} : (celK kinds n).map (·.1) = (celK kinds m).map (·.1) := by
  refine List.ext_getElem? fun i => ?_
  rw [List.getElem?_map, List.getElem?_map]
  cases e : (celK kinds n)[i]? with
  | some p => obtain ⟨x, a⟩ := p; rw [(celK_at e).2 m]; rfl
  | none =>
    have h1 := List.getElem?_eq_none_iff.mp e
    rw [List.getElem?_eq_none (by rw [celK_len (m := n)]; exact h1)]
theorem ltNo {L q : Nat} (h : L + 1 + q < L) : False := by omega
theorem addNo {L q q' : Nat} (h : L + 1 + q = L + 1 + q') : q = q' := by omega
theorem enter0 {w : Scr} {f : Addr} {d : Nat} {pre : List SO} {args : List SV} {T : (SV → List SO → Prop) → Prop} {kinds : List (Str × NameKind)} {own ps : List Str} {ir : IS} (D : Def f ps kinds (rdS ir (SE.of kinds own pre.length)).l) (ok : defOk kinds own ps ir pre.length = true) (hl : args.length = ps.length)
    (h : ∀ R, T R → vs ir ⟨w, d, [], false, pre.length + (celK kinds 0).length⟩ ⟨own.map fun x => (ps.zip args).lookup x, [], pre ++ cel0 kinds (ps.zip args)⟩ fun o s => frcV (retV o) fun v => frcLd s.led fun led => VRet pre.length R v led) : SSpec w f d pre args T := by
  obtain ⟨o1, o2⟩ := a2 ok
  obtain ⟨o3, o4⟩ := a2 o1
  obtain ⟨o5, o6⟩ := a2 o4
  obtain ⟨o7, o8⟩ := a2 o6
  obtain ⟨o9, o10⟩ := a2 o2
  have ndp := uniq_ok (a2 o3).1
  intro R hT ρ ω rest xs LO RL
  have hx : xs.length = ps.length := RL.length.symm.trans hl
  intro loose mean mg mb dp un gd cn cs a ccd cl outer A₀ base h₀ L m s Q E hls B F X N T hk hd hu hret
  obtain ⟨⟨oc, od, name, qual, params, dV, kV, doc, pm, an, cdv, ct, osl, more⟩, hlook, hcode, hbind⟩ := D.h w.w
  dsimp only at hlook hcode hbind
  have zfst : (ps.zip xs).map (·.1) = ps := by rw [List.map_fst_zip (by omega)]
  have nde : ((cellsFrom 0 kinds []).map (·.1)).Nodup := by
    rw [cellsFrom_eq, List.append_nil, List.map_reverse]
    exact List.pairwise_reverse.mpr ((uniq_ok o5).imp Ne.symm)
  refine wpAny_call (code_defC B F X N T rfl rfl hk hlook hcode (show dp < recursionLimit by omega) (BindsTo.of_eq (hbind xs hx)) ?_ nde (fun g L' h₁ tk cells FG F' N' Y B' X' T' lt => ?_) rfl rfl rfl)
  · refine List.all_eq_true.mpr fun y hy => List.all_eq_true.mp o8 y.1 ?_
    rw [← zfst]; exact List.mem_map.mpr ⟨y, hy, rfl⟩
  · let c : Act := { sw := w, loose := loose, mean := mean, mg := mg, mb := mb, dp := dp + 1, un := un + 3, gd := gd, cn := qual, cs := gsm kinds more, L := L', a := f, ccd := cdv, cl := cellsFrom (L' + 1) kinds [], outer := envX cn cs L a ccd cl :: outer, A₀ := ktrTop dp un gd cn cs L a ccd cl outer, base := base, h₀ := g, s := s, d := d, B := B', X := X', hl := hls.at fun o e => FG.keep _ o e, T := T', hk := rfl, hd := by omega, hu := by omega }
    change CellsAre _ (cellsFrom (L' + 1) kinds []) cells at Y
    rw [cellsFrom_eq, List.append_nil] at Y
    obtain ⟨Yl, Ya⟩ := cells_at Y
    rw [List.length_reverse] at Yl
    let ρ' : Nat → Addr := fun k => if k < pre.length then ρ k else ((cells.reverse[k - pre.length]?).getD (0, default)).1
    let ω' : Nat → Obj := fun k => if k < pre.length then ω k else ((cells.reverse[k - pre.length]?).getD (0, default)).2
    have led : (pre ++ cel0 kinds (ps.zip args)).length = pre.length + cells.length := by rw [List.length_append, Yl, ← cel_len (n := L' + 1)]
    let cx : Cx := { env := c.env, cmp := none, rest := rest, ωf := ω', ρf := ρ', np := pre.length + (celK kinds 0).length, md := ⟨w, d, [], false, pre.length + (celK kinds 0).length⟩ }
    have O : CxOk c cx (SE.of kinds own pre.length) := ⟨rfl, rfl, rfl, rfl, uniq_ok (a2 o3).2, fun _ => rfl, rfl, Nat.le_refl _, fun p hp => by
      obtain ⟨i, hi⟩ := List.mem_iff_getElem?.mp hp
      obtain ⟨x, q⟩ := p
      have e := (celK_at hi).1
      have l : i < (celK kinds pre.length).length := (List.getElem?_eq_some_iff.mp hi).1
      rw [celK_len (m := 0)] at l
      show q < pre.length + (celK kinds 0).length
      omega, rfl⟩
    have at1 : ∀ (i : Nat) x, (celK kinds 0)[i]? = some (x, 0 + i) → ∃ o, cells.reverse[i]? = some (L' + 1 + i, o) ∧ o.data = .cell (bindC (envOfC qual (gsm kinds more) L' f cdv).kindOf (ps.zip xs) (fun _ => none) x) := fun i x e => by
      have e2 := (celK_at e).2 (L' + 1)
      have l := (List.getElem?_eq_some_iff.mp e2).1
      obtain ⟨o, e3, e4⟩ := Ya ((celK kinds (L' + 1)).length - 1 - i) x (L' + 1 + i) (by rw [List.getElem?_reverse (by omega)]; rw [show (celK kinds (L' + 1)).length - 1 - ((celK kinds (L' + 1)).length - 1 - i) = i by omega]; exact e2)
      exact ⟨o, by rw [List.getElem?_reverse (by omega), Yl]; exact e3, e4⟩
    have rold : ∀ k, k < pre.length → ρ' k = ρ k := fun k hk => if_pos hk
    have rnew : ∀ (i : Nat) x, (celK kinds 0)[i]? = some (x, 0 + i) → ρ' (pre.length + i) = L' + 1 + i ∧ (ω' (pre.length + i)).data = .cell (bindC (envOfC qual (gsm kinds more) L' f cdv).kindOf (ps.zip xs) (fun _ => none) x) := fun i x e => by
      obtain ⟨o, e1, e2⟩ := at1 i x e
      refine ⟨?_, ?_⟩
      · show (if _ then _ else _) = _
        rw [if_neg (by omega), Nat.add_sub_cancel_left, e1]; rfl
      · show (if _ then _ else _ : Obj).data = _
        rw [if_neg (by omega), Nat.add_sub_cancel_left, e1]; exact e2
    have ext : Ext ρ pre.length ρ' (pre ++ cel0 kinds (ps.zip args)).length := ⟨by rw [led]; omega, rold⟩
    have new : ∀ k, pre.length ≤ k → k < (pre ++ cel0 kinds (ps.zip args)).length → ∃ (i : Nat) (x : Str), k = pre.length + i ∧ (celK kinds 0)[i]? = some (x, 0 + i) := fun k h1 h2 => by
      rw [led, Yl, celK_len (m := 0)] at h2
      have h3 : k - pre.length < (celK kinds 0).length := by omega
      have e : (celK kinds 0)[k - pre.length]? = some ((celK kinds 0)[k - pre.length].1, (celK kinds 0)[k - pre.length].2) := List.getElem?_eq_getElem h3
      exact ⟨k - pre.length, _, by omega, (celK_at e).2 0⟩
    have S : Sat c cx (SE.of kinds own pre.length) ⟨own.map fun x => (ps.zip args).lookup x, [], pre ++ cel0 kinds (ps.zip args)⟩ ⟨ρ', ω', bindL (envOfC qual (gsm kinds more) L' f cdv).kindOf (ps.zip xs) fun _ => none, h₁, tk⟩ := by
      refine ⟨F', ?_, fun k o e => ?_, fun i j hi hj e => ?_, fun p hp k hk => ?_, (fun k hk => nomatch hk), fun i x v e1 e2 => ?_, fun x k hm hl => ?_, (fun i x v e => nomatch e), Nat.zero_le _, ?_⟩
      · show News g L' h₁ (nws ρ' ω' rest (pre ++ cel0 kinds (ps.zip args)).length)
        rw [led, nws_ext]; exact N'
      · rcases Nat.lt_or_ge k pre.length with h | h
        · rw [List.getElem?_append_left h] at e
          have : ω' k = ω k := if_pos h
          show RepO ρ' _ o (ω' k)
          rw [this]
          exact (LO.obj k o e).mono ext
        · have e' : (cel0 kinds (ps.zip args))[k - pre.length]? = some o := by rw [← List.getElem?_append_right h]; exact e
          obtain ⟨x, e1, rfl, hk⟩ := cel0_at e'
          obtain ⟨_, e2⟩ := rnew _ x e1
          rw [show pre.length + (k - pre.length) = k by omega] at e2
          have hkc : (envOfC qual (gsm kinds more) L' f cdv).kindOf x = some .cell := by
            have := List.all_eq_true.mp o10 (x, _) (List.mem_of_getElem? e1)
            exact beq_iff_eq.mp this
          rw [bindC_eq hkc (by rw [zfst]; exact ndp)] at e2
          obtain ⟨z1, z2⟩ := zip_rep (x := x) (ps := ps) RL
          cases hlk : (ps.zip args).lookup x with
          | none => rw [z2 hlk] at e2; exact e2
          | some sv =>
            obtain ⟨v, e3, rv⟩ := z1 sv hlk
            rw [e3] at e2
            exact ⟨v, e2, rv.mono ext⟩
      · have old : ∀ k, k < pre.length → ρ' k < L' := fun k hk => by
          rw [rold k hk]; exact lt (ρ k, ω k) (nws_mem.mpr (.inl ⟨k, hk, rfl⟩))
        have e' : ρ' i = ρ' j := e
        rcases Nat.lt_or_ge i pre.length with h1 | h1 <;> rcases Nat.lt_or_ge j pre.length with h2 | h2
        · rw [rold i h1, rold j h2] at e'; exact LO.inj i j h1 h2 e'
        · obtain ⟨q, x, rfl, eq⟩ := new j h2 hj
          have := old i h1
          rw [e', (rnew q x eq).1] at this
          exact (ltNo this).elim
        · obtain ⟨q, x, rfl, eq⟩ := new i h1 hi
          have := old j h2
          rw [← e', (rnew q x eq).1] at this
          exact (ltNo this).elim
        · obtain ⟨q, x, rfl, eq⟩ := new i h1 hi
          obtain ⟨q', x', rfl, eq'⟩ := new j h2 hj
          rw [(rnew q x eq).1, (rnew q' x' eq').1] at e'
          exact congrArg (pre.length + ·) (addNo e')
      · show p.1 ≠ ρ' k
        rcases Nat.lt_or_ge k pre.length with h | h
        · rw [rold k h]; exact LO.apart p hp k h
        · obtain ⟨q, x, rfl, eq⟩ := new k h hk
          rw [(rnew q x eq).1]
          have := lt p (nws_mem.mpr (.inr hp))
          intro e
          rw [e] at this
          exact (ltNo this).elim
      · have e3 : some ((ps.zip args).lookup x) = some (some v) := by rw [← e2]; show _ = (own.map _)[i]?; rw [List.getElem?_map, show own[i]? = some x from e1]; rfl
        obtain ⟨y, e4, ry⟩ := (zip_rep (x := x) (ps := ps) RL).1 v (Option.some.inj e3)
        have hkl : (envOfC qual (gsm kinds more) L' f cdv).kindOf x = some .local := beq_iff_eq.mp (List.all_eq_true.mp o7 x (List.mem_of_getElem? e1))
        refine ⟨y, ?_, ry.mono ext⟩
        show bindL _ _ _ x = _
        rw [bindL_eq hkl (by rw [zfst]; exact ndp), e4]
      · obtain ⟨i, hi⟩ := List.mem_iff_getElem?.mp hm
        obtain ⟨rfl, e2⟩ := celK_at hi
        have l : i < (celK kinds pre.length).length := (List.getElem?_eq_some_iff.mp hi).1
        rw [celK_len (m := 0)] at l
        refine ⟨by show _ < (pre ++ cel0 kinds (ps.zip args)).length; rw [led, Yl, celK_len (m := 0)]; omega, ?_⟩
        show (cellsFrom (L' + 1) kinds []).lookup x = some (ρ' (pre.length + i))
        rw [(rnew i x (e2 0)).1, cellsFrom_eq, List.append_nil]
        refine lookup_mem (List.mem_reverse.mpr (List.mem_of_getElem? (e2 (L' + 1)))) ?_
        rw [List.map_reverse]
        refine List.pairwise_reverse.mpr (List.Pairwise.imp Ne.symm ?_)
        rw [celK_names (m := 0)]; exact uniq_ok o5
      · show pre.length + (celK kinds 0).length ≤ (pre ++ cel0 kinds (ps.zip args)).length
        rw [led, Yl]; exact Nat.le_of_eq (congrArg (pre.length + ·) celK_len)
    have fin : ∀ (o : Option SV) (s' : SSt) (r' : Re) (x : Value), (frcV (retV o) fun v => frcLd s'.led fun led => VRet pre.length R v led) → (∀ k, k < cx.np → r'.ρ k = ρ' k) → Sat c cx (SE.of kinds own pre.length) s' r' → Rep r'.ρ s'.led.length (retV o) x →
        LeaveK h₀ L m g (fun r s' => match r with | .ok (.ret v) => Q v s' | .ok _ => False | .error e => E e s') x (c.sh r') := fun o s' r' x hq hp S' rx => by
      obtain ⟨σ, v', led', hok, hpre, hv, htk, hR⟩ := frcLd_ok (frcV_ok (K := fun v => frcLd s'.led fun led => VRet pre.length R v led) hq)
      have Y' := keys (c := c) (cx := cx) (se := SE.of kinds own pre.length) (r := r') hpre
      have L2 := sub_led S' Y' (okS_ok hok).1 (rest' := rest) fun p hp => .inr hp
      have pin : ∀ k, k < pre.length → σ[k]? = some k := fun k hk => by
        have : (σ.take pre.length)[k]? = some k := by rw [htk, List.getElem?_range hk]
        rwa [List.getElem?_take_of_lt hk] at this
      have N2 : News g L' r'.h (nws (fun i => r'.ρ (tau σ s'.led.length i)) (fun i => r'.ω (tau σ s'.led.length i)) rest led'.length) := fun p hp => S'.N p (nws_mem.mpr (by
        rcases nws_mem.mp hp with ⟨i, hi, rfl⟩ | h
        · obtain ⟨k, ek⟩ := Y'.getσ i hi
          exact .inl ⟨_, by rw [Y'.tauσ i k ek]; exact Y'.inσ i k ek, rfl⟩
        · exact .inr h))
      refine leaveK_ S'.F N2 fun F2 N3 => hret x _ _ _ ⟨v', led', _, _, hR, ⟨?_, fun k hk => ?_⟩, (hv ▸ rx).unren Y'.hun, L2, rfl⟩ F2 N3
      · rw [← Y'.len]
        have := congrArg List.length htk
        rw [List.length_take, List.length_range] at this
        omega
      · show r'.ρ (tau σ s'.led.length k) = ρ k
        rw [Y'.tauσ k k (pin k hk), hp k (by show k < pre.length + _; omega), rold k hk]
    refine ((s_ok (c := c) rfl ir (a2 o9).2 O rfl (h R hT)).2 (a2 o9).1) ⟨ρ', ω', _, h₁, tk⟩ _ _ PassesOwn.leaving S ⟨fun st' r' hq hp S' => fin none st' r' .none hq hp S' rfl, fun v st' r' x hq hp S' rx => fin (some v) st' r' x hq hp S' rx⟩
theorem enter {w : Scr} {f : Addr} {d n np : Nat} {pre : List SO} {args : List SV} {T : (SV → List SO → Prop) → Prop} {kinds : List (Str × NameKind)} {own ps : List Str} {ir : Nat → IS} (D : ∀ n, Def f ps kinds (rdS (ir n) (SE.of kinds own n)).l) (hn : pre.length = n) (ok : (defOk kinds own ps (ir n) n && Nat.beq (n + (celK kinds 0).length) np) = true) (hl : args.length = ps.length)
    (h : ∀ R, T R → frcS ⟨own.map fun x => (ps.zip args).lookup x, [], pre ++ cel0 kinds (ps.zip args)⟩ fun s0 => vs (ir n) ⟨w, d, [], false, np⟩ s0 fun o s => frcV (retV o) fun v => frcLd s.led fun led => VRet n R v led) : SSpec w f d pre args T := by
  obtain ⟨o1, o2⟩ := a2 ok
  cases Nat.eq_of_beq_eq_true o2
  subst hn
  exact enter0 (D _) o1 hl fun R hR => frcS_ok (h R hR)
end
section
theorem len0 {α : Type} {l : List α} (h : l.length = 0) : l = [] := List.eq_nil_of_length_eq_zero h
theorem len1 {α : Type} {l : List α} (h : l.length = 1) : ∃ a, l = [a] := by
  cases l with
  | nil => cases h
  | cons a l =>
    cases len0 (Nat.succ.inj h)
    exact ⟨a, rfl⟩
theorem len2 {α : Type} {l : List α} (h : l.length = 2) : ∃ a b, l = [a, b] := by
  cases l with
  | nil => cases h
  | cons a l =>
    obtain ⟨b, rfl⟩ := len1 (Nat.succ.inj h)
    exact ⟨a, b, rfl⟩
theorem len3 {α : Type} {l : List α} (h : l.length = 3) : ∃ a b c, l = [a, b, c] := by
  cases l with
  | nil => cases h
  | cons a l =>
    obtain ⟨b, c, rfl⟩ := len2 (Nat.succ.inj h)
    exact ⟨a, b, c, rfl⟩
theorem len4 {α : Type} {l : List α} (h : l.length = 4) : ∃ a b c d, l = [a, b, c, d] := by
  cases l with
  | nil => cases h
  | cons a l =>
    obtain ⟨b, c, d, rfl⟩ := len3 (Nat.succ.inj h)
    exact ⟨a, b, c, d, rfl⟩
theorem len5 {α : Type} {l : List α} (h : l.length = 5) : ∃ a b c d e, l = [a, b, c, d, e] := by
  cases l with
  | nil => cases h
  | cons a l =>
    obtain ⟨b, c, d, e, rfl⟩ := len4 (Nat.succ.inj h)
    exact ⟨a, b, c, d, e, rfl⟩
theorem len6 {α : Type} {l : List α} (h : l.length = 6) : ∃ a b c d e f, l = [a, b, c, d, e, f] := by
  cases l with
  | nil => cases h
  | cons a l =>
    obtain ⟨b, c, d, e, f, rfl⟩ := len5 (Nat.succ.inj h)
    exact ⟨a, b, c, d, e, f, rfl⟩

noncomputable def k_gcd : List (Str × NameKind) := [("a", .local), ("b", .local), ("abs", .globalImplicit)]
noncomputable def o_gcd : List Str := ["a", "b"]
noncomputable def p_gcd : List Str := ["a", "b"]
noncomputable def i_gcd (n : Nat) : IS := (.cons (.asS 0 1 (.bfn .abs (.loc 0 (nat_lit 10999411286033)) (nat_lit 10998337544210) (nat_lit 10998337544207)) (.bfn .abs (.loc 1 (nat_lit 11001558769689)) (nat_lit 11000485027866) (nat_lit 11000485027863)) (nat_lit 10996190060549) (nat_lit 10996995366920) (nat_lit 10996190060552) (nat_lit 10998069108763) (nat_lit 10996190060571)) (.cons (.whl (.cmp .ne (.loc 1 (nat_lit 12097312305163)) (.int 0 (nat_lit 12098654482448)) (nat_lit 12097312305168)) (.cons (.asS 0 1 (.loc 1 (nat_lit 13198434549777)) (.bin .mod (.loc 0 (nat_lit 13199239856148)) (.loc 1 (nat_lit 13200313597976)) (nat_lit 13199239856152)) (nat_lit 13196287066121) (nat_lit 13197092372492) (nat_lit 13196287066124) (nat_lit 13198166114329) (nat_lit 13196287066137)) .nil) (nat_lit 12095701696537)) (.cons (.ret (.loc 0 (nat_lit 14296604004364)) (nat_lit 14294724956172)) .nil)))
theorem d_gcd (n : Nat) : Def 41 p_gcd k_gcd (rdS (i_gcd n) (SE.of k_gcd o_gcd n)).l := ⟨fun w => ⟨⟨_, _, _, _, _, _, _, _, _, _, _, _, _, _⟩, by k_is, by k_is, fun vs h => by obtain ⟨a, b, rfl⟩ := len2 h; rfl⟩⟩

noncomputable def k_gcd_all : List (Str × NameKind) := [("numbers", .local), ("found", .local), ("number", .local), ("gcd", .globalImplicit)]
noncomputable def o_gcd_all : List Str := ["numbers", "found", "number"]
noncomputable def p_gcd_all : List Str := ["numbers"]
noncomputable def i_gcd_all (n : Nat) : IS := (.cons (.asg (.loc 1 (nat_lit 16493748219913)) (.int 0 (nat_lit 16495895703565)) (nat_lit 16493748219917)) (.cons (.fL (.loc 2 (nat_lit 17594333593614)) (.loc 0 (nat_lit 17597017948185)) (.cons (.asg (.loc 1 (nat_lit 18693845225485)) (.call "gcd" 41 (.cons (.loc 1 (nat_lit 18697066450969)) (.cons (.loc 2 (nat_lit 18698945499169)) .nil)) (nat_lit 18695992709154) (nat_lit 18695992709139)) (nat_lit 18693845225506)) .nil) (nat_lit 17593259855906)) (.cons (.ret (.loc 1 (nat_lit 19794162163728)) (nat_lit 19792283115536)) .nil)))
theorem d_gcd_all (n : Nat) : Def 48 p_gcd_all k_gcd_all (rdS (i_gcd_all n) (SE.of k_gcd_all o_gcd_all n)).l := ⟨fun w => ⟨⟨_, _, _, _, _, _, _, _, _, _, _, _, _, _⟩, by k_is, by k_is, fun vs h => by obtain ⟨a, rfl⟩ := len1 h; rfl⟩⟩

noncomputable def k_row_dot : List (Str × NameKind) := [("a", .local), ("b", .cell), ("sum", .globalImplicit), ("enumerate", .globalImplicit)]
noncomputable def o_row_dot : List Str := ["a"]
noncomputable def p_row_dot : List Str := ["a", "b"]
noncomputable def i_row_dot (n : Nat) : IS := (.cons (.ret (.bfn .sum (.cE (.bin .mul (.loc 1 (nat_lit 23094039236627)) (.sub (.cel 0 (n + 0) (nat_lit 23095649849367)) (.loc 0 (nat_lit 23096186720282)) (nat_lit 23095649849371)) (nat_lit 23094039236635)) (.loc 0 (nat_lit 23103971348534)) "at" "one" [(".0", .local), ("at", .local), ("one", .local), ("b", .free)] (nat_lit 23093770801208) (nat_lit 23098334203938) (nat_lit 23099407945767) (nat_lit 23098334203943) (nat_lit 23101286993972) (nat_lit 23101286993975)) (nat_lit 23092697059385) (nat_lit 23092697059342)) (nat_lit 23090818011193)) .nil)
theorem d_row_dot (n : Nat) : Def 53 p_row_dot k_row_dot (rdS (i_row_dot n) (SE.of k_row_dot o_row_dot n)).l := ⟨fun w => ⟨⟨_, _, _, _, _, _, _, _, _, _, _, _, _, _⟩, by k_is, by k_is, fun vs h => by obtain ⟨a, b, rfl⟩ := len2 h; rfl⟩⟩

noncomputable def k_row_less : List (Str × NameKind) := [("a", .local), ("b", .cell), ("many", .cell), ("enumerate", .globalImplicit)]
noncomputable def o_row_less : List Str := ["a"]
noncomputable def p_row_less : List Str := ["a", "b", "many"]
noncomputable def i_row_less (n : Nat) : IS := (.cons (.ret (.cE (.bin .sub (.loc 1 (nat_lit 25291988758543)) (.bin .mul (.cel 1 (n + 1) (nat_lit 25293599371286)) (.sub (.cel 0 (n + 0) (nat_lit 25295478419482)) (.loc 0 (nat_lit 25296015290397)) (nat_lit 25295478419486)) (nat_lit 25293599371294)) (nat_lit 25291988758558)) (.loc 0 (nat_lit 25303799918649)) "at" "one" [(".0", .local), ("at", .local), ("one", .local), ("b", .free), ("many", .free)] (nat_lit 25291720323131) (nat_lit 25298162774053) (nat_lit 25299236515882) (nat_lit 25298162774058) (nat_lit 25301115564087) (nat_lit 25301115564090)) (nat_lit 25289841274939)) .nil)
theorem d_row_less (n : Nat) : Def 58 p_row_less k_row_less (rdS (i_row_less n) (SE.of k_row_less o_row_less n)).l := ⟨fun w => ⟨⟨_, _, _, _, _, _, _, _, _, _, _, _, _, _⟩, by k_is, by k_is, fun vs h => by obtain ⟨a, b, c, rfl⟩ := len3 h; rfl⟩⟩

noncomputable def k_nearest_whole : List (Str × NameKind) := [("top", .local), ("bottom", .local)]
noncomputable def o_nearest_whole : List Str := ["top", "bottom"]
noncomputable def p_nearest_whole : List Str := ["top", "bottom"]
noncomputable def i_nearest_whole (n : Nat) : IS := (.cons (.ret (.bin .div (.bin .add (.bin .mul (.int 2 (nat_lit 27491012022285)) (.loc 0 (nat_lit 27492085764115)) (nat_lit 27491012022291)) (.loc 1 (nat_lit 27493696376860)) (nat_lit 27491012022300)) (.bin .mul (.int 2 (nat_lit 27496917602339)) (.loc 1 (nat_lit 27497991344172)) (nat_lit 27496917602348)) (nat_lit 27490743586861)) (nat_lit 27488864538669)) .nil)
theorem d_nearest_whole (n : Nat) : Def 65 p_nearest_whole k_nearest_whole (rdS (i_nearest_whole n) (SE.of k_nearest_whole o_nearest_whole n)).l := ⟨fun w => ⟨⟨_, _, _, _, _, _, _, _, _, _, _, _, _, _⟩, by k_is, by k_is, fun vs h => by obtain ⟨a, b, rfl⟩ := len2 h; rfl⟩⟩

noncomputable def k_is_exchanged : List (Str × NameKind) := [("sizes", .local), ("lower", .local), ("at", .local), ("top", .local), ("bottom", .local), ("beside", .local)]
noncomputable def o_is_exchanged : List Str := ["sizes", "lower", "at", "top", "bottom", "beside"]
noncomputable def p_is_exchanged : List Str := ["sizes", "lower", "at", "top", "bottom"]
noncomputable def i_is_exchanged (n : Nat) : IS := (.cons (.asg (.loc 5 (nat_lit 46180562280458)) (.bin .add (.bin .mul (.sub (.loc 0 (nat_lit 46182978199570)) (.bin .add (.loc 2 (nat_lit 46184588812309)) (.int 1 (nat_lit 46185930989593)) (nat_lit 46184588812313)) (nat_lit 46182978199578)) (.sub (.loc 0 (nat_lit 46187273166882)) (.bin .sub (.loc 2 (nat_lit 46188883779621)) (.int 1 (nat_lit 46190225956905)) (nat_lit 46188883779625)) (nat_lit 46187273166890)) (nat_lit 46182978199594)) (.bin .mul (.sub (.sub (.loc 1 (nat_lit 46191568134194)) (.loc 2 (nat_lit 46193178746933)) (nat_lit 46191568134198)) (.bin .sub (.loc 2 (nat_lit 46194252488761)) (.int 1 (nat_lit 46195594666045)) (nat_lit 46194252488765)) (nat_lit 46191568134206)) (.sub (.sub (.loc 1 (nat_lit 46196936843334)) (.loc 2 (nat_lit 46198547456073)) (nat_lit 46196936843338)) (.bin .sub (.loc 2 (nat_lit 46199621197901)) (.int 1 (nat_lit 46200963375185)) (nat_lit 46199621197905)) (nat_lit 46196936843346)) (nat_lit 46191568134226)) (nat_lit 46182978199634)) (nat_lit 46180562280530)) (.cons (.ret (.cmp .lt (.bin .mul (.loc 4 (nat_lit 47281952960529)) (.loc 5 (nat_lit 47284368879642)) (nat_lit 47281952960538)) (.bin .mul (.bin .mul (.loc 3 (nat_lit 47286784798752)) (.sub (.loc 0 (nat_lit 47288395411496)) (.loc 2 (nat_lit 47290006024235)) (nat_lit 47288395411500)) (nat_lit 47286784798764)) (.sub (.loc 0 (nat_lit 47291616636980)) (.loc 2 (nat_lit 47293227249719)) (nat_lit 47291616636984)) (nat_lit 47286784798776)) (nat_lit 47281952960568)) (nat_lit 47280073912376)) .nil))
theorem d_is_exchanged (n : Nat) : Def 79 p_is_exchanged k_is_exchanged (rdS (i_is_exchanged n) (SE.of k_is_exchanged o_is_exchanged n)).l := ⟨fun w => ⟨⟨_, _, _, _, _, _, _, _, _, _, _, _, _, _⟩, by k_is, by k_is, fun vs h => by obtain ⟨a, b, c, d, e, rfl⟩ := len5 h; rfl⟩⟩

noncomputable def k_shorten_row : List (Str × NameKind) := [("rows", .local), ("changes", .local), ("sizes", .local), ("lower", .local), ("at", .local), ("other", .local), ("many", .local), ("spot", .local), ("nearest_whole", .globalImplicit), ("row_less", .globalImplicit), ("range", .globalImplicit)]
noncomputable def o_shorten_row : List Str := ["rows", "changes", "sizes", "lower", "at", "other", "many", "spot"]
noncomputable def p_shorten_row : List Str := ["rows", "changes", "sizes", "lower", "at", "other"]
noncomputable def i_shorten_row (n : Nat) : IS := (.cons (.asg (.loc 6 (nat_lit 49479097176072)) (.call "nearest_whole" 65 (.cons (.sub (.sub (.loc 3 (nat_lit 49484734320670)) (.loc 4 (nat_lit 49486344933409)) (nat_lit 49484734320674)) (.loc 5 (nat_lit 49487418675240)) (nat_lit 49484734320681)) (.cons (.sub (.loc 2 (nat_lit 49489566158896)) (.bin .add (.loc 5 (nat_lit 49491176771638)) (.int 1 (nat_lit 49493324255290)) (nat_lit 49491176771642)) (nat_lit 49489566158907)) .nil)) (nat_lit 49480976224316) (nat_lit 49480976224280)) (nat_lit 49479097176124)) (.cons (.ite (.cmp .eq (.loc 6 (nat_lit 50579414114315)) (.int 0 (nat_lit 50581561597968)) (nat_lit 50579414114320)) (.cons (.rtn (nat_lit 51679194181646)) .nil) .nil (nat_lit 50578608812046)) (.cons (.asg (.sub (.loc 0 (nat_lit 52777632071688)) (.loc 4 (nat_lit 52778974248971)) (nat_lit 52777632071692)) (.call "row_less" 58 (.cons (.sub (.loc 0 (nat_lit 52783000780828)) (.loc 4 (nat_lit 52784342958111)) (nat_lit 52783000780832)) (.cons (.sub (.loc 0 (nat_lit 52785685135398)) (.loc 5 (nat_lit 52787027312684)) (nat_lit 52785685135405)) (.cons (.loc 6 (nat_lit 52789174796339)) .nil))) (nat_lit 52780584861748) (nat_lit 52780584861719)) (nat_lit 52777632071732)) (.cons (.asg (.sub (.loc 1 (nat_lit 53877143703563)) (.loc 4 (nat_lit 53879291187214)) (nat_lit 53877143703567)) (.call "row_less" 58 (.cons (.sub (.loc 1 (nat_lit 53883317719074)) (.loc 4 (nat_lit 53885465202725)) (nat_lit 53883317719078)) (.cons (.sub (.loc 1 (nat_lit 53886807380015)) (.loc 5 (nat_lit 53888954863669)) (nat_lit 53886807380022)) (.cons (.loc 6 (nat_lit 53891102347324)) .nil))) (nat_lit 53880901799997) (nat_lit 53880901799962)) (nat_lit 53877143703613)) (.cons (.auS .sub (.sub (.loc 3 (nat_lit 54976655335433)) (.loc 4 (nat_lit 54978265948172)) (nat_lit 54976655335437)) 5 (.bin .mul (.loc 6 (nat_lit 54982024044572)) (.sub (.loc 2 (nat_lit 54983903092772)) (.bin .add (.loc 5 (nat_lit 54985513705514)) (.int 1 (nat_lit 54987661189166)) (nat_lit 54985513705518)) (nat_lit 54983903092783)) (nat_lit 54982024044591)) (nat_lit 54979339690003) (nat_lit 54976655335444) (nat_lit 54976655335471)) (.cons (.fR 7 (.cons (.loc 5 (nat_lit 56080998805531)) .nil) (.cons (.auS .sub (.sub (.loc 3 (nat_lit 57176752341005)) (.loc 4 (nat_lit 57178362953744)) (nat_lit 57176752341009)) 7 (.bin .mul (.loc 6 (nat_lit 57181852614687)) (.sub (.sub (.loc 3 (nat_lit 57183731662887)) (.loc 5 (nat_lit 57185342275629)) (nat_lit 57183731662894)) (.loc 7 (nat_lit 57187221323827)) (nat_lit 57183731662900)) (nat_lit 57181852614708)) (nat_lit 57179436695574) (nat_lit 57176752341015) (nat_lit 57176752341044)) .nil) (nat_lit 56077240709132) (nat_lit 56079388192789) (nat_lit 56079388192796) (nat_lit 56076166971444)) .nil))))))
theorem d_shorten_row (n : Nat) : Def 86 p_shorten_row k_shorten_row (rdS (i_shorten_row n) (SE.of k_shorten_row o_shorten_row n)).l := ⟨fun w => ⟨⟨_, _, _, _, _, _, _, _, _, _, _, _, _, _⟩, by k_is, by k_is, fun vs h => by obtain ⟨a, b, c, d, e, f, rfl⟩ := len6 h; rfl⟩⟩

noncomputable def k_exchange_rows : List (Str × NameKind) := [("rows", .local), ("changes", .local), ("sizes", .local), ("lower", .local), ("at", .local), ("number", .local), ("size", .local), ("later", .local), ("told", .local), ("range", .globalImplicit), ("len", .globalImplicit)]
noncomputable def o_exchange_rows : List Str := ["rows", "changes", "sizes", "lower", "at", "number", "size", "later", "told"]
noncomputable def p_exchange_rows : List Str := ["rows", "changes", "sizes", "lower", "at"]
noncomputable def i_exchange_rows (n : Nat) : IS := (.cons (.asX (.loc 0 (nat_lit 59374701862920)) (.bin .sub (.loc 4 (nat_lit 59376044040203)) (.int 1 (nat_lit 59377386217487)) (nat_lit 59376044040207)) (.loc 0 (nat_lit 59378459959318)) (.loc 4 (nat_lit 59379802136601)) (.cons (.sub (.loc 0 (nat_lit 59381681184802)) (.loc 4 (nat_lit 59383023362085)) (nat_lit 59381681184806)) (.cons (.sub (.loc 0 (nat_lit 59384365539372)) (.bin .sub (.loc 4 (nat_lit 59385707716655)) (.int 1 (nat_lit 59387049893939)) (nat_lit 59385707716659)) (nat_lit 59384365539380)) .nil)) (nat_lit 59374701862928) (nat_lit 59378459959322) (nat_lit 59381412749365) (nat_lit 59374701862938) (nat_lit 59374701862965)) (.cons (.asX (.loc 1 (nat_lit 60474213494795)) (.bin .sub (.loc 4 (nat_lit 60476360978446)) (.int 1 (nat_lit 60477703155730)) (nat_lit 60476360978450)) (.loc 1 (nat_lit 60478776897564)) (.loc 4 (nat_lit 60480924381215)) (.cons (.sub (.loc 1 (nat_lit 60482803429419)) (.loc 4 (nat_lit 60484950913070)) (nat_lit 60482803429423)) (.cons (.sub (.loc 1 (nat_lit 60486293090360)) (.bin .sub (.loc 4 (nat_lit 60488440574011)) (.int 1 (nat_lit 60489782751295)) (nat_lit 60488440574015)) (nat_lit 60486293090368)) .nil)) (nat_lit 60474213494803) (nat_lit 60478776897568) (nat_lit 60482534993985) (nat_lit 60474213494816) (nat_lit 60474213494849)) (.cons (.asg (.loc 5 (nat_lit 61573725126666)) (.sub (.sub (.loc 3 (nat_lit 61576141045778)) (.loc 4 (nat_lit 61577751658517)) (nat_lit 61576141045782)) (.bin .sub (.loc 4 (nat_lit 61578825400345)) (.int 1 (nat_lit 61580167577629)) (nat_lit 61578825400349)) (nat_lit 61576141045790)) (nat_lit 61573725126686)) (.cons (.asX (.loc 3 (nat_lit 62673236758537)) (.bin .sub (.loc 4 (nat_lit 62674847371276)) (.int 1 (nat_lit 62676189548560)) (nat_lit 62674847371280)) (.loc 3 (nat_lit 62677263290392)) (.loc 4 (nat_lit 62678873903131)) (.cons (.slc (.sub (.loc 3 (nat_lit 62680752951333)) (.loc 4 (nat_lit 62682363564072)) (nat_lit 62680752951337)) (.bin .sub (.loc 4 (nat_lit 62683705741357)) (.int 1 (nat_lit 62685047918641)) (nat_lit 62683705741361)) (nat_lit 62680752951346) (nat_lit 62683437305905)) (.cons (.bin .add (.sub (.loc 3 (nat_lit 62686121660473)) (.bin .sub (.loc 4 (nat_lit 62687732273212)) (.int 1 (nat_lit 62689074450496)) (nat_lit 62687732273216)) (nat_lit 62686121660481)) (.lst (.cons (.loc 5 (nat_lit 62690685063243)) .nil) (nat_lit 62690416627788)) (nat_lit 62686121660492)) .nil)) (nat_lit 62673236758545) (nat_lit 62677263290396) (nat_lit 62680484515917) (nat_lit 62673236758556) (nat_lit 62673236758605)) (.cons (.asg (.loc 6 (nat_lit 63772748390408)) (.bin .div (.bin .add (.bin .mul (.sub (.loc 2 (nat_lit 63774895874065)) (.bin .sub (.loc 4 (nat_lit 63776506486804)) (.int 1 (nat_lit 63777848664088)) (nat_lit 63776506486808)) (nat_lit 63774895874073)) (.sub (.loc 2 (nat_lit 63779190841377)) (.bin .add (.loc 4 (nat_lit 63780801454116)) (.int 1 (nat_lit 63782143631400)) (nat_lit 63780801454120)) (nat_lit 63779190841385)) (nat_lit 63774895874089)) (.bin .mul (.loc 5 (nat_lit 63783485808690)) (.loc 5 (nat_lit 63785901727803)) (nat_lit 63783485808699)) (nat_lit 63774895874107)) (.sub (.loc 2 (nat_lit 63788854517829)) (.loc 4 (nat_lit 63790465130568)) (nat_lit 63788854517833)) (nat_lit 63774627438665)) (nat_lit 63772748390473)) (.cons (.fR 7 (.cons (.bin .add (.loc 4 (nat_lit 64877360295961)) (.int 1 (nat_lit 64878702473245)) (nat_lit 64877360295965)) (.cons (.bfn .len (.loc 0 (nat_lit 64880581521447)) (nat_lit 64879507779624) (nat_lit 64879507779618)) .nil)) (.cons (.asg (.loc 8 (nat_lit 65972845395980)) (.sub (.sub (.loc 3 (nat_lit 65974724444180)) (.loc 7 (nat_lit 65976335056922)) (nat_lit 65974724444187)) (.loc 4 (nat_lit 65978214105118)) (nat_lit 65974724444191)) (nat_lit 65972845395999)) (.cons (.asg (.sub (.sub (.loc 3 (nat_lit 67072357027853)) (.loc 7 (nat_lit 67073967640595)) (nat_lit 67072357027860)) (.loc 4 (nat_lit 67075846688791)) (nat_lit 67072357027864)) (.bin .div (.bin .sub (.bin .mul (.sub (.loc 2 (nat_lit 67077725736993)) (.bin .add (.loc 4 (nat_lit 67079336349732)) (.int 1 (nat_lit 67080678527016)) (nat_lit 67079336349736)) (nat_lit 67077725737001)) (.sub (.sub (.loc 3 (nat_lit 67082020704305)) (.loc 7 (nat_lit 67083631317047)) (nat_lit 67082020704312)) (.bin .sub (.loc 4 (nat_lit 67085510365243)) (.int 1 (nat_lit 67086852542527)) (nat_lit 67085510365247)) (nat_lit 67082020704320)) (nat_lit 67077725737024)) (.bin .mul (.loc 5 (nat_lit 67088194719817)) (.loc 8 (nat_lit 67090610638928)) (nat_lit 67088194719824)) (nat_lit 67077725737040)) (.sub (.loc 2 (nat_lit 67093026558042)) (.loc 4 (nat_lit 67094637170781)) (nat_lit 67093026558046)) (nat_lit 67077457301598)) (nat_lit 67072357027934)) (.cons (.asg (.sub (.sub (.loc 3 (nat_lit 68171868659725)) (.loc 7 (nat_lit 68173479272467)) (nat_lit 68171868659732)) (.bin .sub (.loc 4 (nat_lit 68175358320663)) (.int 1 (nat_lit 68176700497947)) (nat_lit 68175358320667)) (nat_lit 68171868659740)) (.bin .div (.bin .add (.bin .mul (.loc 6 (nat_lit 68178311110692)) (.loc 8 (nat_lit 68180190158891)) (nat_lit 68178311110699)) (.bin .mul (.loc 5 (nat_lit 68182069207092)) (.sub (.sub (.loc 3 (nat_lit 68184485126204)) (.loc 7 (nat_lit 68186095738946)) (nat_lit 68184485126211)) (.loc 4 (nat_lit 68187974787142)) (nat_lit 68184485126215)) (nat_lit 68182069207111)) (nat_lit 68178311110727)) (.sub (.loc 2 (nat_lit 68190122270801)) (.bin .add (.loc 4 (nat_lit 68191732883540)) (.int 1 (nat_lit 68193075060824)) (nat_lit 68191732883544)) (nat_lit 68190122270809)) (nat_lit 68178042675289)) (nat_lit 68171868659801)) .nil))) (nat_lit 64873333764109) (nat_lit 64875749683222) (nat_lit 64875749683241) (nat_lit 64872260034649)) (.cons (.asg (.sub (.loc 2 (nat_lit 69270306549769)) (.loc 4 (nat_lit 69271917162508)) (nat_lit 69270306549773)) (.loc 6 (nat_lit 69273527775252)) (nat_lit 69270306549780)) .nil)))))))
theorem d_exchange_rows (n : Nat) : Def 93 p_exchange_rows k_exchange_rows (rdS (i_exchange_rows n) (SE.of k_exchange_rows o_exchange_rows n)).l := ⟨fun w => ⟨⟨_, _, _, _, _, _, _, _, _, _, _, _, _, _⟩, by k_is, by k_is, fun vs h => by obtain ⟨a, b, c, d, e, rfl⟩ := len5 h; rfl⟩⟩

noncomputable def k_gram_numbers : List (Str × NameKind) := [("rows", .local), ("sizes", .local), ("lower", .local), ("at", .local), ("row", .local), ("numbers", .local), ("other", .local), ("number", .local), ("spot", .local), ("below", .local), ("enumerate", .globalImplicit), ("range", .globalImplicit), ("row_dot", .globalImplicit), ("CasFail", .globalImplicit)]
noncomputable def o_gram_numbers : List Str := ["rows", "sizes", "lower", "at", "row", "numbers", "other", "number", "spot", "below"]
noncomputable def p_gram_numbers : List Str := ["rows"]
noncomputable def i_gram_numbers (n : Nat) : IS := (.cons (.asS 1 2 (.lst (.cons (.int 1 (nat_lit 29692451205142)) .nil) (nat_lit 29692182769687)) (.lst .nil (nat_lit 29693524946971)) (nat_lit 29687887802377) (nat_lit 29689766850576) (nat_lit 29687887802384) (nat_lit 29691914334236) (nat_lit 29687887802396)) (.cons (.fE (.loc 3 (nat_lit 30788473176074)) (.loc 4 (nat_lit 30789546917903)) (.loc 0 (nat_lit 30794110320673)) (.cons (.asg (.loc 5 (nat_lit 31887984807951)) (.lst .nil (nat_lit 31890669162516)) (nat_lit 31887984807956)) (.cons (.fR 6 (.cons (.bin .add (.loc 3 (nat_lit 32992596713501)) (.int 1 (nat_lit 32993938890785)) (nat_lit 32992596713505)) .nil) (.cons (.asg (.loc 7 (nat_lit 34088081813522)) (.call "row_dot" 53 (.cons (.loc 4 (nat_lit 34092645216288)) (.cons (.sub (.loc 0 (nat_lit 34093987393574)) (.loc 6 (nat_lit 34095329570860)) (nat_lit 34093987393581)) .nil)) (nat_lit 34090497732654) (nat_lit 34090497732636)) (nat_lit 34088081813550)) (.cons (.fR 8 (.cons (.loc 6 (nat_lit 35192425283619)) .nil) (.cons (.asg (.loc 9 (nat_lit 36288178819093)) (.ife .lt (.loc 6 (nat_lit 36296231882803)) (.loc 3 (nat_lit 36298379366456)) (.sub (.sub (.loc 2 (nat_lit 36290326302749)) (.loc 6 (nat_lit 36291936915491)) (nat_lit 36290326302756)) (.loc 8 (nat_lit 36293815963689)) (nat_lit 36290326302762)) (.sub (.loc 5 (nat_lit 36300526850117)) (.loc 8 (nat_lit 36302674333770)) (nat_lit 36300526850123)) (nat_lit 36290326302795) (nat_lit 36296231882808)) (nat_lit 36288178819147)) (.cons (.asg (.loc 7 (nat_lit 37387690450966)) (.bin .div (.bin .sub (.bin .mul (.sub (.loc 1 (nat_lit 37390374805535)) (.bin .add (.loc 8 (nat_lit 37391985418276)) (.int 1 (nat_lit 37393864466472)) (nat_lit 37391985418280)) (nat_lit 37390374805545)) (.loc 7 (nat_lit 37395206643762)) (nat_lit 37390374805554)) (.bin .mul (.sub (.loc 5 (nat_lit 37397622562876)) (.loc 8 (nat_lit 37399770046529)) (nat_lit 37397622562882)) (.loc 9 (nat_lit 37401917530186)) (nat_lit 37397622562890)) (nat_lit 37390374805578)) (.sub (.loc 1 (nat_lit 37404601884756)) (.loc 8 (nat_lit 37406212497497)) (nat_lit 37404601884762)) (nat_lit 37390106370138)) (nat_lit 37387690451034)) .nil)) (nat_lit 35188667187220) (nat_lit 35190814670877) (nat_lit 35190814670884) (nat_lit 35187593453658)) (.cons (.exp (.app (.loc 5 (nat_lit 38486128341011)) (.loc 7 (nat_lit 38490154872865)) (nat_lit 38486128341026) (nat_lit 38486128341018)) (nat_lit 38486128341026)) .nil))) (nat_lit 32988570181649) (nat_lit 32990986100762) (nat_lit 32990986100770) (nat_lit 32987496460322)) (.cons (.ite (.cmp .eq (.sub (.loc 5 (nat_lit 39585371537426)) (.loc 3 (nat_lit 39587519021077)) (nat_lit 39585371537430)) (.int 0 (nat_lit 39589398069275)) (nat_lit 39585371537435)) (.cons (.rse (.Raise (some (.Call (.Name "CasFail" (dpos (nat_lit 40686762217497))) [(.Constant (.str "domain") 0 (dpos (nat_lit 40688909701154))), (.Constant (.str "rows of a lattice that hang on one another") 0 (dpos (nat_lit 40691594055760)))] [] (dpos (nat_lit 40686762217553)))) none (dpos (nat_lit 40685151604817)))) .nil) .nil (nat_lit 39584566235217)) (.cons (.exp (.app (.loc 1 (nat_lit 41783589494797)) (.sub (.loc 5 (nat_lit 41787079155740)) (.loc 3 (nat_lit 41789226639391)) (nat_lit 41787079155744)) (nat_lit 41783589494817) (nat_lit 41783589494804)) (nat_lit 41783589494817)) (.cons (.exp (.app (.loc 2 (nat_lit 42883101126669)) (.slc (.loc 5 (nat_lit 42886590787612)) (.loc 3 (nat_lit 42889006706720)) (nat_lit 42886590787617) (nat_lit 42888738271264)) (nat_lit 42883101126690) (nat_lit 42883101126676)) (nat_lit 42883101126690)) .nil))))) (nat_lit 30788473176079) (nat_lit 30791425966108) (nat_lit 30791425966114) (nat_lit 30787399479330)) (.cons (.ret (.tup (.cons (.loc 1 (nat_lit 43983686500369)) (.cons (.loc 2 (nat_lit 43985565548568)) .nil)) (nat_lit 43983418064921)) (nat_lit 43981539016729)) .nil)))
theorem d_gram_numbers (n : Nat) : Def 72 p_gram_numbers k_gram_numbers (rdS (i_gram_numbers n) (SE.of k_gram_numbers o_gram_numbers n)).l := ⟨fun w => ⟨⟨_, _, _, _, _, _, _, _, _, _, _, _, _, _⟩, by k_is, by k_is, fun vs h => by obtain ⟨a, rfl⟩ := len1 h; rfl⟩⟩

open PySem.Builtin.Int (intBits)
/-- small enough for the model's arithmetic -/
noncomputable def Bt (x : Int) : Prop := Le x 8000
theorem Le.bt {x : Int} {k : Nat} (h : Le x k) (hk : Nat.ble k 8000 = true := by rfl) : Bt x := h.mono (Nat.le_of_ble_eq_true hk)
theorem bits_of {x : Int} {k n : Nat} (h : Le x k) (hk : k < n) : intBits x ≤ n := by
  unfold intBits
  by_cases h0 : x = 0
  · subst h0; simp
  · rw [if_neg (by simpa using h0)]
    have h1 : x.natAbs < 2 ^ n := Nat.lt_of_le_of_lt (Le.abs.mp h) (Nat.pow_lt_pow_right (by decide) hk)
    have := (Nat.log2_lt (by omega : x.natAbs ≠ 0)).mpr h1
    omega
theorem mok {a b : Int} (ha : Bt a) (hb : Bt b) : IntMulOk a b := PyProof.Rows.mulOk_of_bits (bits_of ha (Nat.lt_succ_self _)) (bits_of hb (Nat.lt_succ_self _)) (by decide)
theorem dok {a b : Int} (hb : Bt b) : PySem.Builtin.divisionGoesByPylong a b = false := fdiv_ok (bits_of hb (Nat.lt_succ_self _)) (by decide)
theorem VMul.of {a b : Int} {P : Int → Prop} (ha : Bt a) (hb : Bt b) (k : P (a * b)) : VMul a b P := .mk _ (mok ha hb) rfl k
theorem VDiv.of {a b q : Int} {P : Int → Prop} (hz : b ≠ 0) (hb : Bt b) (e : a.fdiv b = q) (k : P q) : VDiv a b P := .mk _ hz (dok hb) e.symm k
theorem s_row_dot (w : Scr) (d : Nat) {x0 x1 x2 x3 y0 y1 y2 y3 v : Int} (h0 : Bt x0) (h1 : Bt x1) (h2 : Bt x2) (h3 : Bt x3) (g0 : Bt y0) (g1 : Bt y1) (g2 : Bt y2) (g3 : Bt y3) (hv : x0 * y0 + x1 * y1 + x2 * y2 + x3 * y3 = v) :
    SSpec w 53 d [.lst [.int x0, .int x1, .int x2, .int x3], .lst [.int y0, .int y1, .int y2, .int y3]] [.ref 0, .ref 1] fun R => R (.int v) [.lst [.int x0, .int x1, .int x2, .int x3], .lst [.int y0, .int y1, .int y2, .int y3]] := by
  refine enter (n := 2) (np := 3) d_row_dot rfl (by decide +kernel) rfl fun R hR => ?_
  have e : v = x0 * y0 + (x1 * y1 + (x2 * y2 + (x3 * y3 + 0))) := by omega
  exact VEnum.mk [x0 * y0, x1 * y1, x2 * y2, x3 * y3] ⟨.of h0 g0 rfl, .of h1 g1 rfl, .of h2 g2 rfl, .of h3 g3 rfl, trivial⟩ (VRet.mk [0, 1] (.int _) _ rfl rfl rfl rfl (e ▸ hR))
theorem gcdA (a b : Int) : 0 ≤ (if a < 0 then -a else a) ∧ 0 ≤ (if b < 0 then -b else b) ∧ Int.gcd (if a < 0 then -a else a) (if b < 0 then -b else b) = Int.gcd a b := by
  refine ⟨by split <;> omega, by split <;> omega, ?_⟩
  split <;> split <;> simp [Int.gcd_neg, Int.neg_gcd]
theorem gcdB {a b x y : Int} (hx : 0 ≤ x) (hy : 0 ≤ y) (h : Int.gcd x y = Int.gcd a b) (hn : ¬ y = 0) : 0 ≤ y ∧ 0 ≤ x.fmod y ∧ Int.gcd y (x.fmod y) = Int.gcd a b := by
  refine ⟨hy, Int.fmod_nonneg hx hy, ?_⟩
  rw [← h, Int.fmod_eq_emod_of_nonneg _ hy, Int.gcd_comm x y]
  obtain ⟨m, rfl⟩ := Int.eq_ofNat_of_zero_le hx
  obtain ⟨n, rfl⟩ := Int.eq_ofNat_of_zero_le hy
  rw [← Int.natCast_emod]
  simp only [Int.gcd_natCast_natCast]
  rw [Nat.gcd_comm n (m % n), Nat.gcd_rec n m]
theorem gcdC {x y : Int} (hy : 0 ≤ y) (hn : ¬ y = 0) : (x.fmod y).toNat < y.toNat := by
  have := Int.fmod_lt_of_pos x (by omega : 0 < y)
  omega
theorem gcdD {a b x y : Int} (hx : 0 ≤ x) (hy : y = 0) (h : Int.gcd x y = Int.gcd a b) : (Int.gcd a b : Int) = x := by
  subst hy; rw [← h]; simp; omega
theorem s_gcd (w : Scr) (d : Nat) (a b : Int) : SSpec w 41 d [] [.int a, .int b] fun R => R (.int (Int.gcd a b : Int)) [] := by
  refine enter (n := 0) (np := 0) d_gcd rfl (by decide +kernel) rfl fun R hR => ?_
  obtain ⟨h1, h2, h3⟩ := gcdA a b
  refine VWhile.mk (fun n s => ∃ x y, s = ⟨[some (.int x), some (.int y)], [], []⟩ ∧ 0 ≤ x ∧ 0 ≤ y ∧ Int.gcd x y = Int.gcd a b ∧ n = y.toNat) _ _ rfl ⟨_, _, rfl, h1, h2, h3, rfl⟩ (RenTo.mk [] rfl rfl ⟨rfl, rfl, trivial⟩ rfl rfl) ?_
  rintro n s ⟨x, y, rfl, hx, hy, hg, rfl⟩
  refine VIf.mk (fun e => ?_) fun e => ?_
  · have hn : ¬ y = 0 := by simpa using e
    obtain ⟨k1, k2, k3⟩ := gcdB hx hy hg hn
    exact VMod.mk _ hn rfl (VNext.mk _ ⟨[some (.int _), some (.int _)], [], []⟩ (gcdC hy hn) (RenTo.mk [] rfl rfl ⟨rfl, rfl, trivial⟩ rfl rfl) ⟨_, _, rfl, k1, k2, k3, rfl⟩)
  · have hn : y = 0 := by simpa using e
    exact VRet.mk [] (.int _) [] rfl rfl rfl rfl (gcdD hx hn hg ▸ hR)
theorem s_row_dotS (w : Scr) (d : Nat) {x0 x1 x2 x3 v : Int} (h0 : Bt x0) (h1 : Bt x1) (h2 : Bt x2) (h3 : Bt x3) (hv : x0 * x0 + x1 * x1 + x2 * x2 + x3 * x3 = v) :
    SSpec w 53 d [.lst [.int x0, .int x1, .int x2, .int x3]] [.ref 0, .ref 0] fun R => R (.int v) [.lst [.int x0, .int x1, .int x2, .int x3]] := by
  refine enter (n := 1) (np := 2) d_row_dot rfl (by decide +kernel) rfl fun R hR => ?_
  have e : v = x0 * x0 + (x1 * x1 + (x2 * x2 + (x3 * x3 + 0))) := by omega
  exact VEnum.mk [x0 * x0, x1 * x1, x2 * x2, x3 * x3] ⟨.of h0 h0 rfl, .of h1 h1 rfl, .of h2 h2 rfl, .of h3 h3 rfl, trivial⟩ (VRet.mk [0] (.int _) _ rfl rfl rfl rfl (e ▸ hR))
theorem s_row_less4 (w : Scr) (d : Nat) {k x0 x1 x2 x3 y0 y1 y2 y3 : Int} (hk : Bt k) (g0 : Bt y0) (g1 : Bt y1) (g2 : Bt y2) (g3 : Bt y3) :
    SSpec w 58 d [.lst [.int x0, .int x1, .int x2, .int x3], .lst [.int y0, .int y1, .int y2, .int y3]] [.ref 0, .ref 1, .int k] fun R => R (.ref 2) [.lst [.int x0, .int x1, .int x2, .int x3], .lst [.int y0, .int y1, .int y2, .int y3], .lst [.int (x0 - k * y0), .int (x1 - k * y1), .int (x2 - k * y2), .int (x3 - k * y3)]] := by
  refine enter (n := 2) (np := 4) d_row_less rfl (by decide +kernel) rfl fun R hR => ?_
  exact VEnum.mk [x0 - k * y0, x1 - k * y1, x2 - k * y2, x3 - k * y3] ⟨.of hk g0 rfl, .of hk g1 rfl, .of hk g2 rfl, .of hk g3 rfl, trivial⟩ (VRet.mk [0, 1, 4] (.ref 2) _ rfl rfl rfl rfl hR)
theorem s_row_less3 (w : Scr) (d : Nat) {k x0 x1 x2 y0 y1 y2 : Int} (hk : Bt k) (g0 : Bt y0) (g1 : Bt y1) (g2 : Bt y2) :
    SSpec w 58 d [.lst [.int x0, .int x1, .int x2], .lst [.int y0, .int y1, .int y2]] [.ref 0, .ref 1, .int k] fun R => R (.ref 2) [.lst [.int x0, .int x1, .int x2], .lst [.int y0, .int y1, .int y2], .lst [.int (x0 - k * y0), .int (x1 - k * y1), .int (x2 - k * y2)]] := by
  refine enter (n := 2) (np := 4) d_row_less rfl (by decide +kernel) rfl fun R hR => ?_
  exact VEnum.mk [x0 - k * y0, x1 - k * y1, x2 - k * y2] ⟨.of hk g0 rfl, .of hk g1 rfl, .of hk g2 rfl, trivial⟩ (VRet.mk [0, 1, 4] (.ref 2) _ rfl rfl rfl rfl hR)
theorem s_nearest_whole (w : Scr) (d : Nat) {a b : Int} (hb : b ≠ 0) (h : Bt (2 * b)) : SSpec w 65 d [] [.int a, .int b] fun R => R (.int (near a b)) [] := by
  refine enter (n := 0) (np := 0) d_nearest_whole rfl (by decide +kernel) rfl fun R hR => ?_
  exact VMul.mk _ (.of_left (by decide)) rfl (VMul.mk _ (.of_left (by decide)) rfl (VDiv.of (by omega) h rfl (VRet.mk [] (.int _) _ rfl rfl rfl rfl hR)))
theorem s_gcd_all (w : Scr) (d : Nat) (hd : 1 ≤ d) {a b c v : Int} (hv : (Int.gcd (Int.gcd (Int.gcd 0 a : Int) b : Int) c : Int) = v) : SSpec w 48 d [.lst [.int a, .int b, .int c]] [.ref 0] fun R => R (.int v) [.lst [.int a, .int b, .int c]] := by
  subst hv
  refine enter (n := 1) (np := 1) d_gcd_all rfl (by decide +kernel) rfl fun R hR => ?_
  refine VCall.mk 0 [] (s_gcd w 0 _ _) hd rfl rfl rfl ?_
  refine VCall.mk 0 [] (s_gcd w 0 _ _) hd rfl rfl rfl ?_
  refine VCall.mk 0 [] (s_gcd w 0 _ _) hd rfl rfl rfl ?_
  exact VRet.mk [0] _ _ rfl rfl rfl rfl hR
/-- the objects of the reduction, numbered -/
noncomputable def rA (n : Nm) : SO := .lst [.int n.a0, .int n.a1, .int n.a2, .int n.x]
noncomputable def rB (n : Nm) : SO := .lst [.int n.b0, .int n.b1, .int n.b2, .int n.y]
noncomputable def rC (n : Nm) : SO := .lst [.int n.c0, .int n.c1, .int n.c2, .int n.z]
noncomputable def cA (n : Nm) : SO := .lst [.int n.a0, .int n.a1, .int n.a2]
noncomputable def cB (n : Nm) : SO := .lst [.int n.b0, .int n.b1, .int n.b2]
noncomputable def cC (n : Nm) : SO := .lst [.int n.c0, .int n.c1, .int n.c2]
noncomputable def zZ (n : Nm) : SO := .lst [.int 1, .int n.d1, .int n.d2, .int n.d3]
noncomputable def lP (n : Nm) : SO := .lst [.int n.p]
noncomputable def lQ (n : Nm) : SO := .lst [.int n.q, .int n.r]
noncomputable def l3 (i j k : Nat) : SO := .lst [.ref i, .ref j, .ref k]
noncomputable def Lz (n : Nm) : List SO := [l3 1 2 3, rA n, rB n, rC n, l3 5 6 7, cA n, cB n, cC n, zZ n, l3 10 11 12, .lst [], lP n, lQ n]
theorem le1 : Le 1 0 := ⟨by decide, by decide⟩
theorem le2 : Le 2 1 := ⟨by decide, by decide⟩
theorem le3 : Le 3 2 := ⟨by decide, by decide⟩
theorem le4 : Le 4 2 := ⟨by decide, by decide⟩
theorem s_is_exchanged1 (w : Scr) (d : Nat) {n : Nm} (S : Sm n) : SSpec w 79 d [zZ n, l3 2 3 4, .lst [], lP n, lQ n] [.ref 0, .ref 1, .int 1, .int 3, .int 4] fun R => R (.bool (decide (4 * (n.d2 * 1 + n.p * n.p) < 3 * n.d1 * n.d1))) [zZ n, l3 2 3 4, .lst [], lP n, lQ n] := by
  refine enter (n := 5) (np := 5) d_is_exchanged rfl (by decide +kernel) rfl fun R hR => ?_
  exact .of S.d2.bt le1.bt (.of S.p.bt S.p.bt (.of le4.bt ((S.d2.mul le1 (Nat.le_refl _)).add (S.p.mul S.p (Nat.le_refl _)) (k := 4001) (by decide) (by decide)).bt (.of le3.bt S.d1.bt (.of (le3.mul S.d1 (Nat.le_refl _)).bt S.d1.bt (VRet.mk [0, 1, 2, 3, 4] _ _ rfl rfl rfl rfl hR)))))
theorem s_is_exchanged2 (w : Scr) (d : Nat) {n : Nm} (S : Sm n) : SSpec w 79 d [zZ n, l3 2 3 4, .lst [], lP n, lQ n] [.ref 0, .ref 1, .int 2, .int 3, .int 4] fun R => R (.bool (decide (4 * (n.d3 * n.d1 + n.r * n.r) < 3 * n.d2 * n.d2))) [zZ n, l3 2 3 4, .lst [], lP n, lQ n] := by
  refine enter (n := 5) (np := 5) d_is_exchanged rfl (by decide +kernel) rfl fun R hR => ?_
  exact .of S.d3.bt S.d1.bt (.of S.r.bt S.r.bt (.of le4.bt ((S.d3.mul S.d1 (Nat.le_refl _)).add (S.r.mul S.r (Nat.le_refl _)) (k := 4001) (by decide) (by decide)).bt (.of le3.bt S.d2.bt (.of (le3.mul S.d2 (Nat.le_refl _)).bt S.d2.bt (VRet.mk [0, 1, 2, 3, 4] _ _ rfl rfl rfl rfl hR)))))
/-- the reduction of a row: nothing to do, or two new rows -/
noncomputable def shT (pre post : List SO) (k : Int) (R : SV → List SO → Prop) : Prop := (k = 0 → R .none pre) ∧ (k ≠ 0 → R .none post)
theorem beq0 {k : Int} (e : (k == 0) = true) : k = 0 := by simpa using e
theorem bne0 {k : Int} (e : (k == 0) = false) : k ≠ 0 := by simpa using e
theorem s_shorten10 (w : Scr) (d : Nat) (hd : 1 ≤ d) {n : Nm} (S : Sm n) (hp : 0 < n.d1) (hn : Le (near n.p n.d1) 1340) : SSpec w 86 d (Lz n) [.ref 0, .ref 4, .ref 8, .ref 9, .int 1, .int 0]
    (shT (Lz n) [l3 1 13 3, rA n, rB n, rC n, l3 5 14 7, cA n, cB n, cC n, zZ n, l3 10 11 12, .lst [], lP (sh10 (near n.p n.d1) n), lQ n, rB (sh10 (near n.p n.d1) n), cB (sh10 (near n.p n.d1) n)] (near n.p n.d1)) := by
  refine enter (n := 13) (np := 13) d_shorten_row rfl (by decide +kernel) rfl fun R hR => ?_
  refine VCall.mk 0 [] (s_nearest_whole w 0 (by omega) (le2.mul S.d1 (Nat.le_refl _)).bt) hd rfl rfl rfl ?_
  refine VIf.mk (fun e => ?_) fun e => ?_
  · exact VRet.mk [0, 1, 2, 3, 4, 5, 6, 7, 8, 9, 10, 11, 12] .none _ rfl rfl rfl rfl (hR.1 (beq0 e))
  · refine VCall.mk 0 [2, 1] (s_row_less4 w 0 hn.bt S.a.h0.bt S.a.h1.bt S.a.h2.bt S.a.h3.bt) hd rfl rfl rfl ?_
    refine VCall.mk 0 [6, 5] (s_row_less3 w 0 hn.bt S.a.h0.bt S.a.h1.bt S.a.h2.bt) hd rfl rfl rfl ?_
    refine VMul.of hn.bt S.d1.bt ?_
    exact VRet.mk [0, 1, 2, 3, 4, 5, 6, 7, 8, 9, 10, 11, 12, 13, 14] .none _ rfl rfl rfl rfl (hR.2 (bne0 e))
theorem s_shorten21 (w : Scr) (d : Nat) (hd : 1 ≤ d) {n : Nm} (S : Sm n) (hp : 0 < n.d2) (hn : Le (near n.r n.d2) 1340) : SSpec w 86 d (Lz n) [.ref 0, .ref 4, .ref 8, .ref 9, .int 2, .int 1]
    (shT (Lz n) [l3 1 2 13, rA n, rB n, rC n, l3 5 6 14, cA n, cB n, cC n, zZ n, l3 10 11 12, .lst [], lP n, lQ (sh21 (near n.r n.d2) n), rC (sh21 (near n.r n.d2) n), cC (sh21 (near n.r n.d2) n)] (near n.r n.d2)) := by
  refine enter (n := 13) (np := 13) d_shorten_row rfl (by decide +kernel) rfl fun R hR => ?_
  refine VCall.mk 0 [] (s_nearest_whole w 0 (by omega) (le2.mul S.d2 (Nat.le_refl _)).bt) hd rfl rfl rfl ?_
  refine VIf.mk (fun e => ?_) fun e => ?_
  · exact VRet.mk [0, 1, 2, 3, 4, 5, 6, 7, 8, 9, 10, 11, 12] .none _ rfl rfl rfl rfl (hR.1 (beq0 e))
  · refine VCall.mk 0 [3, 2] (s_row_less4 w 0 hn.bt S.b.h0.bt S.b.h1.bt S.b.h2.bt S.b.h3.bt) hd rfl rfl rfl ?_
    refine VCall.mk 0 [7, 6] (s_row_less3 w 0 hn.bt S.b.h0.bt S.b.h1.bt S.b.h2.bt) hd rfl rfl rfl ?_
    refine VMul.of hn.bt S.d2.bt (VMul.of hn.bt S.p.bt ?_)
    exact VRet.mk [0, 1, 2, 3, 4, 5, 6, 7, 8, 9, 10, 11, 12, 13, 14] .none _ rfl rfl rfl rfl (hR.2 (bne0 e))
theorem s_shorten20 (w : Scr) (d : Nat) (hd : 1 ≤ d) {n : Nm} (S : Sm n) (hp : 0 < n.d1) (hn : Le (near n.q n.d1) 1340) : SSpec w 86 d (Lz n) [.ref 0, .ref 4, .ref 8, .ref 9, .int 2, .int 0]
    (shT (Lz n) [l3 1 2 13, rA n, rB n, rC n, l3 5 6 14, cA n, cB n, cC n, zZ n, l3 10 11 12, .lst [], lP n, lQ (sh20 (near n.q n.d1) n), rC (sh20 (near n.q n.d1) n), cC (sh20 (near n.q n.d1) n)] (near n.q n.d1)) := by
  refine enter (n := 13) (np := 13) d_shorten_row rfl (by decide +kernel) rfl fun R hR => ?_
  refine VCall.mk 0 [] (s_nearest_whole w 0 (by omega) (le2.mul S.d1 (Nat.le_refl _)).bt) hd rfl rfl rfl ?_
  refine VIf.mk (fun e => ?_) fun e => ?_
  · exact VRet.mk [0, 1, 2, 3, 4, 5, 6, 7, 8, 9, 10, 11, 12] .none _ rfl rfl rfl rfl (hR.1 (beq0 e))
  · refine VCall.mk 0 [3, 1] (s_row_less4 w 0 hn.bt S.a.h0.bt S.a.h1.bt S.a.h2.bt S.a.h3.bt) hd rfl rfl rfl ?_
    refine VCall.mk 0 [7, 5] (s_row_less3 w 0 hn.bt S.a.h0.bt S.a.h1.bt S.a.h2.bt) hd rfl rfl rfl ?_
    refine VMul.of hn.bt S.d1.bt ?_
    exact VRet.mk [0, 1, 2, 3, 4, 5, 6, 7, 8, 9, 10, 11, 12, 13, 14] .none _ rfl rfl rfl rfl (hR.2 (bne0 e))
theorem s_exchange1 (w : Scr) (d : Nat) {n : Nm} (S : Sm n) (hp : 0 < n.d1) (hp2 : 0 < n.d2) (S' : Sm (ex1 n)) : SSpec w 93 d (Lz n) [.ref 0, .ref 4, .ref 8, .ref 9, .int 1]
    fun R => R .none [l3 2 1 3, rA n, rB n, rC n, l3 6 5 7, cA n, cB n, cC n, zZ (ex1 n), l3 13 14 12, .lst [], lP n, lQ (ex1 n), .lst [], lP n] := by
  refine enter (n := 13) (np := 13) d_exchange_rows rfl (by decide +kernel) rfl fun R hR => ?_
  have h1 : n.d1 ≠ 0 := by omega
  have h2 : n.d2 ≠ 0 := by omega
  refine VMul.of le1.bt S.d2.bt (VMul.of S.p.bt S.p.bt (VDiv.of h1 S.d1.bt rfl ?_))
  refine VMul.of S.d2.bt S.q.bt (VMul.of S.p.bt S.r.bt (VDiv.of h1 S.d1.bt rfl ?_))
  refine VMul.of S'.d1.bt S.r.bt (VMul.of S.p.bt S'.r.bt (VDiv.of h2 S.d2.bt rfl ?_))
  exact VRet.mk [0, 1, 2, 3, 4, 5, 6, 7, 8, 9, 10, 11, 12, 15, 17] .none _ rfl rfl rfl rfl hR
theorem s_exchange2 (w : Scr) (d : Nat) {n : Nm} (S : Sm n) (hp : 0 < n.d1) (hp2 : 0 < n.d2) (S' : Sm (ex2 n)) : SSpec w 93 d (Lz n) [.ref 0, .ref 4, .ref 8, .ref 9, .int 2]
    fun R => R .none [l3 1 3 2, rA n, rB n, rC n, l3 5 7 6, cA n, cB n, cC n, zZ (ex2 n), l3 10 13 14, .lst [], lP n, lQ n, lP (ex2 n), lQ (ex2 n)] := by
  refine enter (n := 13) (np := 13) d_exchange_rows rfl (by decide +kernel) rfl fun R hR => ?_
  have h1 : n.d1 ≠ 0 := by omega
  have h2 : n.d2 ≠ 0 := by omega
  refine VMul.of S.d1.bt S.d3.bt (VMul.of S.r.bt S.r.bt (VDiv.of h2 S.d2.bt rfl ?_))
  exact VRet.mk [0, 1, 2, 3, 4, 5, 6, 7, 8, 9, 10, 11, 12, 15, 17] .none _ rfl rfl rfl rfl hR
end
section
theorem Sm.gs {n : Nm} (S : Sm n) : Le n.g11 4003 ∧ Le n.g21 4003 ∧ Le n.g22 4003 :=
  ⟨dot_le S.b.h0 S.b.h1 S.b.h2 S.b.h3 S.b.h0 S.b.h1 S.b.h2 S.b.h3 (by decide), dot_le S.c.h0 S.c.h1 S.c.h2 S.c.h3 S.b.h0 S.b.h1 S.b.h2 S.b.h3 (by decide), dot_le S.c.h0 S.c.h1 S.c.h2 S.c.h3 S.c.h0 S.c.h1 S.c.h2 S.c.h3 (by decide)⟩
noncomputable def T2 (i j : Nat) : SO := .tup [.ref i, .ref j]
theorem s_gram_numbers (w : Scr) (d : Nat) (hd : 1 ≤ d) {n : Nm} {W n0 n1 n2 : Int} (I : Inv W n0 n1 n2 n) (S : Sm n) : SSpec w 72 d [l3 1 2 3, rA n, rB n, rC n] [.ref 0]
    fun R => R (.ref 4) [l3 1 2 3, rA n, rB n, rC n, T2 5 6, zZ n, l3 7 8 9, .lst [], lP n, lQ n] := by
  refine enter (n := 4) (np := 4) d_gram_numbers rfl (by decide +kernel) rfl fun R hR => ?_
  have a0 := S.a.h0.bt; have a1 := S.a.h1.bt; have a2 := S.a.h2.bt; have a3 := S.a.h3.bt
  have b0 := S.b.h0.bt; have b1 := S.b.h1.bt; have b2 := S.b.h2.bt; have b3 := S.b.h3.bt
  have c0 := S.c.h0.bt; have c1 := S.c.h1.bt; have c2 := S.c.h2.bt; have c3 := S.c.h3.bt
  have z1 : n.d1 ≠ 0 := by have := I.p1; omega
  have z2 : n.d2 ≠ 0 := by have := I.p2; omega
  have z3 : n.d3 ≠ 0 := by have := I.d3_pos; omega
  have q11 : n.d1*n.g11 - n.p*n.p = n.d2 := by have := I.d2; omega
  have q21 : n.d1*n.g21 - n.q*n.p = n.r := by have := I.r; omega
  have q33 : (n.d2*(n.d1*n.g22 - n.q*n.q) - n.r*n.r).fdiv n.d1 = n.d3 := fdiv_of I.p1 (by rw [I.d3])
  have bX := ((S.d1.mul S.gs.2.2 (Nat.le_refl _)).sub (S.q.mul S.q (Nat.le_refl _)) (k := 6100) (by decide) (by decide)).bt
  refine VCall.mk 0 [1] (s_row_dotS w 0 a0 a1 a2 a3 I.d1.symm) hd rfl rfl rfl ?_
  refine VIf.mk (fun e => absurd (beq0 e) z1) fun _ => ?_
  refine VCall.mk 0 [2, 1] (s_row_dot w 0 b0 b1 b2 b3 a0 a1 a2 a3 I.p.symm) hd rfl rfl rfl ?_
  refine VCall.mk 0 [2] (s_row_dotS w 0 b0 b1 b2 b3 rfl) hd rfl rfl rfl ?_
  refine VMul.of S.d1.bt S.gs.1.bt (VMul.of S.p.bt S.p.bt (VDiv.of (q := n.d2) (by decide) le1.bt (by rw [Int.fdiv_one]; exact q11) ?_))
  refine VIf.mk (fun e => absurd (beq0 e) z2) fun _ => ?_
  refine VCall.mk 0 [3, 1] (s_row_dot w 0 c0 c1 c2 c3 a0 a1 a2 a3 I.q.symm) hd rfl rfl rfl ?_
  refine VCall.mk 0 [3, 2] (s_row_dot w 0 c0 c1 c2 c3 b0 b1 b2 b3 rfl) hd rfl rfl rfl ?_
  refine VMul.of S.d1.bt S.gs.2.1.bt (VMul.of S.q.bt S.p.bt (VDiv.of (q := n.r) (by decide) le1.bt (by rw [Int.fdiv_one]; exact q21) ?_))
  refine VCall.mk 0 [3] (s_row_dotS w 0 c0 c1 c2 c3 rfl) hd rfl rfl rfl ?_
  refine VMul.of S.d1.bt S.gs.2.2.bt (VMul.of S.q.bt S.q.bt (VDiv.of (by decide) le1.bt (Int.fdiv_one _) ?_))
  refine VMul.of S.d2.bt bX (VMul.of S.r.bt S.r.bt (VDiv.of (q := n.d3) z1 S.d1.bt q33 ?_))
  refine VIf.mk (fun e => absurd (beq0 e) z3) fun _ => ?_
  exact VRet.mk [0, 1, 2, 3, 13, 4, 5, 8, 10, 12] (.ref 4) _ rfl rfl rfl rfl hR
end
section
noncomputable def k_lll : List (Str × NameKind) := [("rows", .local), ("top", .local), ("bottom", .local), ("many", .cell), ("found", .local), ("at", .local), ("other", .local), ("changes", .local), ("sizes", .local), ("lower", .local), ("len", .globalImplicit), ("range", .globalImplicit), ("gram_numbers", .globalImplicit), ("shorten_row", .globalImplicit), ("is_exchanged", .globalImplicit), ("exchange_rows", .globalImplicit), ("max", .globalImplicit)]
noncomputable def o_lll : List Str := ["rows", "top", "bottom", "found", "at", "other", "changes", "sizes", "lower"]
noncomputable def p_lll : List Str := ["rows", "top", "bottom"]
noncomputable def i_lll (n : Nat) : IS := (.cons (.asg (.cel 0 (n + 0) (nat_lit 71469329813512)) (.bfn .len (.loc 0 (nat_lit 71472282603539)) (nat_lit 71471208861716) (nat_lit 71471208861710)) (nat_lit 71469329813524)) (.cons (.asC 3 (.bfn .list (.loc 0 (nat_lit 72572599541781)) (nat_lit 72571257364502) (nat_lit 72571257364497)) (.loc 0 (nat_lit 72576894509094)) "row" [(".0", .local), ("row", .local), ("list", .globalImplicit)] (nat_lit 72570988929063) (nat_lit 72575015460894) (nat_lit 72568841445385) (nat_lit 72568841445415)) (.cons (.asE 6 (.cR (.ife .eq (.kel 0 (nat_lit 73672916480023)) (.loc 0 (nat_lit 73674527092768)) (.int 1 (nat_lit 73671574302737)) (.int 0 (nat_lit 73677479882791)) (nat_lit 73671574302759) (nat_lit 73672916480032)) (.cel 0 (n + 0) (nat_lit 73683117027391)) "other" [(".0", .local), ("other", .local), ("at", .free)] (nat_lit 73671305867329) (nat_lit 73679090495537) (nat_lit 73681506414650) (nat_lit 73681506414656)) (.cel 0 (n + 0) (nat_lit 73689291042902)) "at" "many" (nat_lit 73671037431896) (nat_lit 73686069817416) (nat_lit 73687680430161) (nat_lit 73687680430167) (nat_lit 73668353077259) (nat_lit 73668353077336)) (.cons (.asK (.loc 7 (nat_lit 74767864709129)) (.loc 8 (nat_lit 74769743757328)) "gram_numbers" 72 (.cons (.loc 3 (nat_lit 74775380901925)) .nil) (nat_lit 74771891240998) (nat_lit 74771891240991) (nat_lit 74767864709136) (nat_lit 74767864709158)) (.cons (.asg (.loc 4 (nat_lit 75867376340998)) (.int 1 (nat_lit 75868718518282)) (nat_lit 75867376341002)) (.cons (.whl (.cmp .lt (.loc 4 (nat_lit 76968498585612)) (.cel 0 (n + 0) (nat_lit 76969840762899)) (nat_lit 76968498585619)) (.cons (.exp (.call "shorten_row" 86 (.cons (.loc 3 (nat_lit 78070694572057)) (.cons (.loc 6 (nat_lit 78072573620258)) (.cons (.loc 7 (nat_lit 78074989539369)) (.cons (.loc 8 (nat_lit 78076868587568)) (.cons (.loc 4 (nat_lit 78078747635764)) (.cons (.bin .sub (.loc 4 (nat_lit 78079821377592)) (.int 1 (nat_lit 78081163554876)) (nat_lit 78079821377596)) .nil)))))) (nat_lit 78067473346621) (nat_lit 78067473346579)) (nat_lit 78067473346621)) (.cons (.ite (.call "is_exchanged" 79 (.cons (.loc 7 (nat_lit 79171279945757)) (.cons (.loc 8 (nat_lit 79173158993956)) (.cons (.loc 4 (nat_lit 79175038042152)) (.cons (.loc 1 (nat_lit 79176111783981)) (.cons (.loc 2 (nat_lit 79177453961269)) .nil))))) (nat_lit 79167790284854) (nat_lit 79167790284823)) (.cons (.exp (.call "exchange_rows" 93 (.cons (.loc 3 (nat_lit 80271328448543)) (.cons (.loc 6 (nat_lit 80273207496744)) (.cons (.loc 7 (nat_lit 80275623415855)) (.cons (.loc 8 (nat_lit 80277502464054)) (.cons (.loc 4 (nat_lit 80279381512250)) .nil))))) (nat_lit 80267570352187) (nat_lit 80267570352153)) (nat_lit 80267570352187)) (.cons (.asg (.loc 4 (nat_lit 81367081984014)) (.max2 (.bin .sub (.loc 4 (nat_lit 81369497903127)) (.int 1 (nat_lit 81370840080411)) (nat_lit 81369497903131)) (.int 1 (nat_lit 81371645386782)) (nat_lit 81368424161311) (nat_lit 81368424161300)) (nat_lit 81367081984031)) .nil)) (.cons (.fR 5 (.cons (.bin .sub (.loc 4 (nat_lit 83571205521441)) (.int 2 (nat_lit 83572547698725)) (nat_lit 83571205521445)) (.cons (.neg (.int 1 (nat_lit 83573621440553)) (nat_lit 83573353005097)) (.cons (.neg (.int 1 (nat_lit 83574695182381)) (nat_lit 83574426746925)) .nil))) (.cons (.exp (.call "shorten_row" 86 (.cons (.loc 3 (nat_lit 84669911846945)) (.cons (.loc 6 (nat_lit 84671790895146)) (.cons (.loc 7 (nat_lit 84674206814257)) (.cons (.loc 8 (nat_lit 84676085862456)) (.cons (.loc 4 (nat_lit 84677964910652)) (.cons (.loc 5 (nat_lit 84679038652483)) .nil)))))) (nat_lit 84666690621508) (nat_lit 84666690621467)) (nat_lit 84666690621508)) .nil) (nat_lit 83567178989589) (nat_lit 83569594908702) (nat_lit 83569594908718) (nat_lit 83566105251908)) (.cons (.aug .add 4 (.int 1 (nat_lit 85766739124243)) (nat_lit 85765128511502) (nat_lit 85765128511507)) .nil)) (nat_lit 79166985003027)) .nil)) (nat_lit 76966888005651)) (.cons (.ret (.tup (.cons (.loc 3 (nat_lit 86864640143377)) (.cons (.loc 6 (nat_lit 86866519191578)) .nil)) (nat_lit 86864371707931)) (nat_lit 86862492659739)) .nil)))))))
theorem d_lll (n : Nat) : Def 98 p_lll k_lll (rdS (i_lll n) (SE.of k_lll o_lll n)).l := ⟨fun w => ⟨⟨_, _, _, _, _, _, _, _, _, _, _, _, _, _⟩, by k_is, by k_is, fun vs h => by obtain ⟨a, b, c, rfl⟩ := len3 h; rfl⟩⟩

theorem sh10_zero (n : Nm) : sh10 0 n = n := by simp [sh10]
theorem sh21_zero (n : Nm) : sh21 0 n = n := by simp [sh21]
theorem sh20_zero (n : Nm) : sh20 0 n = n := by simp [sh20]
noncomputable def meas (m : Nm) (at_ : Int) : Nat := 2 * (m.d1 + m.d2).toNat + (3 - at_).toNat
noncomputable def StL (n₀ m : Nm) (at_ : Int) : SSt := ⟨[some (.ref 0), some (.int 3), some (.int 4), some (.ref 5), some (.int at_), none, some (.ref 9), some (.ref 13), some (.ref 14)], [],
  [l3 1 2 3, rA n₀, rB n₀, rC n₀, .cell (some (.int 3)), l3 6 7 8, rA m, rB m, rC m, l3 10 11 12, cA m, cB m, cC m, zZ m, l3 15 16 17, .lst [], lP m, lQ m]⟩
theorem meas1 {W n0 n1 n2 : Int} {s : Nm} (I : Inv W n0 n1 n2 s) (hx : 4 * (s.d2 * 1 + s.p*s.p) < 3 * s.d1 * s.d1) : meas (ex1 s) 1 < meas s 1 := by
  have := I.ex1_lt hx; have := I.ex1.p1; have := I.p2; have : (ex1 s).d2 = s.d2 := rfl; unfold meas; omega
theorem meas2 {W n0 n1 n2 : Int} {s : Nm} (I : Inv W n0 n1 n2 s) (hx : 4 * (s.d3 * s.d1 + s.r*s.r) < 3 * s.d2 * s.d2) : meas (ex2 s) 1 < meas s 2 := by
  have := I.ex2_lt hx; have := I.ex2.p2; have := I.p1; have : (ex2 s).d1 = s.d1 := rfl; unfold meas; omega
theorem measU (s : Nm) : meas s 2 < meas s 1 := by unfold meas; omega
theorem measV (s : Nm) : meas s 3 < meas s 2 := by unfold meas; omega
noncomputable def LInv (n₀ : Nm) (W n0 n1 n2 : Int) (k : Nat) (s : SSt) : Prop := ∃ m at_, s = StL n₀ m at_ ∧ ((at_ = 1 ∧ Hd1 W n0 n1 n2 m) ∨ (at_ = 2 ∧ Hd2 W n0 n1 n2 m) ∨ (at_ = 3 ∧ Hd3 W n0 n1 n2 m)) ∧ k = meas m at_
set_option maxHeartbeats 4000000 in
theorem s_lll (w : Scr) (d : Nat) (hd : 2 ≤ d) {w0 w1 w2 W n0 n1 n2 : Int} (H : Hd1 W n0 n1 n2 (start w0 w1 w2)) : SSpec w 98 d [l3 1 2 3, rA (start w0 w1 w2), rB (start w0 w1 w2), rC (start w0 w1 w2)] [.ref 0, .int 3, .int 4]
    fun R => ∀ m, Hd3 W n0 n1 n2 m → R (.ref 4) [l3 1 2 3, rA (start w0 w1 w2), rB (start w0 w1 w2), rC (start w0 w1 w2), T2 5 9, l3 6 7 8, rA m, rB m, rC m, l3 10 11 12, cA m, cB m, cC m] := by
  refine enter (n := 4) (np := 5) d_lll rfl (by decide +kernel) rfl fun R hR => ?_
  refine VCall.mk 1 [8, 5, 6, 7] (s_gram_numbers w 1 (Nat.le_refl _) H.I H.sm) hd rfl rfl rfl ?_
  refine VWhile.mk (LInv (start w0 w1 w2) W n0 n1 n2) _ (StL (start w0 w1 w2) (start w0 w1 w2) 1) rfl ⟨_, _, rfl, .inl ⟨rfl, H⟩, rfl⟩ (RenTo.mk [0, 1, 2, 3, 4, 8, 5, 6, 7, 12, 9, 10, 11, 14, 15, 16, 17, 18] rfl rfl ⟨rfl, rfl, rfl, rfl, rfl, rfl, rfl, rfl, trivial⟩ rfl rfl) ?_
  have hd1 : 1 ≤ d := Nat.le_of_lt hd
  rintro k s ⟨m, at_, rfl, ⟨rfl, Hh⟩ | ⟨rfl, Hh⟩ | ⟨rfl, Hh⟩, rfl⟩
  · refine VCall.mk 1 [5, 6, 7, 8, 9, 10, 11, 12, 13, 14, 15, 16, 17] (s_shorten10 w 1 (Nat.le_refl _) Hh.sm Hh.I.p1 Hh.near_le) hd rfl rfl rfl ⟨fun e => ?_, fun _ => ?_⟩
    all_goals have H1 := Hh.short
    all_goals have hr := Hh.red
    · rw [e, sh10_zero] at H1 hr
      refine VCall.mk 0 [13, 14, 15, 16, 17] (s_is_exchanged1 w 0 H1.sm) hd1 rfl rfl rfl (VIf.mk (fun e => ?_) fun e => ?_)
      · have hx := of_decide_eq_true e
        refine VCall.mk 0 [5, 6, 7, 8, 9, 10, 11, 12, 13, 14, 15, 16, 17] (s_exchange1 w 0 H1.sm H1.I.p1 H1.I.p2 (H1.down hr hx).sm) hd1 rfl rfl rfl ?_
        exact VNext.mk _ (StL (start w0 w1 w2) (ex1 m) 1) (show meas (ex1 m) 1 < meas m 1 from meas1 (s := m) H1.I hx) (RenTo.mk [0, 1, 2, 3, 4, 5, 7, 6, 8, 9, 11, 10, 12, 13, 14, 18, 19, 17] rfl rfl ⟨rfl, rfl, rfl, rfl, rfl, rfl, rfl, rfl, trivial⟩ rfl rfl) ⟨_, _, rfl, .inl ⟨rfl, H1.down hr hx⟩, rfl⟩
      · exact VNext.mk _ (StL (start w0 w1 w2) m 2) (measU m) (RenTo.mk [0, 1, 2, 3, 4, 5, 6, 7, 8, 9, 10, 11, 12, 13, 14, 15, 16, 17] rfl rfl ⟨rfl, rfl, rfl, rfl, rfl, rfl, rfl, rfl, trivial⟩ rfl rfl) ⟨_, _, rfl, .inr (.inl ⟨rfl, H1.up hr (of_decide_eq_false e)⟩), rfl⟩
    · skip
      refine VCall.mk 0 [13, 14, 15, 16, 17] (s_is_exchanged1 w 0 H1.sm) hd1 rfl rfl rfl (VIf.mk (fun e => ?_) fun e => ?_)
      · have hx := of_decide_eq_true e
        refine VCall.mk 0 [5, 6, 18, 8, 9, 10, 19, 12, 13, 14, 15, 16, 17] (s_exchange1 w 0 H1.sm H1.I.p1 H1.I.p2 (H1.down hr hx).sm) hd1 rfl rfl rfl ?_
        exact VNext.mk _ (StL (start w0 w1 w2) (ex1 (sh10 (near m.p m.d1) m)) 1) (show meas (ex1 (sh10 (near m.p m.d1) m)) 1 < meas m 1 from meas1 (s := (sh10 (near m.p m.d1) m)) H1.I hx) (RenTo.mk [0, 1, 2, 3, 4, 5, 18, 6, 8, 9, 19, 10, 12, 13, 14, 20, 21, 17] rfl rfl ⟨rfl, rfl, rfl, rfl, rfl, rfl, rfl, rfl, trivial⟩ rfl rfl) ⟨_, _, rfl, .inl ⟨rfl, H1.down hr hx⟩, rfl⟩
      · exact VNext.mk _ (StL (start w0 w1 w2) (sh10 (near m.p m.d1) m) 2) (measU m) (RenTo.mk [0, 1, 2, 3, 4, 5, 6, 18, 8, 9, 10, 19, 12, 13, 14, 15, 16, 17] rfl rfl ⟨rfl, rfl, rfl, rfl, rfl, rfl, rfl, rfl, trivial⟩ rfl rfl) ⟨_, _, rfl, .inr (.inl ⟨rfl, H1.up hr (of_decide_eq_false e)⟩), rfl⟩
  · refine VCall.mk 1 [5, 6, 7, 8, 9, 10, 11, 12, 13, 14, 15, 16, 17] (s_shorten21 w 1 (Nat.le_refl _) Hh.sm Hh.I.p2 (Hh.near_le.mono (by decide))) hd rfl rfl rfl ⟨fun e => ?_, fun _ => ?_⟩
    all_goals have H1 := Hh.short
    · rw [e, sh21_zero] at H1
      refine VCall.mk 0 [13, 14, 15, 16, 17] (s_is_exchanged2 w 0 H1.sm) hd1 rfl rfl rfl (VIf.mk (fun e => ?_) fun e => ?_)
      · have hx := of_decide_eq_true e
        refine VCall.mk 0 [5, 6, 7, 8, 9, 10, 11, 12, 13, 14, 15, 16, 17] (s_exchange2 w 0 H1.sm H1.I.p1 H1.I.p2 (H1.down hx).sm) hd1 rfl rfl rfl ?_
        exact VNext.mk _ (StL (start w0 w1 w2) (ex2 m) 1) (show meas (ex2 m) 1 < meas m 2 from meas2 (s := m) H1.I hx) (RenTo.mk [0, 1, 2, 3, 4, 5, 6, 8, 7, 9, 10, 12, 11, 13, 14, 15, 18, 19] rfl rfl ⟨rfl, rfl, rfl, rfl, rfl, rfl, rfl, rfl, trivial⟩ rfl rfl) ⟨_, _, rfl, .inl ⟨rfl, H1.down hx⟩, rfl⟩
      · have H2 := H1.up (of_decide_eq_false e)
        refine VCall.mk 1 [5, 6, 7, 8, 9, 10, 11, 12, 13, 14, 15, 16, 17] (s_shorten20 w 1 (Nat.le_refl _) H1.sm H1.I.p1 H1.near_le) hd rfl rfl rfl ⟨fun e => ?_, fun _ => ?_⟩
        · rw [e, sh20_zero] at H2
          exact VNext.mk _ (StL (start w0 w1 w2) m 3) (measV m) (RenTo.mk [0, 1, 2, 3, 4, 5, 6, 7, 8, 9, 10, 11, 12, 13, 14, 15, 16, 17] rfl rfl ⟨rfl, rfl, rfl, rfl, rfl, rfl, rfl, rfl, trivial⟩ rfl rfl) ⟨_, _, rfl, .inr (.inr ⟨rfl, H2⟩), rfl⟩
        · exact VNext.mk _ (StL (start w0 w1 w2) (sh20 (near m.q m.d1) m) 3) (measV m) (RenTo.mk [0, 1, 2, 3, 4, 5, 6, 7, 18, 9, 10, 11, 19, 13, 14, 15, 16, 17] rfl rfl ⟨rfl, rfl, rfl, rfl, rfl, rfl, rfl, rfl, trivial⟩ rfl rfl) ⟨_, _, rfl, .inr (.inr ⟨rfl, H2⟩), rfl⟩
    · skip
      refine VCall.mk 0 [13, 14, 15, 16, 17] (s_is_exchanged2 w 0 H1.sm) hd1 rfl rfl rfl (VIf.mk (fun e => ?_) fun e => ?_)
      · have hx := of_decide_eq_true e
        refine VCall.mk 0 [5, 6, 7, 18, 9, 10, 11, 19, 13, 14, 15, 16, 17] (s_exchange2 w 0 H1.sm H1.I.p1 H1.I.p2 (H1.down hx).sm) hd1 rfl rfl rfl ?_
        exact VNext.mk _ (StL (start w0 w1 w2) (ex2 (sh21 (near m.r m.d2) m)) 1) (show meas (ex2 (sh21 (near m.r m.d2) m)) 1 < meas m 2 from meas2 (s := (sh21 (near m.r m.d2) m)) H1.I hx) (RenTo.mk [0, 1, 2, 3, 4, 5, 6, 18, 7, 9, 10, 19, 11, 13, 14, 15, 20, 21] rfl rfl ⟨rfl, rfl, rfl, rfl, rfl, rfl, rfl, rfl, trivial⟩ rfl rfl) ⟨_, _, rfl, .inl ⟨rfl, H1.down hx⟩, rfl⟩
      · have H2 := H1.up (of_decide_eq_false e)
        refine VCall.mk 1 [5, 6, 7, 18, 9, 10, 11, 19, 13, 14, 15, 16, 17] (s_shorten20 w 1 (Nat.le_refl _) H1.sm H1.I.p1 H1.near_le) hd rfl rfl rfl ⟨fun e => ?_, fun _ => ?_⟩
        · rw [e, sh20_zero] at H2
          exact VNext.mk _ (StL (start w0 w1 w2) (sh21 (near m.r m.d2) m) 3) (measV m) (RenTo.mk [0, 1, 2, 3, 4, 5, 6, 7, 18, 9, 10, 11, 19, 13, 14, 15, 16, 17] rfl rfl ⟨rfl, rfl, rfl, rfl, rfl, rfl, rfl, rfl, trivial⟩ rfl rfl) ⟨_, _, rfl, .inr (.inr ⟨rfl, H2⟩), rfl⟩
        · exact VNext.mk _ (StL (start w0 w1 w2) (sh20 (near (sh21 (near m.r m.d2) m).q (sh21 (near m.r m.d2) m).d1) (sh21 (near m.r m.d2) m)) 3) (measV m) (RenTo.mk [0, 1, 2, 3, 4, 5, 6, 7, 20, 9, 10, 11, 21, 13, 14, 15, 16, 17] rfl rfl ⟨rfl, rfl, rfl, rfl, rfl, rfl, rfl, rfl, trivial⟩ rfl rfl) ⟨_, _, rfl, .inr (.inr ⟨rfl, H2⟩), rfl⟩
  · exact VRet.mk [0, 1, 2, 3, 18, 5, 6, 7, 8, 9, 10, 11, 12] (.ref 4) _ rfl rfl rfl rfl (hR m Hh)
end
section
noncomputable def k_rat : List (Str × NameKind) := [("top", .local), ("bottom", .local), ("g", .local), ("CasFail", .globalImplicit), ("str", .globalImplicit), ("gcd", .globalImplicit)]
noncomputable def o_rat : List Str := ["top", "bottom", "g"]
noncomputable def p_rat : List Str := ["top", "bottom"]
noncomputable def i_rat (n : Nat) : IS := (.cons (.ite (.cmp .eq (.loc 1 (nat_lit 104455484076045)) (.int 0 (nat_lit 104458168430610)) (nat_lit 104455484076050)) (.cons (.rse (.Raise (some (.Call (.Name "CasFail" (dpos (nat_lit 105556874756117))) [(.Constant (.str "division by zero") 0 (dpos (nat_lit 105559022239784))), (.BinOp (.Call (.Name "str" (dpos (nat_lit 105564390948909))) [(.Name "top" (dpos (nat_lit 105565464690737)))] [] (dpos (nat_lit 105564390948914))) .Add (.Constant (.str "/0") 0 (dpos (nat_lit 105567343738937))) (dpos (nat_lit 105564390948921)))] [] (dpos (nat_lit 105556874756154)))) none (dpos (nat_lit 105555264143418)))) .nil) .nil (nat_lit 104454678773818)) (.cons (.asg (.loc 2 (nat_lit 106653702033413)) (.ife .gt (.loc 1 (nat_lit 106660144484386)) (.int 0 (nat_lit 106662560403494)) (.call "gcd" 41 (.cons (.loc 0 (nat_lit 106655849517071)) (.cons (.loc 1 (nat_lit 106657191694359)) .nil)) (nat_lit 106654775775256) (nat_lit 106654775775243)) (.bin .sub (.int 0 (nat_lit 106664439451693)) (.call "gcd" 41 (.cons (.loc 0 (nat_lit 106666586935351)) (.cons (.loc 1 (nat_lit 106667929112639)) .nil)) (nat_lit 106665513193536) (nat_lit 106665513193523)) (nat_lit 106664439451712)) (nat_lit 106654775775296) (nat_lit 106660144484390)) (nat_lit 106653702033472)) (.cons (.ret (.tup (.cons (.bin .div (.loc 0 (nat_lit 107755361148943)) (.loc 2 (nat_lit 107757240197140)) (nat_lit 107755361148948)) (.cons (.bin .div (.loc 1 (nat_lit 107758045503516)) (.loc 2 (nat_lit 107760729858081)) (nat_lit 107758045503521)) .nil)) (nat_lit 107755092713506)) (nat_lit 107753213665314)) .nil)))
theorem d_rat (n : Nat) : Def 116 p_rat k_rat (rdS (i_rat n) (SE.of k_rat o_rat n)).l := ⟨fun w => ⟨⟨_, _, _, _, _, _, _, _, _, _, _, _, _, _⟩, by k_is, by k_is, fun vs h => by obtain ⟨a, b, rfl⟩ := len2 h; rfl⟩⟩

noncomputable def k_radd : List (Str × NameKind) := [("a", .local), ("b", .local), ("rat", .globalImplicit)]
noncomputable def o_radd : List Str := ["a", "b"]
noncomputable def p_radd : List Str := ["a", "b"]
noncomputable def i_radd (n : Nat) : IS := (.cons (.ret (.call "rat" 116 (.cons (.bin .add (.bin .mul (.sub (.loc 0 (nat_lit 109955189719056)) (.int 0 (nat_lit 109955726589970)) (nat_lit 109955189719059)) (.sub (.loc 1 (nat_lit 109957068767255)) (.int 1 (nat_lit 109957605638169)) (nat_lit 109957068767258)) (nat_lit 109955189719066)) (.bin .mul (.sub (.loc 1 (nat_lit 109958947815454)) (.int 0 (nat_lit 109959484686368)) (nat_lit 109958947815457)) (.sub (.loc 0 (nat_lit 109960826863653)) (.int 1 (nat_lit 109961363734567)) (nat_lit 109960826863656)) (nat_lit 109958947815464)) (nat_lit 109955189719080)) (.cons (.bin .mul (.sub (.loc 0 (nat_lit 109962437476395)) (.int 1 (nat_lit 109962974347309)) (nat_lit 109962437476398)) (.sub (.loc 1 (nat_lit 109964316524594)) (.int 1 (nat_lit 109964853395508)) (nat_lit 109964316524597)) (nat_lit 109962437476405)) .nil)) (nat_lit 109954115977270) (nat_lit 109954115977230)) (nat_lit 109952236929078)) .nil)
theorem d_radd (n : Nat) : Def 123 p_radd k_radd (rdS (i_radd n) (SE.of k_radd o_radd n)).l := ⟨fun w => ⟨⟨_, _, _, _, _, _, _, _, _, _, _, _, _, _⟩, by k_is, by k_is, fun vs h => by obtain ⟨a, b, rfl⟩ := len2 h; rfl⟩⟩

noncomputable def k_rmul : List (Str × NameKind) := [("a", .local), ("b", .local), ("rat", .globalImplicit)]
noncomputable def o_rmul : List Str := ["a", "b"]
noncomputable def p_rmul : List Str := ["a", "b"]
noncomputable def i_rmul (n : Nat) : IS := (.cons (.ret (.call "rat" 116 (.cons (.bin .mul (.sub (.loc 0 (nat_lit 112154212982800)) (.int 0 (nat_lit 112154749853714)) (nat_lit 112154212982803)) (.sub (.loc 1 (nat_lit 112156092030999)) (.int 0 (nat_lit 112156628901913)) (nat_lit 112156092031002)) (nat_lit 112154212982810)) (.cons (.bin .mul (.sub (.loc 0 (nat_lit 112157702643741)) (.int 1 (nat_lit 112158239514655)) (nat_lit 112157702643744)) (.sub (.loc 1 (nat_lit 112159581691940)) (.int 1 (nat_lit 112160118562854)) (nat_lit 112159581691943)) (nat_lit 112157702643751)) .nil)) (nat_lit 112153139241000) (nat_lit 112153139240974)) (nat_lit 112151260192808)) .nil)
theorem d_rmul (n : Nat) : Def 130 p_rmul k_rmul (rdS (i_rmul n) (SE.of k_rmul o_rmul n)).l := ⟨fun w => ⟨⟨_, _, _, _, _, _, _, _, _, _, _, _, _, _⟩, by k_is, by k_is, fun vs h => by obtain ⟨a, b, rfl⟩ := len2 h; rfl⟩⟩

noncomputable def k_over_one_bottom : List (Str × NameKind) := [("some", .local), ("bottom", .cell), ("one", .local), ("gcd", .globalImplicit)]
noncomputable def o_over_one_bottom : List Str := ["some", "one"]
noncomputable def p_over_one_bottom : List Str := ["some"]
noncomputable def i_over_one_bottom (n : Nat) : IS := (.cons (.asg (.cel 0 (n + 0) (nat_lit 89061515923466)) (.int 1 (nat_lit 89063931842574)) (nat_lit 89061515923470)) (.cons (.fL (.loc 1 (nat_lit 90162101297163)) (.loc 0 (nat_lit 90163980345363)) (.cons (.asg (.cel 0 (n + 0) (nat_lit 91261612929038)) (.bin .mul (.bin .div (.cel 0 (n + 0) (nat_lit 91264028848151)) (.call "gcd" 41 (.cons (.cel 0 (n + 0) (nat_lit 91267786944549)) (.cons (.sub (.loc 1 (nat_lit 91269934428202)) (.int 1 (nat_lit 91271008170028)) (nat_lit 91269934428205)) .nil)) (nat_lit 91266713202734) (nat_lit 91266713202718)) (nat_lit 91264028848174)) (.sub (.loc 1 (nat_lit 91272618782772)) (.int 1 (nat_lit 91273692524598)) (nat_lit 91272618782775)) (nat_lit 91264028848183)) (nat_lit 91261612929079)) .nil) (nat_lit 90161027559479)) (.cons (.ret (.cL (.bin .mul (.sub (.loc 0 (nat_lit 92362198302735)) (.int 0 (nat_lit 92363272044561)) (nat_lit 92362198302738)) (.bin .div (.cel 0 (n + 0) (nat_lit 92364882657308)) (.sub (.loc 0 (nat_lit 92367567011875)) (.int 1 (nat_lit 92368640753701)) (nat_lit 92367567011878)) (nat_lit 92364882657318)) (nat_lit 92362198302759)) (.loc 0 (nat_lit 92372667285559)) "one" [(".0", .local), ("one", .local), ("bottom", .free)] (nat_lit 92361929867320) (nat_lit 92370788237359)) (nat_lit 92360050819128)) .nil)))
theorem d_over_one_bottom (n : Nat) : Def 103 p_over_one_bottom k_over_one_bottom (rdS (i_over_one_bottom n) (SE.of k_over_one_bottom o_over_one_bottom n)).l := ⟨fun w => ⟨⟨_, _, _, _, _, _, _, _, _, _, _, _, _, _⟩, by k_is, by k_is, fun vs h => by obtain ⟨a, rfl⟩ := len1 h; rfl⟩⟩

noncomputable def k_whole_relations : List (Str × NameKind) := [("some", .local), ("numbers", .local), ("one", .local), ("weight", .local), ("rows", .local), ("at", .cell), ("over_one_bottom", .globalImplicit), ("len", .globalImplicit), ("max", .globalImplicit), ("enumerate", .globalImplicit), ("range", .globalImplicit), ("lll", .globalImplicit)]
noncomputable def o_whole_relations : List Str := ["some", "numbers", "one", "weight", "rows"]
noncomputable def p_whole_relations : List Str := ["some"]
noncomputable def i_whole_relations (n : Nat) : IS := (.cons (.asg (.loc 1 (nat_lit 94559074082827)) (.call "over_one_bottom" 103 (.cons (.loc 0 (nat_lit 94566053404706)) .nil) (nat_lit 94561758437411) (nat_lit 94561758437405)) (nat_lit 94559074082851)) (.cons (.asg (.loc 3 (nat_lit 95658585714698)) (.bin .mul (.bin .pow (.int 2 (nat_lit 95661001633806)) (.bfn .len (.loc 0 (nat_lit 95663417552922)) (nat_lit 95662343811099) (nat_lit 95662343811093)) (nat_lit 95661001633819)) (.bin .add (.int 1 (nat_lit 95665833472032)) (.bfn .max (.bin .add (.lst (.cons (.int 0 (nat_lit 95668249391145)) .nil) (nat_lit 95667980955690)) (.cL (.bfn .abs (.loc 0 (nat_lit 95670933745717)) (nat_lit 95669860003894) (nat_lit 95669860003889)) (.loc 1 (nat_lit 95675228713033)) "one" [(".0", .local), ("one", .local), ("abs", .globalImplicit)] (nat_lit 95669591568458) (nat_lit 95673349664830)) (nat_lit 95667980955722)) (nat_lit 95666907213899) (nat_lit 95666907213862)) (nat_lit 95665833472075)) (nat_lit 95661001633868)) (nat_lit 95658585714764)) (.cons (.asg (.loc 4 (nat_lit 96758097346568)) (.lst .nil (nat_lit 96759976394765)) (nat_lit 96758097346573)) (.cons (.fE (.cel 0 (n + 0) (nat_lit 97858682720266)) (.loc 2 (nat_lit 97859756462095)) (.loc 1 (nat_lit 97864319864868)) (.cons (.exp (.app (.loc 4 (nat_lit 98958194352140)) (.bin .add (.cR (.ife .eq (.cel 0 (n + 0) (nat_lit 98963026190364)) (.loc 0 (nat_lit 98964636803109)) (.int 1 (nat_lit 98961684013078)) (.int 0 (nat_lit 98967589593132)) (nat_lit 98961684013100) (nat_lit 98963026190373)) (.bfn .len (.loc 0 (nat_lit 98974300479560)) (nat_lit 98973226737737) (nat_lit 98973226737731)) "other" [(".0", .local), ("other", .local), ("at", .free)] (nat_lit 98961415577675) (nat_lit 98969200205878) (nat_lit 98971616124991) (nat_lit 98971616125002)) (.lst (.cons (.bin .mul (.loc 3 (nat_lit 98977253269589)) (.loc 2 (nat_lit 98979669188699)) (nat_lit 98977253269595)) .nil) (nat_lit 98976984834140)) (nat_lit 98961415577692)) (nat_lit 98958194352221) (nat_lit 98958194352147)) (nat_lit 98958194352221)) .nil) (nat_lit 97858682720271) (nat_lit 97861635510300) (nat_lit 97861635510309) (nat_lit 97857608982621)) (.cons (.ret (.cT (.slc (.loc 0 (nat_lit 100058779725839)) (.neg (.int 1 (nat_lit 100060390338579)) (nat_lit 100060121903123)) (nat_lit 100058779725844) (nat_lit 100059853467667)) .eq (.sub (.loc 0 (nat_lit 100070054015033)) (.neg (.int 1 (nat_lit 100071396192316)) (nat_lit 100071127756860)) (nat_lit 100070054015037)) (.int 0 (nat_lit 100073006805058)) (.sub (.call "lll" 98 (.cons (.loc 4 (nat_lit 100065222176808)) (.cons (.int 3 (nat_lit 100066832789547)) (.cons (.int 4 (nat_lit 100067638095918)) .nil))) (nat_lit 100064148434991) (nat_lit 100064148434979)) (.int 0 (nat_lit 100068443402289)) (nat_lit 100064148434994)) "row" [(".0", .local), ("row", .local)] (nat_lit 100058511290435) (nat_lit 100062269386780) (nat_lit 100070054015042)) (nat_lit 100056632242243)) .nil)))))
theorem d_whole_relations (n : Nat) : Def 108 p_whole_relations k_whole_relations (rdS (i_whole_relations n) (SE.of k_whole_relations o_whole_relations n)).l := ⟨fun w => ⟨⟨_, _, _, _, _, _, _, _, _, _, _, _, _, _⟩, by k_is, by k_is, fun vs h => by obtain ⟨a, rfl⟩ := len1 h; rfl⟩⟩

theorem gcd_pos {a b : Int} (hb : 0 < b) : (Int.gcd a b : Int) ≠ 0 ∧ 0 ≤ (Int.gcd a b : Int) ∧ (Int.gcd a b : Int) ≤ b := by
  have : Int.gcd a b ≠ 0 := fun h => by have := (Int.gcd_eq_zero_iff.mp h).2; omega
  exact ⟨by omega, by omega, Int.le_of_dvd hb (Int.gcd_dvd_right a b)⟩
theorem Bt.le {x y : Int} (h : Bt y) (h0 : 0 ≤ x) (h1 : x ≤ y) : Bt x := Le.of h0 (Int.le_trans h1 h.2)
noncomputable def T1 (x y : Int) : SO := .tup [.int x, .int y]
theorem s_rat (w : Scr) (d : Nat) (hd : 1 ≤ d) {a b : Int} (hb : 0 < b) (lb : Bt b) : SSpec w 116 d [] [.int a, .int b] fun R => ∀ x y, RatOf a b x y → R (.ref 0) [T1 x y] := by
  refine enter (n := 0) (np := 0) d_rat rfl (by decide +kernel) rfl fun R hR => ?_
  obtain ⟨g0, g1, g2⟩ := gcd_pos (a := a) hb
  refine VIf.mk (fun e => absurd (beq0 e) (by omega)) fun _ => ?_
  refine VIf.mk (fun _ => ?_) fun e => absurd hb (of_decide_eq_false e)
  refine VCall.mk 0 [] (s_gcd w 0 _ _) hd rfl rfl rfl ?_
  exact VDiv.of g0 (lb.le g1 g2) rfl (VDiv.of g0 (lb.le g1 g2) rfl (VRet.mk [0] (.ref 0) _ rfl rfl rfl rfl (hR _ _ (rat_of hb))))
theorem s_raddTT (w : Scr) (d : Nat) (hd : 2 ≤ d) {xa ya xb yb : Int} (l1 : Le xa 3000) (l2 : Le ya 900) (l3 : Le xb 3000) (l4 : Le yb 900) (pa : 0 < ya) (pb : 0 < yb) : SSpec w 123 d [T1 xa ya, T1 xb yb] [.ref 0, .ref 1] fun R => ∀ x y, RatOf (xa * yb + xb * ya) (ya * yb) x y → R (.ref 2) [T1 xa ya, T1 xb yb, T1 x y] := by
  refine enter (n := 2) (np := 2) d_radd rfl (by decide +kernel) rfl fun R hR => ?_
  refine VMul.of l1.bt l4.bt (VMul.of l3.bt l2.bt (VMul.of l2.bt l4.bt ?_))
  refine VCall.mk 1 [] (s_rat w 1 (Nat.le_refl _) (Int.mul_pos pa pb) (l2.mul l4 (Nat.le_refl _)).bt) hd rfl rfl rfl fun x y ro => ?_
  exact VRet.mk [0, 1, 2] (.ref 2) _ rfl rfl rfl rfl (hR x y ro)
theorem s_raddKT (w : Scr) (d : Nat) (hd : 2 ≤ d) {xb yb : Int} (l3 : Le xb 3000) (l4 : Le yb 900) (pb : 0 < yb) : SSpec w 123 d [T1 xb yb] [.base 109, .ref 0] fun R => ∀ x y, RatOf (0 * yb + xb * 1) (1 * yb) x y → R (.ref 1) [T1 xb yb, T1 x y] := by
  refine enter (n := 1) (np := 1) d_radd rfl (by decide +kernel) rfl fun R hR => ?_
  refine VMul.mk _ (.of_left (by decide)) rfl (VMul.mk _ (.of_right (by decide)) rfl (VMul.mk _ (.of_left (by decide)) rfl ?_))
  refine VCall.mk 1 [] (s_rat w 1 (Nat.le_refl _) (by omega) (le1.mul l4 (Nat.le_refl _)).bt) hd rfl rfl rfl fun x y ro => ?_
  exact VRet.mk [0, 1] (.ref 1) _ rfl rfl rfl rfl (hR x y ro)
theorem s_rmulTT (w : Scr) (d : Nat) (hd : 2 ≤ d) {xa ya xb yb : Int} (l1 : Le xa 3000) (l2 : Le ya 900) (l3 : Le xb 3000) (l4 : Le yb 900) (pa : 0 < ya) (pb : 0 < yb) : SSpec w 130 d [T1 xa ya, T1 xb yb] [.ref 0, .ref 1] fun R => ∀ x y, RatOf (xa * xb) (ya * yb) x y → R (.ref 2) [T1 xa ya, T1 xb yb, T1 x y] := by
  refine enter (n := 2) (np := 2) d_rmul rfl (by decide +kernel) rfl fun R hR => ?_
  refine VMul.of l1.bt l3.bt (VMul.of l2.bt l4.bt ?_)
  refine VCall.mk 1 [] (s_rat w 1 (Nat.le_refl _) (Int.mul_pos pa pb) (l2.mul l4 (Nat.le_refl _)).bt) hd rfl rfl rfl fun x y ro => ?_
  exact VRet.mk [0, 1, 2] (.ref 2) _ rfl rfl rfl rfl (hR x y ro)
theorem s_rmulTK (w : Scr) (d : Nat) (hd : 2 ≤ d) {xa ya : Int} (l2 : Le ya 900) (pa : 0 < ya) : SSpec w 130 d [T1 xa ya] [.ref 0, .base 109] fun R => ∀ x y, RatOf (xa * 0) (ya * 1) x y → R (.ref 1) [T1 xa ya, T1 x y] := by
  refine enter (n := 1) (np := 1) d_rmul rfl (by decide +kernel) rfl fun R hR => ?_
  refine VMul.mk _ (.of_right (by decide)) rfl (VMul.mk _ (.of_right (by decide)) rfl ?_)
  refine VCall.mk 1 [] (s_rat w 1 (Nat.le_refl _) (by omega) (l2.mul le1 (Nat.le_refl _)).bt) hd rfl rfl rfl fun x y ro => ?_
  exact VRet.mk [0, 1] (.ref 1) _ rfl rfl rfl rfl (hR x y ro)
/-- the drawn rationals: the third may be R0 -/
noncomputable def third (k : Bool) : SV := match k with | true => .base 109 | false => .ref 3
noncomputable def So (k : Bool) (x0 y0 x1 y1 x2 y2 : Int) : List SO := match k with
  | true => [.lst [.ref 1, .ref 2, .base 109], T1 x0 y0, T1 x1 y1]
  | false => [.lst [.ref 1, .ref 2, .ref 3], T1 x0 y0, T1 x1 y1, T1 x2 y2]
structure Small (k : Bool) (x0 y0 x1 y1 x2 y2 : Int) : Prop where
  b0 : Le x0 5 ∧ Le y0 3 ∧ 0 < y0
  b1 : Le x1 5 ∧ Le y1 3 ∧ 0 < y1
  b2 : Le x2 10 ∧ Le y2 6 ∧ 0 < y2
  k : k = true → x2 = 0 ∧ y2 = 1
noncomputable def nS (k : Bool) : Nat := match k with | true => 3 | false => 4
theorem lst_step {B y : Int} {i j : Nat} (hB : 0 < B) (hy : 0 < y) (lB : Le B i) (ly : Le y j) : (Int.gcd B y : Int) ≠ 0 ∧ Le (Int.gcd B y : Int) j ∧ Le (B.fdiv (Int.gcd B y)) i ∧ 0 < lstep B y ∧ Le (lstep B y) (i + j) := by
  obtain ⟨p, _, _, l, g0, gl, c0, cl⟩ := lstep_spec hB hy
  exact ⟨by omega, Le.of (by omega) (Int.le_trans gl ly.2), Le.of c0 (Int.le_trans cl lB.2), p, Le.of (by omega) (Int.le_trans l (lB.mul ly (Nat.le_refl _)).2)⟩
theorem s_obb (w : Scr) (d : Nat) (hd : 1 ≤ d) {k : Bool} {x0 y0 x1 y1 x2 y2 : Int} (H : Small k x0 y0 x1 y1 x2 y2) : SSpec w 103 d (So k x0 y0 x1 y1 x2 y2) [.ref 0]
    fun R => R (.ref (nS k)) (So k x0 y0 x1 y1 x2 y2 ++ [.lst [.int (whole x0 y0 (lbot y0 y1 y2)), .int (whole x1 y1 (lbot y0 y1 y2)), .int (whole x2 y2 (lbot y0 y1 y2))]]) := by
  obtain ⟨⟨a0, c0, p0⟩, ⟨a1, c1, p1⟩, ⟨a2, c2, p2⟩, hk⟩ := H
  obtain ⟨u0, u1, u2, q0, v0⟩ := lst_step (by decide : (0 : Int) < 1) p0 le1 c0
  obtain ⟨u3, u4, u5, q1, v1⟩ := lst_step q0 p1 v0 c1
  obtain ⟨u6, u7, u8, q2, v2⟩ := lst_step q1 p2 v1 c2
  have L := lbot_spec p0 p1 p2
  have lB : Le (lbot y0 y1 y2) 12 := v2
  obtain ⟨k0, z0, z1, _, e0⟩ := L.d0
  obtain ⟨k1, z2, z3, _, e1⟩ := L.d1
  obtain ⟨k2, z4, z5, _, e2⟩ := L.d2
  have w0 : Bt ((lbot y0 y1 y2).fdiv y0) := lB.bt.le (by omega) (by omega)
  have w1 : Bt ((lbot y0 y1 y2).fdiv y1) := lB.bt.le (by omega) (by omega)
  have w2 : Bt ((lbot y0 y1 y2).fdiv y2) := lB.bt.le (by omega) (by omega)
  cases k with
  | false =>
    refine enter (n := 4) (np := 5) d_over_one_bottom rfl (by decide +kernel) rfl fun R hR => ?_
    refine VCall.mk 0 [] (s_gcd w 0 _ _) hd rfl rfl rfl (VDiv.of u0 u1.bt rfl (VMul.of u2.bt c0.bt ?_))
    refine VCall.mk 0 [] (s_gcd w 0 _ _) hd rfl rfl rfl (VDiv.of u3 u4.bt rfl (VMul.of u5.bt c1.bt ?_))
    refine VCall.mk 0 [] (s_gcd w 0 _ _) hd rfl rfl rfl (VDiv.of u6 u7.bt rfl (VMul.of u8.bt c2.bt ?_))
    refine VDiv.of (by omega) c0.bt rfl (VMul.of a0.bt w0 (VDiv.of (by omega) c1.bt rfl (VMul.of a1.bt w1 (VDiv.of (by omega) c2.bt rfl (VMul.of a2.bt w2 ?_)))))
    exact VRet.mk [0, 1, 2, 3, 5] (.ref 4) _ rfl rfl rfl rfl hR
  | true =>
    obtain ⟨rfl, rfl⟩ := hk rfl
    refine enter (n := 3) (np := 4) d_over_one_bottom rfl (by decide +kernel) rfl fun R hR => ?_
    refine VCall.mk 0 [] (s_gcd w 0 _ _) hd rfl rfl rfl (VDiv.of u0 u1.bt rfl (VMul.of u2.bt c0.bt ?_))
    refine VCall.mk 0 [] (s_gcd w 0 _ _) hd rfl rfl rfl (VDiv.of u3 u4.bt rfl (VMul.of u5.bt c1.bt ?_))
    refine VCall.mk 0 [] (s_gcd w 0 _ _) hd rfl rfl rfl (VDiv.of u6 u7.bt rfl (VMul.of u8.bt c2.bt ?_))
    refine VDiv.of (by omega) c0.bt rfl (VMul.of a0.bt w0 (VDiv.of (by omega) c1.bt rfl (VMul.of a1.bt w1 (VDiv.of (by omega) c2.bt rfl (VMul.of a2.bt w2 ?_)))))
    exact VRet.mk [0, 1, 2, 4] (.ref 3) _ rfl rfl rfl rfl hR
end
section
theorem wt_of {n0 n1 n2 M : Int} (hM : M ∈ [0, if n0 < 0 then -n0 else n0, if n1 < 0 then -n1 else n1, if n2 < 0 then -n2 else n2]) (hA : ∀ a, a ∈ [0, if n0 < 0 then -n0 else n0, if n1 < 0 then -n1 else n1, if n2 < 0 then -n2 else n2] → a ≤ M) (l0 : Le n0 26) (l1 : Le n1 26) (l2 : Le n2 26) : WtB n0 n1 n2 M ∧ Le (8 * (1 + M)) 30 := by
  refine (wt (n0 := n0) (n1 := n1) (n2 := n2) (M := M) ?_ ⟨hA _ (.head _), hA _ (.tail _ (.head _)), hA _ (.tail _ (.tail _ (.head _))), hA _ (.tail _ (.tail _ (.tail _ (.head _))))⟩ l0 l1 l2).2
  simpa using hM
theorem last0 {W n0 n1 n2 : Int} {m : Nm} (I : Inv W n0 n1 n2 m) (O : Out n0 n1 n2 m) : m.x = 0 ∧ m.y = 0 := ⟨by rw [I.hx, O.ha, Int.mul_zero], by rw [I.hy, O.hb, Int.mul_zero]⟩
theorem lll_out {W n0 n1 n2 M : Int} {m : Nm} (H : Hd3 W n0 n1 n2 m) (hW : W = 8 * (1 + M)) (wB : WtB n0 n1 n2 M) : Out n0 n1 n2 m ∧ m.x = 0 ∧ m.y = 0 ∧ ((m.z = 0 ∧ n0 = 0 ∧ n1 = 0 ∧ n2 = 0) ∨ (m.z ≠ 0 ∧ ¬ (n0 = 0 ∧ n1 = 0 ∧ n2 = 0))) := by
  have O := H.out hW wB.1 wB.2.1 wB.2.2
  have l := last0 H.I O
  exact ⟨O, l.1, l.2, zcase O H.I.hz (by have := wB.1; omega)⟩
set_option maxHeartbeats 4000000 in
theorem s_wr (w : Scr) (d : Nat) (hd : 3 ≤ d) {k : Bool} {x0 y0 x1 y1 x2 y2 n0 n1 n2 : Int} (H : Small k x0 y0 x1 y1 x2 y2) (e0 : whole x0 y0 (lbot y0 y1 y2) = n0) (e1 : whole x1 y1 (lbot y0 y1 y2) = n1) (e2 : whole x2 y2 (lbot y0 y1 y2) = n2) (l0 : Le n0 26) (l1 : Le n1 26) (l2 : Le n2 26) : SSpec w 108 d (So k x0 y0 x1 y1 x2 y2) [.ref 0]
    fun R => ∀ m, Out n0 n1 n2 m → Siz m → (¬ (n0 = 0 ∧ n1 = 0 ∧ n2 = 0) → R (.ref (nS k)) (So k x0 y0 x1 y1 x2 y2 ++ [.lst [.ref (nS k + 1), .ref (nS k + 2)], cA m, cB m])) ∧ ((n0 = 0 ∧ n1 = 0 ∧ n2 = 0) → R (.ref (nS k)) (So k x0 y0 x1 y1 x2 y2 ++ [l3 (nS k + 1) (nS k + 2) (nS k + 3), cA m, cB m, cC m])) := by
  have hd1 : 2 ≤ d := Nat.le_of_lt hd
  have hobb := s_obb w 1 (Nat.le_refl _) H
  rw [e0, e1, e2] at hobb
  cases k with
  | false =>
    refine enter (n := 4) (np := 5) d_whole_relations rfl (by decide +kernel) rfl fun R hR => ?_
    refine VCall.mk 1 [0, 1, 2, 3] hobb hd1 rfl rfl rfl ?_
    refine VReq.mk ⟨by decide, by decide, by decide⟩ (VReq.mk (Nat.zero_lt_succ _) fun M hM hA => VMul.mk (8 * (1 + M)) (.of_left (by decide)) rfl ?_)
    obtain ⟨wB, lW⟩ := wt_of hM hA l0 l1 l2
    refine VMul.of lW.bt l0.bt (VMul.of lW.bt l1.bt (VMul.of lW.bt l2.bt ?_))
    refine VCall.mk 2 [9, 12, 15, 18] (s_lll w 2 (Nat.le_refl _) (start_hd _ _ _ _ (lW.mul l0 (by decide : 30 + 26 ≤ 60)) (lW.mul l1 (by decide : 30 + 26 ≤ 60)) (lW.mul l2 (by decide : 30 + 26 ≤ 60)))) hd rfl rfl rfl fun m hm => ?_
    obtain ⟨O, hx, hy, hz⟩ := lll_out hm rfl wB
    refine VIf.mk (fun _ => ?_) fun e => absurd hx (bne0 e)
    refine VIf.mk (fun _ => ?_) fun e => absurd hy (bne0 e)
    refine VIf.mk (fun e => ?_) fun e => ?_
    · exact VRet.mk [0, 1, 2, 3, 31, 28, 29, 30] (.ref 4) _ rfl rfl rfl rfl ((hR m O hm.siz).2 (hz.elim (fun h => h.2) fun h => absurd (beq0 e) h.1))
    · exact VRet.mk [0, 1, 2, 3, 30, 28, 29] (.ref 4) _ rfl rfl rfl rfl ((hR m O hm.siz).1 (hz.elim (fun h => absurd h.1 (bne0 e)) fun h => h.2))
  | true =>
    refine enter (n := 3) (np := 4) d_whole_relations rfl (by decide +kernel) rfl fun R hR => ?_
    refine VCall.mk 1 [0, 1, 2] hobb hd1 rfl rfl rfl ?_
    refine VReq.mk ⟨by decide, by decide, by decide⟩ (VReq.mk (Nat.zero_lt_succ _) fun M hM hA => VMul.mk (8 * (1 + M)) (.of_left (by decide)) rfl ?_)
    obtain ⟨wB, lW⟩ := wt_of hM hA l0 l1 l2
    refine VMul.of lW.bt l0.bt (VMul.of lW.bt l1.bt (VMul.of lW.bt l2.bt ?_))
    refine VCall.mk 2 [8, 11, 14, 17] (s_lll w 2 (Nat.le_refl _) (start_hd _ _ _ _ (lW.mul l0 (by decide : 30 + 26 ≤ 60)) (lW.mul l1 (by decide : 30 + 26 ≤ 60)) (lW.mul l2 (by decide : 30 + 26 ≤ 60)))) hd rfl rfl rfl fun m hm => ?_
    obtain ⟨O, hx, hy, hz⟩ := lll_out hm rfl wB
    refine VIf.mk (fun _ => ?_) fun e => absurd hx (bne0 e)
    refine VIf.mk (fun _ => ?_) fun e => absurd hy (bne0 e)
    refine VIf.mk (fun e => ?_) fun e => ?_
    · exact VRet.mk [0, 1, 2, 30, 27, 28, 29] (.ref 3) _ rfl rfl rfl rfl ((hR m O hm.siz).2 (hz.elim (fun h => h.2) fun h => absurd (beq0 e) h.1))
    · exact VRet.mk [0, 1, 2, 29, 27, 28] (.ref 3) _ rfl rfl rfl rfl ((hR m O hm.siz).1 (hz.elim (fun h => absurd h.1 (bne0 e)) fun h => h.2))
end
section
noncomputable def k_law_take : List (Str × NameKind) := [("box", .local), ("wide", .local), ("len", .globalImplicit), ("abs", .globalImplicit)]
noncomputable def o_law_take : List Str := ["box", "wide"]
noncomputable def p_law_take : List Str := ["box", "wide"]
noncomputable def i_law_take (n : Nat) : IS := (.cons (.ite (.cmp .gt (.bfn .slen (.sub (.loc 0 (nat_lit 115451674136590)) (.int 0 (nat_lit 115452747878416)) (nat_lit 115451674136593)) (nat_lit 115450600394770) (nat_lit 115450600394762)) (.int 0 (nat_lit 115454358491158)) (nat_lit 115450600394774)) (.cons (.ret (.bin .mod (.bfn .abs (.pop (.sub (.loc 0 (nat_lit 116553333252118)) (.int 0 (nat_lit 116554406993944)) (nat_lit 116553333252121)) (nat_lit 116553333252128) (nat_lit 116553333252125) (nat_lit 116556286042143)) (nat_lit 116552259510305) (nat_lit 116552259510290)) (.loc 1 (nat_lit 116557896654888)) (nat_lit 116552259510312)) (nat_lit 116550380462120)) .nil) .nil (nat_lit 115449795092520)) (.cons (.asg (.sub (.loc 0 (nat_lit 117648818352135)) (.int 1 (nat_lit 117649892093961)) (nat_lit 117648818352138)) (.bin .mod (.bin .add (.bin .mul (.sub (.loc 0 (nat_lit 117651502706705)) (.int 1 (nat_lit 117652576448531)) (nat_lit 117651502706708)) (.int 48271 (nat_lit 117653918625820)) (nat_lit 117651502706716)) (.int 17 (nat_lit 117656066109473)) (nat_lit 117651502706721)) (.int 2147483647 (nat_lit 117657676722223)) (nat_lit 117651234271279)) (nat_lit 117648818352175)) (.cons (.ret (.bin .mod (.bin .div (.sub (.loc 0 (nat_lit 118750209032206)) (.int 1 (nat_lit 118751282774032)) (nat_lit 118750209032209)) (.int 8 (nat_lit 118752893386774)) (nat_lit 118750209032214)) (.loc 1 (nat_lit 118753967128605)) (nat_lit 118750209032221)) (nat_lit 118748329984029)) .nil)))
theorem d_law_take (n : Nat) : Def 137 p_law_take k_law_take (rdS (i_law_take n) (SE.of k_law_take o_law_take n)).l := ⟨fun w => ⟨⟨_, _, _, _, _, _, _, _, _, _, _, _, _, _⟩, by k_is, by k_is, fun vs h => by obtain ⟨a, b, rfl⟩ := len2 h; rfl⟩⟩

noncomputable def k_law_box : List (Str × NameKind) := [("script", .local), ("much", .local), ("seed", .local), ("stirred", .local), ("one", .local), ("list", .globalImplicit)]
noncomputable def o_law_box : List Str := ["script", "much", "seed", "stirred", "one"]
noncomputable def p_law_box : List Str := ["script", "much", "seed"]
noncomputable def i_law_box (n : Nat) : IS := (.cons (.asg (.loc 3 (nat_lit 120947353247755)) (.loc 2 (nat_lit 120950037602322)) (nat_lit 120947353247762)) (.cons (.fL (.loc 4 (nat_lit 122047938621451)) (.slB (.loc 0 (nat_lit 122049817669653)) (.loc 1 (nat_lit 122051965153307)) (nat_lit 122049817669660) (nat_lit 122051696717851)) (.cons (.asg (.loc 3 (nat_lit 123147450253327)) (.bin .mod (.bin .add (.bin .mul (.loc 3 (nat_lit 123150403043354)) (.int 31 (nat_lit 123153087397919)) (nat_lit 123150403043359)) (.loc 4 (nat_lit 123154429575205)) (nat_lit 123150403043365)) (.int 2147483647 (nat_lit 123156308623411)) (nat_lit 123150134607923)) (nat_lit 123147450253363)) .nil) (nat_lit 122046864883763)) (.cons (.ret (.lst (.cons (.bfn .list (.slB (.loc 0 (nat_lit 124249377804311)) (.loc 1 (nat_lit 124251525287965)) (nat_lit 124249377804318) (nat_lit 124251256852509)) (nat_lit 124248035627039) (nat_lit 124248035627024)) (.cons (.loc 3 (nat_lit 124253672771624)) .nil)) (nat_lit 124247767191593)) (nat_lit 124245888143401)) .nil)))
theorem d_law_box (n : Nat) : Def 144 p_law_box k_law_box (rdS (i_law_box n) (SE.of k_law_box o_law_box n)).l := ⟨fun w => ⟨⟨_, _, _, _, _, _, _, _, _, _, _, _, _, _⟩, by k_is, by k_is, fun vs h => by obtain ⟨a, b, c, rfl⟩ := len3 h; rfl⟩⟩

noncomputable def k_law_cross : List (Str × NameKind) := [("a", .local), ("b", .local)]
noncomputable def o_law_cross : List Str := ["a", "b"]
noncomputable def p_law_cross : List Str := ["a", "b"]
noncomputable def i_law_cross (n : Nat) : IS := (.cons (.ret (.lst (.cons (.bin .sub (.bin .mul (.sub (.loc 0 (nat_lit 136342663577613)) (.int 1 (nat_lit 136343200448527)) (nat_lit 136342663577616)) (.sub (.loc 1 (nat_lit 136344542625812)) (.int 2 (nat_lit 136345079496726)) (nat_lit 136344542625815)) (nat_lit 136342663577623)) (.bin .mul (.sub (.loc 0 (nat_lit 136346421674011)) (.int 2 (nat_lit 136346958544925)) (nat_lit 136346421674014)) (.sub (.loc 1 (nat_lit 136348300722210)) (.int 1 (nat_lit 136348837593124)) (nat_lit 136348300722213)) (nat_lit 136346421674021)) (nat_lit 136342663577637)) (.cons (.bin .sub (.bin .mul (.sub (.loc 0 (nat_lit 136349911334952)) (.int 2 (nat_lit 136350448205866)) (nat_lit 136349911334955)) (.sub (.loc 1 (nat_lit 136351790383151)) (.int 0 (nat_lit 136352327254065)) (nat_lit 136351790383154)) (nat_lit 136349911334962)) (.bin .mul (.sub (.loc 0 (nat_lit 136353669431350)) (.int 0 (nat_lit 136354206302264)) (nat_lit 136353669431353)) (.sub (.loc 1 (nat_lit 136355548479549)) (.int 2 (nat_lit 136356085350463)) (nat_lit 136355548479552)) (nat_lit 136353669431360)) (nat_lit 136349911334976)) (.cons (.bin .sub (.bin .mul (.sub (.loc 0 (nat_lit 136357159092291)) (.int 0 (nat_lit 136357695963205)) (nat_lit 136357159092294)) (.sub (.loc 1 (nat_lit 136359038140490)) (.int 1 (nat_lit 136359575011404)) (nat_lit 136359038140493)) (nat_lit 136357159092301)) (.bin .mul (.sub (.loc 0 (nat_lit 136360917188689)) (.int 1 (nat_lit 136361454059603)) (nat_lit 136360917188692)) (.sub (.loc 1 (nat_lit 136362796236888)) (.int 0 (nat_lit 136363333107802)) (nat_lit 136362796236891)) (nat_lit 136360917188699)) (nat_lit 136357159092315)) .nil))) (nat_lit 136342395142236)) (nat_lit 136340516094044)) .nil)
theorem d_law_cross (n : Nat) : Def 156 p_law_cross k_law_cross (rdS (i_law_cross n) (SE.of k_law_cross o_law_cross n)).l := ⟨fun w => ⟨⟨_, _, _, _, _, _, _, _, _, _, _, _, _, _⟩, by k_is, by k_is, fun vs h => by obtain ⟨a, b, rfl⟩ := len2 h; rfl⟩⟩

theorem few_mk {n : Nat} {P : Prop} (h : n ≤ 64) (p : P) : few n P := by unfold few; rw [Nat.ble_eq_true_of_le h]; exact p
theorem loopR_each {f : Nat → SV → SSt → (Option SV → SSt → Prop) → Prop} {k : Nat} {l : List Int} {I : SSt → Prop} {Q : Option SV → SSt → Prop} (hI : ∀ s, I s → s.led[k]? = some (.isq l)) (hs : ∀ i s x K, I s → (∀ s', I s' → K none s') → f i (.int x) s K) (hQ : ∀ s, I s → Q none s) : ∀ (n i : Nat) (s : SSt), i + n = l.length → I s → loopR f k n i s Q
  | 0, i, s, e, h => hQ s h
  | n + 1, i, s, e, h => by
    show opt s.led[k]? _
    rw [hI s h]
    show opt (l.map SV.int)[i]? _
    rw [List.getElem?_map, List.getElem?_eq_getElem (by omega)]
    exact hs i s _ _ h fun s' h' => loopR_each hI hs hQ n (i + 1) s' (by omega) h'
noncomputable def Mer : Int := 2147483647
noncomputable def Bx (seed : Int) (l : List Int) : List SO := [.lst [.ref 1, .int seed], .isq l]
structure BxOk (seed : Int) (l : List Int) : Prop where
  len : l.length ≤ 24
  lo : 0 ≤ seed
  hi : seed < 2147483647
theorem s_law_take (w : Scr) (d : Nat) {seed wide : Int} {l : List Int} (H : BxOk seed l) (hw : 0 < wide) (hl : wide ≤ 100) : SSpec w 137 d (Bx seed l) [.ref 0, .int wide]
    fun R => ∀ v seed' l', 0 ≤ v → v < wide → BxOk seed' l' → R (.int v) (Bx seed' l') := by
  obtain ⟨hlen, hlo, hhi⟩ := H
  refine enter (n := 2) (np := 2) d_law_take rfl (by decide +kernel) rfl fun R hR => ?_
  cases l with
  | nil =>
    refine VReq.mk (by decide) ?_
    refine VMul.mk _ (.of_right (by decide)) rfl (VMod.mk _ (by decide) rfl (VDiv.mk _ (by decide) (fdiv_ok (n := 4) (by decide) (by decide)) rfl (VMod.mk _ (by omega) rfl ?_)))
    exact VRet.mk [0, 1] (.int _) _ rfl rfl rfl rfl (hR _ _ _ (Int.fmod_nonneg_of_pos _ hw) (Int.fmod_lt_of_pos _ hw) ⟨hlen, Int.fmod_nonneg_of_pos _ (by decide), Int.fmod_lt_of_pos _ (by decide)⟩)
  | cons x l =>
    have hl2 : l.length ≤ 24 := by rw [List.length_cons] at hlen; omega
    refine VReq.mk (by rw [List.length_map]; exact Nat.le_trans hlen (by decide)) ?_
    refine VIf.mk (fun _ => ?_) fun e => absurd (of_decide_eq_false e) (by simp)
    refine VReq.mk (Nat.le_trans hl2 (by decide)) (VMod.mk _ (by omega) rfl ?_)
    exact VRet.mk [0, 1] (.int _) _ rfl rfl rfl rfl (hR _ _ _ (Int.fmod_nonneg_of_pos _ hw) (Int.fmod_lt_of_pos _ hw) ⟨hl2, hlo, hhi⟩)
theorem s_law_box (w : Scr) (d : Nat) : SSpec w 144 d [] [.base w.S, .int 24, .int 31] fun R => ∀ seed l, BxOk seed l → R (.ref 0) (Bx seed l) := by
  refine enter (n := 0) (np := 0) d_law_box rfl (by decide +kernel) rfl fun R hR => ?_
  have hl : (w.ns.take 24).length ≤ 24 := by rw [List.length_take]; exact Nat.min_le_left _ _
  refine VReq.mk rfl (few_mk (by rw [List.length_map]; exact Nat.le_trans hl (by decide)) ?_)
  refine loopR_each (I := fun s => ∃ v, (s = ⟨[some (.base w.S), some (.int 24), some (.int 31), some (.int v), none], [], [.isq (w.ns.take 24)]⟩ ∨ ∃ x, s = ⟨[some (.base w.S), some (.int 24), some (.int 31), some (.int v), some (.int x)], [], [.isq (w.ns.take 24)]⟩) ∧ 0 ≤ v ∧ v < 2147483647) ?_ ?_ ?_ _ 0 _ (by rw [Nat.zero_add, List.length_map]) ⟨31, .inl rfl, by decide, by decide⟩
  · rintro s ⟨v, rfl | ⟨x, rfl⟩, _⟩ <;> rfl
  · rintro i s x K ⟨v, rfl | ⟨x, rfl⟩, h1, h2⟩ hK <;> exact VMul.mk _ (.of_right (by decide)) rfl (VMod.mk _ (by decide) rfl (hK _ ⟨_, .inr ⟨_, rfl⟩, Int.fmod_nonneg_of_pos _ (by decide), Int.fmod_lt_of_pos _ (by decide)⟩))
  · rintro s ⟨v, rfl | ⟨x, rfl⟩, h1, h2⟩ <;> exact VReq.mk rfl (VReq.mk (Nat.le_trans hl (by decide)) (VRet.mk [3, 2] (.ref 0) _ rfl rfl rfl rfl (hR _ _ ⟨hl, h1, h2⟩)))
theorem s_law_cross (w : Scr) (d : Nat) {a0 a1 a2 b0 b1 b2 v0 v1 v2 : Int} (ha0 : Bt a0) (ha1 : Bt a1) (ha2 : Bt a2) (hb0 : Bt b0) (hb1 : Bt b1) (hb2 : Bt b2) (e0 : a1 * b2 - a2 * b1 = v0) (e1 : a2 * b0 - a0 * b2 = v1) (e2 : a0 * b1 - a1 * b0 = v2) :
    SSpec w 156 d [.lst [.int a0, .int a1, .int a2], .lst [.int b0, .int b1, .int b2]] [.ref 0, .ref 1] fun R => R (.ref 2) [.lst [.int a0, .int a1, .int a2], .lst [.int b0, .int b1, .int b2], .lst [.int v0, .int v1, .int v2]] := by
  subst e0 e1 e2
  refine enter (n := 2) (np := 2) d_law_cross rfl (by decide +kernel) rfl fun R hR => ?_
  exact VMul.of ha1 hb2 (VMul.of ha2 hb1 (VMul.of ha2 hb0 (VMul.of ha0 hb2 (VMul.of ha0 hb1 (VMul.of ha1 hb0 (VRet.mk [0, 1, 2] (.ref 2) _ rfl rfl rfl rfl hR))))))
end
section
noncomputable def k_law_drawn : List (Str × NameKind) := [("box", .cell), ("some", .local), ("form", .local), ("one", .local), ("other", .local), ("range", .globalImplicit), ("_law_take", .globalImplicit), ("R0", .globalImplicit), ("radd", .globalImplicit), ("rmul", .globalImplicit), ("rat", .globalImplicit)]
noncomputable def o_law_drawn : List Str := ["some", "form", "one", "other"]
noncomputable def p_law_drawn : List Str := ["box"]
noncomputable def i_law_drawn (n : Nat) : IS := (.cons (.asR 0 (.call "rat" 116 (.cons (.call "_law_take" 137 (.cons (.cel 0 (n + 0) (nat_lit 126450816987165)) (.cons (.int 25 (nat_lit 126452159164449)) .nil)) (nat_lit 126448132632610) (nat_lit 126448132632601)) (.cons (.bin .add (.int 1 (nat_lit 126453501341733)) (.call "_law_take" 137 (.cons (.cel 0 (n + 0) (nat_lit 126457259438133)) (.cons (.int 5 (nat_lit 126458601615416)) .nil)) (nat_lit 126454575083577) (nat_lit 126454575083569)) (nat_lit 126453501341753)) .nil)) (nat_lit 126447058890810) (nat_lit 126447058890767)) (.int 2 (nat_lit 126464507195470)) "turn" [(".0", .local), ("turn", .local), ("rat", .globalImplicit), ("_law_take", .globalImplicit), ("box", .free)] (nat_lit 126446790455376) (nat_lit 126460749099075) (nat_lit 126462896582732) (nat_lit 126462896582735) (nat_lit 126444911407112) (nat_lit 126444911407184)) (.cons (.asg (.loc 1 (nat_lit 127544423038984)) (.call "_law_take" 137 (.cons (.cel 0 (n + 0) (nat_lit 127548986441752)) (.cons (.int 4 (nat_lit 127550328619035)) .nil)) (nat_lit 127546302087196) (nat_lit 127546302087188)) (nat_lit 127544423039004)) (.cons (.ite (.cmp .eq (.loc 1 (nat_lit 128644739977227)) (.int 0 (nat_lit 128646887460880)) (nat_lit 128644739977232)) (.cons (.ret (.bin .add (.loc 0 (nat_lit 129746399092755)) (.lst (.cons (.glb "R0" 109 (nat_lit 129748546576409)) .nil) (nat_lit 129748278140954)) (nat_lit 129746399092762)) (nat_lit 129744520044570)) .nil) .nil (nat_lit 128643934674970)) (.cons (.ite (.cmp .eq (.loc 1 (nat_lit 130843763240971)) (.int 1 (nat_lit 130845910724624)) (nat_lit 130843763240976)) (.cons (.asS 2 3 (.bin .sub (.call "_law_take" 137 (.cons (.cel 0 (n + 0) (nat_lit 131949985759267)) (.cons (.int 5 (nat_lit 131951327936550)) .nil)) (nat_lit 131947301404711) (nat_lit 131947301404703)) (.int 2 (nat_lit 131952670113835)) (nat_lit 131947301404715)) (.bin .sub (.call "_law_take" 137 (.cons (.cel 0 (n + 0) (nat_lit 131956159774778)) (.cons (.int 5 (nat_lit 131957501952061)) .nil)) (nat_lit 131953475420222) (nat_lit 131953475420214)) (.int 2 (nat_lit 131958844129346)) (nat_lit 131953475420226)) (nat_lit 131943543308299) (nat_lit 131944885485586) (nat_lit 131943543308306) (nat_lit 131947032969283) (nat_lit 131943543308355)) (.cons (.ret (.bin .add (.loc 0 (nat_lit 133044933988371)) (.lst (.cons (.call "radd" 123 (.cons (.call "rmul" 130 (.cons (.call "rat" 116 (.cons (.loc 2 (nat_lit 133050839568424)) (.cons (.int 1 (nat_lit 133052181745707)) .nil)) (nat_lit 133049765826604) (nat_lit 133049765826596)) (.cons (.sub (.loc 0 (nat_lit 133053255487538)) (.int 0 (nat_lit 133054597664820)) (nat_lit 133053255487541)) .nil)) (nat_lit 133048423649334) (nat_lit 133048423649312)) (.cons (.call "rmul" 130 (.cons (.call "rat" 116 (.cons (.loc 3 (nat_lit 133058355761222)) (.cons (.int 1 (nat_lit 133060234809417)) .nil)) (nat_lit 133057282019402) (nat_lit 133057282019392)) (.cons (.sub (.loc 0 (nat_lit 133061308551248)) (.int 1 (nat_lit 133062650728530)) (nat_lit 133061308551251)) .nil)) (nat_lit 133055939842132) (nat_lit 133055939842108)) .nil)) (nat_lit 133047081472085) (nat_lit 133047081472027)) .nil) (nat_lit 133046813036630)) (nat_lit 133044933988438)) (nat_lit 133043054940246)) .nil)) .nil (nat_lit 130842957942870)) (.cons (.ret (.bin .add (.loc 0 (nat_lit 134143371878415)) (.lst (.cons (.call "rat" 116 (.cons (.bin .sub (.call "_law_take" 137 (.cons (.cel 0 (n + 0) (nat_lit 134149277458468)) (.cons (.int 41 (nat_lit 134150619635752)) .nil)) (nat_lit 134146593103913) (nat_lit 134146593103904)) (.int 20 (nat_lit 134152230248494)) (nat_lit 134146593103918)) (.cons (.bin .add (.int 1 (nat_lit 134153303990321)) (.call "_law_take" 137 (.cons (.cel 0 (n + 0) (nat_lit 134157062086721)) (.cons (.int 6 (nat_lit 134158404264004)) .nil)) (nat_lit 134154377732165) (nat_lit 134154377732157)) (nat_lit 134153303990341)) .nil)) (nat_lit 134145519362118) (nat_lit 134145519362070)) .nil) (nat_lit 134145250926663)) (nat_lit 134143371878471)) (nat_lit 134141492830279)) .nil)))))
theorem d_law_drawn (n : Nat) : Def 149 p_law_drawn k_law_drawn (rdS (i_law_drawn n) (SE.of k_law_drawn o_law_drawn n)).l := ⟨fun w => ⟨⟨_, _, _, _, _, _, _, _, _, _, _, _, _, _⟩, by k_is, by k_is, fun vs h => by obtain ⟨a, rfl⟩ := len1 h; rfl⟩⟩

noncomputable def k_law_is_made : List (Str × NameKind) := [("rows", .local), ("told", .local), ("one", .local), ("other", .local), ("both", .cell), ("row", .cell), ("shares", .cell), ("_law_cross", .globalImplicit), ("range", .globalImplicit)]
noncomputable def o_law_is_made : List Str := ["rows", "told", "one", "other"]
noncomputable def p_law_is_made : List Str := ["rows", "told"]
noncomputable def i_mif (n : Nat) : IS := (.cons (.ite (.or (.cons (.cmp .ne (.cT (.loc 0 (nat_lit 142939733368849)) .ne (.loc 0 (nat_lit 142947517997102)) (.sub (.cel 2 (n + 2) (nat_lit 142949933916216)) (.int 0 (nat_lit 142951812964410)) (nat_lit 142949933916219)) (.cel 2 (n + 2) (nat_lit 142944833642533)) "share" [(".0", .local), ("share", .local), ("shares", .free)] (nat_lit 142939464933436) (nat_lit 142942417723419) (nat_lit 142947517997115)) (.lst .nil (nat_lit 142953692012610)) (nat_lit 142939464933442)) (.cons (.cmp .ne (.cel 1 (n + 1) (nat_lit 142955302625353)) (.cL (.bin .mul (.sub (.cel 2 (n + 2) (nat_lit 142957450109012)) (.int 0 (nat_lit 142959329157206)) (nat_lit 142957450109015)) (.loc 0 (nat_lit 142960671334496)) (nat_lit 142957450109024)) (.cel 0 (n + 0) (nat_lit 142966308479091)) "number" [(".0", .local), ("number", .local), ("shares", .free)] (nat_lit 142957181673588) (nat_lit 142963624124523)) (nat_lit 142955302625396)) .nil)) (nat_lit 142939464933492)) (.cons (.ret (.tt false (nat_lit 144041124048920)) (nat_lit 144039245000728)) .nil) .nil (nat_lit 142938659631128)) .nil)
noncomputable def i_mb (n : Nat) : IS := (.cons (.asg (.cel 2 (n + 2) (nat_lit 141839147995150)) (.cRT (.bin .div (.sub (.cel 1 (n + 1) (nat_lit 141841832349717)) (.loc 0 (nat_lit 141842906091544)) (nat_lit 141841832349721)) (.sub (.cel 0 (n + 0) (nat_lit 141844785139745)) (.loc 0 (nat_lit 141846127317028)) (nat_lit 141844785139749)) (nat_lit 141841832349733)) .ne (.sub (.cel 0 (n + 0) (nat_lit 141853106638912)) (.loc 0 (nat_lit 141854448816195)) (nat_lit 141853106638916)) (.int 0 (nat_lit 141856327864393)) (.int 3 (nat_lit 141851496026167)) "at" [(".0", .local), ("at", .local), ("both", .free), ("row", .free)] (nat_lit 141841563914314) (nat_lit 141848274800684) (nat_lit 141849885413429) (nat_lit 141849885413432) (nat_lit 141853106638921)) (nat_lit 141839147995210)) (i_mif n))
noncomputable def i_law_is_made (n : Nat) : IS := (.cons (.asS 2 3 (.call "_law_cross" 156 (.cons (.loc 1 (nat_lit 138546250244129)) (.cons (.sub (.loc 0 (nat_lit 138547860856871)) (.int 1 (nat_lit 138549203034153)) (nat_lit 138547860856874)) .nil)) (nat_lit 138543297454123) (nat_lit 138543297454108)) (.call "_law_cross" 156 (.cons (.sub (.loc 0 (nat_lit 138553498001468)) (.int 0 (nat_lit 138554840178750)) (nat_lit 138553498001471)) (.cons (.loc 1 (nat_lit 138555913920581)) .nil)) (nat_lit 138550545211462) (nat_lit 138550545211447)) (nat_lit 138539539357703) (nat_lit 138540881534990) (nat_lit 138539539357710) (nat_lit 138543029018695) (nat_lit 138539539357767)) (.cons (.asg (.cel 0 (n + 0) (nat_lit 139639050989576)) (.call "_law_cross" 156 (.cons (.sub (.loc 0 (nat_lit 139643882827802)) (.int 0 (nat_lit 139645225005084)) (nat_lit 139643882827805)) (.cons (.sub (.loc 0 (nat_lit 139646298746915)) (.int 1 (nat_lit 139647640924197)) (nat_lit 139646298746918)) .nil)) (nat_lit 139640930037799) (nat_lit 139640930037781)) (nat_lit 139639050989607)) (.cons (.fL (.cel 1 (n + 1) (nat_lit 140739636363275)) (.tup (.cons (.loc 2 (nat_lit 140741783846931)) (.cons (.loc 3 (nat_lit 140743126024218)) .nil)) (nat_lit 140741515411483)) (.gcc (i_mb n)) (nat_lit 140738562633752)) (.cons (.ret (.tt true (nat_lit 145138488197135)) (nat_lit 145136609148943)) .nil))))
theorem d_law_is_made (n : Nat) : Def 161 p_law_is_made k_law_is_made (rdS (i_law_is_made n) (SE.of k_law_is_made o_law_is_made n)).l := ⟨fun w => ⟨⟨_, _, _, _, _, _, _, _, _, _, _, _, _, _⟩, by k_is, by k_is, fun vs h => by obtain ⟨a, b, rfl⟩ := len2 h; rfl⟩⟩

theorem rat_le {a b x y : Int} {i j : Nat} (r : RatOf a b x y) (la : Le a i) (lb : Le b j) : Le x i ∧ Le y j ∧ 0 < y :=
  ⟨Le.abs.mpr (Nat.le_trans r.abs (Le.abs.mp la)), Le.of (Int.le_of_lt r.pos) (Int.le_trans r.le lb.2), r.pos⟩
noncomputable def Dr (k : Bool) (x0 y0 x1 y1 x2 y2 : Int) : List SO := match k with
  | true => [.lst [.ref 3, .ref 4, .base 109], T1 x0 y0, T1 x1 y1]
  | false => [.lst [.ref 3, .ref 4, .ref 5], T1 x0 y0, T1 x1 y1, T1 x2 y2]
theorem le_lit {x : Int} {n : Nat} (h0 : -2 ^ n ≤ x) (h1 : x ≤ 2 ^ n) : Le x n := ⟨h0, h1⟩
set_option maxHeartbeats 4000000 in
theorem s_law_drawn (w : Scr) (d : Nat) (hd : 3 ≤ d) {seed : Int} {l : List Int} (H : BxOk seed l) : SSpec w 149 d (Bx seed l) [.ref 0]
    fun R => ∀ k x0 y0 x1 y1 x2 y2 seed' l', Small k x0 y0 x1 y1 x2 y2 → R (.ref 2) (Bx seed' l' ++ Dr k x0 y0 x1 y1 x2 y2) := by
  refine enter (n := 2) (np := 3) d_law_drawn rfl (by decide +kernel) rfl fun R hR => ?_
  have hd1 : 1 ≤ d := by omega
  have hd2 : 2 ≤ d := by omega
  refine VCall.mk 0 [0, 1] (s_law_take w 0 H (by decide) (by decide)) hd1 rfl rfl rfl fun v0 _ _ a0 b0 H => ?_
  refine VCall.mk 0 [0, 1] (s_law_take w 0 H (by decide) (by decide)) hd1 rfl rfl rfl fun u0 _ _ c0 e0 H => ?_
  refine VCall.mk 1 [] (s_rat w 1 (Nat.le_refl _) (by omega) (le_lit (x := 1 + u0) (n := 3) (by omega) (by omega)).bt) hd2 rfl rfl rfl fun x0 y0 r0 => ?_
  refine VCall.mk 0 [0, 1] (s_law_take w 0 H (by decide) (by decide)) hd1 rfl rfl rfl fun v1 _ _ a1 b1 H => ?_
  refine VCall.mk 0 [0, 1] (s_law_take w 0 H (by decide) (by decide)) hd1 rfl rfl rfl fun u1 _ _ c1 e1 H => ?_
  refine VCall.mk 1 [] (s_rat w 1 (Nat.le_refl _) (by omega) (le_lit (x := 1 + u1) (n := 3) (by omega) (by omega)).bt) hd2 rfl rfl rfl fun x1 y1 r1 => ?_
  have B0 := rat_le r0 (le_lit (n := 5) (by omega) (by omega)) (le_lit (n := 3) (by omega) (by omega))
  have B1 := rat_le r1 (le_lit (n := 5) (by omega) (by omega)) (le_lit (n := 3) (by omega) (by omega))
  refine VCall.mk 0 [0, 1] (s_law_take w 0 H (by decide) (by decide)) hd1 rfl rfl rfl fun form s l a2 b2 H => ?_
  refine VIf.mk (fun _ => ?_) fun _ => VIf.mk (fun _ => ?_) fun _ => ?_
  · exact VRet.mk [0, 1, 7, 3, 4] (.ref 2) _ rfl rfl rfl rfl (hR true _ _ _ _ 0 1 _ _ ⟨B0, B1, ⟨le_lit (by decide) (by decide), le_lit (by decide) (by decide), by decide⟩, fun _ => ⟨rfl, rfl⟩⟩)
  · refine VCall.mk 0 [0, 1] (s_law_take w 0 H (by decide) (by decide)) hd1 rfl rfl rfl fun v2 _ _ a2 b2 H => ?_
    refine VCall.mk 0 [0, 1] (s_law_take w 0 H (by decide) (by decide)) hd1 rfl rfl rfl fun v3 _ _ a3 b3 H => ?_
    refine VCall.mk 1 [] (s_rat w 1 (Nat.le_refl _) (by decide) le1.bt) hd2 rfl rfl rfl fun x2 y2 r2 => ?_
    have B2 := rat_le r2 (le_lit (x := v2 - 2) (n := 1) (by omega) (by omega)) le1
    refine VCall.mk 2 [7, 3] (s_rmulTT w 2 (Nat.le_refl _) (B2.1.mono (by decide)) (B2.2.1.mono (by decide)) (B0.1.mono (by decide)) (B0.2.1.mono (by decide)) B2.2.2 B0.2.2) hd rfl rfl rfl fun p0 q0 m0 => ?_
    refine VCall.mk 1 [] (s_rat w 1 (Nat.le_refl _) (by decide) le1.bt) hd2 rfl rfl rfl fun x3 y3 r3 => ?_
    have B3 := rat_le r3 (le_lit (x := v3 - 2) (n := 1) (by omega) (by omega)) le1
    refine VCall.mk 2 [9, 4] (s_rmulTT w 2 (Nat.le_refl _) (B3.1.mono (by decide)) (B3.2.1.mono (by decide)) (B1.1.mono (by decide)) (B1.2.1.mono (by decide)) B3.2.2 B1.2.2) hd rfl rfl rfl fun p1 q1 m1 => ?_
    have C0 := rat_le m0 (B2.1.mul B0.1 (Nat.le_refl (1 + 5))) (B2.2.1.mul B0.2.1 (Nat.le_refl (0 + 3)))
    have C1 := rat_le m1 (B3.1.mul B1.1 (Nat.le_refl (1 + 5))) (B3.2.1.mul B1.2.1 (Nat.le_refl (0 + 3)))
    refine VCall.mk 2 [8, 10] (s_raddTT w 2 (Nat.le_refl _) (C0.1.mono (by decide)) (C0.2.1.mono (by decide)) (C1.1.mono (by decide)) (C1.2.1.mono (by decide)) C0.2.2 C1.2.2) hd rfl rfl rfl fun x4 y4 r4 => ?_
    have C2 := rat_le r4 ((C0.1.mul C1.2.1 (Nat.le_refl _)).add (C1.1.mul C0.2.1 (Nat.le_refl _)) (by decide) (by decide) : Le _ 10) (C0.2.1.mul C1.2.1 (Nat.le_refl (3 + 3)))
    exact VRet.mk [0, 1, 13, 3, 4, 11] (.ref 2) _ rfl rfl rfl rfl (hR false _ _ _ _ _ _ _ _ ⟨B0, B1, C2, nofun⟩)
  · refine VCall.mk 0 [0, 1] (s_law_take w 0 H (by decide) (by decide)) hd1 rfl rfl rfl fun v2 _ _ a2 b2 H => ?_
    refine VCall.mk 0 [0, 1] (s_law_take w 0 H (by decide) (by decide)) hd1 rfl rfl rfl fun u2 _ _ c2 e2 H => ?_
    refine VCall.mk 1 [] (s_rat w 1 (Nat.le_refl _) (by omega) (le_lit (x := 1 + u2) (n := 3) (by omega) (by omega)).bt) hd2 rfl rfl rfl fun x2 y2 r2 => ?_
    have B2 := rat_le r2 (le_lit (n := 5) (by omega) (by omega)) (le_lit (n := 3) (by omega) (by omega))
    exact VRet.mk [0, 1, 8, 3, 4, 6] (.ref 2) _ rfl rfl rfl rfl (hR false _ _ _ _ _ _ _ _ ⟨B0, B1, ⟨B2.1.mono (by decide), B2.2.1.mono (by decide), B2.2.2⟩, nofun⟩)
theorem frcN_mk : ∀ {n : Nat} {K : Nat → Prop}, K n → frcN n K
  | 0, _, h => h
  | n + 1, K, h => frcN_mk (n := n) (K := fun m => K (Nat.succ m)) h
theorem frcV_mk {v : SV} {K : SV → Prop} (h : K v) : frcV v K := by
  cases v with
  | ref k => exact frcN_mk (K := fun k => K (.ref k)) h
  | _ => exact h
theorem frcVs_mk : ∀ {l : List SV} {K : List SV → Prop}, K l → frcVs l K
  | [], _, h => h
  | _ :: l, _, h => frcV_mk (frcVs_mk (l := l) h)
theorem frcOV_mk {v : Option SV} {K : Option SV → Prop} (h : K v) : frcOV v K := by cases v with | none => exact h | some v => exact frcV_mk (K := fun v => K (some v)) h
theorem frcO_mk {o : SO} {K : SO → Prop} (h : K o) : frcO o K := by
  cases o with
  | lst l => exact frcVs_mk h
  | tup l => exact frcVs_mk h
  | cell v => exact frcOV_mk (K := fun v => K (.cell v)) h
  | isq l => exact h
theorem frcLd_mk : ∀ {l : List SO} {K : List SO → Prop}, K l → frcLd l K
  | [], _, h => h
  | _ :: l, _, h => frcO_mk (frcLd_mk (l := l) h)
theorem frcVr_mk : ∀ {l : List (Option SV)} {K : List (Option SV) → Prop}, K l → frcVr l K
  | [], _, h => h
  | _ :: l, _, h => frcOV_mk (frcVr_mk (l := l) h)
theorem frcS_mk {s : SSt} {K : SSt → Prop} (h : K s) : frcS s K := frcVr_mk (frcVs_mk (frcLd_mk h))
theorem vs_cons {a r : IS} {d : Md} {st : SSt} {Q : Option SV → SSt → Prop} (h : vs a d st fun o s1 => nxt o (frcS s1 fun s1 => vs r d s1 Q) fun v => Q (some v) s1) : vs (.cons a r) d st Q := h
theorem nxt_frc {r : IS} {d : Md} {st : SSt} {Q : Option SV → SSt → Prop} (h : vs r d st Q) : nxt none (frcS st fun s1 => vs r d s1 Q) (fun v => Q (some v) st) := frcS_mk (K := fun s1 => vs r d s1 Q) h
theorem nxt_none {P : Prop} {K : SV → Prop} (h : P) : nxt none P K := h
theorem loopR_end {f : Nat → SV → SSt → (Option SV → SSt → Prop) → Prop} {k i : Nat} {st : SSt} {Q : Option SV → SSt → Prop} (h : Q none st) : loopR f k 0 i st Q := h
theorem fd {m k v : Int} (h : m * k = v) (hk : k ≠ 0) : v.fdiv k = m := by rw [← h]; exact Int.mul_fdiv_cancel _ hk
theorem VIf.no {P Q : Prop} (h : Q) : VIf false P Q := h
theorem VIf.next {d : Md} {s : SSt} {K : Bool → SSt → Prop} (h : K false s) : vt .nil d s K := h
theorem ne_no {m : Int} {P : Prop} (e : (m != m) = true) : P := absurd e (by simp)
theorem nd_no {l : List Int} {P : Prop} (e : (!decide (l = l)) = true) : P := absurd e (by simp)
theorem bz {k : Int} (e : (k != 0) = false) : k = 0 := by simpa using e
theorem nz {k : Int} (e : (k != 0) = true) : k ≠ 0 := by simpa using e
abbrev i3 (a b c : Int) : SO := .lst [.int a, .int b, .int c]
/-- the objects at the head of a turn of the loop: the row at 7, both at 8 -/
abbrev mled (o0 o1 o2 o3 : SO) (x6 : Option SV) (x9 x10 o11 r b : SO) : List SO := [o0, o1, o2, o3, .cell (some (.ref 8)), .cell (some (.ref 7)), .cell x6, r, b, x9, x10, o11]
abbrev mst (v : List (Option SV)) (l : List SO) : SSt := ⟨v, [], l⟩
section
variable {w : Scr} {dd : Nat} {o0 o1 o2 o3 x9 x10 o11 : SO} {x6 : Option SV} {v0 v1 v2 v3 : Option SV} {k0 k1 k2 m a0 a1 a2 : Int} {K : Option SV → SSt → Prop} (lm : Bt m) (lk0 : Bt k0) (lk1 : Bt k1) (lk2 : Bt k2) (f0 : m * k0 = a0) (f1 : m * k1 = a1) (f2 : m * k2 = a2)
  (k : ∀ s l9, (∀ τ, SO.ren τ (.lst s) = .lst s) → K none ⟨[v0, v1, v2, v3], [], mled o0 o1 o2 o3 (some (.ref 12)) x9 x10 o11 (i3 a0 a1 a2) (i3 k0 k1 k2) ++ (SO.lst s :: l9)⟩)
include lm lk0 lk1 lk2 f0 f1 f2 k
theorem made_if1 : vs (i_mif 4) ⟨w, dd, [11], false, 7⟩ ⟨[v0, v1, v2, v3], [], mled o0 o1 o2 o3 (some (.ref 12)) x9 x10 o11 (i3 a0 a1 a2) (i3 k0 k1 k2) ++ [.lst [.int m]]⟩ K := by
  refine VIf.mk (fun e => ne_no e) fun _ => ?_
  refine VMul.mk a0 (mok lm lk0) f0.symm (VMul.mk a1 (mok lm lk1) f1.symm (VMul.mk a2 (mok lm lk2) f2.symm (VIf.mk (fun e => nd_no e) fun _ => VIf.next (VIf.no ?_))))
  exact nxt_frc (r := .nil) (k [.int m] [.lst [], .lst [], i3 a0 a1 a2] fun _ => rfl)
theorem made_if2 : vs (i_mif 4) ⟨w, dd, [11], false, 7⟩ ⟨[v0, v1, v2, v3], [], mled o0 o1 o2 o3 (some (.ref 12)) x9 x10 o11 (i3 a0 a1 a2) (i3 k0 k1 k2) ++ [.lst [.int m, .int m]]⟩ K := by
  refine VIf.mk (fun e => ne_no e) fun _ => ?_
  refine VIf.mk (fun e => ne_no e) fun _ => ?_
  refine VMul.mk a0 (mok lm lk0) f0.symm (VMul.mk a1 (mok lm lk1) f1.symm (VMul.mk a2 (mok lm lk2) f2.symm (VIf.mk (fun e => nd_no e) fun _ => VIf.next (VIf.no ?_))))
  exact nxt_frc (r := .nil) (k [.int m, .int m] [.lst [], .lst [], i3 a0 a1 a2] fun _ => rfl)
theorem made_if3 : vs (i_mif 4) ⟨w, dd, [11], false, 7⟩ ⟨[v0, v1, v2, v3], [], mled o0 o1 o2 o3 (some (.ref 12)) x9 x10 o11 (i3 a0 a1 a2) (i3 k0 k1 k2) ++ [i3 m m m]⟩ K := by
  refine VIf.mk (fun e => ne_no e) fun _ => ?_
  refine VIf.mk (fun e => ne_no e) fun _ => ?_
  refine VIf.mk (fun e => ne_no e) fun _ => ?_
  refine VMul.mk a0 (mok lm lk0) f0.symm (VMul.mk a1 (mok lm lk1) f1.symm (VMul.mk a2 (mok lm lk2) f2.symm (VIf.mk (fun e => nd_no e) fun _ => VIf.next (VIf.no ?_))))
  exact nxt_frc (r := .nil) (k [.int m, .int m, .int m] [.lst [], .lst [], i3 a0 a1 a2] fun _ => rfl)
theorem made_turn (hne : k0 ≠ 0 ∨ k1 ≠ 0 ∨ k2 ≠ 0) : vs (i_mb 4) ⟨w, dd, [11], false, 7⟩ ⟨[v0, v1, v2, v3], [], mled o0 o1 o2 o3 x6 x9 x10 o11 (i3 a0 a1 a2) (i3 k0 k1 k2)⟩ K := by
  refine VIf.mk (fun e0 => VDiv.of (nz e0) lk0 (fd f0 (nz e0)) (VIf.mk (fun e1 => VDiv.of (nz e1) lk1 (fd f1 (nz e1)) (VIf.mk (fun e2 => VDiv.of (nz e2) lk2 (fd f2 (nz e2)) ?_) fun e2 => ?_)) fun e1 => VIf.mk (fun e2 => VDiv.of (nz e2) lk2 (fd f2 (nz e2)) ?_) fun e2 => ?_))
    fun e0 => VIf.mk (fun e1 => VDiv.of (nz e1) lk1 (fd f1 (nz e1)) (VIf.mk (fun e2 => VDiv.of (nz e2) lk2 (fd f2 (nz e2)) ?_) fun e2 => ?_)) fun e1 => VIf.mk (fun e2 => VDiv.of (nz e2) lk2 (fd f2 (nz e2)) ?_) fun e2 => ?_
  · exact frcS_mk (K := fun s1 => vs (i_mif 4) ⟨w, dd, [11], false, 7⟩ s1 K) (made_if3 lm lk0 lk1 lk2 f0 f1 f2 k)
  · exact frcS_mk (K := fun s1 => vs (i_mif 4) ⟨w, dd, [11], false, 7⟩ s1 K) (made_if2 lm lk0 lk1 lk2 f0 f1 f2 k)
  · exact frcS_mk (K := fun s1 => vs (i_mif 4) ⟨w, dd, [11], false, 7⟩ s1 K) (made_if2 lm lk0 lk1 lk2 f0 f1 f2 k)
  · exact frcS_mk (K := fun s1 => vs (i_mif 4) ⟨w, dd, [11], false, 7⟩ s1 K) (made_if1 lm lk0 lk1 lk2 f0 f1 f2 k)
  · exact frcS_mk (K := fun s1 => vs (i_mif 4) ⟨w, dd, [11], false, 7⟩ s1 K) (made_if2 lm lk0 lk1 lk2 f0 f1 f2 k)
  · exact frcS_mk (K := fun s1 => vs (i_mif 4) ⟨w, dd, [11], false, 7⟩ s1 K) (made_if1 lm lk0 lk1 lk2 f0 f1 f2 k)
  · exact frcS_mk (K := fun s1 => vs (i_mif 4) ⟨w, dd, [11], false, 7⟩ s1 K) (made_if1 lm lk0 lk1 lk2 f0 f1 f2 k)
  · exact hne.elim (absurd (bz e0)) fun h => h.elim (absurd (bz e1)) (absurd (bz e2))
end
set_option maxHeartbeats 4000000 in
theorem s_law_is_made (w : Scr) (d : Nat) (hd : 1 ≤ d) {a0 a1 a2 b0 b1 b2 t0 t1 t2 m1 m2 v0 v1 v2 w0 w1 w2 k0 k1 k2 : Int}
   (la0 : Bt a0) (la1 : Bt a1) (la2 : Bt a2) (lb0 : Bt b0) (lb1 : Bt b1) (lb2 : Bt b2) (lt0 : Bt t0) (lt1 : Bt t1) (lt2 : Bt t2) (lk0 : Bt k0) (lk1 : Bt k1) (lk2 : Bt k2) (lm1 : Bt m1) (lm2 : Bt m2)
   (ev0 : t1*b2 - t2*b1 = v0) (ev1 : t2*b0 - t0*b2 = v1) (ev2 : t0*b1 - t1*b0 = v2) (ew0 : a1*t2 - a2*t1 = w0) (ew1 : a2*t0 - a0*t2 = w1) (ew2 : a0*t1 - a1*t0 = w2) (ek0 : a1*b2 - a2*b1 = k0) (ek1 : a2*b0 - a0*b2 = k1) (ek2 : a0*b1 - a1*b0 = k2)
   (f0 : m1 * k0 = v0) (f1 : m1 * k1 = v1) (f2 : m1 * k2 = v2) (g0 : m2 * k0 = w0) (g1 : m2 * k1 = w1) (g2 : m2 * k2 = w2) (hne : k0 ≠ 0 ∨ k1 ≠ 0 ∨ k2 ≠ 0) :
   SSpec w 161 d [.lst [.ref 1, .ref 2], i3 a0 a1 a2, i3 b0 b1 b2, i3 t0 t1 t2] [.ref 0, .ref 3] fun R => R (.bool true) [.lst [.ref 1, .ref 2], i3 a0 a1 a2, i3 b0 b1 b2, i3 t0 t1 t2] := by
  refine enter (n := 4) (np := 7) d_law_is_made rfl (by decide +kernel) rfl fun R hR => ?_
  refine VCall.mk 0 [3, 2] (s_law_cross w 0 lt0 lt1 lt2 lb0 lb1 lb2 ev0 ev1 ev2) hd rfl rfl rfl ?_
  refine VCall.mk 0 [1, 3] (s_law_cross w 0 la0 la1 la2 lt0 lt1 lt2 ew0 ew1 ew2) hd rfl rfl rfl ?_
  refine VCall.mk 0 [1, 2] (s_law_cross w 0 la0 la1 la2 lb0 lb1 lb2 ek0 ek1 ek2) hd rfl rfl rfl ?_
  refine VGc.mk (mst [some (.ref 0), some (.ref 3), some (.ref 7), some (.ref 9)] (mled (.lst [.ref 1, .ref 2]) (i3 a0 a1 a2) (i3 b0 b1 b2) (i3 t0 t1 t2) none (i3 w0 w1 w2) (.tup [.ref 7, .ref 9]) (.tup [.ref 7, .ref 9]) (i3 v0 v1 v2) (i3 k0 k1 k2))) (RenTo.mk [0, 1, 2, 3, 4, 5, 6, 7, 10, 8, 9, 11] rfl rfl ⟨rfl, rfl, rfl, rfl, trivial⟩ rfl rfl) ?_
  refine made_turn lm1 lk0 lk1 lk2 f0 f1 f2 (fun s l9 hs => ?_) hne
  refine VGc.mk (mst [some (.ref 0), some (.ref 3), some (.ref 9), some (.ref 7)] (mled (.lst [.ref 1, .ref 2]) (i3 a0 a1 a2) (i3 b0 b1 b2) (i3 t0 t1 t2) (some (.ref 10)) (i3 v0 v1 v2) (.lst s) (.tup [.ref 9, .ref 7]) (i3 w0 w1 w2) (i3 k0 k1 k2))) (RenTo.mk [0, 1, 2, 3, 4, 5, 6, 9, 8, 7, 12, 11] rfl (congrArg (fun z => [some _, some _, some _, some _, some _, some _, some _, some _, some _, some _, some z, some _]) (hs _).symm) ⟨rfl, rfl, rfl, rfl, trivial⟩ rfl rfl) ?_
  refine made_turn lm2 lk0 lk1 lk2 g0 g1 g2 (fun s l9 hs => ?_) hne
  refine nxt_none (loopR_end ?_)
  refine nxt_frc ?_
  refine frcLd_mk (K := fun led => VRet 4 R (.bool true) led) ?_
  exact VRet.mk [0, 1, 2, 3] _ _ rfl rfl rfl rfl hR
end
section
noncomputable def k_law : List (Str × NameKind) := [("script", .local), ("box", .local), ("some", .local), ("found", .local), ("row", .local), ("total", .local), ("at", .local), ("number", .local), ("numbers", .local), ("common", .cell), ("due", .local), ("told", .local), ("_law_box", .globalImplicit), ("_law_drawn", .globalImplicit), ("whole_relations", .globalImplicit), ("R0", .globalImplicit), ("enumerate", .globalImplicit), ("radd", .globalImplicit), ("rmul", .globalImplicit), ("rat", .globalImplicit), ("len", .globalImplicit), ("over_one_bottom", .globalImplicit), ("gcd_all", .globalImplicit), ("_law_cross", .globalImplicit), ("_law_is_made", .globalImplicit)]
noncomputable def o_law : List Str := ["script", "box", "some", "found", "row", "total", "at", "number", "numbers", "due", "told"]
noncomputable def p_law : List Str := ["script"]
noncomputable def i_turn : IS := (.cons (.asg (.loc 5 (nat_lit 153934849687569)) (.call "radd" 123 (.cons (.loc 5 (nat_lit 153938339348510)) (.cons (.call "rmul" 130 (.cons (.call "rat" 116 (.cons (.loc 7 (nat_lit 153942634315823)) (.cons (.int 1 (nat_lit 153944781799474)) .nil)) (nat_lit 153941560574003) (nat_lit 153941560573992)) (.cons (.sub (.loc 2 (nat_lit 153945855541305)) (.loc 6 (nat_lit 153947197718588)) (nat_lit 153945855541309)) .nil)) (nat_lit 153940218396734) (nat_lit 153940218396708)) .nil)) (nat_lit 153936997171263) (nat_lit 153936997171224)) (nat_lit 153934849687615)) .nil)
noncomputable def i_if : IS := (.cons (.ite (.or (.cons (.cmp .ne (.loc 5 (nat_lit 155034092883984)) (.glb "R0" 109 (nat_lit 155036508803094)) (nat_lit 155034092883990)) (.cons (.cmp .ne (.bfn .len (.loc 4 (nat_lit 155039193157665)) (nat_lit 155038119415842) (nat_lit 155038119415837)) (.int 3 (nat_lit 155041340641319)) (nat_lit 155038119415847)) (.cons (.cmp .eq (.loc 4 (nat_lit 155042682818606)) (.lst (.cons (.int 0 (nat_lit 155044830302260)) (.cons (.int 0 (nat_lit 155045635608631)) (.cons (.int 0 (nat_lit 155046440915002)) .nil))) (nat_lit 155044561866811)) (nat_lit 155042682818619)) .nil))) (nat_lit 155034092884027)) (.cons (.ret (.tt false (nat_lit 156135751999512)) (nat_lit 156133872951320)) .nil) .nil (nat_lit 155033287581720)) .nil)
noncomputable def i_row : IS := (.cons (.asg (.loc 5 (nat_lit 151734752681997)) (.glb "R0" 109 (nat_lit 151736900165650)) (nat_lit 151734752682002)) (.cons (.fE (.loc 6 (nat_lit 152835338055694)) (.loc 7 (nat_lit 152836411797526)) (.loc 4 (nat_lit 152841780506663)) i_turn (nat_lit 152835338055702) (nat_lit 152839096152099) (nat_lit 152839096152104) (nat_lit 152834264318015)) i_if))
noncomputable def i_rest (n : Nat) : IS := (.cons (.asg (.loc 8 (nat_lit 157231237099531)) (.call "over_one_bottom" 103 (.cons (.loc 2 (nat_lit 157238216421410)) .nil) (nat_lit 157233921454115) (nat_lit 157233921454109)) (nat_lit 157231237099555)) (.cons (.ite (.cmp .eq (.loc 8 (nat_lit 158331554037774)) (.lst (.cons (.int 0 (nat_lit 158334775263252)) (.cons (.int 0 (nat_lit 158335580569623)) (.cons (.int 0 (nat_lit 158336385875994)) .nil))) (nat_lit 158334506827803)) (nat_lit 158331554037787)) (.cons (.ret (.cmp .eq (.bfn .len (.loc 3 (nat_lit 159434286895128)) (nat_lit 159433213153305) (nat_lit 159433213153298)) (.int 3 (nat_lit 159436971249694)) (nat_lit 159433213153310)) (nat_lit 159431334105118)) .nil) .nil (nat_lit 158330748735518)) (.cons (.asg (.cel 0 (n + 0) (nat_lit 160529771995146)) (.call "gcd_all" 48 (.cons (.loc 8 (nat_lit 160534335397916)) .nil) (nat_lit 160532187914269) (nat_lit 160532187914260)) (nat_lit 160529771995165)) (.cons (.asC 9 (.bin .div (.loc 0 (nat_lit 161631162675217)) (.cel 0 (n + 0) (nat_lit 161633847029787)) (nat_lit 161631162675227)) (.loc 8 (nat_lit 161639484174385)) "number" [(".0", .local), ("number", .local), ("common", .free)] (nat_lit 161630894239794) (nat_lit 161636799819814) (nat_lit 161629283627015) (nat_lit 161629283627058)) (.cons (.ite (.or (.cons (.cmp .ne (.bfn .len (.loc 3 (nat_lit 162730674307088)) (nat_lit 162729600565265) (nat_lit 162729600565258)) (.int 2 (nat_lit 162733358661654)) (nat_lit 162729600565270)) (.cons (.cmp .nin (.call "_law_cross" 156 (.cons (.sub (.loc 3 (nat_lit 162737653628970)) (.int 0 (nat_lit 162739264241708)) (nat_lit 162737653628973)) (.cons (.sub (.loc 3 (nat_lit 162740337983540)) (.int 1 (nat_lit 162741948596278)) (nat_lit 162740337983543)) .nil)) (nat_lit 162734700838968) (nat_lit 162734700838948)) (.tup (.cons (.loc 9 (nat_lit 162745169821764)) (.cons (.cL (.bin .sub (.int 0 (nat_lit 162746780434504)) (.loc 0 (nat_lit 162747854176337)) (nat_lit 162746780434513)) (.loc 9 (nat_lit 162753491320931)) "number" [(".0", .local), ("number", .local)] (nat_lit 162746511999076) (nat_lit 162750806966364)) .nil)) (nat_lit 162744901386341)) (nat_lit 162734700839013)) .nil)) (nat_lit 162729600565349)) (.cons (.ret (.tt false (nat_lit 163831259680788)) (nat_lit 163829380632596)) .nil) .nil (nat_lit 162728795262996)) (.cons (.asg (.loc 10 (nat_lit 164927818522632)) (.lst (.cons (.sub (.loc 9 (nat_lit 164929966006287)) (.int 1 (nat_lit 164931039748113)) (nat_lit 164929966006290)) (.cons (.bin .sub (.int 0 (nat_lit 164932113489941)) (.sub (.loc 9 (nat_lit 164933187231771)) (.int 0 (nat_lit 164934260973597)) (nat_lit 164933187231774)) (nat_lit 164932113489950)) (.cons (.int 0 (nat_lit 164935334715425)) .nil))) (nat_lit 164929697570850)) (nat_lit 164927818522658)) (.cons (.ret (.and (.call "_law_is_made" 161 (.cons (.loc 3 (nat_lit 166032698863645)) (.cons (.loc 10 (nat_lit 166034577911843)) .nil)) (nat_lit 166029209202724) (nat_lit 166029209202711)) (.call "_law_is_made" 161 (.cons (.loc 3 (nat_lit 166040751927355)) (.cons (.lst (.cons (.int 0 (nat_lit 166042899411007)) (.cons (.sub (.loc 9 (nat_lit 166043704717380)) (.int 2 (nat_lit 166044778459206)) (nat_lit 166043704717383)) (.cons (.bin .sub (.int 0 (nat_lit 166045852201034)) (.sub (.loc 9 (nat_lit 166046925942864)) (.int 1 (nat_lit 166047999684690)) (nat_lit 166046925942867)) (nat_lit 166045852201043)) .nil))) (nat_lit 166042630975572)) .nil)) (nat_lit 166037262266453) (nat_lit 166037262266421)) (nat_lit 166029209202773)) (nat_lit 166027330154581)) .nil)))))))
noncomputable def i_law (n : Nat) : IS := (.cons (.asg (.loc 1 (nat_lit 147335632412679)) (.call "_law_box" 144 (.cons (.loc 0 (nat_lit 147339658944537)) (.cons (.int 24 (nat_lit 147341806428189)) (.cons (.int 31 (nat_lit 147342880170017)) .nil))) (nat_lit 147337243025442) (nat_lit 147337243025426)) (nat_lit 147335632412706)) (.cons (.asg (.loc 2 (nat_lit 148435144044552)) (.call "_law_drawn" 149 (.cons (.loc 1 (nat_lit 148439975882777)) .nil) (nat_lit 148437023092762) (nat_lit 148437023092757)) (nat_lit 148435144044570)) (.cons (.asg (.loc 3 (nat_lit 149534655676425)) (.call "whole_relations" 108 (.cons (.loc 2 (nat_lit 149541098127392)) .nil) (nat_lit 149536803160097) (nat_lit 149536803160091)) (nat_lit 149534655676449)) (.cons (.fL (.loc 4 (nat_lit 150635241050123)) (.loc 3 (nat_lit 150637120098324)) (.gcc i_row) (nat_lit 150634167328792)) (.gcc (i_rest n))))))
theorem d_law (n : Nat) : Def 166 p_law k_law (rdS (i_law n) (SE.of k_law o_law n)).l := ⟨fun w => ⟨⟨_, _, _, _, _, _, _, _, _, _, _, _, _, _⟩, by k_is, by k_is, fun vs h => by obtain ⟨a, rfl⟩ := len1 h; rfl⟩⟩

noncomputable def law_st (w : Scr) : SSt := ⟨[some (.base w.S), none, none, none, none, none, none, none, none, none, none], [], [.cell none]⟩
noncomputable def LawVs (w : Scr) : Prop := ∀ R : SV → List SO → Prop, R (.bool true) [] → frcS (law_st w) fun s0 => vs (i_law 0) ⟨w, 20, [], false, 1⟩ s0 fun o s => frcV (retV o) fun v => frcLd s.led fun led => VRet 0 R v led
theorem law_top {w : Scr} (hv : LawVs w) {loose : List Str} {mean : ExcName → Option Value} {mg mb : Str → Option Value} {dp un : Nat} {gd : Option (List Code)} {cn : Str} {more : List (Str × Const)} {a : Addr} {ccd : Value} {A₀ : Around} {base h₀ h₁ : Heap} {L : Addr} {m : Str → Option Value} {oc : Obj} {s : Shared} {tk : Nat} {Q : Flow → Shared → Prop} {E : Value → Shared → Prop}
    (B : Below A₀ base [] h₀) (F : Fr h₀ L h₁ m) (X : (Mine.K2 w.w.params).In h₀) (hl : h₀.IsList w.S w.vs.toArray) (T : Top Mine.hd.view_39 loose mean mg mb h₀) (N : News h₀ L h₁ [(L + 1, oc)]) (hd : dp + 25 < recursionLimit) (hu : un + 400 < cLine)
    (hm : m (Str.ofString "script") = some (.ref w.S)) (hc : oc.data = .cell none) (hE : PassesOwn (model PySem.Challenge.rw_nn0256_01.row.prog w.w) (ktrTop dp un gd cn (gsm k_law more) L a ccd [(Str.ofString "common", L + 1)] []) (envX cn (gsm k_law more) L a ccd [(Str.ofString "common", L + 1)]) E)
    (H : ∀ h' m' tk', Fr h₀ L h' m' → Q (.ret (.bool true)) { s with heap := h', toks := tk' }) :
    wpAny (model PySem.Challenge.rw_nn0256_01.row.prog w.w) (ktrTop dp un gd cn (gsm k_law more) L a ccd [(Str.ofString "common", L + 1)] []) (execs (rdS (i_law 0) (SE.of k_law o_law 0)).l (envX cn (gsm k_law more) L a ccd [(Str.ofString "common", L + 1)])) Q E { s with heap := h₁, toks := tk } := by
  let c : Act := { sw := w, loose := loose, mean := mean, mg := mg, mb := mb, dp := dp, un := un, gd := gd, cn := cn, cs := gsm k_law more, L := L, a := a, ccd := ccd, cl := [(Str.ofString "common", L + 1)], outer := [], A₀ := A₀, base := base, h₀ := h₀, s := s, d := 20, B := B, X := X, hl := hl, T := T, hk := rfl, hd := hd, hu := hu }
  let cx : Cx := { env := c.env, cmp := none, rest := [], ωf := fun _ => oc, ρf := fun _ => L + 1, np := 1, md := ⟨w, 20, [], false, 1⟩ }
  have ok : defOk k_law o_law p_law (i_law 0) 0 = true := by decide +kernel
  obtain ⟨o1, o2⟩ := a2 ok
  obtain ⟨o9, o10⟩ := a2 o2
  have O : CxOk c cx (SE.of k_law o_law 0) := ⟨rfl, rfl, rfl, rfl, uniq_ok (a2 (a2 o1).1).2, fun _ => rfl, rfl, Nat.le_refl _, fun p hp => by
    have e : celK k_law 0 = [(Str.ofString "common", 0)] := by decide +kernel
    have hp' : p ∈ celK k_law 0 := hp
    rw [e] at hp'
    cases List.mem_singleton.mp hp'
    exact Nat.zero_lt_one, rfl⟩
  have S : Sat c cx (SE.of k_law o_law 0) (law_st w) ⟨fun _ => L + 1, fun _ => oc, m, h₁, tk⟩ := by
    refine ⟨F, N, fun k o e => ?_, fun i j hi hj e => ?_, fun p hp k hk => (nomatch hp), (fun k hk => nomatch hk), fun i x v e1 e2 => ?_, fun x k hm hl => ?_, (fun i x v e => nomatch e), Nat.zero_le _, Nat.le_refl _⟩
    · have : k = 0 := by have := (List.getElem?_eq_some_iff.mp e).1; exact Nat.lt_one_iff.mp this
      subst this
      cases e
      exact hc
    · rw [Nat.lt_one_iff.mp hi, Nat.lt_one_iff.mp hj]
    · match i with
      | 0 => cases e1; cases e2; exact ⟨_, hm, rfl⟩
      | 1 => cases e2
      | 2 => cases e2
      | 3 => cases e2
      | 4 => cases e2
      | 5 => cases e2
      | 6 => cases e2
      | 7 => cases e2
      | 8 => cases e2
      | 9 => cases e2
      | 10 => cases e2
      | i + 11 => cases e2
    · have e : celK k_law 0 = [(Str.ofString "common", 0)] := by decide +kernel
      have hp' : (x, k) ∈ celK k_law 0 := hm
      rw [e] at hp'
      cases List.mem_singleton.mp hp'
      exact ⟨Nat.zero_lt_one, rfl⟩
  have fin : ∀ (o : Option SV) (s' : SSt), (frcV (retV o) fun v => frcLd s'.led fun led => VRet 0 (fun v _ => v = .bool true) v led) → retV o = .bool true := fun o s' hq => by
    obtain ⟨σ, v', led', hok, hpre, hv, htk, hR⟩ := frcLd_ok (frcV_ok (K := fun v => frcLd s'.led fun led => VRet 0 (fun v _ => v = .bool true) v led) hq)
    rw [hv, hR]; rfl
  refine ((s_ok (c := c) rfl (i_law 0) (a2 o9).2 O rfl (frcS_ok (K := fun s0 => vs (i_law 0) ⟨w, 20, [], false, 1⟩ s0 fun o s => frcV (retV o) fun v => frcLd s.led fun led => VRet 0 (fun v _ => v = .bool true) v led) (hv (fun v _ => v = .bool true) rfl))).2 (a2 o9).1) ⟨fun _ => L + 1, fun _ => oc, m, h₁, tk⟩ _ _ hE S ⟨fun st' r' hq hp S' => ?_, fun v st' r' x hq hp S' rx => ?_⟩
  · cases fin none st' hq
  · have e : v = .bool true := fin (some v) st' hq
    rw [e] at rx
    have e2 : x = .bool true := rx
    rw [e2]
    exact H _ _ _ S'.F
end
section
theorem keepL {led pre : List SO} : ∀ {σ : List Nat}, σ.map (fun k => led[k]?) = pre.map some → σ.length = pre.length ∧ ∀ i k : Nat, σ[i]? = some k → led[k]? = pre[i]? := fun {σ} p => by
  have e := congrArg List.length p
  rw [List.length_map, List.length_map] at e
  refine ⟨e, fun i k h => ?_⟩
  have e2 := congrArg (fun l : List (Option SO) => l[i]?) p
  rw [List.getElem?_map, List.getElem?_map, h] at e2
  cases e3 : pre[i]? with
  | none => rw [e3] at e2; cases e2
  | some o => rw [e3] at e2; exact Option.some.inj e2
theorem absorb_keep {σ : List Nat} {led pre news : List SO} (p : σ.map (fun k => led[k]?) = pre.map some) (hr : ∀ τ, (pre.map (SO.ren τ) = pre) ∧ news.map (SO.ren τ) = news) : absorb σ led (pre ++ news) = led ++ news := by
  obtain ⟨e, H⟩ := keepL p
  unfold absorb
  rw [e, List.drop_left, (hr _).2]
  refine congrArg (· ++ news) (List.ext_getElem? fun i => ?_)
  rw [List.getElem?_map]
  rcases Nat.lt_or_ge i led.length with h | h
  · rw [List.getElem?_range h, Option.map_some, List.getElem?_eq_getElem h]
    cases q : pos σ i with
    | none => rfl
    | some j =>
      have e1 := pos_some q
      have e2 := H _ _ e1
      have hj : j < pre.length := e ▸ (List.getElem?_eq_some_iff.mp e1).1
      have e3 := congrArg (fun l : List SO => l[j]?) (hr (tau σ led.length)).1
      rw [List.getElem?_map, ← e2, List.getElem?_eq_getElem h] at e3
      show some (SO.ren _ (((pre ++ news)[j]?).getD _)) = _
      rw [List.getElem?_append_left hj, ← e2, List.getElem?_eq_getElem h]
      exact e3
  · rw [List.getElem?_eq_none (by simpa using h), List.getElem?_eq_none h]; rfl
theorem call_new {d : Md} {f : Addr} {vs args : List SV} {st : SSt} {Q : SV → SSt → Prop} {ks : List Nat} {pre : List SO} {P : Int → Int → Prop} {n : Nat} (dd : Nat) (s : SSpec d.w f dd pre args fun R => ∀ x y, P x y → R (.ref n) (pre ++ [T1 x y])) (h : dd + 1 ≤ d.d) (hn : pre.length = n) (o : okS ks d.fz = true) (p : ks.map (fun k => st.led[k]?) = pre.map some)
    (hr : ∀ τ, pre.map (SO.ren τ) = pre) (a : vs = args.map (SV.ren (tau ks st.led.length))) (t : ∀ x y, P x y → Q (.ref st.led.length) { st with led := st.led ++ [T1 x y] }) : VCall d f vs st Q := by
  have e := (keepL p).1
  refine VCall.mk dd ks s h o (p.trans ?_) a fun x y hp => frcV_mk (frcLd_mk ?_)
  · have := congrArg (List.map some) (hr (tau ks st.led.length))
    rw [List.map_map] at this
    exact this.symm
  · rw [absorb_keep p (fun τ => ⟨hr τ, rfl⟩)]
    have e2 : SV.ren (tau ks st.led.length) (.ref n) = .ref st.led.length := by
      show SV.ref (tau ks _ n) = _
      unfold tau
      rw [List.getElem?_eq_none (by omega)]
      exact congrArg SV.ref (by show _ + (n - ks.length) = _; omega)
    rw [e2]
    exact t x y hp
/-- a rational: a tuple of the ledger, or R0 -/
inductive RV (fz : List Nat) (led : List SO) : SV → Int → Int → Prop
  | t {k : Nat} {x y : Int} (h : led[k]? = some (T1 x y)) (hk : fz.contains k = false) : RV fz led (.ref k) x y
  | z : RV fz led (.base 109) 0 1
theorem RV.app {fz : List Nat} {led l : List SO} {v : SV} {x y : Int} (h : RV fz led v x y) : RV fz (led ++ l) v x y := by
  cases h with
  | t h hk => exact .t (by rw [List.getElem?_append_left (List.getElem?_eq_some_iff.mp h).1]; exact h) hk
  | z => exact .z
theorem okS2 {a b : Nat} {fz : List Nat} (h : a ≠ b) (ha : fz.contains a = false) (hb : fz.contains b = false) : okS [a, b] fz = true := by
  have : [b].contains a = false := by simpa using h
  show (!_ && !_ && (!([] : List Nat).contains b && !_ && true)) = true
  rw [this, ha, hb]; rfl
theorem okS1 {a : Nat} {fz : List Nat} (ha : fz.contains a = false) : okS [a] fz = true := by
  show (!([] : List Nat).contains a && !_ && true) = true
  rw [ha]; rfl
theorem two_at {led : List SO} {a b : Nat} {x y : SO} (h : led[a]? = some x) (g : led[b]? = some y) : [a, b].map (fun k => led[k]?) = [x, y].map some := by
  exact (congrArg (fun o => [o, led[b]?]) h).trans (congrArg (fun o => [some x, o]) g)
theorem one_at {led : List SO} {a : Nat} {x : SO} (h : led[a]? = some x) : [a].map (fun k => led[k]?) = [x].map some := congrArg (fun o => [o]) h
/-- the product of the newest tuple and a rational -/
theorem rmul_new {w : Scr} {fz : List Nat} {st : SSt} {led : List SO} {Q : SV → SSt → Prop} {mv : SV} {a b x y : Int} (e : st.led = led ++ [T1 a b]) (M : RV fz led mv x y) (hf : fz.contains led.length = false) (l1 : Le a 3000) (l2 : Le b 900) (l3 : Le x 3000) (l4 : Le y 900) (pa : 0 < b) (pb : 0 < y)
    (t : ∀ p q, RatOf (a * x) (b * y) p q → Q (.ref st.led.length) { st with led := st.led ++ [T1 p q] }) : VCall ⟨w, 20, fz, false, 1⟩ 130 [.ref led.length, mv] st Q := by
  have en : st.led[led.length]? = some (T1 a b) := by rw [e, List.getElem?_append_right (Nat.le_refl _), Nat.sub_self]; rfl
  cases M with
  | @t k _ _ h hk =>
    have hl := (List.getElem?_eq_some_iff.mp h).1
    have h' : st.led[k]? = some (T1 x y) := by rw [e, List.getElem?_append_left hl]; exact h
    exact call_new 2 (s_rmulTT w 2 (Nat.le_refl _) l1 l2 l3 l4 pa pb) (show 2 + 1 ≤ 20 by decide) rfl (okS2 (Nat.ne_of_gt hl) hf hk) (two_at en h') (fun _ => rfl) rfl t
  | z => exact call_new 2 (s_rmulTK w 2 (Nat.le_refl _) l2 pa) (show 2 + 1 ≤ 20 by decide) rfl (okS1 hf) (one_at en) (fun _ => rfl) rfl t
theorem radd_new {w : Scr} {fz : List Nat} {st : SSt} {led : List SO} {Q : SV → SSt → Prop} {tv : SV} {a b x y : Int} (e : st.led = led ++ [T1 x y]) (M : RV fz led tv a b) (hf : fz.contains led.length = false) (l1 : Le a 3000) (l2 : Le b 900) (l3 : Le x 3000) (l4 : Le y 900) (pa : 0 < b) (pb : 0 < y)
    (t : ∀ p q, RatOf (a * y + x * b) (b * y) p q → Q (.ref st.led.length) { st with led := st.led ++ [T1 p q] }) : VCall ⟨w, 20, fz, false, 1⟩ 123 [tv, .ref led.length] st Q := by
  have en : st.led[led.length]? = some (T1 x y) := by rw [e, List.getElem?_append_right (Nat.le_refl _), Nat.sub_self]; rfl
  cases M with
  | @t k _ _ h hk =>
    have hl := (List.getElem?_eq_some_iff.mp h).1
    have h' : st.led[k]? = some (T1 a b) := by rw [e, List.getElem?_append_left hl]; exact h
    exact call_new 2 (s_raddTT w 2 (Nat.le_refl _) l1 l2 l3 l4 pa pb) (show 2 + 1 ≤ 20 by decide) rfl (okS2 (Nat.ne_of_lt hl) hk hf) (two_at h' en) (fun _ => rfl) rfl t
  | z => exact call_new 2 (s_raddKT w 2 (Nat.le_refl _) l3 l4 pb) (show 2 + 1 ≤ 20 by decide) rfl (okS1 hf) (one_at en) (fun _ => rfl) rfl t
end
section
theorem crle {a b c d : Int} (h1 : Le a 1500) (h2 : Le b 1500) (h3 : Le c 1500) (h4 : Le d 1500) : Le (a*b - c*d) 3100 := (h1.mul h2 (Nat.le_refl 3000)).sub (h3.mul h4 (Nat.le_refl 3000)) (by decide) (by decide)
theorem m_le {m k v : Int} {i : Nat} (h : v = m * k) (hk : k ≠ 0) (lv : Le v i) : Le m i := by
  have h1 := Le.abs.mp lv
  rw [h, Int.natAbs_mul] at h1
  have h2 : 1 ≤ k.natAbs := by omega
  exact Le.abs.mpr (Nat.le_trans (by have := Nat.mul_le_mul_left m.natAbs h2; omega) h1)
theorem m_le3 {m x y z u v w : Int} (h : x ≠ 0 ∨ y ≠ 0 ∨ z ≠ 0) (h0 : u = m * x) (h1 : v = m * y) (h2 : w = m * z) (l0 : Le u 3100) (l1 : Le v 3100) (l2 : Le w 3100) : Le m 3100 :=
  h.elim (fun h => m_le h0 h l0) fun h => h.elim (fun h => m_le h1 h l1) fun h => m_le h2 h l2
theorem s_made (w : Scr) (d : Nat) (hd : 1 ≤ d) {s : Nm} {n0 n1 n2 t0 t1 t2 : Int} (O : Out n0 n1 n2 s) (Z : Siz s) (l0 : Le t0 1500) (l1 : Le t1 1500) (l2 : Le t2 1500) (ht : t0 * k0 s + t1 * k1 s + t2 * k2 s = 0) :
   SSpec w 161 d [.lst [.ref 1, .ref 2], cA s, cB s, .lst [.int t0, .int t1, .int t2]] [.ref 0, .ref 3] fun R => R (.bool true) [.lst [.ref 1, .ref 2], cA s, cB s, .lst [.int t0, .int t1, .int t2]] := by
  obtain ⟨⟨m1, f0, f1, f2⟩, ⟨m2, g0, g1, g2⟩⟩ := O.made ht
  have kne := O.k_ne
  exact s_law_is_made w d hd Z.a0.bt Z.a1.bt Z.a2.bt Z.b0.bt Z.b1.bt Z.b2.bt l0.bt l1.bt l2.bt (crle Z.a1 Z.b2 Z.a2 Z.b1).bt (crle Z.a2 Z.b0 Z.a0 Z.b2).bt (crle Z.a0 Z.b1 Z.a1 Z.b0).bt
    (m_le3 kne f0 f1 f2 (crle l1 Z.b2 l2 Z.b1) (crle l2 Z.b0 l0 Z.b2) (crle l0 Z.b1 l1 Z.b0)).bt (m_le3 kne g0 g1 g2 (crle Z.a1 l2 Z.a2 l1) (crle Z.a2 l0 Z.a0 l2) (crle Z.a0 l1 Z.a1 l0)).bt
    rfl rfl rfl rfl rfl rfl rfl rfl rfl f0.symm f1.symm f2.symm g0.symm g1.symm g2.symm kne
theorem le0 : Le 0 0 := ⟨by decide, by decide⟩
theorem neg0 {x : Int} {i : Nat} (h : Le x i) : Le (0 - x) i := by unfold Le at *; omega
theorem ne3 {a b c : Int} {P : Prop} (h : a ≠ 0 ∨ b ≠ 0 ∨ c ≠ 0) (e : decide ([a, b, c] = [0, 0, 0]) = true) : P := by
  have := of_decide_eq_true e
  simp at this
  omega
theorem ne3' {a b c : Int} {P : Prop} (h : ¬ (a = 0 ∧ b = 0 ∧ c = 0)) (e : decide ([a, b, c] = [0, 0, 0]) = true) : P := by
  have := of_decide_eq_true e
  simp at this
  exact absurd this h
theorem due_no {n0 n1 n2 G d0 d1 d2 : Int} {s : Nm} {P : Prop} (H : Due n0 n1 n2 G d0 d1 d2 s) (e : (!(decide ([d0, d1, d2] = [k0 s, k1 s, k2 s]) || decide ([0 - d0, 0 - d1, 0 - d2] = [k0 s, k1 s, k2 s]))) = true) : P := by
  rcases H.or with ⟨a, b, c⟩ | ⟨a, b, c⟩ <;> rw [a, b, c] at e <;> simp at e
/-- what is kept of the running total -/
structure Run (B S t v : Int) (i j : Nat) : Prop where
  T : Tot B S t v
  lt : Le t i
  lv : Le v j
theorem turn1 {B S t v num x y n u1 v1 pu pv t' v' : Int} {i j : Nat} (T : Run B S t v i j) (hn : n * y = x * B) (hx : Le x 10) (hy : Le y 6) (py : 0 < y) (ln : Le num 1500) (hi : i ≤ 2500) (hj : j ≤ 100) (r1 : RatOf num 1 u1 v1) (r2 : RatOf (u1 * x) (v1 * y) pu pv) (r3 : RatOf (t * pv + pu * v) (v * pv) t' v') : Run B (S + num * n) t' v' (1611 + 2 * j + (i - 1500)) (j + 6) := by
  have a1 := rat_le r1 ln le1
  have a2 := rat_le r2 (a1.1.mul hx (Nat.le_refl (1500 + 10))) (a1.2.1.mul hy (Nat.le_refl (0 + 6)))
  have a3 := rat_le r3 (((T.lt.mul a2.2.1 (Nat.le_refl _)).add (a2.1.mul T.lv (Nat.le_refl _)) (k := 1611 + 2 * j + (i - 1500)) (by omega) (by omega)) : Le _ _) (T.lv.mul a2.2.1 (by omega : j + (0 + 6) ≤ j + 6))
  exact ⟨T.T.step hn py r1 r2 r3, a3.1, a3.2.1⟩
theorem run0 (B : Int) : Run B 0 0 1 0 0 := ⟨Tot.start B, le_lit (by decide) (by decide), le1⟩
theorem vsub_at {st : SSt} {k : Nat} {l : List SV} {i : Nat} {Q : SV → SSt → Prop} (h : st.led[k]? = some (.lst l)) (hi : idx l (Int.ofNat i) fun v => Q v st) : vsub (roadK (.ref k) st) (.ref k) (.int (Int.ofNat i)) st Q := by
  have e : roadK (.ref k) st = .lst := by
    unfold roadK
    dsimp only
    rw [h]
  rw [e]
  show opt st.led[k]? _
  rw [h]
  exact hi
/-- one turn of the inner loop: total = radd(total, rmul(rat(number, 1), some[at])) -/
theorem turn_vs {w : Scr} {fz : List Nat} {led : List SO} {v0 v1 v3 v4 v8 v9 v10 : Option SV} {tv mv : SV} {s i : Nat} {num t v x y : Int} {so : List SV} {K : Option SV → SSt → Prop} (hs : led[s]? = some (.lst so)) (hi : ∀ Q, Q mv → idx so (Int.ofNat i) Q) (M : RV fz led mv x y) (T : RV fz led tv t v) (hf : ∀ j, fz.contains (led.length + j) = false)
    (ln : Le num 1500) (hx : Le x 10) (hy : Le y 6) (py : 0 < y) (ht : Le t 3000) (hv : Le v 900) (pv : 0 < v)
    (k : ∀ u1 v1' p q t' v' l9, RatOf num 1 u1 v1' → RatOf (u1 * x) (v1' * y) p q → RatOf (t * q + p * v) (v * q) t' v' → RV fz (led ++ l9) (.ref (led.length + 2)) t' v' → (∀ j, fz.contains ((led ++ l9).length + j) = false) → K none ⟨[v0, v1, some (.ref s), v3, v4, some (.ref (led.length + 2)), some (.int (Int.ofNat i)), some (.int num), v8, v9, v10], [], led ++ l9⟩) :
    vs i_turn ⟨w, 20, fz, false, 1⟩ ⟨[v0, v1, some (.ref s), v3, v4, some tv, some (.int (Int.ofNat i)), some (.int num), v8, v9, v10], [], led⟩ K := by
  refine call_new 1 (ks := []) (pre := []) (s_rat w 1 (Nat.le_refl _) (by decide) le1.bt) (show 1 + 1 ≤ 20 by decide) rfl rfl rfl (fun _ => rfl) rfl fun u1 v1' r1 => ?_
  have a1 := rat_le r1 ln le1
  refine vsub_at (l := so) (by rw [List.getElem?_append_left (List.getElem?_eq_some_iff.mp hs).1]; exact hs) (hi _ ?_)
  have f2 : fz.contains (led ++ [T1 u1 v1']).length = false := by rw [List.length_append]; exact hf 1
  refine rmul_new rfl M (hf 0) (a1.1.mono (by decide)) (a1.2.1.mono (by decide)) (hx.mono (by decide)) (hy.mono (by decide)) a1.2.2 py fun p q r2 => ?_
  have a2 := rat_le r2 (a1.1.mul hx (Nat.le_refl (1500 + 10))) (a1.2.1.mul hy (Nat.le_refl (0 + 6)))
  refine radd_new rfl T.app f2 ht hv (a2.1.mono (by decide)) (a2.2.1.mono (by decide)) pv a2.2.2 fun t' v' r3 => ?_
  have el : led.length + 2 = (led ++ [T1 u1 v1'] ++ [T1 p q]).length := by simp
  have := k u1 v1' p q t' v' ([T1 u1 v1'] ++ [T1 p q] ++ [T1 t' v']) r1 r2 r3 (.t (by rw [el, ← List.append_assoc, ← List.append_assoc, List.getElem?_append_right (Nat.le_refl _), Nat.sub_self]; rfl) (hf 2)) (fun j => by rw [List.length_append, Nat.add_assoc]; exact hf _)
  rw [el, ← List.append_assoc, ← List.append_assoc] at this
  refine frcS_mk ?_
  exact this
theorem lst_at {st : SSt} {k : Nat} {l : List SV} {K : List SV → Prop} (h : st.led[k]? = some (.lst l)) (t : K l) : st.lst k K := by
  show opt st.led[k]? _
  rw [h]
  exact t
theorem tup_at {st : SSt} {k : Nat} {l : List SV} {K : List SV → Prop} (h : st.led[k]? = some (.tup l)) (t : K l) : st.tup k K := by
  show opt st.led[k]? _
  rw [h]
  exact t
theorem loopR_step {f : Nat → SV → SSt → (Option SV → SSt → Prop) → Prop} {k n i : Nat} {st : SSt} {Q : Option SV → SSt → Prop} {l : List SV} {v : SV} (h : st.led[k]? = some (.lst l)) (hv : l[i]? = some v) (t : f i v st fun o st' => nxt o (loopR f k n (i + 1) st' Q) fun v => Q (some v) st') : loopR f k (n + 1) i st Q := by
  show opt st.led[k]? _
  rw [h]
  show opt l[i]? _
  rw [hv]
  exact t
theorem vs_fE3 {b : IS} {d : Md} {st : SSt} {Q : Option SV → SSt → Prop} {i1 i2 j r p1 p2 p3 p4 p5 p6 p7 : Nat} {m0 m1 m2 : SV} (hj : st.vars[j]? = some (some (.ref r))) (hr : st.led[r]? = some (.lst [m0, m1, m2]))
    (h : loopR (fun i sv s2 K => vs b { d with fz := r :: d.fz } ((s2.setv i1 (.int (Int.ofNat i))).setv i2 sv) K) r 3 0 st Q) : vs (.fE (.loc i1 p1) (.loc i2 p2) (.loc j p3) b p4 p5 p6 p7) d st Q := by
  show opt st.vars[j]? _
  rw [hj]
  show opt st.led[r]? _
  rw [hr]
  exact h
theorem ite_vs {w : Scr} {fz : List Nat} {led : List SO} {v0 v1 v2 v3 v6 v7 v8 v9 v10 : Option SV} {r t : Nat} {a b c : Int} {K : Option SV → SSt → Prop} (hr : led[r]? = some (.lst [.int a, .int b, .int c])) (T : RV (r :: fz) led (.ref t) 0 1) (ne : a ≠ 0 ∨ b ≠ 0 ∨ c ≠ 0)
    (k : K none ⟨[v0, v1, v2, v3, some (.ref r), some (.ref t), v6, v7, v8, v9, v10], [], led ++ [.lst [.int 0, .int 0, .int 0]]⟩) : vs i_if ⟨w, 20, fz, false, 1⟩ ⟨[v0, v1, v2, v3, some (.ref r), some (.ref t), v6, v7, v8, v9, v10], [], led⟩ K := by
  cases T with
  | t ht hk =>
  refine tup_at ht ?_
  refine lst_at hr ?_
  refine lst_at (l := [.int a, .int b, .int c]) ((List.getElem?_append_left (List.getElem?_eq_some_iff.mp hr).1).trans hr) ?_
  refine lst_at (l := [.int 0, .int 0, .int 0]) ((List.getElem?_append_right (l₁ := led) (Nat.le_refl _)).trans (by rw [Nat.sub_self]; rfl)) ?_
  refine VIf.mk (fun e => ne3 ne e) fun _ => ?_
  refine frcS_mk ?_
  exact k
theorem row_vs {w : Scr} {fz : List Nat} {led : List SO} {v0 v1 v3 v5 v6 v7 v8 v9 v10 : Option SV} {m0 m1 m2 : SV} {s r : Nat} {a b c x0 y0 x1 y1 x2 y2 n0 n1 n2 B : Int} {K : Option SV → SSt → Prop} (hs : led[s]? = some (.lst [m0, m1, m2])) (hr : led[r]? = some (.lst [.int a, .int b, .int c])) (hf : ((r :: fz).all fun k => Nat.blt k led.length) = true)
    (M0 : RV (r :: fz) led m0 x0 y0) (M1 : RV (r :: fz) led m1 x1 y1) (M2 : RV (r :: fz) led m2 x2 y2) (la : Le a 1500) (lb : Le b 1500) (lc : Le c 1500) (lx0 : Le x0 10) (ly0 : Le y0 6) (p0 : 0 < y0) (lx1 : Le x1 10) (ly1 : Le y1 6) (p1 : 0 < y1) (lx2 : Le x2 10) (ly2 : Le y2 6) (p2 : 0 < y2)
    (hB : 0 < B) (h0 : n0 * y0 = x0 * B) (h1 : n1 * y1 = x1 * B) (h2 : n2 * y2 = x2 * B) (hz : a * n0 + b * n1 + c * n2 = 0) (ne : a ≠ 0 ∨ b ≠ 0 ∨ c ≠ 0)
    (k : ∀ v5 l9, K none ⟨[v0, v1, some (.ref s), v3, some (.ref r), some v5, some (.int 2), some (.int c), v8, v9, v10], [], led ++ l9⟩) :
    vs i_row ⟨w, 20, fz, false, 1⟩ ⟨[v0, v1, some (.ref s), v3, some (.ref r), v5, v6, v7, v8, v9, v10], [], led⟩ K := by
  have g0 : ∀ j, (r :: fz).contains (led.length + j) = false := fun j => by
    cases e : (r :: fz).contains (led.length + j) with
    | false => rfl
    | true => have := Nat.blt_eq.mp (List.all_eq_true.mp hf _ (List.contains_iff_mem.mp e)); omega
  have up : ∀ {k : Nat} {o : SO} {l : List SO}, led[k]? = some o → (led ++ l)[k]? = some o := fun h => by rw [List.getElem?_append_left (List.getElem?_eq_some_iff.mp h).1]; exact h
  refine vs_cons ?_
  refine nxt_frc ?_
  refine vs_cons ?_
  refine vs_fE3 (r := r) rfl hr ?_
  refine loopR_step (n := 2) (i := 0) hr rfl ?_
  refine turn_vs (led := led) (i := 0) (t := 0) (v := 1) hs (fun _ h => h) M0 .z g0 la lx0 ly0 p0 (le_lit (by decide) (by decide)) (le_lit (by decide) (by decide)) (by decide) fun u1 v1' p q t1 w1 l1 r1 r2 r3 T1' g1 => ?_
  have R1 := turn1 (num := a) (run0 B) h0 lx0 ly0 p0 la (by decide) (by decide) r1 r2 r3
  refine nxt_none ?_
  refine loopR_step (n := 1) (i := 1) (up hr) rfl ?_
  refine turn_vs (led := led ++ l1) (i := 1) (up hs) (fun _ h => h) M1.app T1' g1 lb lx1 ly1 p1 (R1.lt.mono (by decide)) (R1.lv.mono (by decide)) R1.T.pos fun u2 v2' p' q' t2 w2 l2 s1 s2 s3 T2' g2 => ?_
  have R2 := turn1 (num := b) R1 h1 lx1 ly1 p1 lb (by decide) (by decide) s1 s2 s3
  refine nxt_none ?_
  rw [List.append_assoc] at T2' g2 ⊢
  refine loopR_step (n := 0) (i := 2) (up hr) rfl ?_
  refine turn_vs (led := led ++ (l1 ++ l2)) (i := 2) (up hs) (fun _ h => h) M2.app T2' g2 lc lx2 ly2 p2 (R2.lt.mono (by decide)) (R2.lv.mono (by decide)) R2.T.pos fun u3 v3' p'' q'' t3 w3 l3 z1 z2 z3 T3' g3 => ?_
  have hT := (turn1 (num := c) R2 h2 lx2 ly2 p2 lc (by decide) (by decide) z1 z2 z3).T
  rw [show 0 + a * n0 + b * n1 + c * n2 = 0 by omega] at hT
  obtain ⟨ez, eo⟩ := hT.zero hB z3
  subst ez eo
  clear hT R1 R2 r1 r2 r3 s1 s2 s3 z1 z2 z3
  rw [List.append_assoc] at T3' g3 ⊢
  refine nxt_none ?_
  refine nxt_frc ?_
  refine ite_vs (up hr) T3' ne ?_
  rw [List.append_assoc]
  exact k _ _
set_option maxHeartbeats 8000000 in
theorem law_vs (w : Scr) : LawVs w := fun R hR => by
  have hq0 : 0 + 1 ≤ 20 := by decide
  have hq1 : 1 + 1 ≤ 20 := by decide
  have hq2 : 2 + 1 ≤ 20 := by decide
  have hq3 : 3 + 1 ≤ 20 := by decide
  have hq4 : 4 + 1 ≤ 20 := by decide
  unfold law_st
  refine VCall.mk 0 [] (s_law_box w 0) hq0 rfl rfl rfl fun sd bl Hb => ?_
  refine VCall.mk 3 [1, 2] (s_law_drawn w 3 (by decide) Hb) hq3 rfl rfl rfl fun k x0 y0 x1 y1 x2 y2 sd bl H => ?_
  have hobb := s_obb w 1 (Nat.le_refl _) H
  obtain ⟨l0, l1, l2⟩ := whole_le H.b0 H.b1 H.b2
  have LB := lbot_spec H.b0.2.2 H.b1.2.2 H.b2.2.2
  have hn0 := (whole_eq LB x0).1
  have hn1 := (whole_eq LB x1).2.1
  have hn2 := (whole_eq LB x2).2.2
  have hB := LB.pos
  clear LB
  generalize e0 : whole x0 y0 (lbot y0 y1 y2) = n0 at *
  generalize e1 : whole x1 y1 (lbot y0 y1 y2) = n1 at *
  generalize e2 : whole x2 y2 (lbot y0 y1 y2) = n2 at *
  have hx0 := H.b0.1.mono (by decide : 5 ≤ 10); have hy0 := H.b0.2.1.mono (by decide : 3 ≤ 6); have py0 := H.b0.2.2
  have hx1 := H.b1.1.mono (by decide : 5 ≤ 10); have hy1 := H.b1.2.1.mono (by decide : 3 ≤ 6); have py1 := H.b1.2.2
  have hx2' := H.b2.1; have hy2' := H.b2.2.1; have py2 := H.b2.2.2
  cases k with
  | false =>
    refine VCall.mk 4 [3, 4, 5, 6] (s_wr w 4 (by decide) H e0 e1 e2 l0 l1 l2) hq4 rfl rfl rfl fun m O Z => ⟨fun hn => ?_, fun hz => ?_⟩
    · obtain ⟨nA, nB, nC⟩ := O.rows_ne
      have hA0 := Z.a0; have hA1 := Z.a1; have hA2 := Z.a2; have hB0 := Z.b0; have hB1 := Z.b1; have hB2 := Z.b2; have hC0 := Z.c0; have hC1 := Z.c1; have hC2 := Z.c2
      have eA := O.ha; have eB := O.hb
      refine VGc.mk ⟨[some (.base w.S), some (.ref 1), some (.ref 3), some (.ref 7), some (.ref 8), none, none, none, none, none, none], [], [.cell none, .lst [.ref 2, .int sd], .isq bl, l3 4 5 6, T1 x0 y0, T1 x1 y1, T1 x2 y2, (.lst [.ref 8, .ref 9]), cA m, cB m]⟩ (RenTo.mk [0, 1, 2, 3, 4, 5, 6, 7, 8, 9] rfl rfl ⟨rfl, rfl, rfl, rfl, rfl, trivial⟩ rfl rfl) ?_
      refine row_vs rfl rfl rfl (.t rfl rfl) (.t rfl rfl) (.t rfl rfl) hA0 hA1 hA2 hx0 hy0 py0 hx1 hy1 py1 hx2' hy2' py2 hB hn0 hn1 hn2 eA nA fun v5 l9 => ?_
      refine VGc.mk ⟨[some (.base w.S), some (.ref 1), some (.ref 3), some (.ref 7), some (.ref 9), none, none, none, none, none, none], [], [.cell none, .lst [.ref 2, .int sd], .isq bl, l3 4 5 6, T1 x0 y0, T1 x1 y1, T1 x2 y2, (.lst [.ref 8, .ref 9]), cA m, cB m]⟩ (RenTo.mk [0, 1, 2, 3, 4, 5, 6, 7, 8, 9] rfl rfl ⟨rfl, rfl, rfl, rfl, rfl, trivial⟩ rfl rfl) ?_
      refine row_vs rfl rfl rfl (.t rfl rfl) (.t rfl rfl) (.t rfl rfl) hB0 hB1 hB2 hx0 hy0 py0 hx1 hy1 py1 hx2' hy2' py2 hB hn0 hn1 hn2 eB nB fun v5 l9 => ?_
      refine nxt_none (loopR_end ?_)
      refine nxt_frc ?_
      refine VGc.mk ⟨[some (.base w.S), some (.ref 1), some (.ref 3), some (.ref 7), none, none, none, none, none, none, none], [], [.cell none, .lst [.ref 2, .int sd], .isq bl, l3 4 5 6, T1 x0 y0, T1 x1 y1, T1 x2 y2, (.lst [.ref 8, .ref 9]), cA m, cB m]⟩ (RenTo.mk [0, 1, 2, 3, 4, 5, 6, 7, 8, 9] rfl rfl ⟨rfl, rfl, rfl, rfl, trivial⟩ rfl rfl) ?_
      refine VCall.mk 1 [3, 4, 5, 6] hobb hq1 rfl rfl rfl ?_
      refine VIf.mk (fun e => ne3' hn e) fun _ => ?_
      obtain ⟨G, d0, d1, d2, eG, D⟩ := due_of O hn l0 l1 l2
      refine VCall.mk 1 [10] (s_gcd_all w 1 (Nat.le_refl _) eG) hq1 rfl rfl rfl ?_
      have g0 : G ≠ 0 := by have := D.pos; omega
      refine VDiv.of g0 D.le.bt D.e0 (VDiv.of g0 D.le.bt D.e1 (VDiv.of g0 D.le.bt D.e2 ?_))
      refine VCall.mk 0 [8, 9] (s_law_cross w 0 (v0 := k0 m) (v1 := k1 m) (v2 := k2 m) hA0.bt hA1.bt hA2.bt hB0.bt hB1.bt hB2.bt rfl rfl rfl) hq0 rfl rfl rfl ?_
      refine VIf.mk (fun e => due_no D e) fun _ => VIf.next (VIf.no ?_)
      refine VCall.mk 1 [7, 8, 9, 16] (s_made w 1 (Nat.le_refl _) O Z (D.l1.mono (by decide)) ((neg0 D.l0).mono (by decide)) (le0.mono (by decide)) D.told1) hq1 rfl rfl rfl ?_
      refine VCall.mk 1 [7, 8, 9, 17] (s_made w 1 (Nat.le_refl _) O Z (le0.mono (by decide)) (D.l2.mono (by decide)) ((neg0 D.l1).mono (by decide)) D.told2) hq1 rfl rfl rfl ?_
      exact VRet.mk [] (.bool true) _ rfl rfl rfl rfl hR
    · obtain ⟨nA, nB, nC⟩ := O.rows_ne
      have hA0 := Z.a0; have hA1 := Z.a1; have hA2 := Z.a2; have hB0 := Z.b0; have hB1 := Z.b1; have hB2 := Z.b2; have hC0 := Z.c0; have hC1 := Z.c1; have hC2 := Z.c2
      have eA := O.ha; have eB := O.hb
      have eC : m.c0*n0 + m.c1*n1 + m.c2*n2 = 0 := by rw [hz.1, hz.2.1, hz.2.2]; omega
      refine VGc.mk ⟨[some (.base w.S), some (.ref 1), some (.ref 3), some (.ref 7), some (.ref 8), none, none, none, none, none, none], [], [.cell none, .lst [.ref 2, .int sd], .isq bl, l3 4 5 6, T1 x0 y0, T1 x1 y1, T1 x2 y2, l3 8 9 10, cA m, cB m, cC m]⟩ (RenTo.mk [0, 1, 2, 3, 4, 5, 6, 7, 8, 9, 10] rfl rfl ⟨rfl, rfl, rfl, rfl, rfl, trivial⟩ rfl rfl) ?_
      refine row_vs rfl rfl rfl (.t rfl rfl) (.t rfl rfl) (.t rfl rfl) hA0 hA1 hA2 hx0 hy0 py0 hx1 hy1 py1 hx2' hy2' py2 hB hn0 hn1 hn2 eA nA fun v5 l9 => ?_
      refine VGc.mk ⟨[some (.base w.S), some (.ref 1), some (.ref 3), some (.ref 7), some (.ref 9), none, none, none, none, none, none], [], [.cell none, .lst [.ref 2, .int sd], .isq bl, l3 4 5 6, T1 x0 y0, T1 x1 y1, T1 x2 y2, l3 8 9 10, cA m, cB m, cC m]⟩ (RenTo.mk [0, 1, 2, 3, 4, 5, 6, 7, 8, 9, 10] rfl rfl ⟨rfl, rfl, rfl, rfl, rfl, trivial⟩ rfl rfl) ?_
      refine row_vs rfl rfl rfl (.t rfl rfl) (.t rfl rfl) (.t rfl rfl) hB0 hB1 hB2 hx0 hy0 py0 hx1 hy1 py1 hx2' hy2' py2 hB hn0 hn1 hn2 eB nB fun v5 l9 => ?_
      refine VGc.mk ⟨[some (.base w.S), some (.ref 1), some (.ref 3), some (.ref 7), some (.ref 10), none, none, none, none, none, none], [], [.cell none, .lst [.ref 2, .int sd], .isq bl, l3 4 5 6, T1 x0 y0, T1 x1 y1, T1 x2 y2, l3 8 9 10, cA m, cB m, cC m]⟩ (RenTo.mk [0, 1, 2, 3, 4, 5, 6, 7, 8, 9, 10] rfl rfl ⟨rfl, rfl, rfl, rfl, rfl, trivial⟩ rfl rfl) ?_
      refine row_vs rfl rfl rfl (.t rfl rfl) (.t rfl rfl) (.t rfl rfl) hC0 hC1 hC2 hx0 hy0 py0 hx1 hy1 py1 hx2' hy2' py2 hB hn0 hn1 hn2 eC nC fun v5 l9 => ?_
      refine nxt_none (loopR_end ?_)
      refine nxt_frc ?_
      refine VGc.mk ⟨[some (.base w.S), some (.ref 1), some (.ref 3), some (.ref 7), none, none, none, none, none, none, none], [], [.cell none, .lst [.ref 2, .int sd], .isq bl, l3 4 5 6, T1 x0 y0, T1 x1 y1, T1 x2 y2, l3 8 9 10, cA m, cB m, cC m]⟩ (RenTo.mk [0, 1, 2, 3, 4, 5, 6, 7, 8, 9, 10] rfl rfl ⟨rfl, rfl, rfl, rfl, trivial⟩ rfl rfl) ?_
      refine VCall.mk 1 [3, 4, 5, 6] hobb hq1 rfl rfl rfl ?_
      obtain ⟨rfl, rfl, rfl⟩ := hz
      exact VRet.mk [] (.bool true) _ rfl rfl rfl rfl hR
  | true =>
    obtain ⟨rfl, rfl⟩ := H.k rfl
    refine VCall.mk 4 [3, 4, 5] (s_wr w 4 (by decide) H e0 e1 e2 l0 l1 l2) hq4 rfl rfl rfl fun m O Z => ⟨fun hn => ?_, fun hz => ?_⟩
    · obtain ⟨nA, nB, nC⟩ := O.rows_ne
      have hA0 := Z.a0; have hA1 := Z.a1; have hA2 := Z.a2; have hB0 := Z.b0; have hB1 := Z.b1; have hB2 := Z.b2; have hC0 := Z.c0; have hC1 := Z.c1; have hC2 := Z.c2
      have eA := O.ha; have eB := O.hb
      refine VGc.mk ⟨[some (.base w.S), some (.ref 1), some (.ref 3), some (.ref 6), some (.ref 7), none, none, none, none, none, none], [], [.cell none, .lst [.ref 2, .int sd], .isq bl, (.lst [.ref 4, .ref 5, .base 109]), T1 x0 y0, T1 x1 y1, (.lst [.ref 7, .ref 8]), cA m, cB m]⟩ (RenTo.mk [0, 1, 2, 3, 4, 5, 6, 7, 8] rfl rfl ⟨rfl, rfl, rfl, rfl, rfl, trivial⟩ rfl rfl) ?_
      refine row_vs rfl rfl rfl (.t rfl rfl) (.t rfl rfl) .z hA0 hA1 hA2 hx0 hy0 py0 hx1 hy1 py1 hx2' hy2' py2 hB hn0 hn1 hn2 eA nA fun v5 l9 => ?_
      refine VGc.mk ⟨[some (.base w.S), some (.ref 1), some (.ref 3), some (.ref 6), some (.ref 8), none, none, none, none, none, none], [], [.cell none, .lst [.ref 2, .int sd], .isq bl, (.lst [.ref 4, .ref 5, .base 109]), T1 x0 y0, T1 x1 y1, (.lst [.ref 7, .ref 8]), cA m, cB m]⟩ (RenTo.mk [0, 1, 2, 3, 4, 5, 6, 7, 8] rfl rfl ⟨rfl, rfl, rfl, rfl, rfl, trivial⟩ rfl rfl) ?_
      refine row_vs rfl rfl rfl (.t rfl rfl) (.t rfl rfl) .z hB0 hB1 hB2 hx0 hy0 py0 hx1 hy1 py1 hx2' hy2' py2 hB hn0 hn1 hn2 eB nB fun v5 l9 => ?_
      refine nxt_none (loopR_end ?_)
      refine nxt_frc ?_
      refine VGc.mk ⟨[some (.base w.S), some (.ref 1), some (.ref 3), some (.ref 6), none, none, none, none, none, none, none], [], [.cell none, .lst [.ref 2, .int sd], .isq bl, (.lst [.ref 4, .ref 5, .base 109]), T1 x0 y0, T1 x1 y1, (.lst [.ref 7, .ref 8]), cA m, cB m]⟩ (RenTo.mk [0, 1, 2, 3, 4, 5, 6, 7, 8] rfl rfl ⟨rfl, rfl, rfl, rfl, trivial⟩ rfl rfl) ?_
      refine VCall.mk 1 [3, 4, 5] hobb hq1 rfl rfl rfl ?_
      refine VIf.mk (fun e => ne3' hn e) fun _ => ?_
      obtain ⟨G, d0, d1, d2, eG, D⟩ := due_of O hn l0 l1 l2
      refine VCall.mk 1 [9] (s_gcd_all w 1 (Nat.le_refl _) eG) hq1 rfl rfl rfl ?_
      have g0 : G ≠ 0 := by have := D.pos; omega
      refine VDiv.of g0 D.le.bt D.e0 (VDiv.of g0 D.le.bt D.e1 (VDiv.of g0 D.le.bt D.e2 ?_))
      refine VCall.mk 0 [7, 8] (s_law_cross w 0 (v0 := k0 m) (v1 := k1 m) (v2 := k2 m) hA0.bt hA1.bt hA2.bt hB0.bt hB1.bt hB2.bt rfl rfl rfl) hq0 rfl rfl rfl ?_
      refine VIf.mk (fun e => due_no D e) fun _ => VIf.next (VIf.no ?_)
      refine VCall.mk 1 [6, 7, 8, 15] (s_made w 1 (Nat.le_refl _) O Z (D.l1.mono (by decide)) ((neg0 D.l0).mono (by decide)) (le0.mono (by decide)) D.told1) hq1 rfl rfl rfl ?_
      refine VCall.mk 1 [6, 7, 8, 16] (s_made w 1 (Nat.le_refl _) O Z (le0.mono (by decide)) (D.l2.mono (by decide)) ((neg0 D.l1).mono (by decide)) D.told2) hq1 rfl rfl rfl ?_
      exact VRet.mk [] (.bool true) _ rfl rfl rfl rfl hR
    · obtain ⟨nA, nB, nC⟩ := O.rows_ne
      have hA0 := Z.a0; have hA1 := Z.a1; have hA2 := Z.a2; have hB0 := Z.b0; have hB1 := Z.b1; have hB2 := Z.b2; have hC0 := Z.c0; have hC1 := Z.c1; have hC2 := Z.c2
      have eA := O.ha; have eB := O.hb
      have eC : m.c0*n0 + m.c1*n1 + m.c2*n2 = 0 := by rw [hz.1, hz.2.1, hz.2.2]; omega
      refine VGc.mk ⟨[some (.base w.S), some (.ref 1), some (.ref 3), some (.ref 6), some (.ref 7), none, none, none, none, none, none], [], [.cell none, .lst [.ref 2, .int sd], .isq bl, (.lst [.ref 4, .ref 5, .base 109]), T1 x0 y0, T1 x1 y1, l3 7 8 9, cA m, cB m, cC m]⟩ (RenTo.mk [0, 1, 2, 3, 4, 5, 6, 7, 8, 9] rfl rfl ⟨rfl, rfl, rfl, rfl, rfl, trivial⟩ rfl rfl) ?_
      refine row_vs rfl rfl rfl (.t rfl rfl) (.t rfl rfl) .z hA0 hA1 hA2 hx0 hy0 py0 hx1 hy1 py1 hx2' hy2' py2 hB hn0 hn1 hn2 eA nA fun v5 l9 => ?_
      refine VGc.mk ⟨[some (.base w.S), some (.ref 1), some (.ref 3), some (.ref 6), some (.ref 8), none, none, none, none, none, none], [], [.cell none, .lst [.ref 2, .int sd], .isq bl, (.lst [.ref 4, .ref 5, .base 109]), T1 x0 y0, T1 x1 y1, l3 7 8 9, cA m, cB m, cC m]⟩ (RenTo.mk [0, 1, 2, 3, 4, 5, 6, 7, 8, 9] rfl rfl ⟨rfl, rfl, rfl, rfl, rfl, trivial⟩ rfl rfl) ?_
      refine row_vs rfl rfl rfl (.t rfl rfl) (.t rfl rfl) .z hB0 hB1 hB2 hx0 hy0 py0 hx1 hy1 py1 hx2' hy2' py2 hB hn0 hn1 hn2 eB nB fun v5 l9 => ?_
      refine VGc.mk ⟨[some (.base w.S), some (.ref 1), some (.ref 3), some (.ref 6), some (.ref 9), none, none, none, none, none, none], [], [.cell none, .lst [.ref 2, .int sd], .isq bl, (.lst [.ref 4, .ref 5, .base 109]), T1 x0 y0, T1 x1 y1, l3 7 8 9, cA m, cB m, cC m]⟩ (RenTo.mk [0, 1, 2, 3, 4, 5, 6, 7, 8, 9] rfl rfl ⟨rfl, rfl, rfl, rfl, rfl, trivial⟩ rfl rfl) ?_
      refine row_vs rfl rfl rfl (.t rfl rfl) (.t rfl rfl) .z hC0 hC1 hC2 hx0 hy0 py0 hx1 hy1 py1 hx2' hy2' py2 hB hn0 hn1 hn2 eC nC fun v5 l9 => ?_
      refine nxt_none (loopR_end ?_)
      refine nxt_frc ?_
      refine VGc.mk ⟨[some (.base w.S), some (.ref 1), some (.ref 3), some (.ref 6), none, none, none, none, none, none, none], [], [.cell none, .lst [.ref 2, .int sd], .isq bl, (.lst [.ref 4, .ref 5, .base 109]), T1 x0 y0, T1 x1 y1, l3 7 8 9, cA m, cB m, cC m]⟩ (RenTo.mk [0, 1, 2, 3, 4, 5, 6, 7, 8, 9] rfl rfl ⟨rfl, rfl, rfl, rfl, trivial⟩ rfl rfl) ?_
      refine VCall.mk 1 [3, 4, 5] hobb hq1 rfl rfl rfl ?_
      obtain ⟨rfl, rfl, rfl⟩ := hz
      exact VRet.mk [] (.bool true) _ rfl rfl rfl rfl hR
end
set_option maxHeartbeats 4000000 in
theorem law_holds : PySem.Challenge.rw_nn0256_01.Holds := hd (by
  k_go0
  all_goals (try k_fold)
  rename IntsAre _ _ => hI
  rename Obj => oc
  rename _ = Data.cell _ => hc
  rename Fr _ _ _ _ => F
  rename News _ _ _ _ => N
  rename Below _ _ _ _ => B
  rename Heap.IsList _ _ _ => hl
  rename Top _ _ _ _ _ _ => T
  rename Frag.In _ _ => X
  rename ¬ _ => hz
  with_unfolding_all refine law_top (law_vs ⟨_, _, _, _, hI, ?_⟩) B F X hl T N ?_ ?_ ?_ (hc.trans ?_) ?_ ?_
  · have := hI.length; omega
  · decide
  · decide
  · rfl
  · rfl
  · exact PassesOwn.leaving
  · intro h' m' tk' F'
    clear F
    k_unfold
    wrow_close)
end
end Mine

theorem PySem.Challenge.cw_nn0256_01_holds : PySem.Challenge.rw_nn0256_01.Holds :=
  Mine.law_holds
