import PyProof.Rows.All
import Wide.All
import OpenK.AllK
import Wide.FinOn
import PySem.Challenge.RW_sa0359_01
set_option Elab.async false

section
open PySem PySem.W PyProof.Rows
namespace Mine
set_option maxRecDepth 100000 in
set_option maxHeartbeats 8000000 in
open_top hd for PySem.Challenge.rw_sa0359_01
end Mine
end

section
open PySem PySem.W PyProof.Rows
namespace Mine

theorem pw_pos (k : Nat) : (0 : Int) < 2 ^ k := kbt_pos k
theorem pw_add (a b : Nat) : (2 : Int) ^ (a + b) = 2 ^ a * 2 ^ b := Int.pow_add 2 a b
theorem pw_le {a b : Nat} (h : a ≤ b) : (2 : Int) ^ a ≤ 2 ^ b := by
  obtain ⟨c, rfl⟩ := Nat.exists_eq_add_of_le h
  rw [pw_add]
  have h1 := pw_pos a
  have h2 := pw_pos c
  have := Int.mul_le_mul_of_nonneg_left (show (1 : Int) ≤ 2 ^ c by omega) (Int.le_of_lt h1)
  omega
theorem pw_lt {a b : Nat} (h : a < b) : (2 : Int) ^ a < 2 ^ b := by
  have h1 := pw_le (show a + 1 ≤ b by omega)
  have h2 := pw_pos a
  rw [pw_add] at h1
  omega
theorem pw_lt_inv {a b : Nat} (h : (2 : Int) ^ a < 2 ^ b) : a < b := by
  rcases Nat.lt_or_ge a b with h' | h'
  · exact h'
  · have := pw_le h'; omega

/-- the number of bits -/
def bl (n : Int) : Int := if n ≤ 0 then 0 else (Nat.log2 n.toNat : Int) + 1
theorem bl_of {n : Int} {k : Nat} (h1 : 2 ^ k ≤ n) (h2 : n < 2 ^ (k + 1)) : bl n = k + 1 := by
  have hp := pw_pos k
  have c1 := kbt_cast k
  have c2 := kbt_cast (k + 1)
  unfold bl
  rw [if_neg (by omega)]
  have h3 : n.toNat ≠ 0 := by omega
  have h4 : k ≤ n.toNat.log2 := (Nat.le_log2 h3).mpr (by omega)
  have h5 : n.toNat.log2 < k + 1 := (Nat.log2_lt h3).mpr (by omega)
  omega
theorem bl_spec {n : Int} (h : 0 < n) : ∃ k : Nat, bl n = k + 1 ∧ 2 ^ k ≤ n ∧ n < 2 ^ (k + 1) := by
  have h3 : n.toNat ≠ 0 := by omega
  refine ⟨n.toNat.log2, ?_, ?_, ?_⟩
  · unfold bl; rw [if_neg (by omega)]
  · have := Nat.log2_self_le h3
    have c1 := kbt_cast n.toNat.log2
    omega
  · have := Nat.lt_log2_self (n := n.toNat)
    have c1 := kbt_cast (n.toNat.log2 + 1)
    omega
theorem bl_zero {n : Int} (h : n ≤ 0) : bl n = 0 := by unfold bl; rw [if_pos h]
theorem bl_nonneg (n : Int) : 0 ≤ bl n := by unfold bl; split <;> omega
theorem bl_le {n : Int} {k : Nat} (h : n < 2 ^ k) : bl n ≤ k := by
  by_cases h0 : n ≤ 0
  · rw [bl_zero h0]; omega
  · obtain ⟨j, e, h1, h2⟩ := bl_spec (show 0 < n by omega)
    have := pw_lt_inv (show (2 : Int) ^ j < 2 ^ k by omega)
    omega
theorem bl_mul {x : Int} (h : 0 < x) (a : Nat) : bl (x * 2 ^ a) = bl x + a := by
  obtain ⟨k, e, h1, h2⟩ := bl_spec h
  have hp := pw_pos a
  have h3 := Int.mul_le_mul_of_nonneg_right h1 (Int.le_of_lt hp)
  have h4 := Int.mul_lt_mul_of_pos_right h2 hp
  rw [← pw_add] at h3 h4
  rw [show k + 1 + a = (k + a) + 1 by omega] at h4
  have := bl_of h3 h4
  omega
theorem bl_shift {n : Int} {k : Nat} (h : 2 ^ k ≤ n) : bl (n / 2 ^ k) = bl n - k := by
  have hp := pw_pos k
  obtain ⟨j, e, h1, h2⟩ := bl_spec (show 0 < n by omega)
  have hj : k < j + 1 := pw_lt_inv (show (2 : Int) ^ k < 2 ^ (j + 1) by omega)
  have h3 : (2 : Int) ^ (j - k) ≤ n / 2 ^ k := (Int.le_ediv_iff_mul_le hp).mpr (by rw [← pw_add, show j - k + k = j by omega]; exact h1)
  have h4 : n / 2 ^ k < 2 ^ (j - k + 1) := (Int.ediv_lt_iff_lt_mul hp).mpr (by rw [← pw_add, show j - k + 1 + k = j + 1 by omega]; exact h2)
  have := bl_of h3 h4
  omega
theorem bl_small {n : Int} (h0 : 0 ≤ n) (h1 : n < 2) : bl n = n := by
  by_cases h : n = 0
  · rw [h]; rfl
  · have : n = 1 := by omega
    rw [this]; decide
theorem bl_pow (j : Nat) : bl (2 ^ j) = j + 1 := bl_of (Int.le_refl _) (pw_lt (by omega))

/-- equal values at other powers -/
theorem eq_scale {x y : Int} {a b e1 e2 : Nat} (h : x * 2 ^ a = y * 2 ^ b) (he : (e1 : Int) - e2 = a - b) : x * 2 ^ e1 = y * 2 ^ e2 := by
  have key : (x * 2 ^ e1) * 2 ^ (a + b) = (y * 2 ^ e2) * 2 ^ (a + b) := by
    have h1 : (x * 2 ^ e1) * 2 ^ (a + b) = (x * 2 ^ a) * 2 ^ (e1 + b) := by
      rw [Int.mul_assoc, Int.mul_assoc, ← pw_add, ← pw_add]; congr 2; omega
    have h2 : (y * 2 ^ e2) * 2 ^ (a + b) = (y * 2 ^ b) * 2 ^ (e1 + b) := by
      rw [Int.mul_assoc, Int.mul_assoc, ← pw_add, ← pw_add]; congr 2; omega
    rw [h1, h2, h]
  have hp := pw_pos (a + b)
  exact Int.eq_of_mul_eq_mul_right (by omega) key

/-! the double's parts -/
def sgn (x : Int) : Int := x / 9223372036854775808
def exf (x : Int) : Int := x / 4503599627370496 % 2048
def mnt (x : Int) : Int := if exf x = 0 then x % 4503599627370496 else x % 4503599627370496 + 4503599627370496
def pwr (x : Int) : Int := if exf x = 0 then -1074 else exf x - 1075
def enc (s m q : Int) : Int := s * 9223372036854775808 + (q + 1075) * 4503599627370496 + (m - 4503599627370496)
def Fin (x : Int) : Prop := 0 ≤ x ∧ x < 18446744073709551616 ∧ x % 9223372036854775808 < 9218868437227405312
structure Nrm (s m q : Int) : Prop where
  s0 : 0 ≤ s
  s1 : s ≤ 1
  m0 : 4503599627370496 ≤ m
  m1 : m < 9007199254740992
  q0 : -1074 ≤ q
  q1 : q ≤ 971
theorem enc_sgn {s m q : Int} (h : Nrm s m q) : sgn (enc s m q) = s := by
  obtain ⟨_, _, _, _, _, _⟩ := h; unfold sgn enc; omega
theorem enc_exf {s m q : Int} (h : Nrm s m q) : exf (enc s m q) = q + 1075 := by
  obtain ⟨_, _, _, _, _, _⟩ := h; unfold exf enc; omega
theorem enc_mnt {s m q : Int} (h : Nrm s m q) : mnt (enc s m q) = m := by
  unfold mnt; rw [enc_exf h]; obtain ⟨_, _, _, _, _, _⟩ := h; rw [if_neg (by omega)]; unfold enc; omega
theorem enc_pwr {s m q : Int} (h : Nrm s m q) : pwr (enc s m q) = q := by
  unfold pwr; rw [enc_exf h]; obtain ⟨_, _, _, _, _, _⟩ := h; rw [if_neg (by omega)]; omega
theorem enc_fin {s m q : Int} (h : Nrm s m q) : Fin (enc s m q) := by
  obtain ⟨_, _, _, _, _, _⟩ := h; unfold Fin enc; omega
theorem enc_nz {s m q : Int} (h : Nrm s m q) : enc s m q % 9223372036854775808 ≠ 0 := by
  obtain ⟨_, _, _, _, _, _⟩ := h; unfold enc; omega
theorem enc_of {x : Int} (h : Fin x) (he : exf x ≠ 0) : x = enc (sgn x) (mnt x) (pwr x) ∧ Nrm (sgn x) (mnt x) (pwr x) := by
  unfold Fin at h
  unfold mnt pwr
  rw [if_neg he, if_neg he]
  refine ⟨?_, ?_, ?_, ?_, ?_, ?_, ?_⟩ <;> (unfold exf at *; (try unfold enc); (try unfold sgn); omega)
theorem sgn_01 {x : Int} (h : Fin x) : 0 ≤ sgn x ∧ sgn x ≤ 1 := by unfold Fin at h; unfold sgn; omega
theorem mnt_rng (x : Int) : 0 ≤ mnt x ∧ mnt x < 9007199254740992 := by unfold mnt; split <;> omega
theorem pwr_rng (x : Int) : -1074 ≤ pwr x ∧ pwr x ≤ 972 := by unfold pwr exf; split <;> omega
theorem pwr_fin {x : Int} (h : Fin x) : pwr x ≤ 971 := by unfold Fin at h; unfold pwr exf; split <;> omega
theorem mnt_zero {x : Int} (h : Fin x) : mnt x = 0 ↔ x % 9223372036854775808 = 0 := by
  unfold mnt exf; split <;> omega
theorem zero_mnt (s : Int) (h : 0 ≤ s) (h1 : s ≤ 1) : mnt (s * 9223372036854775808) = 0 ∧ sgn (s * 9223372036854775808) = s ∧ Fin (s * 9223372036854775808) ∧ pwr (s * 9223372036854775808) = -1074 := by
  have : s = 0 ∨ s = 1 := by omega
  rcases this with rfl | rfl <;> (unfold Fin; decide)

/-! rounding -/
def qn (top power : Int) : Int := top * 2 ^ (-power).toNat
def qd (bottom power : Int) : Int := bottom * 2 ^ power.toNat
def asm2 (s w p : Int) : Int := if w < 4503599627370496 then s * 9223372036854775808 + w else if 2047 ≤ p + 1075 then s * 9223372036854775808 + 9218868437227405312 else enc s w p
def asm (s w p : Int) : Int := if w = 9007199254740992 then asm2 s 4503599627370496 (p + 1) else asm2 s w p
def rnd (n d : Int) : Int := if d < 2 * (n % d) ∨ (2 * (n % d) = d ∧ n / d % 2 = 1) then n / d + 1 else n / d
def rp (top bottom : Int) : Int := if bl top - bl bottom - 53 < -1074 then -1074 else bl top - bl bottom - 53
def rr (s top bottom : Int) : Int :=
  if top = 0 then s * 9223372036854775808
  else if 9007199254740992 ≤ qn top (rp top bottom) / qd bottom (rp top bottom) then asm s (rnd (qn top (rp top bottom + 1)) (qd bottom (rp top bottom + 1))) (rp top bottom + 1)
  else asm s (rnd (qn top (rp top bottom)) (qd bottom (rp top bottom))) (rp top bottom)
def rs (s m p : Int) : Int :=
  if m = 0 ∨ bl m + p ≤ -1075 then s * 9223372036854775808
  else if 1024 < bl m + p then s * 9223372036854775808 + 9218868437227405312
  else rr s (m * 2 ^ p.toNat) (2 ^ (-p).toNat)

theorem rr_exact {s top m q : Int} {j : Nat} (ht : 0 < top) (hN : Nrm s m q) (hq : -1000 ≤ q) (h : top * 2 ^ (-q).toNat = m * 2 ^ (q.toNat + j)) : rr s top (2 ^ j) = enc s m q := by
  obtain ⟨s0, s1, m0, m1, q0, q1⟩ := hN
  have hbm : bl m = 53 := bl_of (k := 52) (by omega) (by omega)
  have hb : bl top = 53 + q + j := by
    have e1 := bl_mul ht (-q).toNat
    have e2 := bl_mul (show 0 < m by omega) (q.toNat + j)
    rw [h, e2, hbm] at e1
    omega
  have hp : rp top (2 ^ j) = q - 1 := by
    unfold rp; rw [hb, bl_pow]; rw [if_neg (by omega)]; omega
  have hd : (0 : Int) < 2 ^ j := pw_pos j
  have hQ : (0 : Int) < qd (2 ^ j) (q - 1) := Int.mul_pos hd (pw_pos _)
  have hQ' : (0 : Int) < qd (2 ^ j) q := Int.mul_pos hd (pw_pos _)
  have e2 : qn top (q - 1) = (2 * m) * qd (2 ^ j) (q - 1) := by
    unfold qn qd
    have h' : top * 2 ^ (-q).toNat = (2 * m) * 2 ^ (q.toNat + j) / 2 ∨ True := .inr trivial
    rw [← pw_add]
    have := eq_scale (x := top) (y := m) (a := (-q).toNat) (b := q.toNat + j) (e1 := (-(q - 1)).toNat) (e2 := 1 + (j + (q - 1).toNat)) h (by omega)
    rw [this, pw_add]
    rw [← Int.mul_assoc, Int.mul_comm m, Int.pow_one]
  have e3 : qn top q = m * qd (2 ^ j) q := by
    unfold qn qd
    rw [h, ← pw_add, Nat.add_comm]
  have d2 : qn top (q - 1) / qd (2 ^ j) (q - 1) = 2 * m := by rw [e2]; exact Int.mul_ediv_cancel _ (by omega)
  unfold rr
  rw [if_neg (by omega), hp, d2, if_pos (by omega), show q - 1 + 1 = q by omega]
  have d3 : rnd (qn top q) (qd (2 ^ j) q) = m := by
    unfold rnd
    rw [e3, Int.mul_emod_left, Int.mul_ediv_cancel _ (by omega)]
    rw [if_neg (by omega)]
  rw [d3]
  unfold asm asm2
  rw [if_neg (by omega), if_neg (by omega), if_neg (by omega)]

theorem rs_exact {s M p m q : Int} (hM : 0 < M) (hN : Nrm s m q) (hq : -1000 ≤ q) (hq1 : q ≤ 900) (h : M * 2 ^ (p - q).toNat = m * 2 ^ (q - p).toNat) : rs s M p = enc s m q := by
  have hN' := hN
  obtain ⟨s0, s1, m0, m1, q0, q1⟩ := hN
  have hbm : bl m = 53 := bl_of (k := 52) (by omega) (by omega)
  have hb : bl M + p = 53 + q := by
    have e1 := bl_mul hM (p - q).toNat
    have e2 := bl_mul (show 0 < m by omega) (q - p).toNat
    rw [h, e2, hbm] at e1
    omega
  unfold rs
  rw [if_neg (by omega), if_neg (by omega)]
  refine rr_exact (Int.mul_pos hM (pw_pos _)) hN' hq ?_
  rw [Int.mul_assoc, ← pw_add]
  exact eq_scale h (by omega)

/-- a whole number below 2^53 is a double's mantissa, shifted -/
theorem nrm_of {s M p : Int} (s0 : 0 ≤ s) (s1 : s ≤ 1) (hM : 0 < M) (h53 : M < 9007199254740992) (hp : -900 ≤ p) (hp1 : p ≤ 900) :
    ∃ m q : Int, Nrm s m q ∧ q = p + bl M - 53 ∧ p - 52 ≤ q ∧ q ≤ p ∧ M * 2 ^ (p - q).toNat = m * 2 ^ (q - p).toNat := by
  obtain ⟨k, e, h1, h2⟩ := bl_spec hM
  have hk : k < 53 := pw_lt_inv (show (2 : Int) ^ k < 2 ^ 53 by omega)
  refine ⟨M * 2 ^ (52 - k), p + bl M - 53, ⟨s0, s1, ?_, ?_, by omega, by omega⟩, rfl, by omega, by omega, ?_⟩
  · have := Int.mul_le_mul_of_nonneg_right h1 (Int.le_of_lt (pw_pos (52 - k)))
    rw [← pw_add, show k + (52 - k) = 52 by omega] at this
    omega
  · have := Int.mul_lt_mul_of_pos_right h2 (pw_pos (52 - k))
    rw [← pw_add, show k + 1 + (52 - k) = 53 by omega] at this
    omega
  · rw [show (p + bl M - 53 - p).toNat = 0 by omega, show (p - (p + bl M - 53)).toNat = 52 - k by omega]
    simp

theorem rs_zero (s p : Int) : rs s 0 p = s * 9223372036854775808 := by unfold rs; rw [if_pos (by left; rfl)]

theorem asm2_rng {s w p B : Int} (s0 : 0 ≤ s) (s1 : s ≤ 1) (w0 : 0 ≤ w) (w1 : w < 9007199254740992) (p0 : -1074 ≤ p) (hp : p + 1075 ≤ B) (hB : 1 ≤ B) (hB1 : B ≤ 2046) :
    Fin (asm2 s w p) ∧ asm2 s w p % 9223372036854775808 < (B + 1) * 4503599627370496 := by
  unfold asm2 Fin
  split
  · omega
  · split
    · omega
    · unfold enc; omega
theorem asm_rng {s w p B : Int} (s0 : 0 ≤ s) (s1 : s ≤ 1) (w0 : 0 ≤ w) (w1 : w ≤ 9007199254740992) (p0 : -1074 ≤ p) (hp : p + 1076 ≤ B) (hB : 1 ≤ B) (hB1 : B ≤ 2046) :
    Fin (asm s w p) ∧ asm s w p % 9223372036854775808 < (B + 1) * 4503599627370496 := by
  unfold asm
  split
  · exact asm2_rng s0 s1 (by omega) (by omega) (by omega) (by omega) hB hB1
  · exact asm2_rng s0 s1 (by omega) (by omega) (by omega) (by omega) hB hB1
theorem rnd_rng {n d b : Int} (hn : 0 ≤ n) (hd : 0 < d) (h : n / d < b) : 0 ≤ rnd n d ∧ rnd n d ≤ b := by
  have := Int.ediv_nonneg hn (Int.le_of_lt hd)
  unfold rnd
  split <;> omega
theorem rr_rng {s top bottom B : Int} (s0 : 0 ≤ s) (s1 : s ≤ 1) (ht : 0 ≤ top) (hb : 0 < bottom) (hB : bl top - bl bottom + 1 ≤ B) (hB0 : 0 ≤ B) (hB1 : B ≤ 1000) :
    Fin (rr s top bottom) ∧ rr s top bottom % 9223372036854775808 < (B + 1026) * 4503599627370496 := by
  unfold rr
  split
  · have := zero_mnt s s0 s1
    refine ⟨this.2.2.1, ?_⟩
    have hs : s = 0 ∨ s = 1 := by omega
    rcases hs with rfl | rfl <;> omega
  · have hpos : ∀ p, 0 < qd bottom p := fun p => Int.mul_pos hb (pw_pos _)
    have hnn : ∀ p, 0 ≤ qn top p := fun p => Int.le_of_lt (Int.mul_pos (by omega) (pw_pos _))
    have hp0 : -1074 ≤ rp top bottom ∧ rp top bottom ≤ B - 54 + 1074 ∧ (rp top bottom ≤ B - 54 ∨ rp top bottom = -1074) ∧ bl top - bl bottom - 53 ≤ rp top bottom := by
      unfold rp; split <;> omega
    -- the quotient at p is below 2^54 where p is at least the widths' difference less 53
    have hlt : qn top (rp top bottom + 1) / qd bottom (rp top bottom + 1) < 9007199254740992 := by
      obtain ⟨k, ek, hk1, hk2⟩ := bl_spec (show 0 < top by omega)
      obtain ⟨j, ej, hj1, hj2⟩ := bl_spec hb
      refine (Int.ediv_lt_iff_lt_mul (hpos _)).mpr ?_
      unfold qn qd
      obtain ⟨P, hP⟩ : ∃ P, P = rp top bottom + 1 := ⟨_, rfl⟩
      rw [← hP]
      have a1 : top * 2 ^ (-P).toNat < 2 ^ (k + 1) * 2 ^ (-P).toNat := Int.mul_lt_mul_of_pos_right hk2 (pw_pos _)
      have a2 : (2 : Int) ^ j * 2 ^ P.toNat ≤ bottom * 2 ^ P.toNat := Int.mul_le_mul_of_nonneg_right hj1 (Int.le_of_lt (pw_pos _))
      have a3 : (2 : Int) ^ (k + 1) * 2 ^ (-P).toNat ≤ 2 ^ 53 * (2 ^ j * 2 ^ P.toNat) := by
        rw [← pw_add, ← pw_add, ← pw_add]
        exact pw_le (by omega)
      have a4 := Int.mul_le_mul_of_nonneg_left a2 (show (0 : Int) ≤ 2 ^ 53 by decide)
      have e53 : (2 : Int) ^ 53 = 9007199254740992 := by decide
      rw [e53] at a3 a4
      omega
    split
    · have := rnd_rng (hnn (rp top bottom + 1)) (hpos (rp top bottom + 1)) hlt
      have h2 := asm_rng (B := B + 1025) s0 s1 this.1 this.2 (p := rp top bottom + 1) (by omega) (by omega) (by omega) (by omega)
      exact ⟨h2.1, by omega⟩
    · rename_i hlt'
      have := rnd_rng (b := 9007199254740992) (hnn (rp top bottom)) (hpos (rp top bottom)) (by omega)
      have h2 := asm_rng (B := B + 1025) s0 s1 this.1 this.2 (p := rp top bottom) (by omega) (by omega) (by omega) (by omega)
      exact ⟨h2.1, by omega⟩
theorem rs_rng {s M p B : Int} (s0 : 0 ≤ s) (s1 : s ≤ 1) (hM : 0 ≤ M) (hB : bl M + p ≤ B) (hB0 : 0 ≤ B) (hB1 : B ≤ 1000) :
    Fin (rs s M p) ∧ rs s M p % 9223372036854775808 < (B + 1026) * 4503599627370496 := by
  unfold rs
  split
  · have := zero_mnt s s0 s1
    refine ⟨this.2.2.1, ?_⟩
    have hs : s = 0 ∨ s = 1 := by omega
    rcases hs with rfl | rfl <;> omega
  · rename_i h
    split
    · omega
    · have hM' : 0 < M := by omega
      refine rr_rng s0 s1 (Int.le_of_lt (Int.mul_pos hM' (pw_pos _))) (pw_pos _) ?_ hB0 hB1
      rw [bl_mul hM', bl_pow]
      omega
end Mine
end

section
open PySem PySem.W PyProof.Rows
namespace Mine

abbrev LV : List (Str × WData) := [(Str.ofString "SIGN_BIT", WData.int 9223372036854775808),
        (Str.ofString "FRACTION_MASK", WData.int 4503599627370495),
        (Str.ofString "HIDDEN_BIT", WData.int 4503599627370496), (Str.ofString "INF", WData.int 9218868437227405312),
        (Str.ofString "NAN", WData.int 9221120237041090560)]
abbrev LN : List Str := [Str.ofString "SIGN_BIT", Str.ofString "FRACTION_MASK", Str.ofString "HIDDEN_BIT", Str.ofString "INF", Str.ofString "NAN"]

abbrev tup (vs : Array Value) (c : Nat) : Obj := { cls := .type "tuple", data := .seq vs c }
abbrev RetI (r : Int) (h₀ : Heap) (L : Addr) (m : Str → Option Value) (news : List (Addr × Obj)) (s : Shared) (Q : Value → Shared → Prop) : Prop :=
  ∀ (t : Tok) (h' : Heap) (tk' : Nat), Fr h₀ L h' m → News h₀ L h' news → Q (.int r t) { s with heap := h', toks := tk' }
abbrev RetB (r : Bool) (h₀ : Heap) (L : Addr) (m : Str → Option Value) (news : List (Addr × Obj)) (s : Shared) (Q : Value → Shared → Prop) : Prop :=
  ∀ (h' : Heap) (tk' : Nat), Fr h₀ L h' m → News h₀ L h' news → Q (.bool r) { s with heap := h', toks := tk' }
abbrev RetT2 (r1 r2 : Int) (h₀ : Heap) (L : Addr) (m : Str → Option Value) (news : List (Addr × Obj)) (s : Shared) (Q : Value → Shared → Prop) : Prop :=
  ∀ (D : Addr) (t1 t2 : Tok) (c : Nat) (h' : Heap) (tk' : Nat), Fr h₀ L h' m → News h₀ L h' ((D, tup #[.int r1 t1, .int r2 t2] c) :: news) → Q (.ref D) { s with heap := h', toks := tk' }
abbrev RetT3 (r1 r2 r3 : Int) (h₀ : Heap) (L : Addr) (m : Str → Option Value) (news : List (Addr × Obj)) (s : Shared) (Q : Value → Shared → Prop) : Prop :=
  ∀ (D : Addr) (t1 t2 t3 : Tok) (c : Nat) (h' : Heap) (tk' : Nat), Fr h₀ L h' m → News h₀ L h' ((D, tup #[.int r1 t1, .int r2 t2, .int r3 t3] c) :: news) → Q (.ref D) { s with heap := h', toks := tk' }

abbrev Con (w : World) (f : Addr) (dep : Nat) (vs : List Value) (pre : Prop) (ret : Heap → Addr → (Str → Option Value) → List (Addr × Obj) → Shared → (Value → Shared → Prop) → Prop) : Prop :=
  ∀ (mean : ExcName → Option Value) (mg mb : Str → Option Value) (dp un : Nat) (gd : Option (List Code)) (cn : Str) (cs : Scope) (a : Addr) (ccd : Value) (cl : List (Str × Addr)) (outer : List Env) (A₀ : Around) (base h₀ : Heap) (L : Addr) (m : Str → Option Value) (news : List (Addr × Obj)) (s : Shared) (Q E : Value → Shared → Prop),
    Below A₀ base outer h₀ → Fr h₀ L s.heap m → (hd.heap_39 w.params).In h₀ → News h₀ L s.heap news → Top hd.view_39 (looseW hd.view_39 LN) mean mg mb h₀ →
    Glob 0 mg mb (List.map itemOf (recsOf hd.view_39)) (scalarsOf LV ++ constsW hd.view_39) [] (namesW hd.view_39 LN) base →
    cs.kind = .function → pre → dp + dep < recursionLimit → un + 8 * dep < cLine → ret h₀ L m news s Q →
    wpAny (model PySem.Challenge.rw_sa0359_01.row.prog w) (ktrTop dp un gd cn cs L a ccd cl outer) (call (.ref f) vs) Q E s

section
variable {w : World} {f : Addr} {dep : Nat} {vs : List Value} {pre : Prop} {ret : Heap → Addr → (Str → Option Value) → List (Addr × Obj) → Shared → (Value → Shared → Prop) → Prop}
theorem Con.use (c : Con w f dep vs pre ret) {mean : ExcName → Option Value} {mg mb : Str → Option Value} {dp un : Nat} {gd : Option (List Code)} {cn : Str} {cs : Scope} {a : Addr} {ccd : Value} {cl : List (Str × Addr)} {outer : List Env} {A₀ : Around} {base h₀ : Heap} {L : Addr} {m : Str → Option Value} {news : List (Addr × Obj)} {s : Shared} {Q E : Value → Shared → Prop}
    (B : Below A₀ base outer h₀) (F : Fr h₀ L s.heap m) (X : (hd.heap_39 w.params).In h₀) (N : News h₀ L s.heap news) (T : Top hd.view_39 (looseW hd.view_39 LN) mean mg mb h₀)
    (G : Glob 0 mg mb (List.map itemOf (recsOf hd.view_39)) (scalarsOf LV ++ constsW hd.view_39) [] (namesW hd.view_39 LN) base)
    (hk : cs.kind = .function) (hp : pre) (hd : dp + dep < recursionLimit) (hu : un + 8 * dep < cLine) (hr : ret h₀ L m news s Q) :
    wpAny (model PySem.Challenge.rw_sa0359_01.row.prog w) (ktrTop dp un gd cn cs L a ccd cl outer) (call (.ref f) vs) Q E s :=
  c _ _ _ _ _ _ _ _ _ _ _ _ _ _ _ _ _ _ _ _ _ B F X N T G hk hp hd hu hr
end

section
variable {h₀ h' : Heap} {L D : Addr} {m : Str → Option Value} {news news' : List (Addr × Obj)} {s : Shared} {Q : Value → Shared → Prop} {t t1 t2 t3 : Tok} {c tk' : Nat}
theorem endI {r r' : Int} (hret : RetI r h₀ L m news s Q) (F : Fr h₀ L h' m) (N : News h₀ L h' news') (hs : ∀ p ∈ news, p ∈ news') (e : r' = r) : Q (.int r' t) { s with heap := h', toks := tk' } := by
  subst e; exact hret _ _ _ F (cb_drop N hs)
theorem endB {r r' : Bool} (hret : RetB r h₀ L m news s Q) (F : Fr h₀ L h' m) (N : News h₀ L h' news') (hs : ∀ p ∈ news, p ∈ news') (e : r' = r) : Q (.bool r') { s with heap := h', toks := tk' } := by
  subst e; exact hret _ _ F (cb_drop N hs)
theorem endT2 {r1 r2 r1' r2' : Int} (hret : RetT2 r1 r2 h₀ L m news s Q) (F : Fr h₀ L h' m) (N : News h₀ L h' ((D, tup #[.int r1' t1, .int r2' t2] c) :: news')) (hs : ∀ p ∈ news, p ∈ news') (e1 : r1' = r1) (e2 : r2' = r2) : Q (.ref D) { s with heap := h', toks := tk' } := by
  subst e1; subst e2
  refine hret D t1 t2 c h' tk' F (cb_drop N fun p hp => ?_)
  rcases List.mem_cons.mp hp with rfl | hp
  · exact .head _
  · exact .tail _ (hs p hp)
theorem endT3 {r1 r2 r3 r1' r2' r3' : Int} (hret : RetT3 r1 r2 r3 h₀ L m news s Q) (F : Fr h₀ L h' m) (N : News h₀ L h' ((D, tup #[.int r1' t1, .int r2' t2, .int r3' t3] c) :: news')) (hs : ∀ p ∈ news, p ∈ news') (e1 : r1' = r1) (e2 : r2' = r2) (e3 : r3' = r3) : Q (.ref D) { s with heap := h', toks := tk' } := by
  subst e1; subst e2; subst e3
  refine hret D t1 t2 t3 c h' tk' F (cb_drop N fun p hp => ?_)
  rcases List.mem_cons.mp hp with rfl | hp
  · exact .head _
  · exact .tail _ (hs p hp)
end

/-! the values that the walk finds -/
theorem fdiv_pow (x : Int) (k : Nat) : x.fdiv (2 ^ k) = x / 2 ^ k := Int.fdiv_eq_ediv_of_nonneg _ (Int.le_of_lt (kbt_pos k))
theorem v_low63 (x : Int) : Builtin.bitAnd x (9223372036854775808 - 1) = x % 9223372036854775808 := kbt_mask x 63
theorem v_low52 (x : Int) : Builtin.bitAnd x 4503599627370495 = x % 4503599627370496 := kbt_mask x 52
theorem v_low11 (x : Int) : Builtin.bitAnd x 2047 = x % 2048 := kbt_mask x 11
theorem v_sgn (x : Int) : x.fdiv (2 ^ Int.toNat 63) = sgn x := fdiv_pow x 63
theorem v_exf (x : Int) : Builtin.bitAnd (x.fdiv (2 ^ Int.toNat 52)) 2047 = exf x := by rw [v_low11]; exact congrArg (· % 2048) (fdiv_pow x 52)
theorem v_hid (x : Int) : Builtin.bitOr (x % 4503599627370496) 4503599627370496 = x % 4503599627370496 + 4503599627370496 := by
  rw [bitOr_and, show (4503599627370496 : Int) = 2 ^ 52 by decide, kbt_bit]
  have : x % 2 ^ 52 / 2 ^ 52 = 0 := Int.ediv_eq_zero_of_lt (Int.emod_nonneg _ (by decide)) (Int.emod_lt_of_pos _ (by decide))
  rw [this]; omega
theorem v_or63 {s b : Int} (s0 : 0 ≤ s) (s1 : s ≤ 1) (b0 : 0 ≤ b) (b1 : b < 9223372036854775808) : Builtin.bitOr (s * 9223372036854775808) b = s * 9223372036854775808 + b := by
  rw [bitOr_and]
  have : s = 0 ∨ s = 1 := by omega
  rcases this with rfl | rfl
  · have h := kbt_mask b 0
    rw [bitAnd_comm] at h
    simp at h
    rw [Int.zero_mul, h]; omega
  · rw [Int.one_mul, show (9223372036854775808 : Int) = 2 ^ 63 by decide, kbt_bit']
    have : b / 2 ^ 63 = 0 := Int.ediv_eq_zero_of_lt b0 (by omega)
    rw [this]; omega
theorem v_or63' {s b : Int} (s0 : 0 ≤ s) (s1 : s ≤ 1) (b0 : 0 ≤ b) (b1 : b < 9223372036854775808) : Builtin.bitOr b (s * 9223372036854775808) = s * 9223372036854775808 + b := by
  rw [bitOr_comm, v_or63 s0 s1 b0 b1]
end Mine
end

section
open PySem PySem.W PyProof.Rows
namespace Mine
/-! sizes of ints, as the model counts them -/
theorem ib_le {x : Int} {k : Nat} (h : x.natAbs < 2 ^ k) : Builtin.Int.intBits x ≤ k := by
  unfold Builtin.Int.intBits
  split
  · omega
  · rename_i h0
    have h1 : x.natAbs ≠ 0 := by simpa using h0
    have := (Nat.log2_lt h1).mpr h
    omega
theorem ib_lt (x : Int) : x.natAbs < 2 ^ Builtin.Int.intBits x := by
  unfold Builtin.Int.intBits
  split
  · rename_i h0; simp at h0; subst h0; decide
  · exact Nat.lt_log2_self
theorem ib_neg (x : Int) : Builtin.Int.intBits (-x) = Builtin.Int.intBits x := by
  unfold Builtin.Int.intBits; simp
theorem ib_mul (x y : Int) : Builtin.Int.intBits (x * y) ≤ Builtin.Int.intBits x + Builtin.Int.intBits y := by
  refine ib_le ?_
  rw [Int.natAbs_mul, Nat.pow_add]
  have h1 := ib_lt x
  have h2 := ib_lt y
  exact Nat.mul_lt_mul'' h1 h2
theorem ib_add (x y : Int) : Builtin.Int.intBits (x + y) ≤ Builtin.Int.intBits x + Builtin.Int.intBits y + 1 := by
  refine ib_le ?_
  have h1 := ib_lt x
  have h2 := ib_lt y
  have h3 : (2 : Nat) ^ Builtin.Int.intBits x ≤ 2 ^ (Builtin.Int.intBits x + Builtin.Int.intBits y) := Nat.pow_le_pow_right (by decide) (by omega)
  have h4 : (2 : Nat) ^ Builtin.Int.intBits y ≤ 2 ^ (Builtin.Int.intBits x + Builtin.Int.intBits y) := Nat.pow_le_pow_right (by decide) (by omega)
  rw [Nat.pow_succ]
  omega
theorem ib_pow (k : Nat) : Builtin.Int.intBits ((2 : Int) ^ k) ≤ k + 1 := by
  refine ib_le ?_
  rw [Int.natAbs_pow]
  exact Nat.pow_lt_pow_right (by decide) (by omega)
theorem ib_shl (x : Int) (k : Nat) : Builtin.Int.intBits (x * 2 ^ k) ≤ Builtin.Int.intBits x + k := by
  refine ib_le ?_
  rw [Int.natAbs_mul, Int.natAbs_pow, Nat.pow_add]
  exact Nat.mul_lt_mul_of_pos_right (ib_lt x) (Nat.pow_pos (by decide))
theorem ib_mono {x y : Int} (h0 : 0 ≤ x) (h : x ≤ y) : Builtin.Int.intBits x ≤ Builtin.Int.intBits y := by
  refine ib_le ?_
  have := ib_lt y
  omega
theorem bl_ib {x : Int} (h : 0 ≤ x) : bl x = Builtin.Int.intBits x := by
  unfold bl Builtin.Int.intBits
  by_cases h0 : x = 0
  · subst h0; rfl
  · rw [if_neg (by omega), if_neg (by simpa using h0), show x.natAbs = x.toNat by omega]; omega
theorem ib_mnt (x : Int) : Builtin.Int.intBits (mnt x) ≤ 53 := by
  have := mnt_rng x
  refine ib_le ?_
  have : (2 : Nat) ^ 53 = 9007199254740992 := by decide
  omega
theorem no_py {x y : Int} (h : Builtin.Int.intBits y ≤ 9000) : Builtin.divisionGoesByPylong x y = false := by
  unfold Builtin.divisionGoesByPylong
  unfold Builtin.Int.intBits at h
  by_cases h0 : y = 0
  · subst h0; simp
  · have h1 : ¬ ((y == 0) = true) := by simpa using h0
    rw [if_neg h1] at h
    have h2 : ¬ (300 < y.natAbs.log2 / 30 + 1) := by omega
    simp only [if_neg h1]
    rw [decide_eq_false h2]
    rfl
theorem mul_ok {x y : Int} (h : Builtin.Int.intBits x + Builtin.Int.intBits y ≤ 100000000) : IntMulOk x y := by
  unfold IntMulOk Builtin.Int.intTooBig bitsLine
  have : ¬ ((Builtin.Int.intBits x : Int) + (Builtin.Int.intBits y : Int) > ((2 ^ 27 : Nat) : Int)) := by omega
  rw [decide_eq_false this]
  simp
end Mine
end

section
open PySem PySem.W PyProof.Rows PyProof.V PySem.Calls
namespace Mine
/-- a loop over a made tuple of ints, by an invariant of the items left and the frame's names; the ledger stays -/
theorem rest_ind {prog : Program} {w : World} {A : Around} {E : Value → Shared → Prop} {h₀ : Heap} {env : Env} {target : Expr} {body : List Stmt} {Q : Flow → Shared → Prop} {s : Shared} {I : Addr} {keep news : List (Addr × Obj)}
    (J : List (Int × Tok) → (Str → Option Value) → Prop) (hI : ∀ p ∈ news, p.1 < I) (hk : SubL keep news)
    (step : ∀ (x : Int) (t : Tok) (r : List (Int × Tok)) (m : Str → Option Value) (h : Heap) (tk : Nat) (o : Obj), o.cls = .type "tuple_iterator" → J ((x, t) :: r) m → Fr h₀ env.locals h m → News h₀ env.locals h ((I, o) :: news) →
      wpAny (model prog w) A (assign target env (.int x t)) (fun _ s₂ => wpAny (model prog w) A (execs body env)
        (UnrPostW h₀ env.locals { s with heap := h, toks := tk } [(I, o)] (fun m' n' => n' = news ∧ J r m') Q) E s₂) E { s with heap := h, toks := tk })
    (fin : ∀ m h tk, J [] m → Fr h₀ env.locals h m → News h₀ env.locals h news → Q .next { s with heap := h, toks := tk }) :
    ∀ (items : List (Int × Tok)) (m : Str → Option Value), J items m → ItemsRest prog w A E h₀ env target body Q s [(I, "tuple_iterator")] keep (items.map fun p => Itm.val (.int p.1 p.2)) m news := by
  intro items
  induction items with
  | nil => intro m hJ h tk F N; exact fin m h tk hJ F N
  | cons p r ih =>
    obtain ⟨x, t⟩ := p
    intro m hJ
    refine ItemsRest.val fun h tk F => AllObj.cons fun o hc => AllObj.nil fun N => ?_
    refine wpAny_mono (step x t r m h tk o hc hJ F N) (fun _ s₂ h₂ => wpAny_mono h₂ (fun f s₃ h₃ => ?_) fun _ _ e => e) fun _ _ e => e
    cases f with
    | ret v => exact h₃
    | brk => exact h₃
    | next =>
      obtain ⟨h', tk', m', n', e, F', N', ho, hn, hJ'⟩ := h₃
      subst hn
      exact ⟨h', tk', m', n', e, F', N', ho, hk, ih m' hJ'⟩
    | cont =>
      obtain ⟨h', tk', m', n', e, F', N', ho, hn, hJ'⟩ := h₃
      subst hn
      exact ⟨h', tk', m', n', e, F', N', ho, hk, ih m' hJ'⟩
theorem rest_end {h₀ : Heap} {L : Addr} {s₁ : Shared} {I : Addr} {o : Obj} {news : List (Addr × Obj)} {J : (Str → Option Value) → Prop} {h' : Heap} {tk : Nat} {m' : Str → Option Value}
    (F : Fr h₀ L h' m') (N : News h₀ L h' ((I, o) :: news)) (hI : ∀ p ∈ news, p.1 < I) (hJ : J m') :
    UnrEndW h₀ L s₁ [(I, o)] (fun m' n' => n' = news ∧ J m') { s₁ with heap := h', toks := tk } :=
  ⟨h', tk, m', news, rfl, F, N, fun p hp q hq e => by rw [List.mem_singleton.mp hq] at e; exact absurd (hI p hp) (by rw [e]; exact Nat.lt_irrefl _), rfl, hJ⟩
theorem map_form {m : Str → Option Value} {a b : Str} {u v : Value} (h1 : m a = some u) (h2 : m b = some v) : m = fun y => if y = a then some u else if y = b then some v else m y := by
  funext y
  by_cases e1 : y = a
  · subst e1; simp [h1]
  · by_cases e2 : y = b
    · subst e2; simp [e1, h2]
    · simp [e1, e2]

/-! width's arithmetic -/
theorem w64 : (1 : Int) * 2 ^ Int.toNat 64 = 18446744073709551616 := by decide
theorem w_turn {n m n0 : Int} (h' : 1 * 2 ^ Int.toNat 64 ≤ n) (hP : 0 ≤ n ∧ 0 ≤ m ∧ bl n + m = bl n0) : 0 ≤ n.fdiv (2 ^ Int.toNat 64) ∧ 0 ≤ m + 64 ∧ bl (n.fdiv (2 ^ Int.toNat 64)) + (m + 64) = bl n0 := by
  have h : (18446744073709551616 : Int) ≤ n := w64 ▸ h'
  have e1 : n.fdiv (2 ^ Int.toNat 64) = n / 2 ^ 64 := Int.fdiv_eq_ediv_of_nonneg _ (Int.le_of_lt (kbt_pos 64))
  rw [e1, bl_shift (by omega)]
  omega
theorem w_less {n : Int} (h' : 1 * 2 ^ Int.toNat 64 ≤ n) : (n.fdiv (2 ^ Int.toNat 64)).toNat < n.toNat := by
  have h : (18446744073709551616 : Int) ≤ n := w64 ▸ h'
  have e1 : n.fdiv (2 ^ Int.toNat 64) = n / 2 ^ 64 := Int.fdiv_eq_ediv_of_nonneg _ (Int.le_of_lt (kbt_pos 64))
  rw [e1]
  omega
/-- the steps left: the number lies below 2 ^ (twice the first) -/
def wB : List (Int × Tok) → Int
  | [] => 2
  | (x, _) :: _ => 2 ^ (2 * x).toNat
def wC : List (Int × Tok) → Prop
  | [] => True
  | (x, _) :: r => 0 < x ∧ x ≤ 32 ∧ wB r = 2 ^ x.toNat ∧ wC r
def wJ (n0 : Int) (r : List (Int × Tok)) (m : Str → Option Value) : Prop :=
  wC r ∧ ∃ (n : Int) (t : Tok) (k : Int) (u : Tok), m (Str.ofString "many") = some (.int k u) ∧ m (Str.ofString "n") = some (.int n t) ∧ 0 ≤ n ∧ n < wB r ∧ bl n + k = bl n0
theorem w_start {n0 n k : Int} {t u : Tok} {t1 t2 t3 t4 t5 t6 : Tok} {m : Str → Option Value} (h1 : m (Str.ofString "many") = some (.int k u)) (h2 : m (Str.ofString "n") = some (.int n t)) (h' : ¬ 1 * 2 ^ Int.toNat 64 ≤ n) (hP : 0 ≤ n ∧ 0 ≤ k ∧ bl n + k = bl n0) :
    wJ n0 [(32, t1), (16, t2), (8, t3), (4, t4), (2, t5), (1, t6)] m := by
  refine ⟨by refine ⟨?_, ?_, ?_, ?_, ?_, ?_, ?_, ?_, ?_, ?_, ?_, ?_, ?_, ?_, ?_, ?_, ?_, ?_, trivial⟩ <;> first | decide | (show (2 : Int) ^ _ = 2 ^ _; decide) | (show (2 : Int) = 2 ^ _; decide), n, t, k, u, h1, h2, hP.1, ?_, hP.2.2⟩
  have h : ¬ (18446744073709551616 : Int) ≤ n := w64 ▸ h'
  show n < 2 ^ 64
  omega
theorem w_down {n k x n0 : Int} {r : List (Int × Tok)} {t : Tok} (hC : wC ((x, t) :: r)) (h0 : 0 ≤ n) (hb : n < wB ((x, t) :: r)) (e : bl n + k = bl n0) (hge' : 1 * 2 ^ x.toNat ≤ n) :
    0 ≤ n.fdiv (2 ^ x.toNat) ∧ n.fdiv (2 ^ x.toNat) < wB r ∧ bl (n.fdiv (2 ^ x.toNat)) + (k + x) = bl n0 := by
  have hge : 2 ^ x.toNat ≤ n := by rw [Int.one_mul] at hge'; exact hge'
  have hp := kbt_pos x.toNat
  obtain ⟨hx0, hx1, hB, -⟩ := hC
  rw [Int.fdiv_eq_ediv_of_nonneg _ (Int.le_of_lt hp), bl_shift hge, hB]
  refine ⟨Int.ediv_nonneg h0 (Int.le_of_lt hp), ?_, by omega⟩
  refine (Int.ediv_lt_iff_lt_mul hp).mpr ?_
  rw [← pw_add]
  have : x.toNat + x.toNat = (2 * x).toNat := by omega
  rw [this]
  exact hb
theorem w_stay {n x : Int} {r : List (Int × Tok)} {t : Tok} (hC : wC ((x, t) :: r)) (hlt : ¬ 1 * 2 ^ x.toNat ≤ n) : n < wB r := by
  obtain ⟨hx0, hx1, hB, -⟩ := hC
  rw [Int.one_mul] at hlt
  rw [hB]; omega
theorem w_fin {n k n0 : Int} (h0 : 0 ≤ n) (hb : n < wB []) (e : bl n + k = bl n0) : k + n = bl n0 := by
  have h := bl_small h0 (show n < 2 from hb)
  omega
end Mine
end

section
open PySem PySem.W PyProof.Rows PyProof.V PySem.Calls
namespace Mine
theorem max_rp {prog : Program} {w : World} {A : Around} {E : Value → Shared → Prop} {s : Shared} {h₀ : Heap} {L : Addr} {m : Str → Option Value} {news : List (Addr × Obj)} {x y : Int} {t u : Tok} {Q : Value → Shared → Prop} (hh : A.handled = none) (F : Fr h₀ L s.heap m) (N : News h₀ L s.heap news)
    (h : ∀ h' tk t', Fr h₀ L h' m → News h₀ L h' news → Q (.int (rp x y) t') { s with heap := h', toks := tk }) :
    wpAny (model prog w) A (call (.builtin "max") [.int (bl x - bl y - 53) t, .int (-1074) u]) Q E s :=
  max_two_N hh F N fun h' tk F' N' => h h' tk _ F' N'
theorem min_two {prog : Program} {w : World} {A : Around} {E : Value → Shared → Prop} {s : Shared} {h₀ : Heap} {L : Addr} {m : Str → Option Value} {news : List (Addr × Obj)} {x y : Int} {t u : Tok} {Q : Value → Shared → Prop} (hh : A.handled = none) (F : Fr h₀ L s.heap m) (N : News h₀ L s.heap news)
    (h : ∀ h' tk t', Fr h₀ L h' m → News h₀ L h' news → Q (.int (if y < x then y else x) t') { s with heap := h', toks := tk }) :
    wpAny (model prog w) A (call (.builtin "min") [.int x t, .int y u]) Q E s :=
  min_two_N hh F N fun h' tk F' N' => h h' tk _ F' N'

theorem rr_lt {top bottom : Int} (h : 0 < top) (hb : 0 < bottom) : qn top (rp top bottom + 1) / qd bottom (rp top bottom + 1) < 9007199254740992 := by
  have hpos : ∀ p, 0 < qd bottom p := fun p => Int.mul_pos hb (pw_pos _)
  have hp0 : bl top - bl bottom - 53 ≤ rp top bottom := by unfold rp; split <;> omega
  obtain ⟨k, ek, hk1, hk2⟩ := bl_spec h
  obtain ⟨j, ej, hj1, hj2⟩ := bl_spec hb
  refine (Int.ediv_lt_iff_lt_mul (hpos _)).mpr ?_
  unfold qn qd
  obtain ⟨P, hP⟩ : ∃ P, P = rp top bottom + 1 := ⟨_, rfl⟩
  rw [← hP]
  have a1 : top * 2 ^ (-P).toNat < 2 ^ (k + 1) * 2 ^ (-P).toNat := Int.mul_lt_mul_of_pos_right hk2 (pw_pos _)
  have a2 : (2 : Int) ^ j * 2 ^ P.toNat ≤ bottom * 2 ^ P.toNat := Int.mul_le_mul_of_nonneg_right hj1 (Int.le_of_lt (pw_pos _))
  have a3 : (2 : Int) ^ (k + 1) * 2 ^ (-P).toNat ≤ 2 ^ 53 * (2 ^ j * 2 ^ P.toNat) := by
    rw [← pw_add, ← pw_add, ← pw_add]
    exact pw_le (by omega)
  have a4 := Int.mul_le_mul_of_nonneg_left a2 (show (0 : Int) ≤ 2 ^ 53 by decide)
  have e53 : (2 : Int) ^ 53 = 9007199254740992 := by decide
  rw [e53] at a3 a4
  omega
theorem rr_lt' {x y : Int} (hx : 0 ≤ x) (hy : 0 < y) : x = 0 ∨ qn x (rp x y + 1) / qd y (rp x y + 1) < 9007199254740992 := by
  by_cases h : x = 0
  · exact .inl h
  · exact .inr (rr_lt (by omega) hy)
theorem q_nn {x y : Int} (p : Int) (hx : 0 ≤ x) (hy : 0 < y) : 0 ≤ qn x p / qd y p :=
  Int.ediv_nonneg (Int.mul_nonneg hx (Int.le_of_lt (pw_pos _))) (Int.le_of_lt (Int.mul_pos hy (pw_pos _)))
theorem rp_rng {x y : Int} (hx : 0 ≤ x) (hy : 0 < y) : -1074 ≤ rp x y ∧ (rp x y = -1074 ∨ rp x y ≤ Builtin.Int.intBits x) := by
  have h1 := bl_ib hx
  have h2 := bl_nonneg y
  unfold rp; split <;> omega
theorem e2_1 : (4503599627370496 : Int) * 2 ^ Int.toNat 1 = 9007199254740992 := by decide
theorem v_rnd1 {n d : Int} (h : d < 2 * (n % d)) : n / d + 1 = rnd n d := by unfold rnd; rw [if_pos (.inl h)]
theorem v_rnd2 {n d : Int} (h : 2 * (n % d) = d) (h2 : (n / d).fmod 2 = 1) : n / d + 1 = rnd n d := by
  rw [Int.fmod_eq_emod_of_nonneg _ (by decide)] at h2
  unfold rnd; rw [if_pos (.inr ⟨h, h2⟩)]
theorem v_rnd3 {n d : Int} (h : ¬ d < 2 * (n % d)) (h2 : ¬ (n / d).fmod 2 = 1) : n / d = rnd n d := by
  rw [Int.fmod_eq_emod_of_nonneg _ (by decide)] at h2
  unfold rnd; rw [if_neg (fun q => q.elim h fun q => h2 q.2)]
theorem v_rnd4 {n d : Int} (h : ¬ d < 2 * (n % d)) (h2 : ¬ 2 * (n % d) = d) : n / d = rnd n d := by
  unfold rnd; rw [if_neg (fun q => q.elim h fun q => h2 q.1)]
theorem v_rr0 {g x y : Int} (h : x = 0) : g * 2 ^ Int.toNat 63 = rr g x y := by unfold rr; rw [if_pos h]; rfl
theorem v_rrA {g x y v : Int} (hx : ¬ x = 0) (h : ¬ 4503599627370496 * 2 ^ Int.toNat 1 ≤ qn x (rp x y) / qd y (rp x y)) (hv : v = rnd (qn x (rp x y)) (qd y (rp x y))) : asm g v (rp x y) = rr g x y := by
  rw [e2_1] at h; unfold rr; rw [if_neg hx, if_neg h, hv]
theorem v_rrB {g x y v : Int} (hx : ¬ x = 0) (h : 4503599627370496 * 2 ^ Int.toNat 1 ≤ qn x (rp x y) / qd y (rp x y)) (hv : v = rnd (qn x (rp x y + 1)) (qd y (rp x y + 1))) : asm g v (rp x y + 1) = rr g x y := by
  rw [e2_1] at h; unfold rr; rw [if_neg hx, if_pos h, hv]
end Mine
end

section
open PySem PySem.W PyProof.Rows PyProof.V PySem.Calls
namespace Mine
theorem v_rs0 {g n p : Int} (h : n = 0) : g * 2 ^ Int.toNat 63 = rs g n p := by unfold rs; rw [if_pos (.inl h)]; rfl
theorem v_rs0' {g n p : Int} (h : bl n + p ≤ -1074 - 1) : g * 2 ^ Int.toNat 63 = rs g n p := by unfold rs; rw [if_pos (.inr (by omega))]; rfl
theorem v_rs1 {g n p : Int} (h1 : ¬ n = 0) (h2 : ¬ bl n + p ≤ -1074 - 1) (h3 : 1024 < bl n + p) : g * 9223372036854775808 + 9218868437227405312 % 9223372036854775808 = rs g n p := by
  unfold rs; rw [if_neg (by omega), if_pos h3]; omega
theorem v_rs2 {g n p : Int} (h1 : ¬ n = 0) (h2 : ¬ bl n + p ≤ -1074 - 1) (h3 : ¬ 1024 < bl n + p) (h4 : 0 ≤ p) : rr g (n * 2 ^ p.toNat) 1 = rs g n p := by
  unfold rs; rw [if_neg (by omega), if_neg h3, show (-p).toNat = 0 by omega]; rfl
theorem v_rs3 {g n p : Int} (h1 : ¬ n = 0) (h2 : ¬ bl n + p ≤ -1074 - 1) (h3 : ¬ 1024 < bl n + p) (h4 : ¬ 0 ≤ p) : rr g n (1 * 2 ^ (-p).toNat) = rs g n p := by
  unfold rs; rw [if_neg (by omega), if_neg h3, show p.toNat = 0 by omega]; simp
def fi (n : Int) : Int := rr (if n < 0 then 1 else 0) (if n < 0 then -n else n) 1
def wAbs (n : Int) : Int := if n < 0 then -n else n
theorem abs_nn (n : Int) : 0 ≤ (if n < 0 then -n else n) := by split <;> omega
theorem abs_ib (n : Int) : Builtin.Int.intBits (if n < 0 then -n else n) = Builtin.Int.intBits n := by split <;> simp [ib_neg]
theorem v_fi1 {n : Int} (h : n < 0) : rr 1 (if n < 0 then -n else n) 1 = fi n := by unfold fi; rw [if_pos h, if_pos h]
theorem v_fi2 {n : Int} (h : ¬ n < 0) : rr 0 (if n < 0 then -n else n) 1 = fi n := by unfold fi; rw [if_neg h, if_neg h]
theorem one_shl (k : Nat) : Builtin.Int.intBits (1 * 2 ^ k) ≤ k + 1 := by rw [Int.one_mul]; exact ib_pow k
theorem one_pos (k : Nat) : (0 : Int) < 1 * 2 ^ k := by rw [Int.one_mul]; exact pw_pos k
end Mine
end

section
open PySem PySem.W PyProof.Rows
namespace Mine

def ng (x : Int) : Int := if x < 9223372036854775808 then x + 9223372036854775808 else x - 9223372036854775808
def exN (x : Int) : Int := (if sgn x = 1 then -mnt x else mnt x) * 2 ^ (pwr x).toNat
def exD (x : Int) : Int := 2 ^ (-pwr x).toNat
theorem t63 : (2 : Int) ^ Int.toNat 63 = 9223372036854775808 := by decide
theorem t52 : (2 : Int) ^ Int.toNat 52 = 4503599627370496 := by decide
theorem v_pack {g e f : Int} (h : 0 ≤ g ∧ g ≤ 1 ∧ 0 ≤ e ∧ e < 2048 ∧ 0 ≤ f ∧ f < 4503599627370496) :
    Builtin.bitOr (Builtin.bitOr (g * 2 ^ Int.toNat 63) (e * 2 ^ Int.toNat 52)) f = g * 9223372036854775808 + (e * 4503599627370496 + f) := by
  rw [t63, t52, v_or63 (by omega) (by omega) (by omega) (by omega), bitOr_and]
  have h1 : Builtin.bitAnd (g * 9223372036854775808 + e * 4503599627370496) f = 0 := by
    rw [bitAnd_comm]
    have e1 : g * 9223372036854775808 + e * 4503599627370496 = (g * 2048 + e) * 2 ^ 52 := by omega
    rw [e1, bitAnd_pp (by omega) (by omega)]
    have e2 : ((g * 2048 + e) * 2 ^ 52).toNat = 2 ^ 52 * (g * 2048 + e).toNat := by omega
    rw [e2]
    have z1 := @Nat.and_mod_two_pow f.toNat (2 ^ 52 * (g * 2048 + e).toNat) 52
    have z2 := @Nat.and_div_two_pow f.toNat (2 ^ 52 * (g * 2048 + e).toNat) 52
    rw [Nat.mul_mod_right, Nat.and_zero] at z1
    rw [Nat.div_eq_of_lt (show f.toNat < 2 ^ 52 by omega), Nat.zero_and] at z2
    omega
  rw [h1]; omega

set_option maxRecDepth 100000 in
set_option maxHeartbeats 8000000 in
theorem c_is_nan (w : World) (x : Int) (tx : Tok) : Con w 42 1 [.int x tx] (True) (RetB (decide (9218868437227405312 < x % 9223372036854775808))) := by
  dsimp only [Con, RetB]
  k_fill
  intro mean mg mb dp un gd cn cs a ccd cl outer A₀ base h₀ L m news s Q E B F X N T G hk hpre hd1 hu1 hret
  refine wpAny_call ?_
  k_dflt cell_enter
  k_steps
  all_goals ((refine' endB hret ?e2 ?e3 ?e4 ?e1; (case e2 => k_asm); (case e3 => k_asm); (case e4 => kcj_all)); (case e1 => rw [v_low63]))

set_option maxRecDepth 100000 in
set_option maxHeartbeats 8000000 in
theorem c_is_inf (w : World) (x : Int) (tx : Tok) : Con w 49 1 [.int x tx] (True) (RetB (decide (x % 9223372036854775808 = 9218868437227405312))) := by
  dsimp only [Con, RetB]
  k_fill
  intro mean mg mb dp un gd cn cs a ccd cl outer A₀ base h₀ L m news s Q E B F X N T G hk hpre hd1 hu1 hret
  refine wpAny_call ?_
  k_dflt cell_enter
  k_steps
  all_goals ((refine' endB hret ?e2 ?e3 ?e4 ?e1; (case e2 => k_asm); (case e3 => k_asm); (case e4 => kcj_all)); (case e1 => (rw [v_low63]; exact decide_eq_decide.mpr Iff.rfl)))

set_option maxRecDepth 100000 in
set_option maxHeartbeats 8000000 in
theorem c_is_zero (w : World) (x : Int) (tx : Tok) : Con w 56 1 [.int x tx] (True) (RetB (decide (x % 9223372036854775808 = 0))) := by
  dsimp only [Con, RetB]
  k_fill
  intro mean mg mb dp un gd cn cs a ccd cl outer A₀ base h₀ L m news s Q E B F X N T G hk hpre hd1 hu1 hret
  refine wpAny_call ?_
  k_dflt cell_enter
  k_steps
  all_goals ((refine' endB hret ?e2 ?e3 ?e4 ?e1; (case e2 => k_asm); (case e3 => k_asm); (case e4 => kcj_all)); (case e1 => (rw [v_low63]; exact decide_eq_decide.mpr Iff.rfl)))

set_option maxRecDepth 100000 in
set_option maxHeartbeats 8000000 in
theorem c_is_negative (w : World) (x : Int) (tx : Tok) : Con w 35 1 [.int x tx] (True) (RetB (decide (sgn x = 1))) := by
  dsimp only [Con, RetB]
  k_fill
  intro mean mg mb dp un gd cn cs a ccd cl outer A₀ base h₀ L m news s Q E B F X N T G hk hpre hd1 hu1 hret
  refine wpAny_call ?_
  k_dflt cell_enter
  k_steps
  all_goals ((refine' endB hret ?e2 ?e3 ?e4 ?e1; (case e2 => k_asm); (case e3 => k_asm); (case e4 => kcj_all)); (case e1 => (rw [v_sgn]; exact decide_eq_decide.mpr Iff.rfl)))

set_option maxRecDepth 100000 in
set_option maxHeartbeats 8000000 in
theorem c_signed (w : World) (g : Int) (tg : Tok) (b : Int) (tb : Tok) : Con w 63 1 [.int g tg, .int b tb] (0 ≤ g ∧ g ≤ 1) (RetI (g * 9223372036854775808 + b % 9223372036854775808)) := by
  dsimp only [Con, RetI]
  k_fill
  intro mean mg mb dp un gd cn cs a ccd cl outer A₀ base h₀ L m news s Q E B F X N T G hk hpre hd1 hu1 hret
  refine wpAny_call ?_
  k_dflt cell_enter
  k_steps
  all_goals ((refine' endI hret ?e2 ?e3 ?e4 ?e1; (case e2 => k_asm); (case e3 => k_asm); (case e4 => kcj_all)); (case e1 => (rw [v_low63, t63]; exact v_or63' (by omega) (by omega) (by omega) (by omega))))

set_option maxRecDepth 100000 in
set_option maxHeartbeats 8000000 in
theorem c_pack (w : World) (g : Int) (tg : Tok) (e : Int) (te : Tok) (f : Int) (tf : Tok) : Con w 28 1 [.int g tg, .int e te, .int f tf] (0 ≤ g ∧ g ≤ 1 ∧ 0 ≤ e ∧ e < 2048 ∧ 0 ≤ f ∧ f < 4503599627370496) (RetI (g * 9223372036854775808 + (e * 4503599627370496 + f))) := by
  dsimp only [Con, RetI]
  k_fill
  intro mean mg mb dp un gd cn cs a ccd cl outer A₀ base h₀ L m news s Q E B F X N T G hk hpre hd1 hu1 hret
  refine wpAny_call ?_
  k_dflt cell_enter
  k_steps
  all_goals ((refine' endI hret ?e2 ?e3 ?e4 ?e1; (case e2 => k_asm); (case e3 => k_asm); (case e4 => kcj_all)); (case e1 => exact v_pack hpre))

set_option maxRecDepth 100000 in
set_option maxHeartbeats 8000000 in
theorem c_parts (w : World) (x : Int) (tx : Tok) : Con w 70 1 [.int x tx] (True) (RetT3 (sgn x) (mnt x) (pwr x)) := by
  dsimp only [Con, RetT3]
  k_fill
  intro mean mg mb dp un gd cn cs a ccd cl outer A₀ base h₀ L m news s Q E B F X N T G hk hpre hd1 hu1 hret
  refine wpAny_call ?_
  k_dflt cell_enter
  k_steps
  all_goals ((refine' endT3 hret ?e2 ?e3 ?e4 ?e1 ?e5 ?e6; (case e2 => k_asm); (case e3 => k_asm); (case e4 => kcj_all)); (case e1 => exact v_sgn _); (case e5 => ((first | (rename Builtin.bitAnd _ _ = 0 => he) | (rename ¬ (Builtin.bitAnd _ _ = 0) => he) | (rename Builtin.bitAnd _ _ ≠ 0 => he)); (rw [v_exf] at he);  first | (rw [v_low52]; unfold mnt; rw [if_pos he]) | (rw [v_low52, v_hid]; unfold mnt; rw [if_neg he]))); (case e6 => ((first | (rename Builtin.bitAnd _ _ = 0 => he) | (rename ¬ (Builtin.bitAnd _ _ = 0) => he) | (rename Builtin.bitAnd _ _ ≠ 0 => he)); (rw [v_exf] at he);  first | (unfold pwr; rw [if_pos he]) | (unfold pwr; rw [if_neg he, v_exf]))))

end Mine
end

section
open PySem PySem.W PyProof.Rows
namespace Mine

theorem fd_pos {x y : Int} (h : 0 < y) : x.fdiv y = x / y := Int.fdiv_eq_ediv_of_nonneg _ (Int.le_of_lt h)
theorem fm_pos {x y : Int} (h : 0 < y) : x.fmod y = x % y := Int.fmod_eq_emod_of_nonneg _ (Int.le_of_lt h)
theorem v_neg {x : Int} (h : Fin x) : Builtin.bitXor x 9223372036854775808 = ng x := by
  unfold Fin at h
  rw [bitXor_and, show (9223372036854775808 : Int) = 2 ^ 63 by decide, kbt_bit]
  unfold ng
  split <;> omega
theorem v_quo1 {x y p : Int} (hp : 0 ≤ p) : qn x p = x ∧ qd y p = y * 2 ^ p.toNat := by
  unfold qn qd; rw [show (-p).toNat = 0 by omega]; simp
theorem v_quo2 {x y p : Int} (hp : p < 0) : qn x p = x * 2 ^ (-p).toNat ∧ qd y p = y := by
  unfold qn qd; rw [show p.toNat = 0 by omega]; simp

theorem v_ex1 {x : Int} (hs : sgn x = 1) : -mnt x * 2 ^ (pwr x).toNat = exN x := by unfold exN; rw [if_pos hs]
theorem v_ex2 {x : Int} (hs : ¬ sgn x = 1) : mnt x * 2 ^ (pwr x).toNat = exN x := by unfold exN; rw [if_neg hs]
theorem v_ex3 {x : Int} (hs : sgn x = 1) (hp : pwr x < 0) : -mnt x = exN x := by rw [← v_ex1 hs, show (pwr x).toNat = 0 by omega]; simp
theorem v_ex4 {x : Int} (hs : ¬ sgn x = 1) (hp : pwr x < 0) : mnt x = exN x := by rw [← v_ex2 hs, show (pwr x).toNat = 0 by omega]; simp
theorem v_ex5 {x : Int} (hp : 0 ≤ pwr x) : 1 = exD x := by unfold exD; rw [show (-pwr x).toNat = 0 by omega]; rfl
theorem v_ex6 {x : Int} : 1 * 2 ^ (-pwr x).toNat = exD x := by unfold exD; rw [Int.one_mul]
theorem v_asm1 {g n p : Int} (h : n = 9007199254740992) (hp : ¬ p + 1 + 1075 < 2047) : g * 9223372036854775808 + 9218868437227405312 % 9223372036854775808 = asm g n p := by
  unfold asm asm2; rw [if_pos h, if_neg (by omega), if_pos (by omega)]; omega
theorem v_asm2 {g n p : Int} (h : n = 9007199254740992) (hp : p + 1 + 1075 < 2047) : g * 9223372036854775808 + ((p + 1 + 1075) * 4503599627370496 + (4503599627370496 - 4503599627370496)) = asm g n p := by
  unfold asm asm2 enc; rw [if_pos h, if_neg (by omega), if_neg (by omega)]; omega
theorem v_asm3 {g n p : Int} (hg : 0 ≤ g) (hg1 : g ≤ 1) (h0 : 0 ≤ n) (h : n < 4503599627370496) : Builtin.bitOr (g * 2 ^ Int.toNat 63) n = asm g n p := by
  unfold asm asm2; rw [if_neg (by omega), if_pos (by omega), t63, v_or63 hg hg1 h0 (by omega)]
theorem v_asm4 {g n p : Int} (h : ¬ n = 9007199254740992) (h2 : ¬ n < 4503599627370496) (hp : ¬ p + 1075 < 2047) : g * 9223372036854775808 + 9218868437227405312 % 9223372036854775808 = asm g n p := by
  unfold asm asm2; rw [if_neg h, if_neg (by omega), if_pos (by omega)]; omega
theorem v_asm5 {g n p : Int} (h : ¬ n = 9007199254740992) (h2 : ¬ n < 4503599627370496) (hp : p + 1075 < 2047) : g * 9223372036854775808 + ((p + 1075) * 4503599627370496 + (n - 4503599627370496)) = asm g n p := by
  unfold asm asm2 enc; rw [if_neg h, if_neg (by omega), if_neg (by omega)]; omega
local macro_rules | `(tactic| walk_at "call ref") => `(tactic| (k_here; (with_reducible show wpAny _ _ (call (Value.ref 42) _) _ _ _); k_dflt (refine' Con.use (c_is_nan _ _ _) ?k1 ?k2 ?k3 ?k4 ?k5 ?k6 ?kK ?kp ?kd ?ku ?_; (case k1 => k_asm); (case k2 => k_asm); (case k3 => k_asm); (case k4 => k_asm); (case k5 => k_asm); (case k6 => k_asm); (case kK => first | exact rfl | assumption); (case kp => first | exact True.intro | ((try dsimp only); first | with_reducible assumption | omega)); (case kd => ktr_room); (case ku => ktr_units)); intro h9 tk9 F9 N9; (try dsimp only); (try k_fold)))
local macro_rules | `(tactic| walk_at "call ref") => `(tactic| (k_here; (with_reducible show wpAny _ _ (call (Value.ref 63) _) _ _ _); k_dflt (refine' Con.use (c_signed _ _ _ _ _) ?k1 ?k2 ?k3 ?k4 ?k5 ?k6 ?kK ?kp ?kd ?ku ?_; (case k1 => k_asm); (case k2 => k_asm); (case k3 => k_asm); (case k4 => k_asm); (case k5 => k_asm); (case k6 => k_asm); (case kK => first | exact rfl | assumption); (case kp => first | exact True.intro | ((try dsimp only); first | with_reducible assumption | omega)); (case kd => ktr_room); (case ku => ktr_units)); intro t9 h9 tk9 F9 N9; (try dsimp only); (try k_fold)))
local macro_rules | `(tactic| walk_at "call ref") => `(tactic| (k_here; (with_reducible show wpAny _ _ (call (Value.ref 28) _) _ _ _); k_dflt (refine' Con.use (c_pack _ _ _ _ _ _ _) ?k1 ?k2 ?k3 ?k4 ?k5 ?k6 ?kK ?kp ?kd ?ku ?_; (case k1 => k_asm); (case k2 => k_asm); (case k3 => k_asm); (case k4 => k_asm); (case k5 => k_asm); (case k6 => k_asm); (case kK => first | exact rfl | assumption); (case kp => first | exact True.intro | ((try dsimp only); first | with_reducible assumption | omega)); (case kd => ktr_room); (case ku => ktr_units)); intro t9 h9 tk9 F9 N9; (try dsimp only); (try k_fold)))
local macro_rules | `(tactic| walk_at "call ref") => `(tactic| (k_here; (with_reducible show wpAny _ _ (call (Value.ref 70) _) _ _ _); k_dflt (refine' Con.use (c_parts _ _ _) ?k1 ?k2 ?k3 ?k4 ?k5 ?k6 ?kK ?kp ?kd ?ku ?_; (case k1 => k_asm); (case k2 => k_asm); (case k3 => k_asm); (case k4 => k_asm); (case k5 => k_asm); (case k6 => k_asm); (case kK => first | exact rfl | assumption); (case kp => first | exact True.intro | ((try dsimp only); first | with_reducible assumption | omega)); (case kd => ktr_room); (case ku => ktr_units)); intro D9 t9 u9 v9 c9 h9 tk9 F9 N9; (try dsimp only); (try k_fold)))

local macro_rules | `(tactic| walk_at "binaryOp LShift int int") => `(tactic| (k_here; (refine' lshift_int ?s1 ?s2 ?_; (case s1 => omega); (case s2 => omega))))
local macro_rules | `(tactic| walk_at "binaryOp FloorDiv int int") => `(tactic| (k_here; (refine' floordiv_int ?s1 ?_ (.inl (no_py ?s2)); (case s1 => omega); (case s2 => omega))))

set_option maxRecDepth 100000 in
set_option maxHeartbeats 8000000 in
theorem c_neg (w : World) (x : Int) (tx : Tok) : Con w 119 2 [.int x tx] (Fin x) (RetI (ng x)) := by
  dsimp only [Con, RetI]
  k_fill
  intro mean mg mb dp un gd cn cs a ccd cl outer A₀ base h₀ L m news s Q E B F X N T G hk hpre hd1 hu1 hret
  have hfx := hpre
  obtain ⟨hx0, hx1, hx2⟩ := hpre
  refine wpAny_call ?_
  k_dflt cell_enter
  k_steps
  all_goals ((refine' endI hret ?e2 ?e3 ?e4 ?e1; (case e2 => k_asm); (case e3 => k_asm); (case e4 => kcj_all)); (case e1 => first | exact v_neg hfx | (exfalso; unfold Fin at hfx; omega)))

set_option maxRecDepth 100000 in
set_option maxHeartbeats 8000000 in
theorem c_exact (w : World) (x : Int) (tx : Tok) : Con w 77 2 [.int x tx] (True) (RetT2 (exN x) (exD x)) := by
  dsimp only [Con, RetT2]
  k_fill
  intro mean mg mb dp un gd cn cs a ccd cl outer A₀ base h₀ L m news s Q E B F X N T G hk hpre hd1 hu1 hret
  have hm := mnt_rng x
  have hp := pwr_rng x
  have hi := ib_mnt x
  have hi' := ib_neg (mnt x)
  have hi1 : Builtin.Int.intBits 1 ≤ 1 := by decide
  refine wpAny_call ?_
  k_dflt cell_enter
  k_steps
  all_goals ((refine' endT2 hret ?e2 ?e3 ?e4 ?e1 ?e5; (case e2 => k_asm); (case e3 => k_asm); (case e4 => kcj_all)); (case e1 => first | exact v_ex1 (by omega) | exact v_ex2 (by omega) | exact v_ex3 (by omega) (by omega) | exact v_ex4 (by omega) (by omega)); (case e5 => first | exact v_ex5 (by omega) | exact v_ex6))

set_option maxRecDepth 100000 in
set_option maxHeartbeats 8000000 in
theorem c_quotient (w : World) (x : Int) (tx : Tok) (y : Int) (ty : Tok) (p : Int) (tp : Tok) : Con w 84 1 [.int x tx, .int y ty, .int p tp] (0 < y ∧ 0 ≤ x ∧ -4400 ≤ p ∧ p ≤ 4400 ∧ Builtin.Int.intBits x ≤ 4400 ∧ Builtin.Int.intBits y ≤ 4400) (RetT3 (qn x p / qd y p) (qn x p % qd y p) (qd y p)) := by
  dsimp only [Con, RetT3]
  k_fill
  intro mean mg mb dp un gd cn cs a ccd cl outer A₀ base h₀ L m news s Q E B F X N T G hk hpre hd1 hu1 hret
  obtain ⟨hy, hx, hp0, hp1, hbx, hby⟩ := hpre
  have hq1 : 0 < y * 2 ^ p.toNat := Int.mul_pos hy (pw_pos _)
  have hq2 := ib_shl y p.toNat
  refine wpAny_call ?_
  k_dflt cell_enter
  k_steps
  all_goals ((refine' endT3 hret ?e2 ?e3 ?e4 ?e1 ?e5 ?e6; (case e2 => k_asm); (case e3 => k_asm); (case e4 => kcj_all)); (first | (have hq := v_quo1 (x := x) (y := y) (p := p) (by omega)) | (have hq := v_quo2 (x := x) (y := y) (p := p) (by omega))); (case e1 => (rw [fd_pos (by omega)]; first | rw [(v_quo1 (x := x) (y := y) (p := p) (by omega)).1, (v_quo1 (x := x) (y := y) (p := p) (by omega)).2] | rw [(v_quo2 (x := x) (y := y) (p := p) (by omega)).1, (v_quo2 (x := x) (y := y) (p := p) (by omega)).2])); (case e5 => (rw [fm_pos (by omega)]; first | rw [(v_quo1 (x := x) (y := y) (p := p) (by omega)).1, (v_quo1 (x := x) (y := y) (p := p) (by omega)).2] | rw [(v_quo2 (x := x) (y := y) (p := p) (by omega)).1, (v_quo2 (x := x) (y := y) (p := p) (by omega)).2])); (case e6 => (first | rw [(v_quo1 (x := x) (y := y) (p := p) (by omega)).2] | rw [(v_quo2 (x := x) (y := y) (p := p) (by omega)).2])))

set_option maxRecDepth 100000 in
set_option maxHeartbeats 8000000 in
theorem c_assembled (w : World) (g : Int) (tg : Tok) (n : Int) (tn : Tok) (p : Int) (tp : Tok) : Con w 98 2 [.int g tg, .int n tn, .int p tp] (0 ≤ g ∧ g ≤ 1 ∧ 0 ≤ n ∧ n ≤ 9007199254740992 ∧ -1074 ≤ p) (RetI (asm g n p)) := by
  dsimp only [Con, RetI]
  k_fill
  intro mean mg mb dp un gd cn cs a ccd cl outer A₀ base h₀ L m news s Q E B F X N T G hk hpre hd1 hu1 hret
  obtain ⟨hs0, hs1, hn0, hn1, hp0⟩ := hpre
  have e21 : (4503599627370496 : Int) * 2 ^ Int.toNat 1 = 9007199254740992 := by decide
  refine wpAny_call ?_
  k_dflt cell_enter
  k_steps
  all_goals ((refine' endI hret ?e2 ?e3 ?e4 ?e1; (case e2 => k_asm); (case e3 => k_asm); (case e4 => kcj_all)); (case e1 => first | exact v_asm1 (by omega) (by omega) | exact v_asm2 (by omega) (by omega) | exact v_asm3 (by omega) (by omega) (by omega) (by omega) | exact v_asm4 (by omega) (by omega) (by omega) | exact v_asm5 (by omega) (by omega) (by omega)))

end Mine
end

section
open PySem PySem.W PyProof.Rows
namespace Mine

local macro_rules | `(tactic| walk_at "binaryOp LShift int int") => `(tactic| (k_here; (refine' lshift_int ?s1 ?s2 ?_; (case s1 => omega); (case s2 => omega))))

set_option maxRecDepth 100000 in
set_option maxHeartbeats 8000000 in
theorem c_width (w : World) (n : Int) (tn : Tok) : Con w 21 1 [.int n tn] (0 ≤ n) (RetI (bl n)) := by
  dsimp only [Con, RetI]
  k_with "exec While Compare cons nil" => k_while_given ["n!"] (fun n₀ script n many => 0 ≤ n ∧ 0 ≤ many ∧ bl n + many = bl n₀) (fun n₀ script n many => n.toNat) "n" "many"
  k_with "state" => exact w_turn (by assumption) ⟨by assumption, by assumption, by assumption⟩
  k_with "measure" => exact w_less (by assumption)
  k_fill
  intro mean mg mb dp un gd cn cs a ccd cl outer A₀ base h₀ L m news s Q E B F X N T G hk hpre hd1 hu1 hret
  have hone : Builtin.Int.intBits 1 ≤ 1 := by decide
  refine wpAny_call ?_
  k_dflt cell_enter
  k_steps
  (rename ¬ (1 * 2 ^ Int.toNat 64 ≤ _) => hge)
  (rename ∀ p ∈ news, p.fst < _ => hlD)
  (rename News _ _ _ _ => lN')
  (rename Fr _ _ _ _ => lF')
  refine' iter_tupTurns (lo := tup #[.int 32 _, .int 16 _, .int 8 _, .int 4 _, .int 2 _, .int 1 _] _) (vs := [.int 32 _, .int 16 _, .int 8 _, .int 4 _, .int 2 _, .int 1 _]) rfl lF' lN' (by k_mem) rfl rfl ?_
  intro I hI
  refine rest_ind (wJ n) hI (keep := [(_, _)]) ⟨.head _, trivial⟩ ?_ ?_ [(32, _), (16, _), (8, _), (4, _), (2, _), (1, _)] _ ?_
  · clear lF' lN'
    intro x t r m2 h2 tk2 o hc hJ F2 N2
    obtain ⟨hC, nn, tt, kk, uu, hm1, hm2, h0, hb, he⟩ := hJ
    have hx0 : 0 < x := hC.1
    have hx1 : x ≤ 32 := hC.2.1
    rw [map_form hm1 hm2] at F2
    clear hm1 hm2
    (try dsimp only)
    (try k_fold)
    k_steps
    · refine rest_end (by assumption) (by assumption) hI ⟨hC.2.2.2, _, _, _, _, rfl, rfl, ?_, ?_, ?_⟩
      · exact (w_down hC h0 hb he (by assumption)).1
      · exact (w_down hC h0 hb he (by assumption)).2.1
      · exact (w_down hC h0 hb he (by assumption)).2.2
    · refine rest_end (by assumption) (by assumption) hI ⟨hC.2.2.2, _, _, _, _, rfl, rfl, h0, w_stay hC (by assumption), he⟩
  · clear lF' lN'
    intro m2 h2 tk2 hJ F2 N2
    obtain ⟨hC, nn, tt, kk, uu, hm1, hm2, h0, hb, he⟩ := hJ
    rw [map_form hm1 hm2] at F2
    clear hm1 hm2
    (try dsimp only)
    (try k_fold)
    k_steps
    refine' endI hret ?e2 ?e3 ?e4 ?e1
    case e2 => k_asm
    case e3 => k_asm
    case e4 => kcj_all
    case e1 => exact w_fin h0 hb he
  · exact w_start rfl rfl hge ⟨by assumption, by assumption, by assumption⟩

end Mine
end

section
open PySem PySem.W PyProof.Rows
namespace Mine

local macro_rules | `(tactic| walk_at "binaryOp LShift int int") => `(tactic| (k_here; (refine' lshift_int ?s1 ?s2 ?_; (case s1 => omega); (case s2 => omega))))
local macro_rules | `(tactic| walk_at "binaryOp FloorDiv int int") => `(tactic| (k_here; (refine' floordiv_int ?s1 ?_ (.inl (no_py ?s2)); (case s1 => omega); (case s2 => omega))))
local macro_rules | `(tactic| walk_at "call builtin:max") => `(tactic| (k_here; k_dflt (refine' max_rp ?k1 ?k2 ?k3 ?_; (case k1 => exact rfl); (case k2 => k_asm); (case k3 => k_asm)); intro h' tk' t' F' N'; (try dsimp only); (try k_fold)))
local macro_rules | `(tactic| walk_at "call ref") => `(tactic| (k_here; (with_reducible show wpAny _ _ (call (Value.ref 21) _) _ _ _); k_dflt (refine' Con.use (c_width _ _ _) ?k1 ?k2 ?k3 ?k4 ?k5 ?k6 ?kK ?kp ?kd ?ku ?_; (case k1 => k_asm); (case k2 => k_asm); (case k3 => k_asm); (case k4 => k_asm); (case k5 => k_asm); (case k6 => k_asm); (case kK => first | exact rfl | assumption); (case kp => first | exact True.intro | ((try dsimp only); first | with_reducible assumption | omega)); (case kd => ktr_room); (case ku => ktr_units)); intro t9 h9 tk9 F9 N9; (try dsimp only); (try k_fold)))
local macro_rules | `(tactic| walk_at "call ref") => `(tactic| (k_here; (with_reducible show wpAny _ _ (call (Value.ref 84) _) _ _ _); k_dflt (refine' Con.use (c_quotient _ _ _ _ _ _ _) ?k1 ?k2 ?k3 ?k4 ?k5 ?k6 ?kK ?kp ?kd ?ku ?_; (case k1 => k_asm); (case k2 => k_asm); (case k3 => k_asm); (case k4 => k_asm); (case k5 => k_asm); (case k6 => k_asm); (case kK => first | exact rfl | assumption); (case kp => first | exact True.intro | ((try dsimp only); first | with_reducible assumption | omega)); (case kd => ktr_room); (case ku => ktr_units)); intro D9 t9 u9 v9 c9 h9 tk9 F9 N9; (try dsimp only); (try k_fold)))
local macro_rules | `(tactic| walk_at "call ref") => `(tactic| (k_here; (with_reducible show wpAny _ _ (call (Value.ref 98) _) _ _ _); k_dflt (refine' Con.use (c_assembled _ _ _ _ _ _ _) ?k1 ?k2 ?k3 ?k4 ?k5 ?k6 ?kK ?kp ?kd ?ku ?_; (case k1 => k_asm); (case k2 => k_asm); (case k3 => k_asm); (case k4 => k_asm); (case k5 => k_asm); (case k6 => k_asm); (case kK => first | exact rfl | assumption); (case kp => first | exact True.intro | ((try dsimp only); first | with_reducible assumption | omega)); (case kd => ktr_room); (case ku => ktr_units)); intro t9 h9 tk9 F9 N9; (try dsimp only); (try k_fold)))

set_option maxRecDepth 100000 in
set_option maxHeartbeats 8000000 in
theorem c_round_ratio (w : World) (g : Int) (tg : Tok) (x : Int) (tx : Tok) (y : Int) (ty : Tok) : Con w 91 3 [.int g tg, .int x tx, .int y ty] (0 ≤ g ∧ g ≤ 1 ∧ 0 < y ∧ 0 ≤ x ∧ Builtin.Int.intBits x ≤ 4200 ∧ Builtin.Int.intBits y ≤ 4200) (RetI (rr g x y)) := by
  dsimp only [Con, RetI]
  k_fill
  intro mean mg mb dp un gd cn cs a ccd cl outer A₀ base h₀ L m news s Q E B F X N T G hk hpre hd1 hu1 hret
  obtain ⟨hg0, hg1, hy0, hx0, hbx, hby⟩ := hpre
  have hgi : Builtin.Int.intBits g ≤ 1 := ib_le (by omega)
  have hr := rp_rng hx0 hy0
  have q0 := q_nn (rp x y) hx0 hy0
  have q1 := q_nn (rp x y + 1) hx0 hy0
  have q2 := rr_lt' hx0 hy0
  have e21 := e2_1
  have hhid : Builtin.Int.intBits 4503599627370496 ≤ 53 := by decide
  refine wpAny_call ?_
  k_dflt cell_enter
  k_steps
  all_goals ((refine' endI hret ?e2 ?e3 ?e4 ?e1; (case e2 => k_asm); (case e3 => k_asm); (case e4 => kcj_all)); (case e1 => first | exact v_rr0 (by assumption) | exact v_rrA (by assumption) (by assumption) (by (first | exact v_rnd1 (by assumption) | exact v_rnd2 (by assumption) (by assumption) | exact v_rnd3 (by assumption) (by assumption) | exact v_rnd4 (by assumption) (by assumption))) | exact v_rrB (by assumption) (by assumption) (by (first | exact v_rnd1 (by assumption) | exact v_rnd2 (by assumption) (by assumption) | exact v_rnd3 (by assumption) (by assumption) | exact v_rnd4 (by assumption) (by assumption)))))

end Mine
end

section
open PySem PySem.W PyProof.Rows
namespace Mine

local macro_rules | `(tactic| walk_at "binaryOp LShift int int") => `(tactic| (k_here; (refine' lshift_int ?s1 ?s2 ?_; (case s1 => omega); (case s2 => omega))))
local macro_rules | `(tactic| walk_at "call ref") => `(tactic| (k_here; (with_reducible show wpAny _ _ (call (Value.ref 21) _) _ _ _); k_dflt (refine' Con.use (c_width _ _ _) ?k1 ?k2 ?k3 ?k4 ?k5 ?k6 ?kK ?kp ?kd ?ku ?_; (case k1 => k_asm); (case k2 => k_asm); (case k3 => k_asm); (case k4 => k_asm); (case k5 => k_asm); (case k6 => k_asm); (case kK => first | exact rfl | assumption); (case kp => first | exact True.intro | ((try dsimp only); first | with_reducible assumption | omega)); (case kd => ktr_room); (case ku => ktr_units)); intro t9 h9 tk9 F9 N9; (try dsimp only); (try k_fold)))
local macro_rules | `(tactic| walk_at "call ref") => `(tactic| (k_here; (with_reducible show wpAny _ _ (call (Value.ref 63) _) _ _ _); k_dflt (refine' Con.use (c_signed _ _ _ _ _) ?k1 ?k2 ?k3 ?k4 ?k5 ?k6 ?kK ?kp ?kd ?ku ?_; (case k1 => k_asm); (case k2 => k_asm); (case k3 => k_asm); (case k4 => k_asm); (case k5 => k_asm); (case k6 => k_asm); (case kK => first | exact rfl | assumption); (case kp => first | exact True.intro | ((try dsimp only); first | with_reducible assumption | omega)); (case kd => ktr_room); (case ku => ktr_units)); intro t9 h9 tk9 F9 N9; (try dsimp only); (try k_fold)))
local macro_rules | `(tactic| walk_at "call ref") => `(tactic| (k_here; (with_reducible show wpAny _ _ (call (Value.ref 91) _) _ _ _); k_dflt (refine' Con.use (c_round_ratio _ _ _ _ _ _ _) ?k1 ?k2 ?k3 ?k4 ?k5 ?k6 ?kK ?kp ?kd ?ku ?_; (case k1 => k_asm); (case k2 => k_asm); (case k3 => k_asm); (case k4 => k_asm); (case k5 => k_asm); (case k6 => k_asm); (case kK => first | exact rfl | assumption); (case kp => first | exact True.intro | ((try dsimp only); first | with_reducible assumption | omega)); (case kd => ktr_room); (case ku => ktr_units)); intro t9 h9 tk9 F9 N9; (try dsimp only); (try k_fold)))

set_option maxRecDepth 100000 in
set_option maxHeartbeats 8000000 in
theorem c_round_scaled (w : World) (g : Int) (tg : Tok) (n : Int) (tn : Tok) (p : Int) (tp : Tok) : Con w 105 4 [.int g tg, .int n tn, .int p tp] (0 ≤ g ∧ g ≤ 1 ∧ 0 ≤ n ∧ -3000 ≤ p ∧ p ≤ 1000 ∧ Builtin.Int.intBits n ≤ 2200) (RetI (rs g n p)) := by
  dsimp only [Con, RetI]
  k_fill
  intro mean mg mb dp un gd cn cs a ccd cl outer A₀ base h₀ L m news s Q E B F X N T G hk hpre hd1 hu1 hret
  obtain ⟨hg0, hg1, hn0, hp0, hp1, hbn⟩ := hpre
  have hgi : Builtin.Int.intBits g ≤ 1 := ib_le (by omega)
  have h1i : Builtin.Int.intBits 1 ≤ 1 := by decide
  have hs := ib_shl n p.toNat
  have hs1 : 0 ≤ n * 2 ^ p.toNat := Int.mul_nonneg hn0 (Int.le_of_lt (pw_pos _))
  have hb1 := one_shl (-p).toNat
  have hb2 := one_pos (-p).toNat
  refine wpAny_call ?_
  k_dflt cell_enter
  k_steps
  all_goals ((refine' endI hret ?e2 ?e3 ?e4 ?e1; (case e2 => k_asm); (case e3 => k_asm); (case e4 => kcj_all)); (case e1 => first | exact v_rs0 (by assumption) | exact v_rs0' (by assumption) | exact v_rs1 (by assumption) (by assumption) (by assumption) | exact v_rs2 (by assumption) (by assumption) (by assumption) (by assumption) | exact v_rs3 (by assumption) (by assumption) (by assumption) (by assumption)))

set_option maxRecDepth 100000 in
set_option maxHeartbeats 8000000 in
theorem c_from_int (w : World) (n : Int) (tn : Tok) : Con w 112 4 [.int n tn] (Builtin.Int.intBits n ≤ 4000) (RetI (fi n)) := by
  dsimp only [Con, RetI]
  k_fill
  intro mean mg mb dp un gd cn cs a ccd cl outer A₀ base h₀ L m news s Q E B F X N T G hk hpre hd1 hu1 hret
  have h1i : Builtin.Int.intBits 1 ≤ 1 := by decide
  have hs := abs_ib n
  have hs1 := abs_nn n
  refine wpAny_call ?_
  k_dflt cell_enter
  k_steps
  all_goals ((refine' endI hret ?e2 ?e3 ?e4 ?e1; (case e2 => k_asm); (case e3 => k_asm); (case e4 => kcj_all)); (case e1 => first | exact v_fi1 (by assumption) | exact v_fi2 (by assumption)))

end Mine
end

section
open PySem PySem.W PyProof.Rows PyProof.V PySem.Calls
namespace Mine
def stp (x y : Int) : Int := if pwr y < pwr x then pwr y else pwr x
def shl (x y : Int) : Int := mnt x * 2 ^ (pwr x - stp x y).toNat
def shr (x y : Int) : Int := mnt y * 2 ^ (pwr y - stp x y).toNat
def rm (x y : Int) : Int := if x % 9223372036854775808 = 0 then x else rs (sgn x) (shl x y % shr x y) (stp x y)
def ml (x y : Int) : Int := rs (if sgn x = sgn y then 0 else 1) (mnt x * mnt y) (pwr x + pwr y)
def sg (x v : Int) : Int := if sgn x = 1 then -v else v
def tt (x y : Int) : Int := sg x (shl x y) + sg y (shr x y)
def ad (x y : Int) : Int := if x % 9223372036854775808 = 0 ∧ y % 9223372036854775808 = 0 then Builtin.bitAnd x y else rs (if tt x y < 0 then 1 else 0) (if tt x y < 0 then -tt x y else tt x y) (stp x y)
def dbl (c f : Int) : Int := c % 2 * 9223372036854775808 + (1023 + c / 2 % 100 - f) * 4503599627370496 + c * 2783377641436327 % 4503599627370496 / 2 ^ (c % 48).toNat * 2 ^ (c % 48).toNat

theorem min_st {prog : Program} {w : World} {A : Around} {E : Value → Shared → Prop} {s : Shared} {h₀ : Heap} {L : Addr} {m : Str → Option Value} {news : List (Addr × Obj)} {x y : Int} {t u : Tok} {Q : Value → Shared → Prop} (hh : A.handled = none) (F : Fr h₀ L s.heap m) (N : News h₀ L s.heap news)
    (h : ∀ h' tk t', Fr h₀ L h' m → News h₀ L h' news → Q (.int (stp x y) t') { s with heap := h', toks := tk }) :
    wpAny (model prog w) A (call (.builtin "min") [.int (pwr x) t, .int (pwr y) u]) Q E s :=
  min_two_N hh F N fun h' tk F' N' => h h' tk _ F' N'
theorem stp_le (x y : Int) : stp x y ≤ pwr x ∧ stp x y ≤ pwr y ∧ -1074 ≤ stp x y := by
  have := pwr_rng x
  have := pwr_rng y
  unfold stp; split <;> omega
theorem shl_nn (x y : Int) : 0 ≤ shl x y := Int.mul_nonneg (mnt_rng x).1 (Int.le_of_lt (pw_pos _))
theorem shr_nn (x y : Int) : 0 ≤ shr x y := Int.mul_nonneg (mnt_rng y).1 (Int.le_of_lt (pw_pos _))
theorem shl_ib (x y : Int) : Builtin.Int.intBits (shl x y) ≤ 2100 := by
  have h1 := ib_shl (mnt x) (pwr x - stp x y).toNat
  have h2 := ib_mnt x
  have := stp_le x y
  have := pwr_rng x
  unfold shl; omega
theorem shr_ib (x y : Int) : Builtin.Int.intBits (shr x y) ≤ 2100 := by
  have h1 := ib_shl (mnt y) (pwr y - stp x y).toNat
  have h2 := ib_mnt y
  have := stp_le x y
  have := pwr_rng y
  unfold shr; omega
theorem mnt_pos {y : Int} (h : Fin y) (hz : y % 9223372036854775808 ≠ 0) : 0 < mnt y := by
  have h1 := (mnt_rng y).1
  have h2 := mnt_zero h
  have : mnt y ≠ 0 := fun e => hz (h2.mp e)
  omega
theorem shr_pos {x y : Int} (h : Fin y) (hz : y % 9223372036854775808 ≠ 0) : 0 < shr x y := Int.mul_pos (mnt_pos h hz) (pw_pos _)
theorem rem_facts {x y : Int} (hy : Fin y) (hz : y % 9223372036854775808 ≠ 0) : 0 ≤ shl x y % shr x y ∧ Builtin.Int.intBits (shl x y % shr x y) ≤ 2100 := by
  have h := shr_pos (x := x) hy hz
  have h0 := Int.emod_nonneg (shl x y) (show shr x y ≠ 0 by omega)
  have h1 := Int.emod_lt_of_pos (shl x y) h
  exact ⟨h0, Nat.le_trans (ib_mono h0 (Int.le_of_lt h1)) (shr_ib x y)⟩
theorem v_rm {x y : Int} (h : ¬ x % 9223372036854775808 = 0) : rs (sgn x) (shl x y % shr x y) (stp x y) = rm x y := by unfold rm; rw [if_neg h]
theorem v_rm0 {x y : Int} (h : x % 9223372036854775808 = 0) : x = rm x y := by unfold rm; rw [if_pos h]
theorem v_sx {x y : Int} (hx : Fin x) (hy : Fin y) : Builtin.bitXor (sgn x) (sgn y) = if sgn x = sgn y then 0 else 1 := by
  have h1 := sgn_01 hx
  have h2 := sgn_01 hy
  have a1 : sgn x = 0 ∨ sgn x = 1 := by omega
  have a2 : sgn y = 0 ∨ sgn y = 1 := by omega
  rcases a1 with e1 | e1 <;> rcases a2 with e2 | e2 <;> rw [e1, e2] <;> decide
theorem sx_01 (x y : Int) : (0 : Int) ≤ (if sgn x = sgn y then 0 else 1) ∧ (if sgn x = sgn y then 0 else 1) ≤ (1 : Int) := by split <;> decide
theorem mm_ib (x y : Int) : Builtin.Int.intBits (mnt x * mnt y) ≤ 106 := by
  have := ib_mul (mnt x) (mnt y)
  have := ib_mnt x
  have := ib_mnt y
  omega
theorem mm_nn (x y : Int) : 0 ≤ mnt x * mnt y := Int.mul_nonneg (mnt_rng x).1 (mnt_rng y).1
theorem mm_ok (x y : Int) : IntMulOk (mnt x) (mnt y) := mul_ok (by have := ib_mnt x; have := ib_mnt y; omega)
theorem sg_ib (x v : Int) : Builtin.Int.intBits (sg x v) = Builtin.Int.intBits v := by unfold sg; split <;> simp [ib_neg]
theorem tt_ib (x y : Int) : Builtin.Int.intBits (tt x y) ≤ 2200 := by
  have h1 := ib_add (sg x (shl x y)) (sg y (shr x y))
  have h2 : (sg x (shl x y)).natAbs < 2 ^ 2100 := by
    have := ib_lt (shl x y)
    have h3 : (2:Nat) ^ Builtin.Int.intBits (shl x y) ≤ 2 ^ 2100 := Nat.pow_le_pow_right (by decide) (shl_ib x y)
    unfold sg; split <;> omega
  have h3 : (sg y (shr x y)).natAbs < 2 ^ 2100 := by
    have := ib_lt (shr x y)
    have h3 : (2:Nat) ^ Builtin.Int.intBits (shr x y) ≤ 2 ^ 2100 := Nat.pow_le_pow_right (by decide) (shr_ib x y)
    unfold sg; split <;> omega
  refine ib_le ?_
  have h4 : (2 : Nat) ^ 2200 = 2 ^ 2100 * 2 ^ 100 := by rw [← Nat.pow_add]
  unfold tt
  rw [h4]
  generalize (2 : Nat) ^ 2100 = P at *
  have : (2 : Nat) ^ 100 = 1267650600228229401496703205376 := by decide
  rw [this]; omega
theorem v_ad0 {x y : Int} (h : x % 9223372036854775808 = 0) (h2 : y % 9223372036854775808 = 0) : Builtin.bitAnd x y = ad x y := by unfold ad; rw [if_pos ⟨h, h2⟩]
theorem v_ad1 {x y : Int} (h : ¬ x % 9223372036854775808 = 0 ∨ ¬ y % 9223372036854775808 = 0) : rs (if tt x y < 0 then 1 else 0) (if tt x y < 0 then -tt x y else tt x y) (stp x y) = ad x y := by
  unfold ad; rw [if_neg (c := x % 9223372036854775808 = 0 ∧ y % 9223372036854775808 = 0) (fun q => h.elim (fun h => h q.1) (fun h => h q.2))]
theorem ad_tt (x y : Int) : Builtin.Int.intBits (if tt x y < 0 then -tt x y else tt x y) ≤ 2200 := by
  rw [abs_ib]; exact tt_ib x y
theorem tt_pp {x y : Int} (h1 : ¬ sgn x = 1) (h2 : ¬ sgn y = 1) : mnt x * 2 ^ (pwr x - stp x y).toNat + mnt y * 2 ^ (pwr y - stp x y).toNat = tt x y := by
  unfold tt sg shl shr; rw [if_neg h1, if_neg h2]
theorem tt_np {x y : Int} (h1 : sgn x = 1) (h2 : ¬ sgn y = 1) : -(mnt x * 2 ^ (pwr x - stp x y).toNat) + mnt y * 2 ^ (pwr y - stp x y).toNat = tt x y := by
  unfold tt sg shl shr; rw [if_pos h1, if_neg h2]
theorem tt_pn {x y : Int} (h1 : ¬ sgn x = 1) (h2 : sgn y = 1) : mnt x * 2 ^ (pwr x - stp x y).toNat + -(mnt y * 2 ^ (pwr y - stp x y).toNat) = tt x y := by
  unfold tt sg shl shr; rw [if_neg h1, if_pos h2]
theorem tt_nn {x y : Int} (h1 : sgn x = 1) (h2 : sgn y = 1) : -(mnt x * 2 ^ (pwr x - stp x y).toNat) + -(mnt y * 2 ^ (pwr y - stp x y).toNat) = tt x y := by
  unfold tt sg shl shr; rw [if_pos h1, if_pos h2]
theorem v_adA {x y v : Int} (hz : ¬ x % 9223372036854775808 = 0 ∨ ¬ y % 9223372036854775808 = 0) (hv : v = tt x y) (h : v < 0) : rs 1 (if v < 0 then -v else v) (stp x y) = ad x y := by
  rw [← v_ad1 hz, ← hv, if_pos h, if_pos h]
theorem v_adB {x y v : Int} (hz : ¬ x % 9223372036854775808 = 0 ∨ ¬ y % 9223372036854775808 = 0) (hv : v = tt x y) (h : ¬ v < 0) : rs 0 (if v < 0 then -v else v) (stp x y) = ad x y := by
  rw [← v_ad1 hz, ← hv, if_neg h, if_neg h]
end Mine
end

section
open PySem PySem.W PyProof.Rows
namespace Mine

local macro_rules | `(tactic| walk_at "binaryOp LShift int int") => `(tactic| (k_here; (refine' lshift_int ?s1 ?s2 ?_; (case s1 => omega); (case s2 => omega))))
local macro_rules | `(tactic| walk_at "binaryOp Mod int int") => `(tactic| (k_here; (refine' mod_int' ?s1 ?_; (case s1 => omega))))
local macro_rules | `(tactic| walk_at "binaryOp Mult int int") => `(tactic| (k_here; (refine' mul_int ?_ (mm_ok _ _))))
local macro_rules | `(tactic| walk_at "call builtin:min") => `(tactic| (k_here; k_dflt (refine' min_st ?k1 ?k2 ?k3 ?_; (case k1 => exact rfl); (case k2 => k_asm); (case k3 => k_asm)); intro h' tk' t' F' N'; (try dsimp only); (try k_fold)))
local macro_rules | `(tactic| walk_at "call ref") => `(tactic| (k_here; (with_reducible show wpAny _ _ (call (Value.ref 42) _) _ _ _); k_dflt (refine' Con.use (c_is_nan _ _ _) ?k1 ?k2 ?k3 ?k4 ?k5 ?k6 ?kK ?kp ?kd ?ku ?_; (case k1 => k_asm); (case k2 => k_asm); (case k3 => k_asm); (case k4 => k_asm); (case k5 => k_asm); (case k6 => k_asm); (case kK => first | exact rfl | assumption); (case kp => first | exact True.intro | ((try dsimp only); first | with_reducible assumption | omega)); (case kd => ktr_room); (case ku => ktr_units)); intro h9 tk9 F9 N9; (try dsimp only); (try k_fold)))
local macro_rules | `(tactic| walk_at "call ref") => `(tactic| (k_here; (with_reducible show wpAny _ _ (call (Value.ref 49) _) _ _ _); k_dflt (refine' Con.use (c_is_inf _ _ _) ?k1 ?k2 ?k3 ?k4 ?k5 ?k6 ?kK ?kp ?kd ?ku ?_; (case k1 => k_asm); (case k2 => k_asm); (case k3 => k_asm); (case k4 => k_asm); (case k5 => k_asm); (case k6 => k_asm); (case kK => first | exact rfl | assumption); (case kp => first | exact True.intro | ((try dsimp only); first | with_reducible assumption | omega)); (case kd => ktr_room); (case ku => ktr_units)); intro h9 tk9 F9 N9; (try dsimp only); (try k_fold)))
local macro_rules | `(tactic| walk_at "call ref") => `(tactic| (k_here; (with_reducible show wpAny _ _ (call (Value.ref 56) _) _ _ _); k_dflt (refine' Con.use (c_is_zero _ _ _) ?k1 ?k2 ?k3 ?k4 ?k5 ?k6 ?kK ?kp ?kd ?ku ?_; (case k1 => k_asm); (case k2 => k_asm); (case k3 => k_asm); (case k4 => k_asm); (case k5 => k_asm); (case k6 => k_asm); (case kK => first | exact rfl | assumption); (case kp => first | exact True.intro | ((try dsimp only); first | with_reducible assumption | omega)); (case kd => ktr_room); (case ku => ktr_units)); intro h9 tk9 F9 N9; (try dsimp only); (try k_fold)))
local macro_rules | `(tactic| walk_at "call ref") => `(tactic| (k_here; (with_reducible show wpAny _ _ (call (Value.ref 63) _) _ _ _); k_dflt (refine' Con.use (c_signed _ _ _ _ _) ?k1 ?k2 ?k3 ?k4 ?k5 ?k6 ?kK ?kp ?kd ?ku ?_; (case k1 => k_asm); (case k2 => k_asm); (case k3 => k_asm); (case k4 => k_asm); (case k5 => k_asm); (case k6 => k_asm); (case kK => first | exact rfl | assumption); (case kp => first | exact True.intro | ((try dsimp only); first | with_reducible assumption | omega)); (case kd => ktr_room); (case ku => ktr_units)); intro t9 h9 tk9 F9 N9; (try dsimp only); (try k_fold)))
local macro_rules | `(tactic| walk_at "call ref") => `(tactic| (k_here; (with_reducible show wpAny _ _ (call (Value.ref 70) _) _ _ _); k_dflt (refine' Con.use (c_parts _ _ _) ?k1 ?k2 ?k3 ?k4 ?k5 ?k6 ?kK ?kp ?kd ?ku ?_; (case k1 => k_asm); (case k2 => k_asm); (case k3 => k_asm); (case k4 => k_asm); (case k5 => k_asm); (case k6 => k_asm); (case kK => first | exact rfl | assumption); (case kp => first | exact True.intro | ((try dsimp only); first | with_reducible assumption | omega)); (case kd => ktr_room); (case ku => ktr_units)); intro D9 t9 u9 v9 c9 h9 tk9 F9 N9; (try dsimp only); (try k_fold)))
local macro_rules | `(tactic| walk_at "call ref") => `(tactic| (k_here; (with_reducible show wpAny _ _ (call (Value.ref 105) _) _ _ _); k_dflt (refine' Con.use (c_round_scaled _ _ _ _ _ _ _) ?k1 ?k2 ?k3 ?k4 ?k5 ?k6 ?kK ?kp ?kd ?ku ?_; (case k1 => k_asm); (case k2 => k_asm); (case k3 => k_asm); (case k4 => k_asm); (case k5 => k_asm); (case k6 => k_asm); (case kK => first | exact rfl | assumption); (case kp => first | exact True.intro | ((try dsimp only); first | with_reducible assumption | omega)); (case kd => ktr_room); (case ku => ktr_units)); intro t9 h9 tk9 F9 N9; (try dsimp only); (try k_fold)))

set_option maxRecDepth 100000 in
set_option maxHeartbeats 8000000 in
theorem c_rem (w : World) (x : Int) (tx : Tok) (y : Int) (ty : Tok) : Con w 147 5 [.int x tx, .int y ty] (Fin x ∧ Fin y ∧ y % 9223372036854775808 ≠ 0) (RetI (rm x y)) := by
  dsimp only [Con, RetI]
  k_fill
  intro mean mg mb dp un gd cn cs a ccd cl outer A₀ base h₀ L m news s Q E B F X N T G hk hpre hd1 hu1 hret
  obtain ⟨hfx, hfy, hyz⟩ := hpre
  have hfx' := hfx
  have hfy' := hfy
  obtain ⟨hx0, hx1, hx2⟩ := hfx'
  obtain ⟨hy0, hy1, hy2⟩ := hfy'
  have hs1 := sgn_01 hfx
  have hs := stp_le x y
  have hpx := pwr_rng x
  have hpy := pwr_rng y
  have hi1 := ib_mnt x
  have hi2 := ib_mnt y
  have hfm := rem_facts (x := x) hfy hyz
  have hq1 := shr_pos (x := x) hfy hyz
  rw [← fm_pos hq1] at hfm
  unfold shl shr at hfm
  unfold shr at hq1
  refine wpAny_call ?_
  k_dflt cell_enter
  k_steps
  all_goals ((refine' endI hret ?e2 ?e3 ?e4 ?e1; (case e2 => k_asm); (case e3 => k_asm); (case e4 => kcj_all)); (case e1 => first | exact v_rm0 (by assumption) | (rw [fm_pos (by assumption)]; exact v_rm (by assumption))))

set_option maxRecDepth 100000 in
set_option maxHeartbeats 8000000 in
theorem c_mul (w : World) (x : Int) (tx : Tok) (y : Int) (ty : Tok) : Con w 140 5 [.int x tx, .int y ty] (Fin x ∧ Fin y ∧ pwr x + pwr y ≤ 1000) (RetI (ml x y)) := by
  dsimp only [Con, RetI]
  k_fill
  intro mean mg mb dp un gd cn cs a ccd cl outer A₀ base h₀ L m news s Q E B F X N T G hk hpre hd1 hu1 hret
  obtain ⟨hfx, hfy, hpp⟩ := hpre
  have hfx' := hfx
  have hfy' := hfy
  obtain ⟨hx0, hx1, hx2⟩ := hfx'
  obtain ⟨hy0, hy1, hy2⟩ := hfy'
  have hv1 := v_sgn x
  have hv2 := v_sgn y
  have hsx := sgn_01 hfx
  have hsy := sgn_01 hfy
  have hpx := pwr_rng x
  have hpy := pwr_rng y
  have hsxy := v_sx hfx hfy
  have hs01 := sx_01 x y
  rw [← hsxy, ← hv1, ← hv2] at hs01
  have hm1 := mm_ib x y
  have hm2 := mm_nn x y
  refine wpAny_call ?_
  k_dflt cell_enter
  k_steps
  all_goals ((refine' endI hret ?e2 ?e3 ?e4 ?e1; (case e2 => k_asm); (case e3 => k_asm); (case e4 => kcj_all)); (case e1 => first | (rw [v_sgn, v_sgn, v_sx hfx hfy]; rfl)))

end Mine
end

section
open PySem PySem.W PyProof.Rows
namespace Mine

local macro_rules | `(tactic| walk_at "binaryOp LShift int int") => `(tactic| (k_here; (refine' lshift_int ?s1 ?s2 ?_; (case s1 => omega); (case s2 => omega))))
local macro_rules | `(tactic| walk_at "call builtin:min") => `(tactic| (k_here; k_dflt (refine' min_st ?k1 ?k2 ?k3 ?_; (case k1 => exact rfl); (case k2 => k_asm); (case k3 => k_asm)); intro h' tk' t' F' N'; (try dsimp only); (try k_fold)))

set_option maxRecDepth 100000 in
set_option maxHeartbeats 8000000 in
theorem c_summed (w : World) (x y : Int) (D1 D2 : Addr) (t1 t2 t3 u1 u2 u3 : Tok) (c1 c2 : Nat) : Con w 133 1 [.ref D1, .ref D2] True (fun h₀ L m news s Q => (D1, tup #[.int (sgn x) t1, .int (mnt x) t2, .int (pwr x) t3] c1) ∈ news ∧ (D2, tup #[.int (sgn y) u1, .int (mnt y) u2, .int (pwr y) u3] c2) ∈ news ∧ RetT2 (tt x y) (stp x y) h₀ L m news s Q) := by
  dsimp only [Con, RetT2]
  k_fill
  intro mean mg mb dp un gd cn cs a ccd cl outer A₀ base h₀ L m news s Q E B F X N₀ T G hk hpre hd1 hu1 hret
  obtain ⟨hm1, hm2, hret⟩ := hret
  have N : News h₀ L s.heap ((D1, tup #[.int (sgn x) t1, .int (mnt x) t2, .int (pwr x) t3] c1) :: (D2, tup #[.int (sgn y) u1, .int (mnt y) u2, .int (pwr y) u3] c2) :: news) := cb_drop N₀ (fun p hp => by
    rcases List.mem_cons.mp hp with rfl | hp
    · exact hm1
    · rcases List.mem_cons.mp hp with rfl | hp
      · exact hm2
      · exact hp)
  clear N₀ hm1 hm2
  have hs := stp_le x y
  have hpx := pwr_rng x
  have hpy := pwr_rng y
  have hi1 := ib_mnt x
  have hi2 := ib_mnt y
  refine wpAny_call ?_
  k_dflt cell_enter
  k_steps
  all_goals ((refine' endT2 hret ?e2 ?e3 ?e4 ?e1 ?e5; (case e2 => k_asm); (case e3 => k_asm); (case e4 => kcj_all)); (case e1 => first | exact (by first | exact tt_pp (by assumption) (by assumption) | exact tt_np (by assumption) (by assumption) | exact tt_pn (by assumption) (by assumption) | exact tt_nn (by assumption) (by assumption))); (case e5 => rfl))

local macro_rules | `(tactic| walk_at "call ref") => `(tactic| (k_here; (with_reducible show wpAny _ _ (call (Value.ref 133) _) _ _ _); k_dflt (refine' Con.use (c_summed _ _ _ _ _ _ _ _ _ _ _ _ _) ?k1 ?k2 ?k3 ?k4 ?k5 ?k6 ?kK True.intro ?kd ?ku ⟨?m1, ?m2, ?_⟩; (case k1 => k_asm); (case k2 => k_asm); (case k3 => k_asm); (case k4 => k_asm); (case k5 => k_asm); (case k6 => k_asm); (case kK => first | exact rfl | assumption); (case kd => ktr_room); (case ku => ktr_units); (case m1 => k_mem); (case m2 => k_mem)); intro D9 t9 u9 c9 h9 tk9 F9 N9; (try dsimp only); (try k_fold)))
local macro_rules | `(tactic| walk_at "call ref") => `(tactic| (k_here; (with_reducible show wpAny _ _ (call (Value.ref 42) _) _ _ _); k_dflt (refine' Con.use (c_is_nan _ _ _) ?k1 ?k2 ?k3 ?k4 ?k5 ?k6 ?kK ?kp ?kd ?ku ?_; (case k1 => k_asm); (case k2 => k_asm); (case k3 => k_asm); (case k4 => k_asm); (case k5 => k_asm); (case k6 => k_asm); (case kK => first | exact rfl | assumption); (case kp => first | exact True.intro | ((try dsimp only); first | with_reducible assumption | omega)); (case kd => ktr_room); (case ku => ktr_units)); intro h9 tk9 F9 N9; (try dsimp only); (try k_fold)))
local macro_rules | `(tactic| walk_at "call ref") => `(tactic| (k_here; (with_reducible show wpAny _ _ (call (Value.ref 49) _) _ _ _); k_dflt (refine' Con.use (c_is_inf _ _ _) ?k1 ?k2 ?k3 ?k4 ?k5 ?k6 ?kK ?kp ?kd ?ku ?_; (case k1 => k_asm); (case k2 => k_asm); (case k3 => k_asm); (case k4 => k_asm); (case k5 => k_asm); (case k6 => k_asm); (case kK => first | exact rfl | assumption); (case kp => first | exact True.intro | ((try dsimp only); first | with_reducible assumption | omega)); (case kd => ktr_room); (case ku => ktr_units)); intro h9 tk9 F9 N9; (try dsimp only); (try k_fold)))
local macro_rules | `(tactic| walk_at "call ref") => `(tactic| (k_here; (with_reducible show wpAny _ _ (call (Value.ref 56) _) _ _ _); k_dflt (refine' Con.use (c_is_zero _ _ _) ?k1 ?k2 ?k3 ?k4 ?k5 ?k6 ?kK ?kp ?kd ?ku ?_; (case k1 => k_asm); (case k2 => k_asm); (case k3 => k_asm); (case k4 => k_asm); (case k5 => k_asm); (case k6 => k_asm); (case kK => first | exact rfl | assumption); (case kp => first | exact True.intro | ((try dsimp only); first | with_reducible assumption | omega)); (case kd => ktr_room); (case ku => ktr_units)); intro h9 tk9 F9 N9; (try dsimp only); (try k_fold)))
local macro_rules | `(tactic| walk_at "call ref") => `(tactic| (k_here; (with_reducible show wpAny _ _ (call (Value.ref 70) _) _ _ _); k_dflt (refine' Con.use (c_parts _ _ _) ?k1 ?k2 ?k3 ?k4 ?k5 ?k6 ?kK ?kp ?kd ?ku ?_; (case k1 => k_asm); (case k2 => k_asm); (case k3 => k_asm); (case k4 => k_asm); (case k5 => k_asm); (case k6 => k_asm); (case kK => first | exact rfl | assumption); (case kp => first | exact True.intro | ((try dsimp only); first | with_reducible assumption | omega)); (case kd => ktr_room); (case ku => ktr_units)); intro D9 t9 u9 v9 c9 h9 tk9 F9 N9; (try dsimp only); (try k_fold)))
local macro_rules | `(tactic| walk_at "call ref") => `(tactic| (k_here; (with_reducible show wpAny _ _ (call (Value.ref 105) _) _ _ _); k_dflt (refine' Con.use (c_round_scaled _ _ _ _ _ _ _) ?k1 ?k2 ?k3 ?k4 ?k5 ?k6 ?kK ?kp ?kd ?ku ?_; (case k1 => k_asm); (case k2 => k_asm); (case k3 => k_asm); (case k4 => k_asm); (case k5 => k_asm); (case k6 => k_asm); (case kK => first | exact rfl | assumption); (case kp => first | exact True.intro | ((try dsimp only); (refine' ⟨?p1, ?p2, abs_nn _, ?p4, ?p5, ?p6⟩; (case p1 => omega); (case p2 => omega); (case p4 => omega); (case p5 => omega); (case p6 => exact ad_tt _ _)))); (case kd => ktr_room); (case ku => ktr_units)); intro t9 h9 tk9 F9 N9; (try dsimp only); (try k_fold)))

set_option maxRecDepth 100000 in
set_option maxHeartbeats 8000000 in
theorem c_add (w : World) (x : Int) (tx : Tok) (y : Int) (ty : Tok) : Con w 126 5 [.int x tx, .int y ty] (Fin x ∧ Fin y) (RetI (ad x y)) := by
  dsimp only [Con, RetI]
  k_fill
  intro mean mg mb dp un gd cn cs a ccd cl outer A₀ base h₀ L m news s Q E B F X N T G hk hpre hd1 hu1 hret
  obtain ⟨hfx, hfy⟩ := hpre
  have hfx' := hfx
  have hfy' := hfy
  obtain ⟨hx0, hx1, hx2⟩ := hfx'
  obtain ⟨hy0, hy1, hy2⟩ := hfy'
  have hs := stp_le x y
  have hpx := pwr_rng x
  have hpy := pwr_rng y
  refine wpAny_call ?_
  k_dflt cell_enter
  k_steps
  all_goals ((refine' endI hret ?e2 ?e3 ?e4 ?e1; (case e2 => k_asm); (case e3 => k_asm); (case e4 => kcj_all)); (case e1 => first | exact v_ad0 (by assumption) (by assumption) | exact v_adA (by first | exact .inl (by assumption) | exact .inr (by assumption)) rfl (by assumption) | exact v_adB (by first | exact .inl (by assumption) | exact .inr (by assumption)) rfl (by assumption)))

end Mine
end

section
open PySem PySem.W PyProof.Rows PyProof.V PySem.Calls
namespace Mine
/-- the value without its sign, in units of 2 ^ -1074 -/
def V (x : Int) : Int := mnt x * 2 ^ (pwr x + 1074).toNat
def Wv (x : Int) : Int := sg x (V x)
theorem V_nn (x : Int) : 0 ≤ V x := Int.mul_nonneg (mnt_rng x).1 (Int.le_of_lt (pw_pos _))
theorem V_zero {x : Int} : V x = 0 ↔ mnt x = 0 := by
  unfold V
  constructor
  · intro h
    rcases Int.mul_eq_zero.mp h with h | h
    · exact h
    · have := pw_pos (pwr x + 1074).toNat; omega
  · intro h; rw [h, Int.zero_mul]
theorem mnt_norm {x : Int} (h : exf x ≠ 0) : 4503599627370496 ≤ mnt x := by
  unfold mnt; rw [if_neg h]; omega
theorem exf_rng (x : Int) : 0 ≤ exf x ∧ exf x < 2048 := by unfold exf; omega
theorem V_norm {x : Int} (h : exf x ≠ 0) : bl (V x) = exf x + 52 ∧ mnt x = x % 4503599627370496 + 4503599627370496 := by
  have h1 := mnt_norm h
  have h2 := mnt_rng x
  have h3 := exf_rng x
  have e : pwr x = exf x - 1075 := by unfold pwr; rw [if_neg h]
  have hb : bl (mnt x) = 53 := bl_of (k := 52) (by omega) (by omega)
  refine ⟨?_, by unfold mnt; rw [if_neg h]⟩
  unfold V
  rw [bl_mul (by omega), hb]; omega
theorem V_sub {x : Int} (h : exf x = 0) : V x = x % 4503599627370496 := by
  have e : pwr x = -1074 := by unfold pwr; rw [if_pos h]
  have e1 : mnt x = x % 4503599627370496 := by unfold mnt; rw [if_pos h]
  unfold V; rw [e, e1]
  show x % 4503599627370496 * 1 = _
  rw [Int.mul_one]
theorem V_sub_bl {x : Int} (h : exf x = 0) : bl (V x) ≤ 52 := by
  rw [V_sub h]
  exact bl_le (k := 52) (by omega)
/-- sign and size tell the double -/
theorem same {x y : Int} (hs : sgn x = sgn y) (hv : V x = V y) : x = y := by
  have key : exf x = exf y ∧ x % 4503599627370496 = y % 4503599627370496 := by
    by_cases hx : exf x = 0
    · by_cases hy : exf y = 0
      · rw [V_sub hx, V_sub hy] at hv
        exact ⟨by omega, hv⟩
      · have h1 := V_sub_bl hx
        have h2 := (V_norm hy).1
        have := exf_rng y
        rw [hv] at h1; omega
    · by_cases hy : exf y = 0
      · have h1 := V_sub_bl hy
        have h2 := (V_norm hx).1
        have := exf_rng x
        rw [← hv] at h1; omega
      · have h1 := V_norm hx
        have h2 := V_norm hy
        have e : exf x = exf y := by rw [hv] at h1; omega
        refine ⟨e, ?_⟩
        have ep : pwr x = pwr y := by unfold pwr; rw [e]
        unfold V at hv
        rw [ep] at hv
        have hp := pw_pos (pwr y + 1074).toNat
        have := Int.eq_of_mul_eq_mul_right (by omega) hv
        omega
  unfold sgn at hs
  unfold exf at key
  omega
theorem pwr_ge {x : Int} {e : Nat} (h : 2 ^ e ≤ V x) (he : 53 ≤ e) : (e : Int) - 1127 ≤ pwr x := by
  have h0 := pw_pos e
  obtain ⟨k, ek, h1, h2⟩ := bl_spec (show 0 < V x by omega)
  have hk : e < k + 1 := pw_lt_inv (show (2:Int) ^ e < 2 ^ (k + 1) by omega)
  by_cases hx : exf x = 0
  · have := V_sub_bl hx; omega
  · have h3 := (V_norm hx).1
    have : pwr x = exf x - 1075 := by unfold pwr; rw [if_neg hx]
    omega
theorem V_ge {x : Int} (h : mnt x ≠ 0) : 2 ^ (pwr x + 1074).toNat ≤ V x := by
  have h1 := mnt_rng x
  have h2 := pw_pos (pwr x + 1074).toNat
  have := Int.mul_le_mul_of_nonneg_right (show 1 ≤ mnt x by omega) (Int.le_of_lt h2)
  unfold V; omega
/-- what rounding gives, where it has nothing to round -/
theorem rsx {s M p : Int} (s0 : 0 ≤ s) (s1 : s ≤ 1) (hM : 0 ≤ M) (h53 : M < 9007199254740992) (hp : -900 ≤ p) (hp1 : p ≤ 900) :
    Fin (rs s M p) ∧ sgn (rs s M p) = s ∧ V (rs s M p) = M * 2 ^ (p + 1074).toNat := by
  by_cases h0 : M = 0
  · subst h0
    rw [rs_zero]
    have := zero_mnt s s0 s1
    refine ⟨this.2.2.1, this.2.1, ?_⟩
    rw [V_zero.mpr this.1, Int.zero_mul]
  · obtain ⟨m, q, hN, eq, hq0, hq1, he⟩ := nrm_of s0 s1 (show 0 < M by omega) h53 hp hp1
    rw [rs_exact (by omega) hN (by omega) (by omega) he]
    refine ⟨enc_fin hN, enc_sgn hN, ?_⟩
    unfold V
    rw [enc_mnt hN, enc_pwr hN]
    exact (eq_scale he (by omega)).symm
theorem V_scale {x t : Int} (h : t ≤ pwr x) (ht : -1074 ≤ t) : V x = mnt x * 2 ^ (pwr x - t).toNat * 2 ^ (t + 1074).toNat := by
  unfold V
  rw [Int.mul_assoc, ← pw_add]
  congr 2; omega
/-- the rest's sign and size -/
theorem rmx {x y : Int} (hx : Fin x) (hy : 0 < mnt y) (h : x % 9223372036854775808 = 0 ∨ (-900 ≤ stp x y ∧ stp x y ≤ 900)) :
    Fin (rm x y) ∧ sgn (rm x y) = sgn x ∧ V (rm x y) = V x % V y := by
  unfold rm
  by_cases h0 : x % 9223372036854775808 = 0
  · rw [if_pos h0]
    have : V x = 0 := V_zero.mpr ((mnt_zero hx).mpr h0)
    rw [this, Int.zero_emod]
    exact ⟨hx, rfl, rfl⟩
  · rw [if_neg h0]
    have h1 := h.resolve_left h0
    have hs := sgn_01 hx
    have hl := shl_nn x y
    have hr : 0 < shr x y := Int.mul_pos hy (pw_pos _)
    have hm0 := Int.emod_nonneg (shl x y) (show shr x y ≠ 0 by omega)
    have hm1 := Int.emod_lt_of_pos (shl x y) hr
    have hst := stp_le x y
    have h53 : shl x y % shr x y < 9007199254740992 := by
      have hx1 := mnt_rng x
      have hy1 := mnt_rng y
      by_cases hc : pwr y < pwr x
      · have e : stp x y = pwr y := by unfold stp; rw [if_pos hc]
        have e2 : shr x y = mnt y := by unfold shr; rw [e, show (pwr y - pwr y).toNat = 0 by omega]; simp
        omega
      · have e : stp x y = pwr x := by unfold stp; rw [if_neg hc]
        have e2 : shl x y = mnt x := by unfold shl; rw [e, show (pwr x - pwr x).toNat = 0 by omega]; simp
        have e3 := Int.emod_add_mul_ediv (shl x y) (shr x y)
        have e4 := Int.mul_nonneg (Int.le_of_lt hr) (Int.ediv_nonneg hl (Int.le_of_lt hr))
        omega
    obtain ⟨a1, a2, a3⟩ := rsx hs.1 hs.2 hm0 h53 h1.1 h1.2
    refine ⟨a1, a2, ?_⟩
    rw [a3, V_scale hst.1 hst.2.2, V_scale hst.2.1 hst.2.2]
    show _ = shl x y * _ % (shr x y * _)
    rw [Int.mul_comm (shl x y), Int.mul_comm (shr x y), Int.mul_emod_mul_of_pos _ _ (pw_pos _), Int.mul_comm]
end Mine
end

section
open PySem PySem.W PyProof.Rows PyProof.V PySem.Calls
namespace Mine
/-- what the law builds -/
structure Gd (x : Int) : Prop where
  fin : Fin x
  pos : 0 < mnt x
  p0 : -200 ≤ pwr x
  p1 : pwr x ≤ 200
theorem Gd.nz {x : Int} (h : Gd x) : x % 9223372036854775808 ≠ 0 := fun e => by
  have := (mnt_zero h.fin).mpr e
  have := h.pos
  omega
theorem dbl_gd {c f : Int} (hc : 0 ≤ c) (hf : -100 ≤ f) (hf1 : f ≤ 100) : Gd (dbl c f) := by
  have h48 : 0 ≤ c % 48 ∧ c % 48 < 48 := by omega
  obtain ⟨P, hP⟩ : ∃ P : Int, P = 2 ^ (c % 48).toNat := ⟨_, rfl⟩
  have hP0 : 0 < P := by rw [hP]; exact pw_pos _
  obtain ⟨F, hF⟩ : ∃ F : Int, F = c * 2783377641436327 % 4503599627370496 := ⟨_, rfl⟩
  have hF0 : 0 ≤ F ∧ F < 4503599627370496 := by omega
  obtain ⟨R, hR⟩ : ∃ R : Int, R = F / P * P := ⟨_, rfl⟩
  have hR0 : 0 ≤ R := by rw [hR]; exact Int.mul_nonneg (Int.ediv_nonneg hF0.1 (Int.le_of_lt hP0)) (Int.le_of_lt hP0)
  have hR1 : R < 4503599627370496 := by
    have := Int.ediv_mul_le F (show P ≠ 0 by omega)
    omega
  have e : dbl c f = c % 2 * 9223372036854775808 + (1023 + c / 2 % 100 - f) * 4503599627370496 + R := by
    unfold dbl; rw [← hP, ← hF, ← hR]
  have hx : exf (dbl c f) = 1023 + c / 2 % 100 - f := by rw [e]; unfold exf; omega
  have hx0 : exf (dbl c f) ≠ 0 := by omega
  refine ⟨?_, ?_, ?_, ?_⟩
  · rw [e]; unfold Fin; omega
  · have := mnt_norm hx0; omega
  · unfold pwr; rw [if_neg hx0]; omega
  · unfold pwr; rw [if_neg hx0]; omega
theorem V_pos {x : Int} (h : 0 < mnt x) : 0 < V x := Int.mul_pos h (pw_pos _)
theorem exD_pos (x : Int) : 0 < exD x := pw_pos _
def aN (x : Int) : Int := mnt x * 2 ^ (pwr x).toNat
def U : Int := 2 ^ 1074
theorem U_pos : 0 < U := pw_pos _
theorem aN_nn (x : Int) : 0 ≤ aN x := Int.mul_nonneg (mnt_rng x).1 (Int.le_of_lt (pw_pos _))
theorem aN_U (x : Int) : aN x * U = V x * exD x := by
  have := pwr_rng x
  unfold aN U V exD
  rw [Int.mul_assoc, Int.mul_assoc, ← pw_add, ← pw_add]
  congr 2; omega
theorem exN_aN (x : Int) : exN x = sg x (aN x) := by
  unfold exN sg aN
  split
  · rw [Int.neg_mul]
  · rfl
theorem exN_U (x : Int) : exN x * U = Wv x * exD x := by
  have h := aN_U x
  rw [exN_aN]; unfold sg Wv sg
  split
  · rw [Int.neg_mul, h, Int.neg_mul]
  · exact h
theorem exN_abs (x : Int) : (if exN x < 0 then -exN x else exN x) = aN x := by
  have h := aN_nn x
  rw [exN_aN]; unfold sg
  split <;> split <;> omega
theorem exN_zero (x : Int) : exN x = 0 ↔ V x = 0 := by
  have h := exN_U x
  have hU := U_pos
  have hD := exD_pos x
  have hV := V_nn x
  have h1 : Wv x = 0 ↔ V x = 0 := by unfold Wv sg; split <;> omega
  rw [← h1]
  constructor
  · intro e
    rw [e, Int.zero_mul] at h
    rcases Int.mul_eq_zero.mp h.symm with h | h
    · exact h
    · omega
  · intro e
    rw [e, Int.zero_mul] at h
    rcases Int.mul_eq_zero.mp h with h | h
    · exact h
    · omega
theorem ngx {x : Int} (h : Fin x) : Fin (ng x) ∧ sgn (ng x) = 1 - sgn x ∧ mnt (ng x) = mnt x ∧ pwr (ng x) = pwr x ∧ V (ng x) = V x := by
  have h1 : Fin (ng x) ∧ sgn (ng x) = 1 - sgn x ∧ exf (ng x) = exf x ∧ ng x % 4503599627370496 = x % 4503599627370496 := by
    unfold Fin at *
    unfold ng sgn exf
    split <;> omega
  obtain ⟨a, b, c, d⟩ := h1
  have e1 : mnt (ng x) = mnt x := by unfold mnt; rw [c, d]
  have e2 : pwr (ng x) = pwr x := by unfold pwr; rw [c]
  exact ⟨a, b, e1, e2, by unfold V; rw [e1, e2]⟩
theorem Gd.ng {x : Int} (h : Gd x) : Gd (ng x) := by
  obtain ⟨a, b, c, d, e⟩ := ngx h.fin
  exact ⟨a, by rw [c]; exact h.pos, by rw [d]; exact h.p0, by rw [d]; exact h.p1⟩
theorem stp_rng {x y : Int} {lo hi : Int} (h : lo ≤ pwr x) (h2 : lo ≤ pwr y) (h3 : pwr y ≤ hi) : lo ≤ stp x y ∧ stp x y ≤ hi := by
  have := stp_le x y
  unfold stp; split <;> omega
theorem V_pwr {x : Int} (h : 2 ^ 800 ≤ V x) : -900 ≤ pwr x := by
  have := pwr_ge h (by omega)
  omega
/-- one rest: what is asked of the first is that it is nought, or not small -/
theorem rmg {x y : Int} (hx : Fin x) (hy : Gd y) (h : V x = 0 ∨ 2 ^ 800 ≤ V x) : Fin (rm x y) ∧ sgn (rm x y) = sgn x ∧ V (rm x y) = V x % V y := by
  refine rmx hx hy.pos ?_
  rcases h with h | h
  · exact .inl ((mnt_zero hx).mp (V_zero.mp h))
  · have h1 := V_pwr h
    have := hy.p0
    have := hy.p1
    have := stp_rng (lo := -900) (hi := 900) h1 (show -900 ≤ pwr y by omega) (by omega)
    exact .inr this
theorem V_unit {x : Int} (h : V x ≠ 0) {e : Nat} (he : (e : Int) ≤ pwr x + 1074) : 2 ^ e ≤ V x := by
  have h1 : mnt x ≠ 0 := fun q => h (V_zero.mpr q)
  have h2 := V_ge h1
  have h3 : (2 : Int) ^ e ≤ 2 ^ (pwr x + 1074).toNat := pw_le (by omega)
  omega
theorem Gd.big {x : Int} (h : Gd x) : 2 ^ 874 ≤ V x := V_unit (by have := V_pos h.pos; omega) (by have := h.p0; omega)
theorem Gd.Vpos {x : Int} (h : Gd x) : 0 < V x := V_pos h.pos
theorem p800 : (2 : Int) ^ 800 ≤ 2 ^ 874 := pw_le (by decide)
/-- every value here is a whole number of 2 ^ 874 -/
theorem Gd.unit {x : Int} (h : Gd x) : ∃ q, V x = 2 ^ 874 * q := by
  have h0 := h.p0
  refine ⟨mnt x * 2 ^ (pwr x + 200).toNat, ?_⟩
  unfold V
  rw [show (pwr x + 1074).toNat = 874 + (pwr x + 200).toNat by omega, pw_add]
  grind
theorem mod_unit {u p q : Int} (hu : 0 < u) : ∃ r, u * p % (u * q) = u * r := ⟨p % q, Int.mul_emod_mul_of_pos _ _ hu⟩
theorem unit_big {u r v : Int} (hu : 0 < u) (h : v = u * r) (hv : 0 ≤ v) : v = 0 ∨ u ≤ v := by
  by_cases h0 : v = 0
  · exact .inl h0
  · right
    have hr : 0 < r := by
      by_cases hr : 0 < r
      · exact hr
      · have := Int.mul_le_mul_of_nonneg_left (show r ≤ 0 by omega) (Int.le_of_lt hu)
        omega
    have := Int.mul_le_mul_of_nonneg_left (show 1 ≤ r by omega) (Int.le_of_lt hu)
    omega
structure Rest (a b f : Int) : Prop where
  fin : Fin f
  sg : sgn f = sgn a
  v : V f = V a % V b
  lt : V f < V b
  big : V f = 0 ∨ 2 ^ 874 ≤ V f
theorem rest_of {a b : Int} (ha : Gd a) (hb : Gd b) : Rest a b (rm a b) := by
  have h800 := p800
  obtain ⟨h1, h2, h3⟩ := rmg ha.fin hb (.inr (by have := ha.big; omega))
  have hvb := hb.Vpos
  have h0 := V_nn (rm a b)
  refine ⟨h1, h2, h3, ?_, ?_⟩
  · rw [h3]; exact Int.emod_lt_of_pos _ hvb
  · obtain ⟨p, hp⟩ := ha.unit
    obtain ⟨q, hq⟩ := hb.unit
    obtain ⟨r, hr⟩ := mod_unit (u := 2 ^ 874) (p := p) (q := q) (pw_pos _)
    rw [hp, hq, hr] at h3
    exact unit_big (pw_pos _) h3 h0
theorem Rest.b8 {a b f : Int} (h : Rest a b f) : V f = 0 ∨ 2 ^ 800 ≤ V f := by
  have h800 := p800
  rcases h.big with h | h
  · exact .inl h
  · exact .inr (by omega)
theorem law_again {a b : Int} (ha : Gd a) (hb : Gd b) : rm (rm a b) b = rm a b := by
  have h := rest_of ha hb
  obtain ⟨h1, h2, h3⟩ := rmg h.fin hb h.b8
  refine same h2 ?_
  rw [h3]
  exact Int.emod_eq_of_lt (V_nn _) h.lt
theorem law_neg {a b : Int} (ha : Gd a) (hb : Gd b) : rm (ng a) b = ng (rm a b) := by
  have h := rest_of ha hb
  have h' := rest_of ha.ng hb
  have n1 := ngx ha.fin
  have n2 := ngx h.fin
  refine same ?_ ?_
  · rw [h'.sg, n1.2.1, n2.2.1, h.sg]
  · rw [h'.v, n1.2.2.2.2, n2.2.2.2.2, h.v]
theorem law_neg2 {a b : Int} (ha : Gd a) (hb : Gd b) : rm a (ng b) = rm a b := by
  have h := rest_of ha hb
  have h' := rest_of ha hb.ng
  have n1 := ngx hb.fin
  refine same ?_ ?_
  · rw [h'.sg, h.sg]
  · rw [h'.v, n1.2.2.2.2, h.v]
theorem sg_mul (x v : Int) : sg x v = (if sgn x = 1 then -1 else 1) * v := by unfold sg; split <;> omega
theorem law_whole {a b : Int} (ha : Gd a) (hb : Gd b) : ((exN a * exD (rm a b) - exN (rm a b) * exD a) * exD b).fmod (exN b * exD a * exD (rm a b)) = 0 := by
  have h := rest_of ha hb
  obtain ⟨f, hf⟩ : ∃ f, f = rm a b := ⟨_, rfl⟩
  rw [← hf] at h ⊢
  have e1 := exN_U a
  have e2 := exN_U b
  have e3 := exN_U f
  have hU := U_pos
  obtain ⟨q, hq⟩ : ∃ q, Wv a - Wv f = q * Wv b := by
    refine ⟨(if sgn a = 1 then -1 else 1) * (if sgn b = 1 then -1 else 1) * (V a / V b), ?_⟩
    have hd := Int.emod_add_mul_ediv (V a) (V b)
    rw [← h.v] at hd
    have s1 : Wv a = (if sgn a = 1 then -1 else 1) * V a := sg_mul _ _
    have s2 : Wv b = (if sgn b = 1 then -1 else 1) * V b := sg_mul _ _
    have s3 : Wv f = (if sgn a = 1 then -1 else 1) * V f := by rw [← h.sg]; exact sg_mul _ _
    rw [s1, s2, s3]
    split <;> split <;> grind
  have key : ((exN a * exD f - exN f * exD a) * exD b) * U = (exN b * exD a * exD f * q) * U := by grind
  have := Int.eq_of_mul_eq_mul_right (by omega) key
  rw [this]
  exact Int.mul_fmod_right _ _
theorem law_less {a b : Int} (ha : Gd a) (hb : Gd b) : (if exN (rm a b) < 0 then -exN (rm a b) else exN (rm a b)) * exD b < (if exN b < 0 then -exN b else exN b) * exD (rm a b) := by
  have h := rest_of ha hb
  rw [exN_abs, exN_abs]
  have e1 := aN_U b
  have e2 := aN_U (rm a b)
  have hU := U_pos
  have d1 := exD_pos b
  have d2 := exD_pos (rm a b)
  refine Int.lt_of_mul_lt_mul_right (a := U) ?_ (Int.le_of_lt hU)
  have k1 : aN (rm a b) * exD b * U = V (rm a b) * (exD (rm a b) * exD b) := by grind
  have k2 : aN b * exD (rm a b) * U = V b * (exD (rm a b) * exD b) := by grind
  rw [k1, k2]
  exact Int.mul_lt_mul_of_pos_right h.lt (Int.mul_pos d2 d1)
theorem law_ne {a b f : Int} (hb : Gd b) : exN b * exD a * exD f ≠ 0 := by
  have d1 := exD_pos a
  have d2 := exD_pos f
  have h0 := hb.Vpos
  have h1 : exN b ≠ 0 := fun e => by have := (exN_zero b).mp e; omega
  exact Int.mul_ne_zero (Int.mul_ne_zero h1 (by omega)) (by omega)
end Mine
end

section
open PySem PySem.W PyProof.Rows PyProof.V PySem.Calls
namespace Mine
theorem pwr_top {x B : Int} (h : x % 9223372036854775808 < (B + 1026) * 4503599627370496) (hB : 0 ≤ B) : pwr x ≤ B - 50 := by
  unfold pwr exf; split <;> omega
theorem fix {n : Int} (h : -1000 < n) (h1 : n < 1000) : Fin (fi n) ∧ pwr (fi n) ≤ 0 := by
  have hb : bl (if n < 0 then -n else n) ≤ 10 := bl_le (k := 10) (by split <;> omega)
  have hg : (0 : Int) ≤ (if n < 0 then 1 else 0) ∧ (if n < 0 then 1 else 0) ≤ (1 : Int) := by split <;> decide
  have h1b : bl 1 = 1 := by decide
  have := rr_rng (B := 10) hg.1 hg.2 (abs_nn n) (show (0 : Int) < 1 by decide) (by omega) (by decide) (by decide)
  refine ⟨this.1, ?_⟩
  have := pwr_top (x := fi n) this.2 (by decide)
  omega
theorem bl_mm (x y : Int) : bl (mnt x * mnt y) ≤ 106 := by
  have h := mm_ib x y
  rw [bl_ib (mm_nn x y)]; omega
theorem mlx {b m : Int} (hb : Gd b) (hm : Fin m) (hp : pwr m ≤ 0) : Fin (ml b m) ∧ pwr (ml b m) ≤ 256 := by
  have hs := sx_01 b m
  have h1 := bl_mm b m
  have h2 := hb.p1
  have := rs_rng (B := 306) hs.1 hs.2 (mm_nn b m) (show bl (mnt b * mnt m) + (pwr b + pwr m) ≤ 306 by omega) (by decide) (by decide)
  refine ⟨this.1, ?_⟩
  have := pwr_top (x := ml b m) this.2 (by decide)
  omega
theorem pwr_zero {x : Int} (h : mnt x = 0) : pwr x = -1074 := by
  have : exf x = 0 := by
    by_cases h0 : exf x = 0
    · exact h0
    · have := mnt_norm h0; omega
  unfold pwr; rw [if_pos this]
theorem Rest.p1 {a b f : Int} (h : Rest a b f) (hb : Gd b) : pwr f ≤ 256 := by
  by_cases h0 : mnt f = 0
  · rw [pwr_zero h0]; decide
  · have h1 := V_ge h0
    have h2 := h.lt
    have h3 : V b < 2 ^ 53 * 2 ^ (pwr b + 1074).toNat := by
      have hm : mnt b < 2 ^ 53 := (mnt_rng b).2
      exact Int.mul_lt_mul_of_pos_right hm (pw_pos _)
    rw [← pw_add] at h3
    have := pw_lt_inv (show (2 : Int) ^ (pwr f + 1074).toNat < 2 ^ (53 + (pwr b + 1074).toNat) by omega)
    have := hb.p1
    have := hb.p0
    omega
theorem sh_lt {x : Int} {t : Int} (h : pwr x ≤ 256) (ht : t ≤ pwr x) : mnt x * 2 ^ (pwr x - t).toNat < 2 ^ (309 - t).toNat := by
  have hm : mnt x < 2 ^ 53 := (mnt_rng x).2
  have h1 := Int.mul_lt_mul_of_pos_right hm (pw_pos (pwr x - t).toNat)
  rw [← pw_add] at h1
  have h2 : (2 : Int) ^ (53 + (pwr x - t).toNat) ≤ 2 ^ (309 - t).toNat := pw_le (by omega)
  omega
theorem adx {x y : Int} (hx : Fin x) (hy : Fin y) (px : pwr x ≤ 256) (py : pwr y ≤ 256) : Fin (ad x y) := by
  unfold ad
  split
  · rename_i h
    unfold Fin at hx hy
    have hx' : x = 0 ∨ x = 9223372036854775808 := by omega
    have hy' : y = 0 ∨ y = 9223372036854775808 := by omega
    rcases hx' with rfl | rfl <;> rcases hy' with rfl | rfl <;> (unfold Fin; decide)
  · have hs := stp_le x y
    have h1 : shl x y < 2 ^ (309 - stp x y).toNat := sh_lt px hs.1
    have h2 : shr x y < 2 ^ (309 - stp x y).toNat := sh_lt py hs.2.1
    have h3 := shl_nn x y
    have h4 := shr_nn x y
    have hg : (0 : Int) ≤ (if tt x y < 0 then 1 else 0) ∧ (if tt x y < 0 then 1 else 0) ≤ (1 : Int) := by split <;> decide
    have hb : bl (if tt x y < 0 then -tt x y else tt x y) ≤ ((309 - stp x y).toNat + 1 : Nat) := bl_le (by
      rw [pw_add]
      unfold tt sg
      split <;> split <;> split <;> omega)
    exact (rs_rng (B := 310) hg.1 hg.2 (abs_nn _) (by omega) (by decide) (by decide)).1
theorem law_sum {a b t m k s : Int} (ha : Gd a) (hb : Gd b) (ht : Fin t) (hk : 0 ≤ k) (hs : s = if sgn a = sgn b then 1 else -1)
    (h1 : (exN (rm a b) * exD m + exN m * exD (rm a b)) * exD t = exN t * exD (rm a b) * exD m) (h2 : exN m * exD b = exN b * k * exD m * s) :
    rm t b = rm a b ∨ (exN (rm a b) = 0 ∧ exN (rm t b) = 0) := by
  have h := rest_of ha hb
  obtain ⟨f, hf⟩ : ∃ f, f = rm a b := ⟨_, rfl⟩
  rw [← hf] at h h1 ⊢
  have ef := exN_U f
  have eb := exN_U b
  have em := exN_U m
  have et := exN_U t
  have hU := U_pos
  have df := exD_pos f
  have db := exD_pos b
  have dm := exD_pos m
  have dt := exD_pos t
  have w1 : Wv t = Wv f + Wv m := by
    have key : (Wv f + Wv m) * (exD f * exD m * exD t) = Wv t * (exD f * exD m * exD t) := by grind
    exact (Int.eq_of_mul_eq_mul_right (Int.mul_ne_zero (Int.mul_ne_zero (by omega) (by omega)) (by omega)) key).symm
  have w2 : Wv m = Wv b * k * s := by
    have key : Wv m * (exD m * exD b) = (Wv b * k * s) * (exD m * exD b) := by grind
    exact Int.eq_of_mul_eq_mul_right (Int.mul_ne_zero (by omega) (by omega)) key
  have sa := sgn_01 ha.fin
  have sb := sgn_01 hb.fin
  have st := sgn_01 ht
  have hsg := h.sg
  have vt := V_nn t
  have vf := V_nn f
  have vb := hb.Vpos
  have vkb : 0 ≤ k * V b := Int.mul_nonneg hk (Int.le_of_lt vb)
  have w3 : Wv b * s = if sgn a = 1 then -V b else V b := by
    rw [hs]; unfold Wv sg
    split <;> split <;> split <;> omega
  have w4 : Wv m = if sgn a = 1 then -(k * V b) else k * V b := by
    rw [w2]
    split
    · rename_i q; rw [if_pos q] at w3; grind
    · rename_i q; rw [if_neg q] at w3; grind
  have w5 : Wv f = if sgn a = 1 then -V f else V f := by unfold Wv sg; rw [hsg]
  have w6 : Wv t = if sgn t = 1 then -V t else V t := rfl
  have e : V t = V f + k * V b ∧ (V t ≠ 0 → sgn t = sgn a) := by
    rw [w4, w5, w6] at w1
    split at w1 <;> split at w1 <;> refine ⟨by omega, fun _ => by omega⟩
  have big : V t = 0 ∨ 2 ^ 800 ≤ V t := by
    have h800 := p800
    have hbb := hb.big
    by_cases hk0 : k = 0
    · rw [hk0, Int.zero_mul, Int.add_zero] at e
      rw [e.1]; exact h.b8
    · have := Int.mul_le_mul_of_nonneg_right (show 1 ≤ k by omega) (Int.le_of_lt vb)
      right; omega
  obtain ⟨r1, r2, r3⟩ := rmg ht hb big
  have r4 : V (rm t b) = V f := by
    rw [r3, e.1, Int.add_mul_emod_self_right]
    exact Int.emod_eq_of_lt vf h.lt
  by_cases hf0 : V f = 0
  · right
    exact ⟨(exN_zero f).mpr hf0, (exN_zero _).mpr (by rw [r4, hf0])⟩
  · left
    refine same ?_ r4
    rw [r2, hsg]
    exact e.2 (by omega)
/-! what the calls ask -/
theorem pre1 {a b : Int} (ha : Gd a) (hb : Gd b) : Fin a ∧ Fin b ∧ b % 9223372036854775808 ≠ 0 := ⟨ha.fin, hb.fin, hb.nz⟩
theorem pre2 {a b : Int} (ha : Gd a) (hb : Gd b) : Fin (rm a b) ∧ Fin b ∧ b % 9223372036854775808 ≠ 0 := ⟨(rest_of ha hb).fin, hb.fin, hb.nz⟩
theorem pre3 {a b : Int} (ha : Gd a) (hb : Gd b) : Fin (ng a) ∧ Fin b ∧ b % 9223372036854775808 ≠ 0 := pre1 ha.ng hb
theorem pre4 {a b : Int} (ha : Gd a) (hb : Gd b) : Fin a ∧ Fin (ng b) ∧ ng b % 9223372036854775808 ≠ 0 := pre1 ha hb.ng
theorem fin_tot {a b n : Int} (ha : Gd a) (hb : Gd b) (hn : -1000 < n) (hn1 : n < 1000) : Fin (ad (rm a b) (ml b (fi n))) := by
  have h := rest_of ha hb
  have h1 := fix hn hn1
  have h2 := mlx hb h1.1 h1.2
  exact adx h.fin h2.1 (h.p1 hb) h2.2
theorem pre5 {a b n : Int} (ha : Gd a) (hb : Gd b) (hn : -1000 < n ∧ n < 1000) : Fin (ad (rm a b) (ml b (fi n))) ∧ Fin b ∧ b % 9223372036854775808 ≠ 0 := ⟨fin_tot ha hb hn.1 hn.2, hb.fin, hb.nz⟩
theorem preN {a b : Int} (ha : Gd a) (hb : Gd b) : Fin (rm a b) := (rest_of ha hb).fin
theorem preM {b n : Int} (hb : Gd b) (hn : -1000 < n ∧ n < 1000) : Fin b ∧ Fin (fi n) ∧ pwr b + pwr (fi n) ≤ 1000 := by
  have h1 := fix hn.1 hn.2
  have := hb.p1
  exact ⟨hb.fin, h1.1, by omega⟩
theorem preA {a b n : Int} (ha : Gd a) (hb : Gd b) (hn : -1000 < n ∧ n < 1000) : Fin (rm a b) ∧ Fin (ml b (fi n)) := by
  have h := rest_of ha hb
  have h1 := fix hn.1 hn.2
  have h2 := mlx hb h1.1 h1.2
  exact ⟨h.fin, h2.1⟩
theorem preI {n : Int} (hn : -1000 < n ∧ n < 1000) : Builtin.Int.intBits n ≤ 4000 := Nat.le_trans (ib_le (k := 10) (by omega)) (by decide)
theorem exN_ib (x : Int) : Builtin.Int.intBits (exN x) ≤ 1100 := by
  have h1 := ib_mnt x
  have h2 := pwr_rng x
  have h3 := ib_shl (if sgn x = 1 then -mnt x else mnt x) (pwr x).toNat
  have h4 : Builtin.Int.intBits (if sgn x = 1 then -mnt x else mnt x) = Builtin.Int.intBits (mnt x) := by split <;> simp [ib_neg]
  unfold exN
  omega
theorem exD_ib (x : Int) : Builtin.Int.intBits (exD x) ≤ 1100 := by
  have h2 := pwr_rng x
  have h3 := ib_pow (-pwr x).toNat
  unfold exD
  omega
end Mine
end

section
open PySem PySem.W PyProof.Rows
namespace Mine

theorem pw_ne (k : Nat) : (2 : Int) ^ k ≠ 0 := by have := pw_pos k; omega
theorem mod_ib {x y : Int} {n : Nat} (h0 : 0 < y) (h : y ≤ 2 ^ n) : Builtin.Int.intBits (x.fmod y) ≤ n := by
  rw [fm_pos h0]
  have h1 := Int.emod_nonneg x (show y ≠ 0 by omega)
  have h2 := Int.emod_lt_of_pos x h0
  have h3 := kbt_cast n
  exact ib_le (by omega)
theorem fd_ib {x : Int} (k : Nat) (h : 0 ≤ x) : Builtin.Int.intBits (x.fdiv (2 ^ k)) ≤ Builtin.Int.intBits x := by
  rw [fdiv_pow]
  have hp := pw_pos k
  have h0 := Int.ediv_nonneg h (Int.le_of_lt hp)
  have h1 := Int.ediv_le_self (2 ^ k) h
  exact ib_mono h0 h1
theorem fm_rng (x : Int) {y : Int} (h0 : 0 < y) : 0 ≤ x.fmod y ∧ x.fmod y < y := by
  rw [fm_pos h0]
  exact ⟨Int.emod_nonneg x (show y ≠ 0 by omega), Int.emod_lt_of_pos x h0⟩
theorem v_dbl (c f : Int) : c.fmod 2 * 2 ^ Int.toNat 63 + (1023 + (c.fdiv 2).fmod 100 - f) * 2 ^ Int.toNat 52 + ((c * 2783377641436327).fmod (2 ^ Int.toNat 52)).fdiv (2 ^ (c.fmod 48).toNat) * 2 ^ (c.fmod 48).toNat = dbl c f := by
  unfold dbl
  rw [fm_pos (show (0 : Int) < 2 by decide), fm_pos (show (0 : Int) < 48 by decide), fd_pos (show (0 : Int) < 2 by decide), fm_pos (show (0 : Int) < 100 by decide), fdiv_pow, fm_pos (pw_pos _), t63, t52]
theorem small_ib {x : Int} (n : Nat) (h0 : 0 ≤ x) (h1 : x < 2 ^ n) : Builtin.Int.intBits x ≤ n := by
  have h3 := kbt_cast n
  exact ib_le (by omega)
local macro_rules | `(tactic| walk_at "binaryOp Mult int int") => `(tactic| (k_here; (refine' mul_int ?_ (mul_ok ?s1); (case s1 => omega))))
local macro_rules | `(tactic| walk_at "binaryOp FloorDiv int int") => `(tactic| (k_here; (refine' floordiv_int ?s1 ?_ (.inl (no_py ?s2)); (case s1 => (first | (with_reducible exact pw_ne _) | omega)); (case s2 => omega))))
local macro_rules | `(tactic| walk_at "binaryOp Mod int int") => `(tactic| (k_here; (refine' mod_int' ?s1 ?_; (case s1 => (first | (with_reducible exact pw_ne _) | omega)))))
local macro_rules | `(tactic| walk_at "binaryOp Pow int int") => `(tactic| (k_here; (refine' pow_int_small ?s1 ?s2 ?s3 ?_; (case s1 => omega); (case s2 => omega); (case s3 => decide))))

set_option maxRecDepth 100000 in
set_option maxHeartbeats 8000000 in
theorem c_law_double (w : World) (c : Int) (tc : Tok) (f : Int) (tf : Tok) : Con w 154 1 [.int c tc, .int f tf] (0 ≤ c ∧ -100 ≤ f ∧ f ≤ 100 ∧ Builtin.Int.intBits c ≤ 1048576) (RetI (dbl c f)) := by
  dsimp only [Con, RetI]
  k_fill
  intro mean mg mb dp un gd cn cs a ccd cl outer A₀ base h₀ L m news s Q E B F X N T G hk hpre hd1 hu1 hret
  obtain ⟨hc0, hf0, hf1, hci⟩ := hpre
  have hk : Builtin.Int.intBits 2783377641436327 ≤ 52 := by decide
  have hk2 : Builtin.Int.intBits (c.fmod 2) ≤ 1 := mod_ib (by decide) (by decide)
  have hp63 := ib_pow (Int.toNat 63)
  have hp52 := ib_pow (Int.toNat 52)
  have e52 : Int.toNat 52 = 52 := rfl
  have e63 : Int.toNat 63 = 63 := rfl
  have hr1 := fm_rng (c.fdiv 2) (show (0 : Int) < 100 by decide)
  have hr2 := fm_rng c (show (0 : Int) < 48 by decide)
  have hr3 := fm_rng (c * 2783377641436327) (pw_pos (Int.toNat 52))
  have hk5 : Builtin.Int.intBits (1023 + (c.fdiv 2).fmod 100 - f) ≤ 12 := small_ib 12 (by omega) (by omega)
  have hk6 : Builtin.Int.intBits ((c * 2783377641436327).fmod (2 ^ Int.toNat 52)) ≤ 52 := mod_ib (pw_pos _) (Int.le_refl _)
  have hk7 := fd_ib (c.fmod 48).toNat hr3.1
  have hk8 := ib_pow (c.fmod 48).toNat
  have hi2 : Builtin.Int.intBits 2 ≤ 2 := by decide
  refine wpAny_call ?_
  k_dflt cell_enter
  k_steps
  all_goals ((refine' endI hret ?e2 ?e3 ?e4 ?e1; (case e2 => k_asm); (case e3 => k_asm); (case e4 => kcj_all)); (case e1 => exact v_dbl _ _))

end Mine
end

section
open PySem PySem.W PyProof.Rows PyProof.V PySem.Calls
namespace Mine
theorem getD_all {P : Int → Prop} {l : List Int} (h0 : P 0) (h : ∀ x ∈ l, P x) (i : Nat) : P (l.getD i 0) := by
  rw [List.getD_eq_getElem?_getD]
  rcases hx : l[i]? with _ | x
  · exact h0
  · exact h x (List.mem_of_getElem? hx)
theorem cell_ok {ns : List Int} (h : PyData.layable0 (.list (ns.map .int)) = true) (n i : Nat) :
    0 ≤ (List.map (fun k' => if k' < 0 then -k' else k') (List.take 3 ns) ++ List.drop n [45, 30, 7]).getD i 0 ∧ Builtin.Int.intBits ((List.map (fun k' => if k' < 0 then -k' else k') (List.take 3 ns) ++ List.drop n [45, 30, 7]).getD i 0) ≤ 1048576 := by
  refine getD_all (P := fun x => 0 ≤ x ∧ Builtin.Int.intBits x ≤ 1048576) (by decide) (fun x hx => ?_) i
  rcases List.mem_append.mp hx with hx | hx
  · obtain ⟨k, hk, rfl⟩ := List.mem_map.mp hx
    refine ⟨abs_nn k, ?_⟩
    show Builtin.Int.intBits (if k < 0 then -k else k) ≤ 1048576
    rw [abs_ib]
    exact PyData.bits_item_of_ints h (List.mem_of_mem_take hk)
  · have hx := List.mem_of_mem_drop hx
    simp only [List.mem_cons, List.not_mem_nil, or_false] at hx
    rcases hx with rfl | rfl | rfl <;> decide
theorem preD1 {ns : List Int} (h : PyData.layable0 (.list (ns.map .int)) = true) {n i : Nat} (y : Int) :
    0 ≤ (List.map (fun k' => if k' < 0 then -k' else k') (List.take 3 ns) ++ List.drop n [45, 30, 7]).getD i 0 ∧ -100 ≤ y.fmod 200 - 100 ∧ y.fmod 200 - 100 ≤ 100 ∧ Builtin.Int.intBits ((List.map (fun k' => if k' < 0 then -k' else k') (List.take 3 ns) ++ List.drop n [45, 30, 7]).getD i 0) ≤ 1048576 := by
  have h1 := cell_ok h n i
  have h2 := fm_rng y (show (0 : Int) < 200 by decide)
  exact ⟨h1.1, by omega, by omega, h1.2⟩
theorem preD2 {ns : List Int} (h : PyData.layable0 (.list (ns.map .int)) = true) {n i : Nat} :
    0 ≤ (List.map (fun k' => if k' < 0 then -k' else k') (List.take 3 ns) ++ List.drop n [45, 30, 7]).getD i 0 ∧ (-100 : Int) ≤ 0 ∧ (0 : Int) ≤ 100 ∧ Builtin.Int.intBits ((List.map (fun k' => if k' < 0 then -k' else k') (List.take 3 ns) ++ List.drop n [45, 30, 7]).getD i 0) ≤ 1048576 := by
  have h1 := cell_ok h n i
  exact ⟨h1.1, by decide, by decide, h1.2⟩
theorem kr1 (x : Int) : -1000 < x.fmod 1000 * -1 ∧ x.fmod 1000 * -1 < 1000 := by
  have := fm_rng x (show (0 : Int) < 1000 by decide); omega
theorem kr2 (x : Int) : -1000 < x.fmod 1000 * 1 ∧ x.fmod 1000 * 1 < 1000 := by
  have := fm_rng x (show (0 : Int) < 1000 by decide); omega
theorem aN_ib (x : Int) : Builtin.Int.intBits (if exN x < 0 then -exN x else exN x) ≤ 1100 := by rw [abs_ib]; exact exN_ib x
theorem km_ib (x : Int) : Builtin.Int.intBits (x.fmod 1000) ≤ 10 := mod_ib (by decide) (by decide)
theorem one_ib : Builtin.Int.intBits 1 ≤ 1 := by decide
theorem mone_ib : Builtin.Int.intBits (-1) ≤ 1 := by decide
theorem c_dbl (w : World) (c : Int) (tc : Tok) (f : Int) (tf : Tok) : Con w 154 1 [.int c tc, .int f tf] (0 ≤ c ∧ -100 ≤ f ∧ f ≤ 100 ∧ Builtin.Int.intBits c ≤ 1048576) (fun h₀ L m news s Q => ∀ r, Gd r → RetI r h₀ L m news s Q) := by
  intro mean mg mb dp un gd cn cs a ccd cl outer A₀ base h₀ L m news s Q E B F X N T G hk hpre hd1 hu1 hret
  exact c_law_double w c tc f tf mean mg mb dp un gd cn cs a ccd cl outer A₀ base h₀ L m news s Q E B F X N T G hk hpre hd1 hu1 (hret _ (dbl_gd hpre.1 hpre.2.1 hpre.2.2.1))
end Mine
end

section
open PySem PySem.W PyProof.Rows PyProof.V PySem.Calls
namespace Mine
theorem end1 {a b : Int} {P : Prop} (h : ((exN a * exD (rm a b) - exN (rm a b) * exD a) * exD b).fmod (exN b * exD a * exD (rm a b)) ≠ 0) (ha : Gd a) (hb : Gd b) : P :=
  absurd (law_whole ha hb) h
theorem end2 {a b : Int} {P : Prop} (h : (if exN b < 0 then -exN b else exN b) * exD (rm a b) ≤ (if exN (rm a b) < 0 then -exN (rm a b) else exN (rm a b)) * exD b) (ha : Gd a) (hb : Gd b) : P := by
  have := law_less ha hb
  omega
theorem end3 {a b : Int} {P : Prop} (h : (decide (sgn (rm a b) = 1) != decide (sgn a = 1)) = true) (ha : Gd a) (hb : Gd b) : P := by
  rw [(rest_of ha hb).sg] at h
  simp at h
theorem end4 {a b : Int} {P : Prop} (h : rm (rm a b) b ≠ rm a b) (ha : Gd a) (hb : Gd b) : P := absurd (law_again ha hb) h
theorem end5 {a b : Int} {P : Prop} (h : rm (ng a) b ≠ ng (rm a b)) (ha : Gd a) (hb : Gd b) : P := absurd (law_neg ha hb) h
theorem end6 {a b : Int} {P : Prop} (h : rm a (ng b) ≠ rm a b) (ha : Gd a) (hb : Gd b) : P := absurd (law_neg2 ha hb) h
theorem endQ {Q : Flow → Shared → Prop} {s : Shared} {v : Bool} (e : v = true) (h : Q (.ret (.bool true)) s) : Q (.ret (.bool v)) s := by rw [e]; exact h
theorem bt {x y : Int} (h : x = y) : (x == y) = true := beq_iff_eq.mpr h
theorem sgA {a b : Int} (ha : Gd a) (hb : Gd b) (h : (decide (sgn a = 1) != decide (sgn b = 1)) = true) : (-1 : Int) = if sgn a = sgn b then 1 else -1 := by
  rw [if_neg]
  intro e
  rw [e] at h
  simp at h
theorem sgB {a b : Int} (ha : Gd a) (hb : Gd b) (h : (decide (sgn a = 1) != decide (sgn b = 1)) = false) : (1 : Int) = if sgn a = sgn b then 1 else -1 := by
  have sa := sgn_01 ha.fin
  have sb := sgn_01 hb.fin
  have : sgn a = sgn b := by
    by_cases h1 : sgn a = 1
    · by_cases h2 : sgn b = 1
      · omega
      · simp [h1, h2] at h
    · by_cases h2 : sgn b = 1
      · simp [h1, h2] at h
      · omega
  rw [if_pos this]
theorem kr {x s : Int} {P : Prop} [Decidable P] (hs : s = if P then 1 else -1) : -1000 < x.fmod 1000 * s ∧ x.fmod 1000 * s < 1000 := by
  subst hs
  split
  · exact kr2 x
  · exact kr1 x
theorem sumS {a b x s : Int} (h1 : (exN (rm a b) * exD (ml b (fi (x.fmod 1000 * s))) + exN (ml b (fi (x.fmod 1000 * s))) * exD (rm a b)) * exD (ad (rm a b) (ml b (fi (x.fmod 1000 * s)))) = exN (ad (rm a b) (ml b (fi (x.fmod 1000 * s)))) * exD (rm a b) * exD (ml b (fi (x.fmod 1000 * s)))) (h2 : exN (ml b (fi (x.fmod 1000 * s))) * exD b = exN b * x.fmod 1000 * exD (ml b (fi (x.fmod 1000 * s))) * s) (ha : Gd a) (hb : Gd b) (hs : s = if sgn a = sgn b then 1 else -1) : rm (ad (rm a b) (ml b (fi (x.fmod 1000 * s)))) b = rm a b ∨ (exN (rm a b) = 0 ∧ exN (rm (ad (rm a b) (ml b (fi (x.fmod 1000 * s)))) b) = 0) :=
  law_sum ha hb (fin_tot ha hb (kr hs).1 (kr hs).2) (fm_rng x (by decide)).1 hs h1 h2
theorem end7 {a b x s : Int} (h : rm (ad (rm a b) (ml b (fi (x.fmod 1000 * s)))) b ≠ rm a b) (h1 : (exN (rm a b) * exD (ml b (fi (x.fmod 1000 * s))) + exN (ml b (fi (x.fmod 1000 * s))) * exD (rm a b)) * exD (ad (rm a b) (ml b (fi (x.fmod 1000 * s)))) = exN (ad (rm a b) (ml b (fi (x.fmod 1000 * s)))) * exD (rm a b) * exD (ml b (fi (x.fmod 1000 * s)))) (h2 : exN (ml b (fi (x.fmod 1000 * s))) * exD b = exN b * x.fmod 1000 * exD (ml b (fi (x.fmod 1000 * s))) * s) (ha : Gd a) (hb : Gd b) (hs : s = if sgn a = sgn b then 1 else -1) : (exN (rm (ad (rm a b) (ml b (fi (x.fmod 1000 * s)))) b) == 0) = true :=
  beq_iff_eq.mpr ((sumS h1 h2 ha hb hs).resolve_left h).2
theorem end8 {a b x s : Int} {P : Prop} (h : rm (ad (rm a b) (ml b (fi (x.fmod 1000 * s)))) b ≠ rm a b) (h0 : exN (rm a b) ≠ 0) (h1 : (exN (rm a b) * exD (ml b (fi (x.fmod 1000 * s))) + exN (ml b (fi (x.fmod 1000 * s))) * exD (rm a b)) * exD (ad (rm a b) (ml b (fi (x.fmod 1000 * s)))) = exN (ad (rm a b) (ml b (fi (x.fmod 1000 * s)))) * exD (rm a b) * exD (ml b (fi (x.fmod 1000 * s)))) (h2 : exN (ml b (fi (x.fmod 1000 * s))) * exD b = exN b * x.fmod 1000 * exD (ml b (fi (x.fmod 1000 * s))) * s) (ha : Gd a) (hb : Gd b) (hs : s = if sgn a = sgn b then 1 else -1) : P :=
  absurd ((sumS h1 h2 ha hb hs).resolve_left h).1 h0
end Mine
end

section
open PySem PySem.W PyProof.Rows
namespace Mine

local macro_rules | `(tactic| walk_at "binaryOp Mult int int") => `(tactic| (k_here; (refine' mul_int ?_ (mulOk_of_bits ?s1 ?s2 ?s3); (case s1 => repeat (first | exact exN_ib _ | exact exD_ib _ | exact aN_ib _ | exact km_ib _ | exact one_ib | exact mone_ib | apply bits_mul | apply bits_sub | apply bits_add)); (case s2 => repeat (first | exact exN_ib _ | exact exD_ib _ | exact aN_ib _ | exact km_ib _ | exact one_ib | exact mone_ib | apply bits_mul | apply bits_sub | apply bits_add)); (case s3 => decide))))
local macro_rules | `(tactic| walk_at "binaryOp Mod int int") => `(tactic| (k_here; (refine' mod_int' ?s1 ?_; (case s1 => (first | (with_reducible exact law_ne (by assumption)) | omega)))))
local macro_rules | `(tactic| walk_at "call ref") => `(tactic| (k_here; (with_reducible show wpAny _ _ (call (Value.ref 77) _) _ _ _); k_dflt (refine' Con.use (c_exact _ _ _) ?k1 ?k2 ?k3 ?k4 ?k5 ?k6 ?kK ?kp ?kd ?ku ?_; (case k1 => k_asm); (case k2 => k_asm); (case k3 => k_asm); (case k4 => k_asm); (case k5 => k_asm); (case k6 => k_asm); (case kK => first | exact rfl | assumption); (case kp => first | exact True.intro | ((try dsimp only); first | with_reducible assumption | omega)); (case kd => ktr_room); (case ku => ktr_units)); intro D9 t9 u9 c9 h9 tk9 F9 N9; (try dsimp only); (try k_fold)))
local macro_rules | `(tactic| walk_at "call ref") => `(tactic| (k_here; (with_reducible show wpAny _ _ (call (Value.ref 35) _) _ _ _); k_dflt (refine' Con.use (c_is_negative _ _ _) ?k1 ?k2 ?k3 ?k4 ?k5 ?k6 ?kK ?kp ?kd ?ku ?_; (case k1 => k_asm); (case k2 => k_asm); (case k3 => k_asm); (case k4 => k_asm); (case k5 => k_asm); (case k6 => k_asm); (case kK => first | exact rfl | assumption); (case kp => first | exact True.intro | ((try dsimp only); first | with_reducible assumption | omega)); (case kd => ktr_room); (case ku => ktr_units)); intro h9 tk9 F9 N9; (try dsimp only); (try k_fold)))
local macro_rules | `(tactic| walk_at "call ref") => `(tactic| (k_here; (with_reducible show wpAny _ _ (call (Value.ref 147) _) _ _ _); k_dflt (refine' Con.use (c_rem _ _ _ _ _) ?k1 ?k2 ?k3 ?k4 ?k5 ?k6 ?kK ?kp ?kd ?ku ?_; (case k1 => k_asm); (case k2 => k_asm); (case k3 => k_asm); (case k4 => k_asm); (case k5 => k_asm); (case k6 => k_asm); (case kK => first | exact rfl | assumption); (case kp => first | exact True.intro | ((try dsimp only); first | (with_reducible exact pre1 (by assumption) (by assumption)) | (with_reducible exact pre2 (by assumption) (by assumption)) | (with_reducible exact pre3 (by assumption) (by assumption)) | (with_reducible exact pre4 (by assumption) (by assumption)) | (with_reducible exact pre5 (by assumption) (by assumption) (by first | exact kr1 _ | exact kr2 _)))); (case kd => ktr_room); (case ku => ktr_units)); intro t9 h9 tk9 F9 N9; (try dsimp only); (try k_fold)))
local macro_rules | `(tactic| walk_at "call ref") => `(tactic| (k_here; (with_reducible show wpAny _ _ (call (Value.ref 119) _) _ _ _); k_dflt (refine' Con.use (c_neg _ _ _) ?k1 ?k2 ?k3 ?k4 ?k5 ?k6 ?kK ?kp ?kd ?ku ?_; (case k1 => k_asm); (case k2 => k_asm); (case k3 => k_asm); (case k4 => k_asm); (case k5 => k_asm); (case k6 => k_asm); (case kK => first | exact rfl | assumption); (case kp => first | exact True.intro | ((try dsimp only); first | (with_reducible exact Gd.fin (by assumption)) | (with_reducible exact preN (by assumption) (by assumption)))); (case kd => ktr_room); (case ku => ktr_units)); intro t9 h9 tk9 F9 N9; (try dsimp only); (try k_fold)))
local macro_rules | `(tactic| walk_at "call ref") => `(tactic| (k_here; (with_reducible show wpAny _ _ (call (Value.ref 112) _) _ _ _); k_dflt (refine' Con.use (c_from_int _ _ _) ?k1 ?k2 ?k3 ?k4 ?k5 ?k6 ?kK ?kp ?kd ?ku ?_; (case k1 => k_asm); (case k2 => k_asm); (case k3 => k_asm); (case k4 => k_asm); (case k5 => k_asm); (case k6 => k_asm); (case kK => first | exact rfl | assumption); (case kp => first | exact True.intro | ((try dsimp only); exact preI (by first | exact kr1 _ | exact kr2 _))); (case kd => ktr_room); (case ku => ktr_units)); intro t9 h9 tk9 F9 N9; (try dsimp only); (try k_fold)))
local macro_rules | `(tactic| walk_at "call ref") => `(tactic| (k_here; (with_reducible show wpAny _ _ (call (Value.ref 140) _) _ _ _); k_dflt (refine' Con.use (c_mul _ _ _ _ _) ?k1 ?k2 ?k3 ?k4 ?k5 ?k6 ?kK ?kp ?kd ?ku ?_; (case k1 => k_asm); (case k2 => k_asm); (case k3 => k_asm); (case k4 => k_asm); (case k5 => k_asm); (case k6 => k_asm); (case kK => first | exact rfl | assumption); (case kp => first | exact True.intro | ((try dsimp only); exact preM (by assumption) (by first | exact kr1 _ | exact kr2 _))); (case kd => ktr_room); (case ku => ktr_units)); intro t9 h9 tk9 F9 N9; (try dsimp only); (try k_fold)))
local macro_rules | `(tactic| walk_at "call ref") => `(tactic| (k_here; (with_reducible show wpAny _ _ (call (Value.ref 126) _) _ _ _); k_dflt (refine' Con.use (c_add _ _ _ _ _) ?k1 ?k2 ?k3 ?k4 ?k5 ?k6 ?kK ?kp ?kd ?ku ?_; (case k1 => k_asm); (case k2 => k_asm); (case k3 => k_asm); (case k4 => k_asm); (case k5 => k_asm); (case k6 => k_asm); (case kK => first | exact rfl | assumption); (case kp => first | exact True.intro | ((try dsimp only); exact preA (by assumption) (by assumption) (by first | exact kr1 _ | exact kr2 _))); (case kd => ktr_room); (case ku => ktr_units)); intro t9 h9 tk9 F9 N9; (try dsimp only); (try k_fold)))
local macro_rules | `(tactic| walk_at "call ref") => `(tactic| (k_here; (with_reducible show wpAny _ _ (call (Value.ref 154) _) _ _ _); k_dflt (refine' Con.use (c_dbl _ _ _ _ _) ?k1 ?k2 ?k3 ?k4 ?k5 ?k6 ?kK ?kp ?kd ?ku ?_; (case k1 => k_asm); (case k2 => k_asm); (case k3 => k_asm); (case k4 => k_asm); (case k5 => k_asm); (case k6 => k_asm); (case kK => first | exact rfl | assumption); (case kp => first | exact preD1 (by assumption) _ | exact preD2 (by assumption)); (case kd => ktr_room); (case ku => ktr_units)); intro r9 g9 t9 h9 tk9 F9 N9; (try dsimp only); (try k_fold)))

theorem cutQE {prog : Program} {w : World} {A : Around} {tree : Sem Flow} {Q0 : Flow → Shared → Prop} {E0 : Value → Shared → Prop} {s : Shared} {base : Heap} {L : Addr} {m : Str → Option Value} (F : Fr base L s.heap m)
   (h0 : ∀ h' tk' m', Fr base L h' m' → Q0 (.ret (.bool true)) { s with heap := h', toks := tk' })
   (h : ∀ Q E, (∀ h' tk' m', Fr base L h' m' → Q (.ret (.bool true)) { s with heap := h', toks := tk' }) → wpAny (model prog w) A tree Q E s) : wpAny (model prog w) A tree Q0 E0 s := h _ _ h0
set_option maxRecDepth 100000 in
set_option maxHeartbeats 16000000 in
theorem L1 : PySem.Challenge.rw_sa0359_01.Holds := by
  refine hd ?_
  k_go0
  all_goals try k_fold
  refine cutQE (by assumption) ?_ ?_
  · intro h' tk' m' F'
    k_steps
  · intro Q E hQ
    dsimp only at hQ ⊢
    (rename Heap.CodeRec _ _ _ => q; clear q)
    k_steps
    all_goals first
      | with_reducible exact end1 (by with_reducible assumption) (by with_reducible assumption) (by with_reducible assumption)
      | with_reducible exact end2 (by with_reducible assumption) (by with_reducible assumption) (by with_reducible assumption)
      | with_reducible exact end3 (by with_reducible assumption) (by with_reducible assumption) (by with_reducible assumption)
      | with_reducible exact end4 (by with_reducible assumption) (by with_reducible assumption) (by with_reducible assumption)
      | with_reducible exact end5 (by with_reducible assumption) (by with_reducible assumption) (by with_reducible assumption)
      | with_reducible exact end6 (by with_reducible assumption) (by with_reducible assumption) (by with_reducible assumption)
      | with_reducible exact end8 (by with_reducible assumption) (by with_reducible assumption) (by with_reducible assumption) (by with_reducible assumption) (by with_reducible assumption) (by with_reducible assumption) (by first | exact sgA (by with_reducible assumption) (by with_reducible assumption) (by with_reducible assumption) | exact sgB (by with_reducible assumption) (by with_reducible assumption) (by with_reducible assumption))
      | ((try dsimp only); with_reducible exact hQ _ _ _ (by with_reducible assumption))
      | ((try dsimp only); with_reducible exact endQ (bt (by with_reducible assumption)) (hQ _ _ _ (by with_reducible assumption)))
      | ((try dsimp only); with_reducible exact endQ (end7 (by with_reducible assumption) (by with_reducible assumption) (by with_reducible assumption) (by with_reducible assumption) (by with_reducible assumption) (by first | exact sgA (by with_reducible assumption) (by with_reducible assumption) (by with_reducible assumption) | exact sgB (by with_reducible assumption) (by with_reducible assumption) (by with_reducible assumption))) (hQ _ _ _ (by with_reducible assumption)))
     

end Mine
end

theorem PySem.Challenge.cw_sa0359_01_holds : PySem.Challenge.rw_sa0359_01.Holds := by
  exact Mine.L1
