import PyProof.Rows.All
import Wide.All
import OpenK.AllK
import Wide.FinOn
import PySem.Challenge.RW_nt0407_01
open PySem PySem.W PyProof.Rows
set_option Elab.async false
set_option maxRecDepth 100000
set_option maxHeartbeats 4000000
namespace Nt
def mag (b : Int) : Int := b % 9223372036854775808
def ex (b : Int) : Int := b / 4503599627370496 % 2048
def fr (b : Int) : Int := b % 4503599627370496
def mant (b : Int) : Int := if ex b = 0 then fr b else fr b + 4503599627370496
def up (b : Int) : Nat := (ex b - 1).toNat
def lsize (b : Int) : Int := mant b * 2 ^ up b
def lvalue (b : Int) : Int := if 9223372036854775808 ≤ b then -lsize b else lsize b
def blen (n : Int) : Int := if n ≤ 0 then 0 else Nat.log2 n.toNat + 1
def fromSize (g s : Int) : Int := if s = 0 then g * 9223372036854775808 else g * 9223372036854775808 + (blen s + 1022) * 4503599627370496 + (s * 2 ^ (54 - blen s).toNat / 2 - 4503599627370496)
@[irreducible] def unit : Int := 2 ^ 1074
def toInt (b : Int) : Int := if 9223372036854775808 ≤ b then -(lsize b / unit) else lsize b / unit
def Here (found whole a : Int) : Prop := (whole = 0 → found = a / 9223372036854775808 * 9223372036854775808) ∧ (whole ≠ 0 → mag found < 9218868437227405312 ∧ lvalue found = whole * unit)
section
variable {prog : Program} {w : World} {A : Around} {E : Value → Shared → Prop} {s : Shared} {a b n : Int} {t u : Tok} {Q : Value → Shared → Prop}
theorem w_pow16 (h : Q (.int 65536 s.toks) { s with toks := s.toks + 1 }) : wpAny (model prog w) A (binaryOp .Pow (.int 2 t) (.int 16 u)) Q E s :=
  pow_int_small (by decide) (by decide) (by decide) (by rw [show (2 : Int) ^ Int.toNat 16 = 65536 from by decide +kernel]; exact h)
theorem w_pow31 (h : Q (.int 2147483648 s.toks) { s with toks := s.toks + 1 }) : wpAny (model prog w) A (binaryOp .Pow (.int 2 t) (.int 31 u)) Q E s :=
  pow_int_small (by decide) (by decide) (by decide) (by rw [show (2 : Int) ^ Int.toNat 31 = 2147483648 from by decide +kernel]; exact h)
theorem w_pow32 (h : Q (.int 4294967296 s.toks) { s with toks := s.toks + 1 }) : wpAny (model prog w) A (binaryOp .Pow (.int 2 t) (.int 32 u)) Q E s :=
  pow_int_small (by decide) (by decide) (by decide) (by rw [show (2 : Int) ^ Int.toNat 32 = 4294967296 from by decide +kernel]; exact h)
theorem w_pow52 (h : Q (.int 4503599627370496 s.toks) { s with toks := s.toks + 1 }) : wpAny (model prog w) A (binaryOp .Pow (.int 2 t) (.int 52 u)) Q E s :=
  pow_int_small (by decide) (by decide) (by decide) (by rw [show (2 : Int) ^ Int.toNat 52 = 4503599627370496 from by decide +kernel]; exact h)
theorem w_pow53 (h : Q (.int 9007199254740992 s.toks) { s with toks := s.toks + 1 }) : wpAny (model prog w) A (binaryOp .Pow (.int 2 t) (.int 53 u)) Q E s :=
  pow_int_small (by decide) (by decide) (by decide) (by rw [show (2 : Int) ^ Int.toNat 53 = 9007199254740992 from by decide +kernel]; exact h)
theorem w_pow54 (h : Q (.int 18014398509481984 s.toks) { s with toks := s.toks + 1 }) : wpAny (model prog w) A (binaryOp .Pow (.int 2 t) (.int 54 u)) Q E s :=
  pow_int_small (by decide) (by decide) (by decide) (by rw [show (2 : Int) ^ Int.toNat 54 = 18014398509481984 from by decide +kernel]; exact h)
theorem w_pow63 (h : Q (.int 9223372036854775808 s.toks) { s with toks := s.toks + 1 }) : wpAny (model prog w) A (binaryOp .Pow (.int 2 t) (.int 63 u)) Q E s :=
  pow_int_small (by decide) (by decide) (by decide) (by rw [show (2 : Int) ^ Int.toNat 63 = 9223372036854775808 from by decide +kernel]; exact h)
theorem w_pow64 (h : Q (.int 18446744073709551616 s.toks) { s with toks := s.toks + 1 }) : wpAny (model prog w) A (binaryOp .Pow (.int 2 t) (.int 64 u)) Q E s :=
  pow_int_small (by decide) (by decide) (by decide) (by rw [show (2 : Int) ^ Int.toNat 64 = 18446744073709551616 from by decide +kernel]; exact h)
theorem w_shr63 (h : Q (.int (a / 9223372036854775808) s.toks) { s with toks := s.toks + 1 }) : wpAny (model prog w) A (binaryOp .RShift (.int a t) (.int 63 u)) Q E s :=
  rshift_int (by decide) (by rw [show (2 : Int) ^ Int.toNat 63 = 9223372036854775808 from by decide +kernel, Int.fdiv_eq_ediv_of_nonneg _ (by decide)]; exact h)
theorem w_shl63 (ha : a.natAbs < 2 ^ 64) (h : Q (.int (a * 9223372036854775808) s.toks) { s with toks := s.toks + 1 }) : wpAny (model prog w) A (binaryOp .LShift (.int a t) (.int 63 u)) Q E s :=
  lshift_int_small (by decide) (by decide) ha (by rw [show (2 : Int) ^ Int.toNat 63 = 9223372036854775808 from by decide +kernel]; exact h)
theorem w_shr52 (h : Q (.int (a / 4503599627370496) s.toks) { s with toks := s.toks + 1 }) : wpAny (model prog w) A (binaryOp .RShift (.int a t) (.int 52 u)) Q E s :=
  rshift_int (by decide) (by rw [show (2 : Int) ^ Int.toNat 52 = 4503599627370496 from by decide +kernel, Int.fdiv_eq_ediv_of_nonneg _ (by decide)]; exact h)
theorem w_shl52 (ha : a.natAbs < 2 ^ 64) (h : Q (.int (a * 4503599627370496) s.toks) { s with toks := s.toks + 1 }) : wpAny (model prog w) A (binaryOp .LShift (.int a t) (.int 52 u)) Q E s :=
  lshift_int_small (by decide) (by decide) ha (by rw [show (2 : Int) ^ Int.toNat 52 = 4503599627370496 from by decide +kernel]; exact h)
theorem w_and52 (h : Q (.int (a % 4503599627370496) s.toks) { s with toks := s.toks + 1 }) : wpAny (model prog w) A (binaryOp .BitAnd (.int a t) (.int 4503599627370495 u)) Q E s :=
  and_int (by
              have e := kbt_mask a 52
              rw [show (2 : Int) ^ 52 - 1 = 4503599627370495 by decide +kernel, show (2 : Int) ^ 52 = 4503599627370496 by decide +kernel] at e
              rw [e]; exact h)
theorem w_and11 (h : Q (.int (a % 2048) s.toks) { s with toks := s.toks + 1 }) : wpAny (model prog w) A (binaryOp .BitAnd (.int a t) (.int 2047 u)) Q E s :=
  and_int (by
              have e := kbt_mask a 11
              rw [show (2 : Int) ^ 11 - 1 = 2047 by decide +kernel, show (2 : Int) ^ 11 = 2048 by decide +kernel] at e
              rw [e]; exact h)
theorem w_and63 (h : Q (.int (a % 9223372036854775808) s.toks) { s with toks := s.toks + 1 }) : wpAny (model prog w) A (binaryOp .BitAnd (.int a t) (.int (9223372036854775808 - 1) u)) Q E s :=
  and_int (by
              have e := kbt_mask a 63
              rw [show (2 : Int) ^ 63 - 1 = 9223372036854775808 - 1 by decide +kernel, show (2 : Int) ^ 63 = 9223372036854775808 by decide +kernel] at e
              rw [e]; exact h)
theorem w_andm {k : Nat} (h : Q (.int (a % 2 ^ k) s.toks) { s with toks := s.toks + 1 }) : wpAny (model prog w) A (binaryOp .BitAnd (.int a t) (.int (1 * 2 ^ k - 1) u)) Q E s :=
  and_int (by rw [Int.one_mul, kbt_mask]; exact h)
theorem and_low {k : Nat} {c y : Int} (hc : 0 ≤ c) (h0 : 0 ≤ y) (h1 : y < 2 ^ k) : Builtin.bitAnd (c * 2 ^ k) y = 0 := by
  have hp := kbt_pos k
  have hk := kbt_cast k
  rw [bitAnd_pp (Int.mul_nonneg hc (Int.le_of_lt hp)) h0]
  have e : (c * 2 ^ k).toNat = 2 ^ k * c.toNat := by
    have : ((c * 2 ^ k).toNat : Int) = ((2 ^ k * c.toNat : Nat) : Int) := by
      rw [Int.toNat_of_nonneg (Int.mul_nonneg hc (Int.le_of_lt hp)), Int.natCast_mul, Int.toNat_of_nonneg hc, hk, Int.mul_comm]
    exact Int.ofNat.inj this
  have hy : y.toNat < 2 ^ k := by omega
  have hor := Nat.two_pow_add_eq_or_of_lt hy c.toNat
  have z : 2 ^ k * c.toNat &&& y.toNat = 0 := by
    refine Nat.eq_of_testBit_eq fun i => ?_
    rw [Nat.testBit_and, Nat.zero_testBit, Nat.testBit_two_pow_mul]
    by_cases hi : i < k
    · simp [Nat.not_le.mpr hi]
    · have : y.toNat.testBit i = false := Nat.testBit_lt_two_pow (Nat.lt_of_lt_of_le hy (Nat.pow_le_pow_right (by decide) (Nat.not_lt.mp hi)))
      simp [this]
  rw [e, z]; rfl
theorem or_low {k : Nat} {c y : Int} (hc : 0 ≤ c) (h0 : 0 ≤ y) (h1 : y < 2 ^ k) : Builtin.bitOr (c * 2 ^ k) y = c * 2 ^ k + y := by
  rw [bitOr_and, and_low hc h0 h1]; omega
theorem or52 {c y : Int} (hc : 0 ≤ c) (h0 : 0 ≤ y) (h1 : y < 4503599627370496) : Builtin.bitOr (c * 4503599627370496) y = c * 4503599627370496 + y := by
  have e := or_low (k := 52) hc h0 (by rw [show (2 : Int) ^ 52 = 4503599627370496 by decide +kernel]; exact h1)
  rwa [show (2 : Int) ^ 52 = 4503599627370496 by decide +kernel] at e
theorem or63 {c y : Int} (hc : 0 ≤ c) (h0 : 0 ≤ y) (h1 : y < 9223372036854775808) : Builtin.bitOr (c * 9223372036854775808) y = c * 9223372036854775808 + y := by
  have e := or_low (k := 63) hc h0 (by rw [show (2 : Int) ^ 63 = 9223372036854775808 by decide +kernel]; exact h1)
  rwa [show (2 : Int) ^ 63 = 9223372036854775808 by decide +kernel] at e
theorem w_orh (h0 : 0 ≤ a) (h1 : a < 4503599627370496) (h : Q (.int (a + 4503599627370496) s.toks) { s with toks := s.toks + 1 }) : wpAny (model prog w) A (binaryOp .BitOr (.int a t) (.int 4503599627370496 u)) Q E s :=
  or_int (by
             have e := or52 (c := 1) (by decide) h0 h1
             rw [bitOr_comm, Int.one_mul, Int.add_comm] at e
             rw [e]; exact h)
theorem w_pack {g e f : Int} (hg : 0 ≤ g) (he : 0 ≤ e) (he2 : e < 2048) (hf : 0 ≤ f) (hf2 : f < 4503599627370496) : Builtin.bitOr (Builtin.bitOr (g * 9223372036854775808) (e * 4503599627370496)) f = g * 9223372036854775808 + e * 4503599627370496 + f := by
  rw [or63 hg (by omega) (by omega)]
  have e2 : g * 9223372036854775808 + e * 4503599627370496 = (g * 2048 + e) * 4503599627370496 := by omega
  rw [e2, or52 (by omega) hf hf2]
theorem w_mod (hb : 0 < b) (h : Q (.int (a % b) s.toks) { s with toks := s.toks + 1 }) : wpAny (model prog w) A (binaryOp .Mod (.int a t) (.int b u)) Q E s :=
  mod_int' (by omega) (by rw [Int.fmod_eq_emod_of_nonneg _ (Int.le_of_lt hb)]; exact h)
theorem w_div (hb : 0 < b) (hb2 : b.natAbs.log2 < 9000) (h : Q (.int (a / b) s.toks) { s with toks := s.toks + 1 }) : wpAny (model prog w) A (binaryOp .FloorDiv (.int a t) (.int b u)) Q E s :=
  floordiv_int (by omega) (by rw [Int.fdiv_eq_ediv_of_nonneg _ (Int.le_of_lt hb)]; exact h) (Or.inl (PyProof.noPylong_of_log2 hb2))
theorem w_shr (hn : 0 ≤ n) (h : Q (.int (a / 2 ^ n.toNat) s.toks) { s with toks := s.toks + 1 }) : wpAny (model prog w) A (binaryOp .RShift (.int a t) (.int n u)) Q E s :=
  rshift_int hn (by rw [Int.fdiv_eq_ediv_of_nonneg _ (Int.le_of_lt (kbt_pos _))]; exact h)
theorem w_unit (h : Q (.int unit s.toks) { s with toks := s.toks + 1 }) : wpAny (model prog w) A (binaryOp .Pow (.int 2 t) (.int 1074 u)) Q E s :=
  pow_int_small (by decide) (by decide) (by decide) (by rw [show (2 : Int) ^ Int.toNat 1074 = unit from by unfold unit; rfl]; exact h)
theorem w_shlq {k : Nat} (hn : 0 ≤ n) (hn2 : n ≤ 1000000) (h0 : 0 ≤ a) (h1 : a < 18446744073709551616) (h : Q (.int (a / 2 ^ k * 2 ^ n.toNat) s.toks) { s with toks := s.toks + 1 }) : wpAny (model prog w) A (binaryOp .LShift (.int (a / 2 ^ k) t) (.int n u)) Q E s :=
  lshift_int_small hn hn2 (by
    have g1 : 0 ≤ a / 2 ^ k := Int.ediv_nonneg h0 (Int.le_of_lt (kbt_pos k))
    have g2 : a / 2 ^ k ≤ a := Int.ediv_le_self _ h0
    omega) h
theorem w_shlh (h : Q (.int 9007199254740992 s.toks) { s with toks := s.toks + 1 }) : wpAny (model prog w) A (binaryOp .LShift (.int 4503599627370496 t) (.int 1 u)) Q E s :=
  lshift_int_small (by decide) (by decide) (by decide) (by rw [show (4503599627370496 : Int) * 2 ^ Int.toNat 1 = 9007199254740992 from by decide +kernel]; exact h)
theorem w_shl0 (hn : n = 0) (ha : a.natAbs < 2 ^ 64) (h : Q (.int a s.toks) { s with toks := s.toks + 1 }) : wpAny (model prog w) A (binaryOp .LShift (.int a t) (.int n u)) Q E s := by
  subst hn
  exact lshift_int_small (by decide) (by decide) ha (by rw [show (2 : Int) ^ Int.toNat 0 = 1 from by decide +kernel, Int.mul_one]; exact h)
theorem w_shl1 (hn : n = 1) (ha : a.natAbs < 2 ^ 64) (h : Q (.int (a * 2) s.toks) { s with toks := s.toks + 1 }) : wpAny (model prog w) A (binaryOp .LShift (.int a t) (.int n u)) Q E s := by
  subst hn
  exact lshift_int_small (by decide) (by decide) ha (by rw [show (2 : Int) ^ Int.toNat 1 = 2 from by decide +kernel]; exact h)
theorem w_shl64 (h : Q (.int 18446744073709551616 s.toks) { s with toks := s.toks + 1 }) : wpAny (model prog w) A (binaryOp .LShift (.int 1 t) (.int 64 u)) Q E s :=
  lshift_int_small (by decide) (by decide) (by decide) (by rw [show (1 : Int) * 2 ^ Int.toNat 64 = 18446744073709551616 from by decide +kernel]; exact h)
theorem w_shr1 (h : Q (.int (a / 2) s.toks) { s with toks := s.toks + 1 }) : wpAny (model prog w) A (binaryOp .RShift (.int a t) (.int 1 u)) Q E s :=
  rshift_int (by decide) (by rw [show (2 : Int) ^ Int.toNat 1 = 2 from by decide +kernel, Int.fdiv_eq_ediv_of_nonneg _ (by decide)]; exact h)
theorem blen_half {n : Int} (h : 0 < n) : blen (n / 2) = blen n - 1 := by
  unfold blen
  rw [if_neg (show ¬ n ≤ 0 by omega)]
  have e : (n / 2).toNat = n.toNat / 2 := by omega
  by_cases h2 : n / 2 ≤ 0
  · rw [if_pos h2]
    have : n = 1 := by omega
    subst this
    decide
  · rw [if_neg h2, e]
    have hd := Nat.log2_def n.toNat
    rw [if_pos (by omega)] at hd
    omega
theorem blen_zero {n : Int} (h : n ≤ 0) : blen n = 0 := by unfold blen; rw [if_pos h]
theorem blen_lo {n : Int} (h : 1 ≤ n) : 1 ≤ blen n ∧ 2 ^ (blen n - 1).toNat ≤ n ∧ n < 2 ^ (blen n).toNat := by
  unfold blen
  rw [if_neg (show ¬ n ≤ 0 by omega)]
  have h0 : n.toNat ≠ 0 := by omega
  have h1 := Nat.log2_self_le h0
  have h2 := Nat.lt_log2_self (n := n.toNat)
  have e1 : ((Nat.log2 n.toNat : Int) + 1 - 1).toNat = Nat.log2 n.toNat := by omega
  have e2 : ((Nat.log2 n.toNat : Int) + 1).toNat = Nat.log2 n.toNat + 1 := by omega
  rw [e1, e2]
  have c1 := kbt_cast (Nat.log2 n.toNat)
  have c2 := kbt_cast (Nat.log2 n.toNat + 1)
  refine ⟨by omega, by omega, by omega⟩
theorem pow_split {i j k : Nat} (h : i + j = k) : (2 : Int) ^ i * 2 ^ j = 2 ^ k := by rw [← h, Int.pow_add]
theorem shl_range {a : Int} {j k : Nat} (h : 1 ≤ a) (hj : (blen a).toNat + j = k) : (2 : Int) ^ (k - 1) ≤ a * 2 ^ j ∧ a * 2 ^ j < 2 ^ k := by
  obtain ⟨h1, h2, h3⟩ := blen_lo h
  have hp := kbt_pos j
  have e1 : (2 : Int) ^ (blen a - 1).toNat * 2 ^ j = 2 ^ (k - 1) := pow_split (by omega)
  have e2 : (2 : Int) ^ (blen a).toNat * 2 ^ j = 2 ^ k := pow_split hj
  rw [← e1, ← e2]
  exact ⟨Int.mul_le_mul_of_nonneg_right h2 (Int.le_of_lt hp), Int.mul_lt_mul_of_pos_right h3 hp⟩
theorem blen_le {n : Int} (h : n ≤ 9007199254740992) : blen n ≤ 53 ∨ (blen n = 54 ∧ n = 9007199254740992) := by
  by_cases h1 : n ≤ 0
  · rw [blen_zero h1]; omega
  · obtain ⟨g1, g2, g3⟩ := blen_lo (show 1 ≤ n by omega)
    by_cases hb : blen n ≤ 53
    · exact .inl hb
    · have e : (2 : Int) ^ (blen n - 1).toNat = 2 ^ 53 * 2 ^ ((blen n - 1).toNat - 53) := (pow_split (by omega)).symm
      have hp := kbt_pos ((blen n - 1).toNat - 53)
      have e53 : (2 : Int) ^ 53 = 9007199254740992 := by decide +kernel
      rw [e, e53] at g2
      refine .inr ⟨?_, by omega⟩
      by_cases hb2 : blen n = 54
      · exact hb2
      · exfalso
        have e3 : (2 : Int) ^ ((blen n - 1).toNat - 53) = 2 * 2 ^ ((blen n - 1).toNat - 54) := by
          rw [show (blen n - 1).toNat - 53 = ((blen n - 1).toNat - 54) + 1 by omega, Int.pow_succ, Int.mul_comm]
        have hp2 := kbt_pos ((blen n - 1).toNat - 54)
        omega
theorem blen_mid {n : Int} (h : 1 ≤ n) : (blen n ≤ 53 → n ≤ 9007199254740991) ∧ (53 ≤ blen n → 4503599627370496 ≤ n) := by
  obtain ⟨g1, g2, g3⟩ := blen_lo h
  refine ⟨fun hb => ?_, fun hb => ?_⟩
  · have e : (2 : Int) ^ (blen n).toNat * 2 ^ (53 - (blen n).toNat) = 2 ^ 53 := pow_split (by omega)
    have hp := kbt_pos (53 - (blen n).toNat)
    have hq := kbt_pos (blen n).toNat
    have e53 : (2 : Int) ^ 53 = 9007199254740992 := by decide +kernel
    have hm : (2 : Int) ^ (blen n).toNat * 1 ≤ 2 ^ (blen n).toNat * 2 ^ (53 - (blen n).toNat) := Int.mul_le_mul_of_nonneg_left (by omega) (Int.le_of_lt hq)
    omega
  · have e : (2 : Int) ^ 52 * 2 ^ ((blen n - 1).toNat - 52) = 2 ^ (blen n - 1).toNat := pow_split (by omega)
    have hp := kbt_pos ((blen n - 1).toNat - 52)
    have e52 : (2 : Int) ^ 52 = 4503599627370496 := by decide +kernel
    rw [e52] at e
    omega
theorem width_end {n a b c d : Int} (h1 : blen c + d = blen n + 0) (h2 : blen a + b = blen c + d) (h3 : ¬ 0 < a) : b = blen n ∧ (n = 1 → b = 1) ∧ (1 ≤ n → 1 ≤ b ∧ (b ≤ 53 → n ≤ 9007199254740991) ∧ (53 ≤ b → 4503599627370496 ≤ n)) ∧ (n ≤ 9007199254740992 → b ≤ 53 ∨ (b = 54 ∧ n = 9007199254740992)) := by
  rw [blen_zero (show a ≤ 0 by omega)] at h2
  have e : b = blen n := by omega
  subst e
  refine ⟨rfl, ?_, fun h => ⟨(blen_lo h).1, blen_mid h⟩, blen_le⟩
  intro h
  subst h
  decide
theorem w_shlb {x : Int} (hx : x = blen a) (ha : 1 ≤ a ∧ a ≤ 9007199254740992) (hn : n = 54 - x) (h : ∀ v, v = a * 2 ^ n.toNat → 9007199254740992 ≤ v → v < 18014398509481984 → Q (.int v s.toks) { s with toks := s.toks + 1 }) :
    wpAny (model prog w) A (binaryOp .LShift (.int a t) (.int n u)) Q E s := by
  have hb := blen_le ha.2
  have hl := blen_lo ha.1
  have g := shl_range (j := n.toNat) (k := 54) ha.1 (by omega)
  rw [show (2 : Int) ^ (54 - 1) = 9007199254740992 by decide +kernel, show (2 : Int) ^ 54 = 18014398509481984 by decide +kernel] at g
  exact lshift_int_small (by omega) (by omega) (by omega) (h _ rfl g.1 g.2)
theorem w_shlc {x : Int} (hx : x = blen a) (ha : 1 ≤ a ∧ a ≤ 9007199254740991) (hn : n = 53 - x) (h : ∀ v, v = a * 2 ^ n.toNat → 4503599627370496 ≤ v → v < 9007199254740992 → Q (.int v s.toks) { s with toks := s.toks + 1 }) :
    wpAny (model prog w) A (binaryOp .LShift (.int a t) (.int n u)) Q E s := by
  have hb := blen_le (show a ≤ 9007199254740992 by omega)
  have hl := blen_lo ha.1
  have g := shl_range (j := n.toNat) (k := 53) ha.1 (by omega)
  rw [show (2 : Int) ^ (53 - 1) = 4503599627370496 by decide +kernel, show (2 : Int) ^ 53 = 9007199254740992 by decide +kernel] at g
  exact lshift_int_small (by omega) (by omega) (by omega) (h _ rfl g.1 g.2)
theorem w_max {h₀ : Heap} {L : Addr} {m : Str → Option Value} {news : List (Addr × Obj)} (hh : A.handled = none) (hba : b ≤ a) (F : Fr h₀ L s.heap m) (N : News h₀ L s.heap news)
    (h : ∀ h' tk, Fr h₀ L h' m → News h₀ L h' news → Q (.int a t) { s with heap := h', toks := tk }) : wpAny (model prog w) A (call (.builtin "max") [.int a t, .int b u]) Q E s :=
  Flt.max_two_split hh (.int a t) (.int b u) (k := false) (decide_eq_false (by omega)) F N (fun c => nomatch c) (fun _ => h)
theorem shr_ok {k : Nat} (h0 : 0 ≤ a) (h1 : a < 9007199254740992) : 0 ≤ a / 2 ^ k ∧ a / 2 ^ k ≤ 9007199254740992 ∧ 0 ≤ a / 2 ^ k + 1 ∧ a / 2 ^ k + 1 ≤ 9007199254740992 := by
  have g1 : 0 ≤ a / 2 ^ k := Int.ediv_nonneg h0 (Int.le_of_lt (kbt_pos k))
  have g2 : a / 2 ^ k ≤ a := Int.ediv_le_self _ h0
  omega
theorem w_maxR {h₀ : Heap} {L : Addr} {m : Str → Option Value} {news : List (Addr × Obj)} (hh : A.handled = none) (F : Fr h₀ L s.heap m) (N : News h₀ L s.heap news)
    (h : ∀ v t' h' tk, v = max a b → Fr h₀ L h' m → News h₀ L h' news → Q (.int v t') { s with heap := h', toks := tk }) : wpAny (model prog w) A (call (.builtin "max") [.int a t, .int b u]) Q E s :=
  Flt.max_two_num hh (.int a t) (.int b u) fun h' tk kp => by
    by_cases c : a < b
    · have e : Flt.ltV (.int a t) (.int b u) = true := decide_eq_true c
      rw [e]
      exact h b u h' tk (by omega) (F.grownK kp) (N.grown kp)
    · have e : Flt.ltV (.int a t) (.int b u) = false := decide_eq_false c
      rw [e]
      exact h a t h' tk (by omega) (F.grownK kp) (N.grown kp)
theorem w_minR {h₀ : Heap} {L : Addr} {m : Str → Option Value} {news : List (Addr × Obj)} (hh : A.handled = none) (F : Fr h₀ L s.heap m) (N : News h₀ L s.heap news)
    (h : ∀ v t' h' tk, v = min a b → Fr h₀ L h' m → News h₀ L h' news → Q (.int v t') { s with heap := h', toks := tk }) : wpAny (model prog w) A (call (.builtin "min") [.int a t, .int b u]) Q E s :=
  Flt.min_two_num hh (.int a t) (.int b u) fun h' tk kp => by
    by_cases c : b < a
    · have e : Flt.ltV (.int b u) (.int a t) = true := decide_eq_true c
      rw [e]
      exact h b u h' tk (by omega) (F.grownK kp) (N.grown kp)
    · have e : Flt.ltV (.int b u) (.int a t) = false := decide_eq_false c
      rw [e]
      exact h a t h' tk (by omega) (F.grownK kp) (N.grown kp)
theorem w_item {value slice : PySem.Expr} {l : Addr} {vs : List Value} {k : Int} (hl : s.heap.IsList l vs.toArray) (h0 : 0 ≤ k) (hk : k < vs.length) (hk2 : vs.length < 1000)
    (hall : ∀ v ∈ vs, ∃ (i : Int) (t : Tok), v = Value.int i t ∧ 0 ≤ i ∧ i < 18446744073709551616) (h : ∀ (i : Int) (t : Tok), 0 ≤ i → i < 18446744073709551616 → Q (.int i t) s)
    (hs : subscripted slice false (.ref l) (.int k u) = operate [.ref l, .int k u] (getItem (.ref l) (.int k u)) := by with_unfolding_all rfl) :
    wpAny (model prog w) A (subscriptTail value slice (.ref l) (.int k u)) Q E s := by
  have hlt : k.toNat < vs.length := by omega
  obtain ⟨i, t', he, h1, h2⟩ := hall _ (List.getElem_mem hlt)
  refine tail_any hl.typeIs slot_list_getitem.lookup (wpAny_getItem_list hl h0 (by omega) (x := .int i t') ?_ (h i t' h1 h2)) hs
  rw [← he]
  simp [hlt]
theorem w_mulq {k : Nat} (ha : 0 ≤ a ∧ a < 18446744073709551616) (hk : k ≤ 1000) (h : ∀ v, 0 ≤ v → v ≤ a → Q (.int v s.toks) { s with toks := s.toks + 1 }) : wpAny (model prog w) A (binaryOp .Mult (.int (a / 2 ^ k) t) (.int (2 ^ k) u)) Q E s := by
  have hp := kbt_pos k
  have g1 : 0 ≤ a / 2 ^ k := Int.ediv_nonneg ha.1 (Int.le_of_lt hp)
  have g2 : a / 2 ^ k ≤ a := Int.ediv_le_self _ ha.1
  have g3 : a / 2 ^ k * 2 ^ k ≤ a := Int.ediv_mul_le a (Int.ne_of_gt hp)
  have b1 : Builtin.Int.intBits (a / 2 ^ k) ≤ 64 := PySem.intBits_le_64 (by omega) (by omega)
  have b2 : Builtin.Int.intBits ((2 : Int) ^ k) ≤ 2 * k + 1 := PySem.intBits_pow_le (m := 2) (PySem.intBits_le_iff.mpr (by decide)) k
  exact mul_int (h _ (Int.mul_nonneg g1 (Int.le_of_lt hp)) g3) (IntMulOk.of_le b1 b2 (by omega))
theorem unit_pos : 0 < unit := by unfold unit; exact kbt_pos 1074
theorem log2_pow (k : Nat) (hk : k < 9000) : ((2 : Int) ^ k).natAbs.log2 < 9000 := by
  have h := kbt_py (n := (k : Int)) (by omega)
  rwa [Int.toNat_natCast] at h
theorem w_mod_pow {k : Nat} (h : Q (.int (a % 2 ^ k) s.toks) { s with toks := s.toks + 1 }) : wpAny (model prog w) A (binaryOp .Mod (.int a t) (.int (2 ^ k) u)) Q E s := w_mod (kbt_pos k) h
theorem w_mod_unit (h : Q (.int (a % unit) s.toks) { s with toks := s.toks + 1 }) : wpAny (model prog w) A (binaryOp .Mod (.int a t) (.int unit u)) Q E s := w_mod unit_pos h
theorem w_div_pow {k : Nat} (hk : k < 9000) (h : Q (.int (a / 2 ^ k) s.toks) { s with toks := s.toks + 1 }) : wpAny (model prog w) A (binaryOp .FloorDiv (.int a t) (.int (2 ^ k) u)) Q E s := w_div (kbt_pos k) (log2_pow k hk) h
theorem w_mod_1pow {k : Nat} (h : Q (.int (a % 2 ^ k) s.toks) { s with toks := s.toks + 1 }) : wpAny (model prog w) A (binaryOp .Mod (.int a t) (.int (1 * 2 ^ k) u)) Q E s := by rw [Int.one_mul]; exact w_mod (kbt_pos k) h
theorem w_divR {k : Nat} (hk : k < 9000) (h : ∀ v, (0 ≤ a → 0 ≤ v ∧ v ≤ a) ∧ (a < 0 → a ≤ v ∧ v < 0) → Q (.int v s.toks) { s with toks := s.toks + 1 }) : wpAny (model prog w) A (binaryOp .FloorDiv (.int a t) (.int (2 ^ k) u)) Q E s := by
  refine w_div_pow hk (h _ ⟨fun h0 => ⟨Int.ediv_nonneg h0 (Int.le_of_lt (kbt_pos k)), Int.ediv_le_self _ h0⟩, fun h0 => ?_⟩)
  have hp := kbt_pos k
  have g1 := Int.ediv_mul_le a (Int.ne_of_gt hp)
  have g2 := Int.lt_ediv_add_one_mul_self a hp
  have hv : a / 2 ^ k < 0 := Int.ediv_neg_of_neg_of_pos h0 hp
  refine ⟨?_, hv⟩
  have hm : (2 : Int) ^ k * (a / 2 ^ k + 1) ≤ 1 * (a / 2 ^ k + 1) := Int.mul_le_mul_of_nonpos_right (by omega) (by omega)
  rw [Int.mul_comm, Int.one_mul] at hm
  omega
theorem unit_log : unit.natAbs.log2 < 9000 := by unfold unit; exact log2_pow 1074 (by decide)
theorem unit2_log : (2 * unit).natAbs.log2 < 9000 := by
  have e : 2 * unit = 2 ^ 1075 := by unfold unit; rw [Int.pow_succ 2 1074, Int.mul_comm]
  rw [e]; exact log2_pow 1075 (by decide)
theorem w_div_unit (h : Q (.int (a / unit) s.toks) { s with toks := s.toks + 1 }) : wpAny (model prog w) A (binaryOp .FloorDiv (.int a t) (.int unit u)) Q E s := w_div unit_pos unit_log h
theorem w_div_2unit (h : Q (.int (a / (2 * unit)) s.toks) { s with toks := s.toks + 1 }) : wpAny (model prog w) A (binaryOp .FloorDiv (.int a t) (.int (2 * unit) u)) Q E s := w_div (by have := unit_pos; omega) unit2_log h
end
theorem ex_rng (n : Int) : 0 ≤ ex n ∧ ex n < 2048 := by unfold ex; omega
theorem fr_rng (n : Int) : 0 ≤ fr n ∧ fr n < 4503599627370496 := by unfold fr; omega
theorem mant_rng (n : Int) : 0 ≤ mant n ∧ mant n < 9007199254740992 := by
  have := fr_rng n
  unfold mant
  split <;> omega
theorem unit_eq : unit = 2 ^ 1074 := by unfold unit; rfl
theorem lsize_nonneg (n : Int) : 0 ≤ lsize n := Int.mul_nonneg (mant_rng n).1 (Int.le_of_lt (kbt_pos _))
theorem size_up {n : Int} (h : 1075 ≤ ex n) : lsize n = mant n * 2 ^ (ex n - 1075).toNat * unit := by
  unfold lsize up
  rw [unit_eq, Int.mul_assoc, pow_split (k := (ex n - 1).toNat) (by omega)]
theorem size_down {n : Int} {q : Nat} (hq : up n + q = 1074) : unit = 2 ^ up n * 2 ^ q := by
  rw [unit_eq, pow_split hq]
theorem div_down {n : Int} {q : Nat} (hq : up n + q = 1074) : lsize n / unit = mant n / 2 ^ q ∧ lsize n % unit = 2 ^ up n * (mant n % 2 ^ q) := by
  rw [size_down hq]
  unfold lsize
  rw [Int.mul_comm (mant n)]
  exact ⟨Int.mul_ediv_mul_of_pos _ _ (kbt_pos _), Int.mul_emod_mul_of_pos _ _ (kbt_pos _)⟩
theorem div_up {n : Int} (h : 1075 ≤ ex n) : lsize n / unit = mant n * 2 ^ (ex n - 1075).toNat ∧ lsize n % unit = 0 := by
  rw [size_up h]
  exact ⟨Int.mul_ediv_cancel _ (Int.ne_of_gt unit_pos), Int.mul_emod_left _ _⟩
theorem mod_neg_iff {v : Int} : (-v) % unit = 0 ↔ v % unit = 0 := by
  rw [← Int.dvd_iff_emod_eq_zero, ← Int.dvd_iff_emod_eq_zero, Int.dvd_neg]
theorem lvalue_mod {n : Int} : lvalue n % unit = 0 ↔ lsize n % unit = 0 := by
  unfold lvalue
  split
  · exact mod_neg_iff
  · exact Iff.rfl
-- the three ways through the exponent, as the walk says them
theorem way0 {n : Int} (h : n / 4503599627370496 % 2048 = 0) : mant n = n % 4503599627370496 ∧ up n + (- -1074 : Int).toNat = 1074 := by
  have h' : ex n = 0 := h
  refine ⟨by unfold mant; rw [if_pos h']; rfl, ?_⟩
  unfold up
  rw [h']
  decide
theorem way1 {n : Int} (h : n / 4503599627370496 % 2048 ≠ 0) (h2 : 0 ≤ n / 4503599627370496 % 2048 - 1075) : mant n = n % 4503599627370496 + 4503599627370496 ∧ 1075 ≤ ex n := by
  have h' : ex n ≠ 0 := h
  exact ⟨by unfold mant; rw [if_neg h']; rfl, by unfold ex; omega⟩
theorem way2 {n : Int} (h : n / 4503599627370496 % 2048 ≠ 0) (h2 : ¬ 0 ≤ n / 4503599627370496 % 2048 - 1075) : mant n = n % 4503599627370496 + 4503599627370496 ∧ up n + (-(n / 4503599627370496 % 2048 - 1075)).toNat = 1074 := by
  have h' : ex n ≠ 0 := h
  refine ⟨by unfold mant; rw [if_neg h']; rfl, ?_⟩
  unfold up ex
  omega
theorem size0 {n : Int} (h : n / 4503599627370496 % 2048 = 0) : n % 4503599627370496 / 2 ^ (- -1074 : Int).toNat = lsize n / unit := by
  rw [(div_down (way0 h).2).1, (way0 h).1]
theorem size1 {n : Int} (h : n / 4503599627370496 % 2048 ≠ 0) (h2 : 0 ≤ n / 4503599627370496 % 2048 - 1075) : (n % 4503599627370496 + 4503599627370496) * 2 ^ (n / 4503599627370496 % 2048 - 1075).toNat = lsize n / unit := by
  rw [(div_up (way1 h h2).2).1, (way1 h h2).1]
  rfl
theorem size2 {n : Int} (h : n / 4503599627370496 % 2048 ≠ 0) (h2 : ¬ 0 ≤ n / 4503599627370496 % 2048 - 1075) : (n % 4503599627370496 + 4503599627370496) / 2 ^ (-(n / 4503599627370496 % 2048 - 1075)).toNat = lsize n / unit := by
  rw [(div_down (way2 h h2).2).1, (way2 h h2).1]
theorem toInt_n {n : Int} (h : n / 9223372036854775808 = 1) : -(lsize n / unit) = toInt n := by
  unfold toInt; rw [if_pos (by omega)]
theorem toInt_p {n : Int} (hp : 0 ≤ n ∧ n < 18446744073709551616 ∧ mag n < 9218868437227405312) (h : n / 9223372036854775808 ≠ 1) : lsize n / unit = toInt n := by
  unfold toInt; rw [if_neg (by omega)]
theorem back_iff {m : Int} {q : Nat} : m / 2 ^ q * 2 ^ q = m ↔ m % 2 ^ q = 0 := by
  have h := Int.emod_def m (2 ^ q)
  rw [Int.mul_comm] at h
  omega
theorem rest_iff {n : Int} {q : Nat} (hq : up n + q = 1074) : mant n % 2 ^ q = 0 ↔ lvalue n % unit = 0 := by
  rw [lvalue_mod, (div_down hq).2]
  have hp := kbt_pos (up n)
  constructor
  · intro h; rw [h, Int.mul_zero]
  · intro h
    rcases Int.mul_eq_zero.mp h with h | h
    · omega
    · exact h
theorem whole0 {n : Int} (h : n / 4503599627370496 % 2048 = 0) : (n % 4503599627370496 / 2 ^ (- -1074 : Int).toNat * 2 ^ (- -1074 : Int).toNat == n % 4503599627370496) = decide (lvalue n % unit = 0) := by
  rw [Bool.eq_iff_iff, beq_iff_eq, decide_eq_true_eq, back_iff, ← rest_iff (way0 h).2, (way0 h).1]
theorem whole1 {n : Int} (h : n / 4503599627370496 % 2048 ≠ 0) (h2 : 0 ≤ n / 4503599627370496 % 2048 - 1075) : decide (0 ≤ n / 4503599627370496 % 2048 - 1075) = decide (lvalue n % unit = 0) := by
  rw [decide_eq_true h2, decide_eq_true (lvalue_mod.mpr (div_up (way1 h h2).2).2)]
theorem whole2 {n : Int} (h : n / 4503599627370496 % 2048 ≠ 0) (h2 : ¬ 0 ≤ n / 4503599627370496 % 2048 - 1075) : ((n % 4503599627370496 + 4503599627370496) / 2 ^ (-(n / 4503599627370496 % 2048 - 1075)).toNat * 2 ^ (-(n / 4503599627370496 % 2048 - 1075)).toNat == n % 4503599627370496 + 4503599627370496) = decide (lvalue n % unit = 0) := by
  rw [Bool.eq_iff_iff, beq_iff_eq, decide_eq_true_eq, back_iff, ← rest_iff (way2 h h2).2, (way2 h h2).1]
theorem lsize_zero {n : Int} (h : mag n = 0) : lsize n = 0 := by
  unfold mag at h
  unfold lsize mant ex fr
  rw [if_pos (by omega)]
  have : n % 4503599627370496 = 0 := by omega
  rw [this, Int.zero_mul]
theorem settled_a {n : Int} (h : mag n = 0) : decide (mag n = 0) = decide (9218868437227405312 ≤ mag n ∨ 1075 ≤ n / 4503599627370496 % 2048 ∨ lvalue n % unit = 0) := by
  rw [decide_eq_true h, decide_eq_true (.inr (.inr (lvalue_mod.mpr (by rw [lsize_zero h]; exact Int.zero_emod _))))]
theorem settled_0 {n : Int} (hm : mag n < 9218868437227405312) (h : n / 4503599627370496 % 2048 = 0) : (n % 4503599627370496 % 2 ^ (- -1074 : Int).toNat == 0) = decide (9218868437227405312 ≤ mag n ∨ 1075 ≤ n / 4503599627370496 % 2048 ∨ lvalue n % unit = 0) := by
  rw [Bool.eq_iff_iff, beq_iff_eq, decide_eq_true_eq, ← (way0 h).1, rest_iff (way0 h).2]
  omega
theorem settled_1 {n : Int} (h2 : 0 ≤ n / 4503599627370496 % 2048 - 1075) : ((0 : Int) == 0) = decide (9218868437227405312 ≤ mag n ∨ 1075 ≤ n / 4503599627370496 % 2048 ∨ lvalue n % unit = 0) := by
  rw [decide_eq_true (show 9218868437227405312 ≤ mag n ∨ 1075 ≤ n / 4503599627370496 % 2048 ∨ lvalue n % unit = 0 by omega)]; rfl
theorem settled_2 {n : Int} (hm : mag n < 9218868437227405312) (h : n / 4503599627370496 % 2048 ≠ 0) (h2 : ¬ 0 ≤ n / 4503599627370496 % 2048 - 1075) : ((n % 4503599627370496 + 4503599627370496) % 2 ^ (-(n / 4503599627370496 % 2048 - 1075)).toNat == 0) = decide (9218868437227405312 ≤ mag n ∨ 1075 ≤ n / 4503599627370496 % 2048 ∨ lvalue n % unit = 0) := by
  rw [Bool.eq_iff_iff, beq_iff_eq, decide_eq_true_eq, ← (way2 h h2).1, rest_iff (way2 h h2).2]
  omega
theorem settled_3 {n : Int} (h : ¬ mag n < 9218868437227405312) : (!decide (mag n < 9218868437227405312)) = decide (9218868437227405312 ≤ mag n ∨ 1075 ≤ n / 4503599627370496 % 2048 ∨ lvalue n % unit = 0) := by
  rw [decide_eq_false h, decide_eq_true (show 9218868437227405312 ≤ mag n ∨ 1075 ≤ n / 4503599627370496 % 2048 ∨ lvalue n % unit = 0 by omega)]; rfl
-- the double of a small whole size
theorem fs_zero (g : Int) : fromSize g 0 = g * 9223372036854775808 := by unfold fromSize; rw [if_pos rfl]
theorem fs_pos {g s : Int} (h1 : 1 ≤ s) (h2 : s ≤ 9007199254740992) :
    ∃ e f : Int, fromSize g s = g * 9223372036854775808 + e * 4503599627370496 + f ∧ 1 ≤ e ∧ e ≤ 1076 ∧ 0 ≤ f ∧ f < 4503599627370496 ∧ (f + 4503599627370496) * 2 ^ (e - 1).toNat = s * unit := by
  obtain ⟨hb, -, -⟩ := blen_lo h1
  have hl := blen_le h2
  have g54 := shl_range (a := s) (j := (54 - blen s).toNat) (k := 54) h1 (by omega)
  rw [show (2 : Int) ^ (54 - 1) = 9007199254740992 by decide +kernel, show (2 : Int) ^ 54 = 18014398509481984 by decide +kernel] at g54
  refine ⟨blen s + 1022, s * 2 ^ (54 - blen s).toNat / 2 - 4503599627370496, ?_, by omega, by omega, by omega, by omega, ?_⟩
  · unfold fromSize; rw [if_neg (by omega)]
  · have hev : s * 2 ^ (54 - blen s).toNat / 2 * 2 = s * 2 ^ (54 - blen s).toNat := by
      by_cases h54 : blen s = 54
      · have hs : s = 9007199254740992 := by omega
        rw [h54, hs]; decide +kernel
      · have e : s * 2 ^ (54 - blen s).toNat = s * 2 ^ (53 - blen s).toNat * 2 := by
          rw [Int.mul_assoc, show (54 - blen s).toNat = (53 - blen s).toNat + 1 by omega, Int.pow_succ]
        rw [e, Int.mul_ediv_cancel _ (by decide)]
    have e1 : s * 2 ^ (54 - blen s).toNat / 2 - 4503599627370496 + 4503599627370496 = s * 2 ^ (54 - blen s).toNat / 2 := by omega
    rw [e1, show (blen s + 1022 - 1).toNat = (blen s + 1020).toNat + 1 by omega, Int.pow_succ, Int.mul_comm (2 ^ (blen s + 1020).toNat) 2, ← Int.mul_assoc, hev, Int.mul_assoc, pow_split (k := 1074) (by omega), unit_eq]
theorem dbl_parts {g e f : Int} (hg : 0 ≤ g) (hg1 : g ≤ 1) (he : 1 ≤ e) (he1 : e ≤ 1076) (hf : 0 ≤ f) (hf1 : f < 4503599627370496) :
    lsize (g * 9223372036854775808 + e * 4503599627370496 + f) = (f + 4503599627370496) * 2 ^ (e - 1).toNat := by
  have e1 : ex (g * 9223372036854775808 + e * 4503599627370496 + f) = e := by unfold ex; omega
  have e2 : fr (g * 9223372036854775808 + e * 4503599627370496 + f) = f := by unfold fr; omega
  unfold lsize mant up
  rw [e1, e2, if_neg (by omega)]
theorem fs_facts {g s : Int} (hg : 0 ≤ g) (hg1 : g ≤ 1) (h0 : 0 ≤ s) (h2 : s ≤ 9007199254740992) :
    0 ≤ fromSize g s ∧ fromSize g s < 18446744073709551616 ∧ mag (fromSize g s) < 9218868437227405312 ∧ (s = 0 → fromSize g s = g * 9223372036854775808) ∧ lsize (fromSize g s) = s * unit ∧ (9223372036854775808 ≤ fromSize g s ↔ g = 1) := by
  by_cases hs : s = 0
  · subst hs
    have hm : mag (g * 9223372036854775808) = 0 := by unfold mag; omega
    rw [fs_zero, lsize_zero hm, hm]
    refine ⟨by omega, by omega, by omega, fun _ => rfl, by omega, by omega⟩
  · obtain ⟨e, f, he, h3, h4, h5, h6, h7⟩ := fs_pos (g := g) (show 1 ≤ s by omega) h2
    rw [he, dbl_parts hg hg1 h3 h4 h5 h6, h7]
    refine ⟨by omega, by omega, by unfold mag; omega, fun h => absurd h hs, rfl, by omega⟩
theorem fs_value {g s : Int} (hg : 0 ≤ g) (hg1 : g ≤ 1) (h0 : 0 ≤ s) (h2 : s ≤ 9007199254740992) : lvalue (fromSize g s) = (if g = 1 then -s else s) * unit := by
  obtain ⟨-, -, -, -, h5, h6⟩ := fs_facts hg hg1 h0 h2
  unfold lvalue
  by_cases h : g = 1
  · rw [if_pos (h6.mpr h), if_pos h, h5, Int.neg_mul]
  · rw [if_neg (fun q => h (h6.mp q)), if_neg h, h5]
theorem from_neg {n : Int} (hp : -9007199254740992 ≤ n ∧ n ≤ 9007199254740992) (h : n < 0) : 0 ≤ fromSize 1 (if n < 0 then -n else n) ∧ fromSize 1 (if n < 0 then -n else n) < 18446744073709551616 ∧ mag (fromSize 1 (if n < 0 then -n else n)) < 9218868437227405312 ∧ toInt (fromSize 1 (if n < 0 then -n else n)) = n ∧ lvalue (fromSize 1 (if n < 0 then -n else n)) % unit = 0 := by
  rw [if_pos h]
  obtain ⟨h1, h2, h3, h4, h5, h6⟩ := fs_facts (g := 1) (s := -n) (by decide) (by decide) (by omega) (by omega)
  refine ⟨h1, h2, h3, ?_, ?_⟩
  · unfold toInt
    rw [if_pos (h6.mpr rfl), h5, Int.mul_ediv_cancel _ (Int.ne_of_gt unit_pos)]
    omega
  · rw [lvalue_mod, h5]; exact Int.mul_emod_left _ _
theorem from_pos {n : Int} (hp : -9007199254740992 ≤ n ∧ n ≤ 9007199254740992) (h : ¬ n < 0) : 0 ≤ fromSize 0 (if n < 0 then -n else n) ∧ fromSize 0 (if n < 0 then -n else n) < 18446744073709551616 ∧ mag (fromSize 0 (if n < 0 then -n else n)) < 9218868437227405312 ∧ toInt (fromSize 0 (if n < 0 then -n else n)) = n ∧ lvalue (fromSize 0 (if n < 0 then -n else n)) % unit = 0 := by
  rw [if_neg h]
  obtain ⟨h1, h2, h3, h4, h5, h6⟩ := fs_facts (g := 0) (s := n) (by decide) (by decide) (by omega) (by omega)
  refine ⟨h1, h2, h3, ?_, ?_⟩
  · unfold toInt
    rw [if_neg (fun q => absurd (h6.mp q) (by decide)), h5, Int.mul_ediv_cancel _ (Int.ne_of_gt unit_pos)]
  · rw [lvalue_mod, h5]; exact Int.mul_emod_left _ _
theorem bits_pow2 (k : Nat) : Builtin.Int.intBits ((2 : Int) ^ k) ≤ 2 * k + 1 := PySem.intBits_pow_le (m := 2) (PySem.intBits_le_iff.mpr (by decide)) k
theorem bits_unit : Builtin.Int.intBits unit ≤ 2149 := by rw [unit_eq]; exact bits_pow2 1074
theorem bits_lsize {n : Int} : Builtin.Int.intBits (lsize n) ≤ 4200 := by
  have h1 := mant_rng n
  have h2 := ex_rng n
  have h3 : Builtin.Int.intBits (mant n) ≤ 64 := PySem.intBits_le_64 (by omega) (by omega)
  have h5 : Builtin.Int.intBits (lsize n) ≤ 64 + (2 * up n + 1) := PySem.intBits_mul_le h3 (bits_pow2 _)
  have h6 : up n ≤ 2046 := by unfold up; omega
  omega
theorem bits_lvalue {n : Int} : Builtin.Int.intBits (lvalue n) ≤ 4200 := by
  unfold lvalue
  split
  · exact PySem.intBits_neg_le bits_lsize
  · exact bits_lsize
theorem bits_ediv {a b : Int} {k : Nat} (hb : 0 < b) (h : Builtin.Int.intBits a ≤ k) : Builtin.Int.intBits (a / b) ≤ k := by
  rw [← Int.fdiv_eq_ediv_of_nonneg _ (Int.le_of_lt hb)]
  exact PySem.intBits_fdiv_le h
theorem bits_toInt {n : Int} : Builtin.Int.intBits (toInt n) ≤ 6000 := by
  unfold toInt
  split
  · exact Nat.le_trans (PySem.intBits_neg_le (bits_ediv unit_pos bits_lsize)) (by decide)
  · exact Nat.le_trans (bits_ediv unit_pos bits_lsize) (by decide)
theorem bits_div {n : Int} : Builtin.Int.intBits (lvalue n / unit) ≤ 6000 := Nat.le_trans (bits_ediv unit_pos bits_lvalue) (by decide)
theorem bits_ndiv {n : Int} : Builtin.Int.intBits (-(-lvalue n / unit)) ≤ 6000 := Nat.le_trans (PySem.intBits_neg_le (bits_ediv unit_pos (PySem.intBits_neg_le bits_lvalue))) (by decide)
theorem bits_two : Builtin.Int.intBits 2 ≤ 2 := PySem.intBits_le_iff.mpr (by decide)
theorem bits_half {n : Int} : Builtin.Int.intBits ((2 * lvalue n + unit) / (2 * unit)) ≤ 6000 :=
  Nat.le_trans (bits_ediv (by have := unit_pos; omega) (PySem.intBits_add_le (PySem.intBits_mul_le bits_two bits_lvalue) bits_unit)) (by decide)
theorem cut_neg {n : Int} (h : lvalue n < 0) : (if lvalue n < 0 then -lvalue n else lvalue n) / unit * -1 = toInt n := by
  rw [if_pos h]
  have h0 := lsize_nonneg n
  unfold lvalue at h ⊢
  unfold toInt
  by_cases c : 9223372036854775808 ≤ n
  · rw [if_pos c, if_pos c, Int.neg_neg]; omega
  · rw [if_neg c] at h; omega
theorem cut_pos {n : Int} (hp : 0 ≤ lvalue n) : (if lvalue n < 0 then -lvalue n else lvalue n) / unit * 1 = toInt n := by
  rw [if_neg (by omega), Int.mul_one]
  have h0 := lsize_nonneg n
  unfold lvalue at hp ⊢
  unfold toInt
  by_cases c : 9223372036854775808 ≤ n
  · rw [if_pos c] at hp
    have hz : lsize n = 0 := by omega
    rw [if_pos c, if_pos c, hz, Int.neg_zero, Int.zero_ediv]; rfl
  · rw [if_neg c, if_neg c]
section
variable {prog : Program} {w : World} {A : Around} {E : Value → Shared → Prop} {s : Shared} {a b n : Int} {t u : Tok} {Q : Value → Shared → Prop}
theorem w_mulu (hb : Builtin.Int.intBits a ≤ 6000) (h : Q (.int (a * unit) s.toks) { s with toks := s.toks + 1 }) : wpAny (model prog w) A (binaryOp .Mult (.int a t) (.int unit u)) Q E s :=
  mul_int h (IntMulOk.of_le hb bits_unit (by decide))
theorem w_2unit (h : Q (.int (2 * unit) s.toks) { s with toks := s.toks + 1 }) : wpAny (model prog w) A (binaryOp .Mult (.int 2 t) (.int unit u)) Q E s :=
  mul_int h (IntMulOk.of_le bits_two bits_unit (by decide))
theorem w_2value (h : Q (.int (2 * lvalue n) s.toks) { s with toks := s.toks + 1 }) : wpAny (model prog w) A (binaryOp .Mult (.int 2 t) (.int (lvalue n) u)) Q E s :=
  mul_int h (IntMulOk.of_le bits_two bits_lvalue (by decide))
theorem bits_abs : Builtin.Int.intBits ((if lvalue n < 0 then -lvalue n else lvalue n) / unit) ≤ 6000 := by
  refine Nat.le_trans (bits_ediv unit_pos (k := 4200) ?_) (by decide)
  split
  · exact PySem.intBits_neg_le bits_lvalue
  · exact bits_lvalue
theorem w_cutn (hv : lvalue n < 0) (h : Q (.int (toInt n) s.toks) { s with toks := s.toks + 1 }) : wpAny (model prog w) A (binaryOp .Mult (.int ((if lvalue n < 0 then -lvalue n else lvalue n) / unit) t) (.int (-1) u)) Q E s :=
  mul_int (by rw [cut_neg hv]; exact h) (IntMulOk.of_le bits_abs (n := 2) (PySem.intBits_le_iff.mpr (by decide)) (by decide))
theorem w_cutp (hv : 0 ≤ lvalue n) (h : Q (.int (toInt n) s.toks) { s with toks := s.toks + 1 }) : wpAny (model prog w) A (binaryOp .Mult (.int ((if lvalue n < 0 then -lvalue n else lvalue n) / unit) t) (.int 1 u)) Q E s :=
  mul_int (by rw [cut_pos hv]; exact h) (IntMulOk.of_le bits_abs (n := 2) (PySem.intBits_le_iff.mpr (by decide)) (by decide))
end
-- the order key
theorem xor_top {n : Int} (hp : 0 ≤ n ∧ n < 18446744073709551616) (h : 9223372036854775808 ≤ n) : Builtin.bitXor n 9223372036854775808 = n - 9223372036854775808 := by
  have e := kbt_bit n 63
  rw [show (2 : Int) ^ 63 = 9223372036854775808 by decide +kernel] at e
  rw [bitXor_and, e]
  omega
-- the roundings
theorem div_is {a b q r : Int} (hb : 0 < b) (h : r + b * q = a) (h0 : 0 ≤ r) (h1 : r < b) : a / b = q := ((Int.ediv_emod_unique hb).mpr ⟨h, h0, h1⟩).1
theorem here_fs {n s whole : Int} (hp : 0 ≤ n ∧ n < 18446744073709551616) (h0 : 0 ≤ s) (h1 : s ≤ 9007199254740992) (hw : whole = if 9223372036854775808 ≤ n then -s else s) :
    0 ≤ fromSize (n / 9223372036854775808) s ∧ fromSize (n / 9223372036854775808) s < 18446744073709551616 ∧ Here (fromSize (n / 9223372036854775808) s) whole n := by
  have hg0 : 0 ≤ n / 9223372036854775808 := by omega
  have hg1 : n / 9223372036854775808 ≤ 1 := by omega
  obtain ⟨h2, h3, h4, h5, -, -⟩ := fs_facts hg0 hg1 h0 h1
  have h6 := fs_value hg0 hg1 h0 h1
  refine ⟨h2, h3, fun hz => h5 ?_, fun _ => ⟨h4, ?_⟩⟩
  · split at hw <;> omega
  · rw [h6, hw]
    by_cases c : 9223372036854775808 ≤ n
    · rw [if_pos c, if_pos (by omega)]
    · rw [if_neg c, if_neg (by omega)]
theorem mag_zero {n : Int} (hm : mag n < 9218868437227405312) (h : lsize n = 0) : mag n = 0 := by
  unfold lsize at h
  rcases Int.mul_eq_zero.mp h with h | h
  · unfold mant ex fr at h
    unfold mag
    split at h <;> omega
  · have := kbt_pos (up n); omega
theorem here_self {n whole : Int} (hp : 0 ≤ n ∧ n < 18446744073709551616 ∧ mag n < 9218868437227405312) (hw : lvalue n = whole * unit) : 0 ≤ n ∧ n < 18446744073709551616 ∧ Here n whole n := by
  refine ⟨hp.1, hp.2.1, fun hz => ?_, fun _ => ⟨hp.2.2, hw⟩⟩
  rw [hz, Int.zero_mul] at hw
  have h0 : lsize n = 0 := by unfold lvalue at hw; split at hw <;> omega
  have hm := mag_zero hp.2.2 h0
  unfold mag at hm
  omega
theorem set_mod {n : Int} (hp : 0 ≤ n ∧ n < 18446744073709551616 ∧ mag n < 9218868437227405312) (h : 9218868437227405312 ≤ mag n ∨ 1075 ≤ n / 4503599627370496 % 2048 ∨ lvalue n % unit = 0) : ∃ k, lvalue n = unit * k ∧ lvalue n / unit = k := by
  have h0 : lvalue n % unit = 0 := by
    rcases h with h | h | h
    · omega
    · exact lvalue_mod.mpr (div_up (n := n) h).2
    · exact h
  have e := Int.mul_ediv_add_emod (lvalue n) unit
  exact ⟨lvalue n / unit, by omega, rfl⟩
theorem toI_self {n : Int} (hp : 0 ≤ n ∧ n < 18446744073709551616 ∧ mag n < 9218868437227405312) (h : 9218868437227405312 ≤ mag n ∨ 1075 ≤ n / 4503599627370496 % 2048 ∨ lvalue n % unit = 0) : 0 ≤ n ∧ n < 18446744073709551616 ∧ Here n (toInt n) n := by
  obtain ⟨k, e, -⟩ := set_mod hp h
  refine here_self hp ?_
  have hu := unit_pos
  unfold toInt
  unfold lvalue at e ⊢
  by_cases c : 9223372036854775808 ≤ n
  · rw [if_pos c] at e ⊢
    have e2 : lsize n = unit * -k := by rw [Int.mul_neg, ← e, Int.neg_neg]
    rw [if_pos c, e2, Int.mul_ediv_cancel_left _ (Int.ne_of_gt hu), Int.mul_neg, Int.neg_neg, Int.neg_neg, Int.mul_comm]
  · rw [if_neg c] at e ⊢
    rw [if_neg c, e, Int.mul_ediv_cancel_left _ (Int.ne_of_gt hu), Int.mul_comm]
theorem floor_self {n : Int} (hp : 0 ≤ n ∧ n < 18446744073709551616 ∧ mag n < 9218868437227405312) (h : 9218868437227405312 ≤ mag n ∨ 1075 ≤ n / 4503599627370496 % 2048 ∨ lvalue n % unit = 0) : 0 ≤ n ∧ n < 18446744073709551616 ∧ Here n (lvalue n / unit) n := by
  obtain ⟨k, e, e2⟩ := set_mod hp h
  exact here_self hp (by rw [e2, e, Int.mul_comm])
theorem ceil_self {n : Int} (hp : 0 ≤ n ∧ n < 18446744073709551616 ∧ mag n < 9218868437227405312) (h : 9218868437227405312 ≤ mag n ∨ 1075 ≤ n / 4503599627370496 % 2048 ∨ lvalue n % unit = 0) : 0 ≤ n ∧ n < 18446744073709551616 ∧ Here n (-(-lvalue n / unit)) n := by
  obtain ⟨k, e, e2⟩ := set_mod hp h
  refine here_self hp ?_
  rw [e, ← Int.mul_neg, Int.mul_ediv_cancel_left _ (Int.ne_of_gt unit_pos), Int.neg_neg, Int.mul_comm]
theorem half_self {n : Int} (hp : 0 ≤ n ∧ n < 18446744073709551616 ∧ mag n < 9218868437227405312) (h : 9218868437227405312 ≤ mag n ∨ 1075 ≤ n / 4503599627370496 % 2048 ∨ lvalue n % unit = 0) : 0 ≤ n ∧ n < 18446744073709551616 ∧ Here n ((2 * lvalue n + unit) / (2 * unit)) n := by
  obtain ⟨k, e, e2⟩ := set_mod hp h
  refine here_self hp ?_
  have hu := unit_pos
  rw [div_is (q := k) (r := unit) (by omega) ?_ (by omega) (by omega), e, Int.mul_comm]
  rw [e, Int.mul_assoc]; omega
-- not settled: whole, rest
theorem ns {n : Int} (h : ¬(9218868437227405312 ≤ mag n ∨ 1075 ≤ n / 4503599627370496 % 2048 ∨ lvalue n % unit = 0)) :
    0 ≤ lsize n / unit ∧ lsize n / unit < 9007199254740992 ∧ 0 < lsize n % unit ∧ lsize n % unit < unit ∧ unit * (lsize n / unit) + lsize n % unit = lsize n := by
  have hu := unit_pos
  have h0 := lsize_nonneg n
  have hm : lsize n % unit ≠ 0 := fun c => h (.inr (.inr (lvalue_mod.mpr c)))
  have hq : up n + (1074 - up n) = 1074 := by
    have h2 := ex_rng n
    unfold up at *
    have : ¬ 1075 ≤ ex n := fun c => h (.inr (.inl c))
    omega
  have hs := (div_down hq).1
  have hr := mant_rng n
  have g1 : 0 ≤ lsize n / unit := Int.ediv_nonneg h0 (Int.le_of_lt hu)
  have g2 : mant n / 2 ^ (1074 - up n) ≤ mant n := Int.ediv_le_self _ hr.1
  have g3 := Int.emod_nonneg (lsize n) (Int.ne_of_gt hu)
  have g4 := Int.emod_lt_of_pos (lsize n) hu
  have g5 := Int.mul_ediv_add_emod (lsize n) unit
  refine ⟨g1, by omega, by omega, g4, by omega⟩
theorem toI_end {n : Int} (hp : 0 ≤ n ∧ n < 18446744073709551616 ∧ mag n < 9218868437227405312) (h : ¬(9218868437227405312 ≤ mag n ∨ 1075 ≤ n / 4503599627370496 % 2048 ∨ lvalue n % unit = 0)) :
    0 ≤ fromSize (n / 9223372036854775808) (lsize n / unit) ∧ fromSize (n / 9223372036854775808) (lsize n / unit) < 18446744073709551616 ∧ Here (fromSize (n / 9223372036854775808) (lsize n / unit)) (toInt n) n := by
  obtain ⟨h1, h2, -⟩ := ns h
  exact here_fs ⟨hp.1, hp.2.1⟩ h1 (by omega) rfl
theorem floor_neg {n : Int} (hp : 0 ≤ n ∧ n < 18446744073709551616 ∧ mag n < 9218868437227405312) (h : ¬(9218868437227405312 ≤ mag n ∨ 1075 ≤ n / 4503599627370496 % 2048 ∨ lvalue n % unit = 0)) (c : 9223372036854775808 ≤ n) :
    0 ≤ fromSize (n / 9223372036854775808) (lsize n / unit + 1) ∧ fromSize (n / 9223372036854775808) (lsize n / unit + 1) < 18446744073709551616 ∧ Here (fromSize (n / 9223372036854775808) (lsize n / unit + 1)) (lvalue n / unit) n := by
  obtain ⟨h1, h2, h3, h4, h5⟩ := ns h
  refine here_fs ⟨hp.1, hp.2.1⟩ (by omega) (by omega) ?_
  unfold lvalue
  rw [if_pos c, if_pos c]
  refine div_is (r := unit - lsize n % unit) unit_pos ?_ (by omega) (by omega)
  rw [Int.mul_neg, Int.mul_add, Int.mul_one]; omega
theorem floor_pos {n : Int} (hp : 0 ≤ n ∧ n < 18446744073709551616 ∧ mag n < 9218868437227405312) (h : ¬(9218868437227405312 ≤ mag n ∨ 1075 ≤ n / 4503599627370496 % 2048 ∨ lvalue n % unit = 0)) (c : ¬9223372036854775808 ≤ n) :
    0 ≤ fromSize (n / 9223372036854775808) (lsize n / unit) ∧ fromSize (n / 9223372036854775808) (lsize n / unit) < 18446744073709551616 ∧ Here (fromSize (n / 9223372036854775808) (lsize n / unit)) (lvalue n / unit) n := by
  obtain ⟨h1, h2, -⟩ := ns h
  refine here_fs ⟨hp.1, hp.2.1⟩ h1 (by omega) ?_
  unfold lvalue
  rw [if_neg c, if_neg c]
theorem ceil_neg {n : Int} (hp : 0 ≤ n ∧ n < 18446744073709551616 ∧ mag n < 9218868437227405312) (h : ¬(9218868437227405312 ≤ mag n ∨ 1075 ≤ n / 4503599627370496 % 2048 ∨ lvalue n % unit = 0)) (c : 9223372036854775808 ≤ n) :
    0 ≤ fromSize (n / 9223372036854775808) (lsize n / unit) ∧ fromSize (n / 9223372036854775808) (lsize n / unit) < 18446744073709551616 ∧ Here (fromSize (n / 9223372036854775808) (lsize n / unit)) (-(-lvalue n / unit)) n := by
  obtain ⟨h1, h2, -⟩ := ns h
  refine here_fs ⟨hp.1, hp.2.1⟩ h1 (by omega) ?_
  unfold lvalue
  rw [if_pos c, if_pos c, Int.neg_neg]
theorem ceil_pos {n : Int} (hp : 0 ≤ n ∧ n < 18446744073709551616 ∧ mag n < 9218868437227405312) (h : ¬(9218868437227405312 ≤ mag n ∨ 1075 ≤ n / 4503599627370496 % 2048 ∨ lvalue n % unit = 0)) (c : ¬9223372036854775808 ≤ n) :
    0 ≤ fromSize (n / 9223372036854775808) (lsize n / unit + 1) ∧ fromSize (n / 9223372036854775808) (lsize n / unit + 1) < 18446744073709551616 ∧ Here (fromSize (n / 9223372036854775808) (lsize n / unit + 1)) (-(-lvalue n / unit)) n := by
  obtain ⟨h1, h2, h3, h4, h5⟩ := ns h
  refine here_fs ⟨hp.1, hp.2.1⟩ (by omega) (by omega) ?_
  unfold lvalue
  rw [if_neg c, if_neg c, div_is (q := -(lsize n / unit + 1)) (r := unit - lsize n % unit) unit_pos ?_ (by omega) (by omega), Int.neg_neg]
  rw [Int.mul_neg, Int.mul_add, Int.mul_one]; omega
-- half up: the size goes up (2R > unit, or 2R = unit and not negative), or stays
theorem half_up {n : Int} (hp : 0 ≤ n ∧ n < 18446744073709551616 ∧ mag n < 9218868437227405312) (h : ¬(9218868437227405312 ≤ mag n ∨ 1075 ≤ n / 4503599627370496 % 2048 ∨ lvalue n % unit = 0)) (c : unit < 2 * (lsize n % unit) ∨ (2 * (lsize n % unit) = unit ∧ ¬9223372036854775808 ≤ n)) :
    0 ≤ fromSize (n / 9223372036854775808) (lsize n / unit + 1) ∧ fromSize (n / 9223372036854775808) (lsize n / unit + 1) < 18446744073709551616 ∧ Here (fromSize (n / 9223372036854775808) (lsize n / unit + 1)) ((2 * lvalue n + unit) / (2 * unit)) n := by
  obtain ⟨h1, h2, h3, h4, h5⟩ := ns h
  refine here_fs ⟨hp.1, hp.2.1⟩ (by omega) (by omega) ?_
  unfold lvalue
  have hu := unit_pos
  by_cases g : 9223372036854775808 ≤ n
  · rw [if_pos g, if_pos g]
    refine div_is (r := 3 * unit - 2 * (lsize n % unit)) (by omega) ?_ (by omega) (by omega)
    rw [Int.mul_assoc, Int.mul_neg, Int.mul_add, Int.mul_one]; omega
  · rw [if_neg g, if_neg g]
    refine div_is (r := 2 * (lsize n % unit) - unit) (by omega) ?_ (by omega) (by omega)
    rw [Int.mul_assoc, Int.mul_add, Int.mul_one]; omega
theorem half_stay {n : Int} (hp : 0 ≤ n ∧ n < 18446744073709551616 ∧ mag n < 9218868437227405312) (h : ¬(9218868437227405312 ≤ mag n ∨ 1075 ≤ n / 4503599627370496 % 2048 ∨ lvalue n % unit = 0)) (c : 2 * (lsize n % unit) < unit ∨ (2 * (lsize n % unit) = unit ∧ 9223372036854775808 ≤ n)) :
    0 ≤ fromSize (n / 9223372036854775808) (lsize n / unit) ∧ fromSize (n / 9223372036854775808) (lsize n / unit) < 18446744073709551616 ∧ Here (fromSize (n / 9223372036854775808) (lsize n / unit)) ((2 * lvalue n + unit) / (2 * unit)) n := by
  obtain ⟨h1, h2, h3, h4, h5⟩ := ns h
  refine here_fs ⟨hp.1, hp.2.1⟩ (by omega) (by omega) ?_
  unfold lvalue
  have hu := unit_pos
  by_cases g : 9223372036854775808 ≤ n
  · rw [if_pos g, if_pos g]
    refine div_is (r := unit - 2 * (lsize n % unit)) (by omega) ?_ (by omega) (by omega)
    rw [Int.mul_assoc, Int.mul_neg]; omega
  · rw [if_neg g, if_neg g]
    refine div_is (r := 2 * (lsize n % unit) + unit) (by omega) ?_ (by omega) (by omega)
    rw [Int.mul_assoc]; omega
theorem rest_cmp {n : Int} {q : Nat} (hq : up n + q = 1074) : (1 * 2 ^ q < 2 * (mant n % 2 ^ q) ↔ unit < 2 * (lsize n % unit)) ∧ (2 * (mant n % 2 ^ q) = 1 * 2 ^ q ↔ 2 * (lsize n % unit) = unit) := by
  have hp := kbt_pos (up n)
  rw [(div_down hq).2, size_down hq, Int.one_mul, Int.mul_left_comm 2 (2 ^ up n)]
  exact ⟨(Int.mul_lt_mul_left hp).symm, (Int.mul_eq_mul_left_iff (Int.ne_of_gt hp)).symm⟩
theorem rest0 {n : Int} (h : n / 4503599627370496 % 2048 = 0) : (1 * 2 ^ (- -1074 : Int).toNat < 2 * (n % 4503599627370496 % 2 ^ (- -1074 : Int).toNat) ↔ unit < 2 * (lsize n % unit)) ∧ (2 * (n % 4503599627370496 % 2 ^ (- -1074 : Int).toNat) = 1 * 2 ^ (- -1074 : Int).toNat ↔ 2 * (lsize n % unit) = unit) := by
  rw [← (way0 h).1]; exact rest_cmp (way0 h).2
theorem rest2 {n : Int} (h : n / 4503599627370496 % 2048 ≠ 0) (h2 : ¬ 0 ≤ n / 4503599627370496 % 2048 - 1075) : (1 * 2 ^ (-(n / 4503599627370496 % 2048 - 1075)).toNat < 2 * ((n % 4503599627370496 + 4503599627370496) % 2 ^ (-(n / 4503599627370496 % 2048 - 1075)).toNat) ↔ unit < 2 * (lsize n % unit)) ∧ (2 * ((n % 4503599627370496 + 4503599627370496) % 2 ^ (-(n / 4503599627370496 % 2048 - 1075)).toNat) = 1 * 2 ^ (-(n / 4503599627370496 % 2048 - 1075)).toNat ↔ 2 * (lsize n % unit) = unit) := by
  rw [← (way2 h h2).1]; exact rest_cmp (way2 h h2).2
theorem ns_low {n : Int} (h : ¬(9218868437227405312 ≤ mag n ∨ 1075 ≤ n / 4503599627370496 % 2048 ∨ lvalue n % unit = 0)) : ¬ 0 ≤ n / 4503599627370496 % 2048 - 1075 := by omega
-- the order
theorem mag_parts (n : Int) : mag n = ex n * 4503599627370496 + fr n := by unfold mag ex fr; omega
theorem mag_pos (n : Int) : 0 ≤ mag n ∧ mag n < 9223372036854775808 := by unfold mag; omega
theorem lsize_lt {a b : Int} (h : mag a < mag b) : lsize a < lsize b := by
  rw [mag_parts, mag_parts] at h
  have hea := ex_rng a
  have heb := ex_rng b
  have hfa := fr_rng a
  have hfb := fr_rng b
  have hpa := kbt_pos (up a)
  have hpb := kbt_pos (up b)
  by_cases he : ex a = ex b
  · unfold lsize mant up
    unfold up at hpa
    rw [← he]
    refine Int.mul_lt_mul_of_pos_right ?_ hpa
    split <;> omega
  · have hlt : ex a < ex b := by omega
    have hmb : mant b = fr b + 4503599627370496 := by unfold mant; rw [if_neg (by omega)]
    have h1 : 4503599627370496 * 2 ^ up b ≤ lsize b := Int.mul_le_mul_of_nonneg_right (by omega) (Int.le_of_lt hpb)
    by_cases h0 : ex a = 0
    · have hma : mant a = fr a := by unfold mant; rw [if_pos h0]
      have hua : up a = 0 := by unfold up; omega
      have : lsize a = fr a := by unfold lsize; rw [hma, hua]; omega
      omega
    · have hu : up b = (up a + 1) + (up b - (up a + 1)) := by unfold up; omega
      have e : (2 : Int) ^ up b = 2 ^ (up a + 1) * 2 ^ (up b - (up a + 1)) := by rw [← Int.pow_add, ← hu]
      have hpc := kbt_pos (up b - (up a + 1))
      have hpd := kbt_pos (up a + 1)
      have g1 : 2 ^ (up a + 1) * 1 ≤ (2 : Int) ^ up b := by rw [e]; exact Int.mul_le_mul_of_nonneg_left (by omega) (Int.le_of_lt hpd)
      rw [Int.pow_succ] at g1
      have g2 : lsize a < 9007199254740992 * 2 ^ up a := Int.mul_lt_mul_of_pos_right (mant_rng a).2 hpa
      omega
theorem lsize_eq {a b : Int} (h : mag a = mag b) : lsize a = lsize b := by
  rw [mag_parts, mag_parts] at h
  have hfa := fr_rng a
  have hfb := fr_rng b
  have e1 : ex a = ex b := by omega
  have e2 : fr a = fr b := by omega
  unfold lsize mant up
  rw [e1, e2]
theorem mag_zero' {n : Int} (h : lsize n = 0) : mag n = 0 := by
  rcases Int.lt_or_eq_of_le (mag_pos n).1 with c | c
  · exfalso
    have g := lsize_lt (a := 0) (b := n) c
    rw [lsize_zero (n := 0) (by decide), h] at g
    exact absurd g (by decide)
  · exact c.symm
theorem lsize_pos {n : Int} (h : 0 < mag n) : 0 < lsize n := by
  rcases Int.lt_or_eq_of_le (lsize_nonneg n) with c | c
  · exact c
  · rw [mag_zero' c.symm] at h; exact absurd h (by decide)
theorem mag_lo {a : Int} (h0 : 0 ≤ a) (h : a < 9223372036854775808) : mag a = a := Int.emod_eq_of_lt h0 h
theorem mag_hi {a : Int} (h : 9223372036854775808 ≤ a) (h1 : a < 18446744073709551616) : mag a = a - 9223372036854775808 := by unfold mag; omega
theorem zero_ff {a b : Int} (h : 9223372036854775808 - b = a) (h0 : 0 ≤ a) (h1 : 9223372036854775808 ≤ b) : a = 0 ∧ b - 9223372036854775808 = 0 := by omega
theorem neg_lt' {u v : Int} (h : u < v) : -v < -u := Int.neg_lt_neg h
theorem sub_lt' {a b : Int} (h : 9223372036854775808 - a < 9223372036854775808 - b) : b - 9223372036854775808 < a - 9223372036854775808 := by omega
theorem sub_eq' {a b : Int} (h : 9223372036854775808 - a = 9223372036854775808 - b) : a = b := by omega
theorem mix_lt {a b u v : Int} (h : 9223372036854775808 - a < b) (hu : 0 < a - 9223372036854775808 → 0 < u) (hv : 0 < b → 0 < v) (h2 : 0 ≤ u) (h3 : 0 ≤ v) : -u < v := by omega
theorem key_cmp {a b x y : Int} (ha : 0 ≤ a ∧ a < 18446744073709551616) (hb : 0 ≤ b ∧ b < 18446744073709551616)
    (hx : (9223372036854775808 ≤ a → x = 9223372036854775808 - a) ∧ (a < 9223372036854775808 → x = a)) (hy : (9223372036854775808 ≤ b → y = 9223372036854775808 - b) ∧ (b < 9223372036854775808 → y = b)) :
    (x < y → lvalue a < lvalue b) ∧ (x = y → lvalue a = lvalue b) := by
  unfold lvalue
  rcases Int.lt_or_le a 9223372036854775808 with ca | ca <;> rcases Int.lt_or_le b 9223372036854775808 with cb | cb
  · rw [hx.2 ca, hy.2 cb, if_neg (Int.not_le.mpr ca), if_neg (Int.not_le.mpr cb)]
    exact ⟨fun h => lsize_lt (by rw [mag_lo ha.1 ca, mag_lo hb.1 cb]; exact h), fun h => by rw [h]⟩
  · rw [hx.2 ca, hy.1 cb, if_neg (Int.not_le.mpr ca), if_pos cb]
    refine ⟨fun h => ?_, fun h => ?_⟩
    · exact absurd (Int.lt_of_lt_of_le h (Int.sub_nonpos_of_le cb)) (Int.not_lt.mpr ha.1)
    · obtain ⟨e1, e2⟩ := zero_ff h.symm ha.1 cb
      rw [lsize_zero (n := a) (by rw [mag_lo ha.1 ca]; exact e1), lsize_zero (n := b) (by rw [mag_hi cb hb.2]; exact e2)]
      rfl
  · rw [hx.1 ca, hy.2 cb, if_pos ca, if_neg (Int.not_le.mpr cb)]
    refine ⟨fun h => ?_, fun h => ?_⟩
    · have g1 := lsize_pos (n := a)
      have g2 := lsize_pos (n := b)
      rw [mag_hi ca ha.2] at g1
      rw [mag_lo hb.1 cb] at g2
      exact mix_lt h g1 g2 (lsize_nonneg a) (lsize_nonneg b)
    · obtain ⟨e1, e2⟩ := zero_ff h hb.1 ca
      rw [lsize_zero (n := b) (by rw [mag_lo hb.1 cb]; exact e1), lsize_zero (n := a) (by rw [mag_hi ca ha.2]; exact e2)]
      rfl
  · rw [hx.1 ca, hy.1 cb, if_pos ca, if_pos cb]
    exact ⟨fun h => neg_lt' (lsize_lt (by rw [mag_hi ca ha.2, mag_hi cb hb.2]; exact sub_lt' h)), fun h => by rw [sub_eq' h]⟩
theorem key_of (a : Int) : ∃ x, (9223372036854775808 ≤ a → x = 9223372036854775808 - a) ∧ (a < 9223372036854775808 → x = a) := by
  rcases Int.lt_or_le a 9223372036854775808 with ca | ca
  · exact ⟨a, fun h => absurd h (Int.not_le.mpr ca), fun _ => rfl⟩
  · exact ⟨9223372036854775808 - a, fun _ => rfl, fun h => absurd h (Int.not_lt.mpr ca)⟩
theorem val_inj {a b : Int} (ha : 0 ≤ a ∧ a < 18446744073709551616) (hb : 0 ≤ b ∧ b < 18446744073709551616) (h : lvalue a = lvalue b) : a = b ∨ (mag a = 0 ∧ mag b = 0) := by
  obtain ⟨x, hx⟩ := key_of a
  obtain ⟨y, hy⟩ := key_of b
  have e : x = y := by
    rcases Int.lt_trichotomy x y with c | c | c
    · exact absurd ((key_cmp ha hb hx hy).1 c) (by rw [h]; exact Int.lt_irrefl _)
    · exact c
    · exact absurd ((key_cmp hb ha hy hx).1 c) (by rw [h]; exact Int.lt_irrefl _)
  clear h
  rcases Int.lt_or_le a 9223372036854775808 with ca | ca <;> rcases Int.lt_or_le b 9223372036854775808 with cb | cb
  · exact .inl (by rw [← hx.2 ca, ← hy.2 cb]; exact e)
  · rw [hx.2 ca, hy.1 cb] at e
    rw [mag_lo ha.1 ca, mag_hi cb hb.2]
    exact .inr (zero_ff e.symm ha.1 cb)
  · rw [hx.1 ca, hy.2 cb] at e
    rw [mag_hi ca ha.2, mag_lo hb.1 cb]
    exact .inr (zero_ff e hb.1 ca).symm
  · rw [hx.1 ca, hy.1 cb] at e
    exact .inl (sub_eq' e)
theorem cmp_end {a b x y : Int} (hp : 0 ≤ a ∧ a < 18446744073709551616 ∧ 0 ≤ b ∧ b < 18446744073709551616 ∧ mag a ≤ 9218868437227405312 ∧ mag b ≤ 9218868437227405312)
    (hx : (9223372036854775808 ≤ a → x = 9223372036854775808 - a) ∧ (a < 9223372036854775808 → x = a)) (hy : (9223372036854775808 ≤ b → y = 9223372036854775808 - b) ∧ (b < 9223372036854775808 → y = b)) :
    (x < y → lvalue a < lvalue b) ∧ (x = y → lvalue a = lvalue b) ∧ (y < x → lvalue b < lvalue a) := by
  have h1 := key_cmp ⟨hp.1, hp.2.1⟩ ⟨hp.2.2.1, hp.2.2.2.1⟩ hx hy
  have h2 := key_cmp ⟨hp.2.2.1, hp.2.2.2.1⟩ ⟨hp.1, hp.2.1⟩ hy hx
  exact ⟨h1.1, h1.2, h2.1⟩
theorem inj_end {a b : Int} (hp : 0 ≤ a ∧ a < 18446744073709551616 ∧ 0 ≤ b ∧ b < 18446744073709551616 ∧ mag a ≤ 9218868437227405312 ∧ mag b ≤ 9218868437227405312) : lvalue a = lvalue b → a = b ∨ (mag a = 0 ∧ mag b = 0) :=
  val_inj ⟨hp.1, hp.2.1⟩ ⟨hp.2.2.1, hp.2.2.2.1⟩
theorem zero_two {a : Int} (h0 : 0 ≤ a) (h1 : a < 18446744073709551616) (h : mag a = 0) : a = 0 ∨ a = 9223372036854775808 := by unfold mag at h; omega
theorem min_zz {a b : Int} (hp : 0 ≤ a ∧ a < 18446744073709551616 ∧ 0 ≤ b ∧ b < 18446744073709551616 ∧ mag a ≤ 9218868437227405312 ∧ mag b ≤ 9218868437227405312) (ha : mag a = 0) (hb : mag b = 0) :
    (lvalue a < lvalue b → Builtin.bitOr a b = a) ∧ (lvalue a = lvalue b → Builtin.bitOr a b = max a b) ∧ (lvalue b < lvalue a → Builtin.bitOr a b = b) := by
  have e : ∀ n, mag n = 0 → lvalue n = 0 := fun n h => by unfold lvalue; rw [lsize_zero h]; split <;> rfl
  rw [e a ha, e b hb]
  refine ⟨fun h => absurd h (by decide), fun _ => ?_, fun h => absurd h (by decide)⟩
  rcases zero_two hp.1 hp.2.1 ha with rfl | rfl <;> rcases zero_two hp.2.2.1 hp.2.2.2.1 hb with rfl | rfl <;> decide +kernel
theorem max_zz {a b : Int} (hp : 0 ≤ a ∧ a < 18446744073709551616 ∧ 0 ≤ b ∧ b < 18446744073709551616 ∧ mag a ≤ 9218868437227405312 ∧ mag b ≤ 9218868437227405312) (ha : mag a = 0) (hb : mag b = 0) :
    (lvalue a < lvalue b → Builtin.bitAnd a b = b) ∧ (lvalue a = lvalue b → Builtin.bitAnd a b = min a b) ∧ (lvalue b < lvalue a → Builtin.bitAnd a b = a) := by
  have e : ∀ n, mag n = 0 → lvalue n = 0 := fun n h => by unfold lvalue; rw [lsize_zero h]; split <;> rfl
  rw [e a ha, e b hb]
  refine ⟨fun h => absurd h (by decide), fun _ => ?_, fun h => absurd h (by decide)⟩
  rcases zero_two hp.1 hp.2.1 ha with rfl | rfl <;> rcases zero_two hp.2.2.1 hp.2.2.2.1 hb with rfl | rfl <;> decide +kernel
theorem ord_sign {u v x : Int} (h : (u < v → x = -1) ∧ (u = v → x = 0) ∧ (v < u → x = 1)) : x = b2i (decide (v < u)) - b2i (decide (u < v)) := by
  rcases Int.lt_trichotomy u v with c | c | c
  · rw [h.1 c, decide_eq_true c, decide_eq_false (by omega)]; rfl
  · rw [h.2.1 c, decide_eq_false (by omega), decide_eq_false (by omega)]; rfl
  · rw [h.2.2 c, decide_eq_true c, decide_eq_false (by omega)]; rfl
-- cells
theorem cell_in {ns : List Int} {k : Int} (hS : ∀ y ∈ ns, Builtin.Int.intBits y ≤ 1048576) (h0 : 0 ≤ k) (h : k < (ns.length : Int)) : (0 ≤ if ns.getD k.toNat 0 < 0 then -ns.getD k.toNat 0 else ns.getD k.toNat 0) ∧ Builtin.Int.intBits (if ns.getD k.toNat 0 < 0 then -ns.getD k.toNat 0 else ns.getD k.toNat 0) ≤ 1048576 := by
  have hm : Builtin.Int.intBits (ns.getD k.toNat 0) ≤ 1048576 := by
    refine hS _ ?_
    rw [List.getD_eq_getElem?_getD, List.getElem?_eq_getElem (show k.toNat < ns.length by omega)]
    exact List.getElem_mem _
  split
  · exact ⟨by omega, PySem.intBits_neg_le hm⟩
  · exact ⟨by omega, hm⟩
theorem cell_out {q : Int} (h0 : 0 ≤ q) (h : q < 1100000) : 0 ≤ q * q + q / 3 ∧ Builtin.Int.intBits (q * q + q / 3) ≤ 1048576 := by
  have g1 : 0 ≤ q * q := Int.mul_nonneg h0 h0
  have g2 : q * q ≤ 1100000 * 1100000 := Int.mul_le_mul (by omega) (by omega) h0 (by decide)
  exact ⟨by omega, Nat.le_trans (PySem.intBits_le_64 (by omega) (by omega)) (by decide)⟩
-- round_ratio's ends
theorem fs_at {g z p v : Int} (hz : z ≠ 0) (e1 : p = blen z - 53) (e2 : v = z * 2 ^ (54 - blen z).toNat / 2) : g * 9223372036854775808 + (p + 1075) * 4503599627370496 + (v - 4503599627370496) = fromSize g z := by
  unfold fromSize
  rw [if_neg hz, e2, show p + 1075 = blen z + 1022 by omega]
theorem blen_one : blen 1 = 1 := by decide
theorem rr_0 {g z : Int} (h : z = 0) : g * 9223372036854775808 = fromSize g z := by rw [h, fs_zero]
theorem rr_1 {g z x y : Int} (hz : z ≠ 0) (hx : x = blen z) (hy : y = blen 1) (hl : z ≤ 9007199254740992) (h : 0 ≤ x - y - 53) : g * 9223372036854775808 + (x - y - 53 + 1 + 1075) * 4503599627370496 + (z / (1 * 2) - 4503599627370496) = fromSize g z := by
  rw [blen_one] at hy
  have hb := blen_le hl
  refine fs_at hz (by omega) ?_
  rw [show (54 - blen z).toNat = 0 by omega]
  omega
theorem rr_2 {g z x y : Int} (hz : z ≠ 0) (hx : x = blen z) (hy : y = blen 1) (h : ¬0 ≤ x - y - 53) (h2 : 0 ≤ x - y - 53 + 1) : g * 9223372036854775808 + (x - y - 53 + 1 + 1075) * 4503599627370496 + (z / 1 - 4503599627370496) = fromSize g z := by
  rw [blen_one] at hy
  refine fs_at hz (by omega) ?_
  rw [show (54 - blen z).toNat = 1 by omega]
  omega
theorem rr_3 {g z x y v : Int} (hz : z ≠ 0) (hx : x = blen z) (hy : y = blen 1) (h2 : ¬0 ≤ x - y - 53 + 1) (hv : v = z * 2 ^ (-(x - y - 53 + 1)).toNat) : g * 9223372036854775808 + (x - y - 53 + 1 + 1075) * 4503599627370496 + (v / 1 - 4503599627370496) = fromSize g z := by
  rw [blen_one] at hy
  refine fs_at hz (by omega) ?_
  rw [hv, show (54 - blen z).toNat = (-(x - y - 53 + 1)).toNat + 1 by omega, Int.pow_succ, ← Int.mul_assoc, Int.mul_ediv_cancel _ (by decide), Int.ediv_one]
-- small ends
theorem lsize_0 {n : Int} (h : n / 4503599627370496 % 2048 = 0) : n % 4503599627370496 = lsize n := by
  have h' : ex n = 0 := h
  unfold lsize mant up
  rw [if_pos h', h']
  exact (Int.mul_one _).symm
theorem lsize_1 {n : Int} (h : n / 4503599627370496 % 2048 ≠ 0) : (n % 4503599627370496 + 4503599627370496) * 2 ^ (n / 4503599627370496 % 2048 - 1).toNat = lsize n := by
  have h' : ex n ≠ 0 := h
  unfold lsize mant up
  rw [if_neg h']
  rfl
theorem lvalue_n {n : Int} (h : 9223372036854775808 ≤ n) : -lsize n = lvalue n := by unfold lvalue; rw [if_pos h]
theorem lvalue_p {n : Int} (h : ¬9223372036854775808 ≤ n) : lsize n = lvalue n := by unfold lvalue; rw [if_neg h]
theorem key_n {n : Int} (hp : 0 ≤ n ∧ n < 18446744073709551616) (h : 9223372036854775808 ≤ n) : (9223372036854775808 ≤ n → -Builtin.bitXor n 9223372036854775808 = 9223372036854775808 - n) ∧ (n < 9223372036854775808 → -Builtin.bitXor n 9223372036854775808 = n) := by
  rw [xor_top hp h]; omega
theorem key_p {n : Int} (h : ¬9223372036854775808 ≤ n) : (9223372036854775808 ≤ n → n = 9223372036854775808 - n) ∧ (n < 9223372036854775808 → n = n) := by omega
theorem wr_no {m : Int} (h : (decide (m = 0) != (m == 0)) = true) : False := by
  by_cases c : m = 0
  · subst c; exact absurd h (by decide)
  · rw [decide_eq_false c, beq_eq_false_iff_ne.mpr c] at h; exact absurd h (by decide)
-- parts and split, one way each
theorem up_le (n : Int) : up n ≤ 2046 := by
  have := ex_rng n
  unfold up; omega
theorem parts_0 {n : Int} (h : n / 4503599627370496 % 2048 = 0) : (n / 9223372036854775808 = n / 9223372036854775808 ∧ n % 4503599627370496 = mant n ∧ (-1074 : Int) = (up n : Int) - 1074) ∧ (0 ≤ mant n ∧ mant n < 9007199254740992) ∧ up n ≤ 2046 := by
  have h' : ex n = 0 := h
  have hu : up n = 0 := by unfold up; rw [h']; decide
  exact ⟨⟨rfl, (way0 h).1.symm, by rw [hu]; decide⟩, mant_rng n, up_le n⟩
theorem parts_1 {n : Int} (h : n / 4503599627370496 % 2048 ≠ 0) : (n / 9223372036854775808 = n / 9223372036854775808 ∧ n % 4503599627370496 + 4503599627370496 = mant n ∧ n / 4503599627370496 % 2048 - 1075 = (up n : Int) - 1074) ∧ (0 ≤ mant n ∧ mant n < 9007199254740992) ∧ up n ≤ 2046 := by
  refine ⟨⟨rfl, ?_, ?_⟩, mant_rng n, up_le n⟩
  · by_cases h2 : 0 ≤ n / 4503599627370496 % 2048 - 1075
    · exact (way1 h h2).1.symm
    · exact (way2 h h2).1.symm
  · unfold up ex; omega
theorem ex_of_up {n : Int} (h : 0 ≤ (up n : Int) - 1074) : 1075 ≤ ex n := by unfold up at h; omega
theorem up_q {n : Int} (h : ¬0 ≤ (up n : Int) - 1074) : up n + (-((up n : Int) - 1074)).toNat = 1074 := by omega
theorem sz_hi {n : Int} (h : 0 ≤ (up n : Int) - 1074) : mant n * 2 ^ ((up n : Int) - 1074).toNat = lsize n / unit := by
  have h2 := ex_of_up h
  rw [(div_up h2).1, show ((up n : Int) - 1074).toNat = (ex n - 1075).toNat by unfold up at *; omega]
theorem sz_lo {n : Int} (h : ¬0 ≤ (up n : Int) - 1074) : mant n / 2 ^ (-((up n : Int) - 1074)).toNat = lsize n / unit := ((div_down (up_q h)).1).symm
theorem md_hi {n : Int} (h : 0 ≤ (up n : Int) - 1074) : lvalue n % unit = 0 ∧ lsize n % unit = 0 := ⟨lvalue_mod.mpr (div_up (ex_of_up h)).2, (div_up (ex_of_up h)).2⟩
theorem wh_hi {n : Int} (h : 0 ≤ (up n : Int) - 1074) : decide (0 ≤ (up n : Int) - 1074) = decide (lvalue n % unit = 0) := by
  rw [decide_eq_true h, decide_eq_true (md_hi h).1]
theorem wh_lo {n : Int} (h : ¬0 ≤ (up n : Int) - 1074) : (mant n / 2 ^ (-((up n : Int) - 1074)).toNat * 2 ^ (-((up n : Int) - 1074)).toNat == mant n) = decide (lvalue n % unit = 0) := by
  rw [Bool.eq_iff_iff, beq_iff_eq, decide_eq_true_eq, back_iff, ← rest_iff (up_q h)]
theorem x_lt {n : Int} (h : lvalue n % unit ≠ 0) : 0 ≤ lsize n / unit ∧ lsize n / unit < 9007199254740992 := by
  have hq : ¬0 ≤ (up n : Int) - 1074 := fun c => h (md_hi c).1
  rw [← sz_lo hq]
  have hr := mant_rng n
  exact ⟨Int.ediv_nonneg hr.1 (Int.le_of_lt (kbt_pos _)), Int.lt_of_le_of_lt (Int.ediv_le_self _ hr.1) hr.2⟩
theorem split_hi {n : Int} (h : 0 ≤ (up n : Int) - 1074) : mant n * 2 ^ ((up n : Int) - 1074).toNat = lsize n / unit ∧ ((0 : Int) ≤ 0 ∧ (0 : Int) < 9007199254740992) ∧ ((0 : Int) = 0 ↔ lvalue n % unit = 0) ∧ ((1 : Int) < 2 * 0 ↔ unit < 2 * (lsize n % unit)) ∧ (2 * 0 = (1 : Int) ↔ 2 * (lsize n % unit) = unit) ∧ (lvalue n % unit ≠ 0 → 0 ≤ lsize n / unit ∧ lsize n / unit < 9007199254740992) := by
  obtain ⟨h1, h2⟩ := md_hi h
  have hu := unit_pos
  rw [h2]
  refine ⟨sz_hi h, by decide, ⟨fun _ => h1, fun _ => rfl⟩, ⟨fun c => absurd c (by decide), fun c => ?_⟩, ⟨fun c => absurd c (by decide), fun c => ?_⟩, x_lt⟩
  · exact absurd c (by rw [Int.mul_zero]; exact Int.not_lt.mpr (Int.le_of_lt hu))
  · rw [Int.mul_zero] at c; exact absurd hu (by rw [← c]; decide)
theorem split_lo {n : Int} (h : ¬0 ≤ (up n : Int) - 1074) : mant n / 2 ^ (-((up n : Int) - 1074)).toNat = lsize n / unit ∧ (0 ≤ mant n % 2 ^ (-((up n : Int) - 1074)).toNat ∧ mant n % 2 ^ (-((up n : Int) - 1074)).toNat < 9007199254740992) ∧ (mant n % 2 ^ (-((up n : Int) - 1074)).toNat = 0 ↔ lvalue n % unit = 0) ∧ (1 * 2 ^ (-((up n : Int) - 1074)).toNat < 2 * (mant n % 2 ^ (-((up n : Int) - 1074)).toNat) ↔ unit < 2 * (lsize n % unit)) ∧ (2 * (mant n % 2 ^ (-((up n : Int) - 1074)).toNat) = 1 * 2 ^ (-((up n : Int) - 1074)).toNat ↔ 2 * (lsize n % unit) = unit) ∧ (lvalue n % unit ≠ 0 → 0 ≤ lsize n / unit ∧ lsize n / unit < 9007199254740992) := by
  have hr := mant_rng n
  have hc := rest_cmp (up_q h)
  refine ⟨sz_lo h, ⟨Int.emod_nonneg _ (Int.ne_of_gt (kbt_pos _)), ?_⟩, rest_iff (up_q h), hc.1, hc.2, x_lt⟩
  have g1 := Int.mul_ediv_add_emod (mant n) (2 ^ (-((up n : Int) - 1074)).toNat)
  have g2 : 0 ≤ 2 ^ (-((up n : Int) - 1074)).toNat * (mant n / 2 ^ (-((up n : Int) - 1074)).toNat) := Int.mul_nonneg (Int.le_of_lt (kbt_pos _)) (Int.ediv_nonneg hr.1 (Int.le_of_lt (kbt_pos _)))
  exact Int.lt_of_le_of_lt (by omega) hr.2
theorem st_a {n : Int} (h : mag n = 0) : decide (mag n = 0) = decide (9218868437227405312 ≤ mag n ∨ lvalue n % unit = 0) := by
  rw [decide_eq_true h, decide_eq_true (.inr (lvalue_mod.mpr (by rw [lsize_zero h]; exact Int.zero_emod _)))]
theorem st_b {n : Int} (h : ¬ mag n < 9218868437227405312) : (!decide (mag n < 9218868437227405312)) = decide (9218868437227405312 ≤ mag n ∨ lvalue n % unit = 0) := by
  rw [decide_eq_false h, decide_eq_true (.inl (Int.not_lt.mp h))]; rfl
theorem st_c {n y : Int} (hm : mag n < 9218868437227405312) (h : y = 0 ↔ lvalue n % unit = 0) : (y == 0) = decide (9218868437227405312 ≤ mag n ∨ lvalue n % unit = 0) := by
  rw [Bool.eq_iff_iff, beq_iff_eq, decide_eq_true_eq, h]
  exact ⟨.inr, fun c => c.resolve_left (Int.not_le.mpr hm)⟩
theorem set_of {n : Int} (h : 9218868437227405312 ≤ mag n ∨ lvalue n % unit = 0) : 9218868437227405312 ≤ mag n ∨ 1075 ≤ n / 4503599627370496 % 2048 ∨ lvalue n % unit = 0 := h.elim .inl (fun c => .inr (.inr c))
theorem ns_of {n : Int} (h : ¬(9218868437227405312 ≤ mag n ∨ lvalue n % unit = 0)) : ¬(9218868437227405312 ≤ mag n ∨ 1075 ≤ n / 4503599627370496 % 2048 ∨ lvalue n % unit = 0) := by
  rintro (c | c | c)
  · exact h (.inl c)
  · exact h (.inr (lvalue_mod.mpr (div_up (n := n) c).2))
  · exact h (.inr c)
theorem hs_lt {y z u v : Int} (h1 : z < 2 * y ↔ u < 2 * v) (h2 : 2 * y = z ↔ 2 * v = u) (c1 : ¬z < 2 * y) (c2 : 2 * y ≠ z) : 2 * v < u := by
  have a := (not_congr h1).mp c1
  have b := (not_congr h2).mp c2
  omega
#guard_msgs (drop all) in
lay_quick_some 2 PySem.Challenge.pw_nt0407_01 PySem.Challenge.rw_nt0407_01 PySem.Challenge.nowhere_at_all
set_option maxHeartbeats 8000000 in
open_top hd for PySem.Challenge.rw_nt0407_01
noncomputable abbrev loose : List Str := looseW hd.view_39 [Str.ofString "SIGN_BIT", Str.ofString "FRACTION_MASK", Str.ofString "HIDDEN_BIT", Str.ofString "INF", Str.ofString "NAN", Str.ofString "TWO_32", Str.ofString "TWO_31", Str.ofString "TWO_16"]

structure Meet (lv : Nat) (w : World) (mean : ExcName → Option Value) (mg mb : Str → Option Value) (f : Addr) (pre : Prop) (vs : List Value) {α : Type} (P : α → Prop) (R : α → Tok → Value) : Prop where
  out : ∀ (dp un : Nat) (gd : Option (List Code)) (cn : Str) (cs : Scope) (a : Addr) (ccd : Value) (cl : List (Str × Addr)) (outer : List Env) (A₀ : Around) (base h₀ : Heap) (L : Addr) (m : Str → Option Value) (news : List (Addr × Obj)) (s : Shared) (Q E : Value → Shared → Prop),
    Below A₀ base outer h₀ → Fr h₀ L s.heap m → (hd.heap_39 w.params).In h₀ → News h₀ L s.heap news → Top hd.view_39 loose mean mg mb h₀ → cs.kind = .function →
    pre → dp + lv < recursionLimit → un + 8 * lv < cLine →
    (∀ (x : α), P x → ∀ (t : Tok) (h' : Heap) (tk' : Nat), Fr h₀ L h' m → News h₀ L h' news → Q (R x t) { s with heap := h', toks := tk' }) →
    wpAny (model Challenge.rw_nt0407_01.row.prog w) (ktrTop dp un gd cn cs L a ccd cl outer) (call (.ref f) vs) Q E s

theorem use {lv : Nat} {w : World} {mean : ExcName → Option Value} {mg mb : Str → Option Value} {f : Addr} {pre : Prop} {vs : List Value} {α : Type} {P : α → Prop} {R : α → Tok → Value}
    {dp un : Nat} {gd : Option (List Code)} {cn : Str} {cs : Scope} {a : Addr} {ccd : Value} {cl : List (Str × Addr)} {outer : List Env} {A₀ : Around} {base h₀ : Heap} {L : Addr} {m : Str → Option Value} {news : List (Addr × Obj)} {s : Shared} {Q E : Value → Shared → Prop}
    (M : Meet lv w mean mg mb f pre vs P R) (B : Below A₀ base outer h₀) (F : Fr h₀ L s.heap m) (X : (hd.heap_39 w.params).In h₀) (N : News h₀ L s.heap news) (T : Top hd.view_39 loose mean mg mb h₀) (hk : cs.kind = .function)
    (hp : pre) (hd : dp + lv < recursionLimit) (hu : un + 8 * lv < cLine)
    (ret : ∀ (x : α), P x → ∀ (t : Tok) (h' : Heap) (tk' : Nat), Fr h₀ L h' m → News h₀ L h' news → Q (R x t) { s with heap := h', toks := tk' }) :
    wpAny (model Challenge.rw_nt0407_01.row.prog w) (ktrTop dp un gd cn cs L a ccd cl outer) (call (.ref f) vs) Q E s :=
  M.out dp un gd cn cs a ccd cl outer A₀ base h₀ L m news s Q E B F X N T hk hp hd hu ret

structure MeetL (lv : Nat) (w : World) (mean : ExcName → Option Value) (mg mb : Str → Option Value) (f : Addr) (ns : List Int) (pre : Prop) (rest : List Value) {α : Type} (P : α → Prop) (R : α → Tok → Value) : Prop where
  out : ∀ (dp un : Nat) (gd : Option (List Code)) (cn : Str) (cs : Scope) (a : Addr) (ccd : Value) (cl : List (Str × Addr)) (outer : List Env) (A₀ : Around) (base h₀ : Heap) (L : Addr) (m : Str → Option Value) (news : List (Addr × Obj)) (s : Shared) (l : Addr) (vs : List Value) (c : Nat) (Q E : Value → Shared → Prop),
    Below A₀ base outer h₀ → Fr h₀ L s.heap m → (hd.heap_39 w.params).In h₀ → News h₀ L s.heap news → Top hd.view_39 loose mean mg mb h₀ → cs.kind = .function →
    (l, PySem.W.listOf vs.toArray c) ∈ news → IntsAre vs ns → ns.length < 2 ^ 62 →
    pre → dp + lv < recursionLimit → un + 8 * lv < cLine →
    (∀ (x : α), P x → ∀ (t : Tok) (h' : Heap) (tk' : Nat), Fr h₀ L h' m → News h₀ L h' news → Q (R x t) { s with heap := h', toks := tk' }) →
    wpAny (model Challenge.rw_nt0407_01.row.prog w) (ktrTop dp un gd cn cs L a ccd cl outer) (call (.ref f) (.ref l :: rest)) Q E s

theorem news_up {h₀ h : Heap} {L : Addr} {q : Addr × Obj} {news : List (Addr × Obj)} (N : News h₀ L h news) (hm : q ∈ news) : News h₀ L h (q :: news) := fun p hp => by
  rcases List.mem_cons.mp hp with rfl | hp
  · exact N _ hm
  · exact N p hp
theorem useL {lv : Nat} {w : World} {mean : ExcName → Option Value} {mg mb : Str → Option Value} {f : Addr} {ns : List Int} {pre : Prop} {rest : List Value} {α : Type} {P : α → Prop} {R : α → Tok → Value}
    {dp un : Nat} {gd : Option (List Code)} {cn : Str} {cs : Scope} {a : Addr} {ccd : Value} {cl : List (Str × Addr)} {outer : List Env} {A₀ : Around} {base h₀ : Heap} {L : Addr} {m : Str → Option Value} {news : List (Addr × Obj)} {s : Shared} {l : Addr} {vs : List Value} {c : Nat} {Q E : Value → Shared → Prop}
    (B : Below A₀ base outer h₀) (F : Fr h₀ L s.heap m) (X : (hd.heap_39 w.params).In h₀) (N : News h₀ L s.heap news) (T : Top hd.view_39 loose mean mg mb h₀) (hk : cs.kind = .function)
    (hl : (l, PySem.W.listOf vs.toArray c) ∈ news) (hi : IntsAre vs ns) (hn : ns.length < 2 ^ 62)
    (M : MeetL lv w mean mg mb f ns pre rest P R) (hp : pre) (hd : dp + lv < recursionLimit) (hu : un + 8 * lv < cLine)
    (ret : ∀ (x : α), P x → ∀ (t : Tok) (h' : Heap) (tk' : Nat), Fr h₀ L h' m → News h₀ L h' news → Q (R x t) { s with heap := h', toks := tk' }) :
    wpAny (model Challenge.rw_nt0407_01.row.prog w) (ktrTop dp un gd cn cs L a ccd cl outer) (call (.ref f) (.ref l :: rest)) Q E s :=
  M.out dp un gd cn cs a ccd cl outer A₀ base h₀ L m news s l vs c Q E B F X N T hk hl hi hn hp hd hu ret

structure MeetT (lv : Nat) (w : World) (mean : ExcName → Option Value) (mg mb : Str → Option Value) (f : Addr) (pre : Prop) (vs : List Value) (P : Int → Int → Int → Prop) : Prop where
  out : ∀ (dp un : Nat) (gd : Option (List Code)) (cn : Str) (cs : Scope) (a : Addr) (ccd : Value) (cl : List (Str × Addr)) (outer : List Env) (A₀ : Around) (base h₀ : Heap) (L : Addr) (m : Str → Option Value) (news : List (Addr × Obj)) (s : Shared) (Q E : Value → Shared → Prop),
    Below A₀ base outer h₀ → Fr h₀ L s.heap m → (hd.heap_39 w.params).In h₀ → News h₀ L s.heap news → Top hd.view_39 loose mean mg mb h₀ → cs.kind = .function →
    pre → dp + lv < recursionLimit → un + 8 * lv < cLine →
    (∀ (x y z : Int), P x y z → ∀ (t u v : Tok) (b : Addr) (n : Nat) (h' : Heap) (tk' : Nat), Fr h₀ L h' m → News h₀ L h' ((b, ({ cls := .type "tuple", data := .seq #[.int x t, .int y u, .int z v] n } : Obj)) :: news) → Q (.ref b) { s with heap := h', toks := tk' }) →
    wpAny (model Challenge.rw_nt0407_01.row.prog w) (ktrTop dp un gd cn cs L a ccd cl outer) (call (.ref f) vs) Q E s
theorem useT {lv : Nat} {w : World} {mean : ExcName → Option Value} {mg mb : Str → Option Value} {f : Addr} {pre : Prop} {vs : List Value} {P : Int → Int → Int → Prop}
    {dp un : Nat} {gd : Option (List Code)} {cn : Str} {cs : Scope} {a : Addr} {ccd : Value} {cl : List (Str × Addr)} {outer : List Env} {A₀ : Around} {base h₀ : Heap} {L : Addr} {m : Str → Option Value} {news : List (Addr × Obj)} {s : Shared} {Q E : Value → Shared → Prop}
    (M : MeetT lv w mean mg mb f pre vs P) (B : Below A₀ base outer h₀) (F : Fr h₀ L s.heap m) (X : (hd.heap_39 w.params).In h₀) (N : News h₀ L s.heap news) (T : Top hd.view_39 loose mean mg mb h₀) (hk : cs.kind = .function)
    (hp : pre) (hd : dp + lv < recursionLimit) (hu : un + 8 * lv < cLine)
    (ret : ∀ (x y z : Int), P x y z → ∀ (t u v : Tok) (b : Addr) (n : Nat) (h' : Heap) (tk' : Nat), Fr h₀ L h' m → News h₀ L h' ((b, ({ cls := .type "tuple", data := .seq #[.int x t, .int y u, .int z v] n } : Obj)) :: news) → Q (.ref b) { s with heap := h', toks := tk' }) :
    wpAny (model Challenge.rw_nt0407_01.row.prog w) (ktrTop dp un gd cn cs L a ccd cl outer) (call (.ref f) vs) Q E s :=
  M.out dp un gd cn cs a ccd cl outer A₀ base h₀ L m news s Q E B F X N T hk hp hd hu ret
theorem tup_drop {h₀ h : Heap} {L : Addr} {q r : Addr × Obj} {news : List (Addr × Obj)} (N : News h₀ L h (q :: r :: news)) : News h₀ L h (q :: news) := fun p hp => by
  rcases List.mem_cons.mp hp with rfl | hp
  · exact N _ List.mem_cons_self
  · exact N _ (List.mem_cons_of_mem _ (List.mem_cons_of_mem _ hp))
theorem fill0 : PySem.Challenge.rw_nt0407_01 = PySem.Challenge.rw_nt0407_01 ∧ hd.heap_39 = hd.heap_39 := by
  k_fill
  exact ⟨rfl, rfl⟩
local macro_rules | `(tactic| walk_at "binaryOp Mod int int") => `(tactic| (k_here; (with_reducible refine w_mod ?kb1 ?_); (case kb1 => first | decide | omega)))
local macro_rules | `(tactic| walk_at "binaryOp FloorDiv int int") => `(tactic| (k_here; (with_reducible refine w_div ?kb1 ?kb2 ?_); (case kb1 => first | decide | omega); (case kb2 => decide +kernel)))
local macro_rules | `(tactic| walk_at "binaryOp Mod int int") => `(tactic| (k_here; (with_reducible refine w_mod_unit ?_)))
local macro_rules | `(tactic| walk_at "binaryOp Mod int int") => `(tactic| (k_here; (with_reducible refine w_mod_pow ?_)))
local macro_rules | `(tactic| walk_at "binaryOp FloorDiv int int") => `(tactic| (k_here; (with_reducible refine w_div_pow ?kb1 ?_); (case kb1 => omega)))
local macro_rules | `(tactic| walk_at "binaryOp FloorDiv int int") => `(tactic| (k_here; (with_reducible refine w_div_unit ?_)))
local macro_rules | `(tactic| walk_at "binaryOp FloorDiv int int") => `(tactic| (k_here; (with_reducible refine w_div_2unit ?_)))
local macro_rules | `(tactic| walk_at "binaryOp RShift int int") => `(tactic| (k_here; (with_reducible refine w_shr ?kb1 ?_); (case kb1 => omega)))
local macro_rules | `(tactic| walk_at "binaryOp LShift int int") => `(tactic| (k_here; (with_reducible refine lshift_int_small ?kb1 ?kb2 ?kb3 ?_); (case kb1 => omega); (case kb2 => omega); (case kb3 => (first | decide | omega))))
local macro_rules | `(tactic| walk_at "binaryOp LShift int int") => `(tactic| (k_here; (with_reducible refine w_shlq ?kb1 ?kb2 ?kb3 ?kb4 ?_); (case kb1 => omega); (case kb2 => omega); (case kb3 => omega); (case kb4 => omega)))
local macro_rules | `(tactic| walk_at "binaryOp LShift int int") => `(tactic| (k_here; (with_reducible refine w_shlh ?_)))
local macro_rules | `(tactic| walk_at "binaryOp LShift int int") => `(tactic| (k_here; (with_reducible refine w_shl64 ?_)))
local macro_rules | `(tactic| walk_at "binaryOp RShift int int") => `(tactic| (k_here; (with_reducible refine w_shr1 ?_)))
local macro_rules | `(tactic| walk_at "binaryOp RShift int int") => `(tactic| (k_here; (with_reducible refine w_shr63 ?_)))
local macro_rules | `(tactic| walk_at "binaryOp LShift int int") => `(tactic| (k_here; (with_reducible refine w_shl63 ?kb1 ?_); (case kb1 => omega)))
local macro_rules | `(tactic| walk_at "binaryOp RShift int int") => `(tactic| (k_here; (with_reducible refine w_shr52 ?_)))
local macro_rules | `(tactic| walk_at "binaryOp LShift int int") => `(tactic| (k_here; (with_reducible refine w_shl52 ?kb1 ?_); (case kb1 => omega)))
local macro_rules | `(tactic| walk_at "ite") => `(tactic| (k_here; k_openite; first | (refine ite_pos (by (try simp only [beq_iff_eq, bne_iff_ne, decide_eq_true_eq, Bool.and_eq_true, Bool.or_eq_true, Bool.not_eq_true', decide_eq_false_iff_not]); omega) ?_; walk_say "NT PRUNED") | (refine ite_neg (by (try simp only [beq_iff_eq, bne_iff_ne, decide_eq_true_eq, Bool.and_eq_true, Bool.or_eq_true, Bool.not_eq_true', decide_eq_false_iff_not]); omega) ?_; walk_say "NT PRUNED")))
local macro_rules | `(tactic| walk_at "call builtin:max") => `(tactic| (k_here; k_dflt (refine' w_maxR rfl ?k1 ?k2 ?_; (case k1 => k_asm); (case k2 => k_asm); k_whole); intro v9 t9 h9 tk9 e9 F9 N9))
local macro_rules | `(tactic| walk_at "call builtin:min") => `(tactic| (k_here; k_dflt (refine' w_minR rfl ?k1 ?k2 ?_; (case k1 => k_asm); (case k2 => k_asm); k_whole); intro v9 t9 h9 tk9 e9 F9 N9))
local macro_rules | `(tactic| walk_at "call builtin:max") => `(tactic| (k_here; k_dflt (refine' w_max rfl ?kb1 ?k1 ?k2 ?_; (case kb1 => omega); (case k1 => k_asm); (case k2 => k_asm); k_whole); intro h' tk' F' N'))
local macro_rules | `(tactic| walk_at "eval Call") => `(tactic| (k_here; k_dflt (refine Call_ ?_)))
local macro_rules | `(tactic| ke_room) => `(tactic| ((simp only [units_deeper]); (try dsimp only [ktrTop]); omega))
local macro_rules | `(tactic| walk_at "subscriptTail") => `(tactic| (k_here; (with_reducible show wpAny _ _ (subscriptTail _ _ (Value.ref _) (Value.int _ _)) _ _ _); (with_unfolding_all refine' w_item ?k1 ?k2 ?k3 ?k4 ?k5 ?_ ?k6; (case k1 => is_list); (case k2 => omega); (case k3 => (simp only [List.length_cons, List.length_nil]; omega)); (case k4 => (simp only [List.length_cons, List.length_nil]; omega)); (case k5 => (repeat' (first | exact List.forall_mem_nil _ | refine List.forall_mem_cons.mpr ⟨⟨_, _, rfl, by decide, by decide⟩, ?_⟩))); (case k6 => with_unfolding_all rfl); k_whole); intro i9 t9 l9 u9))
local macro_rules | `(tactic| walk_at "binaryOp Pow int int") => `(tactic| (k_here; (with_reducible refine pow_int_small ?kb1 ?kb2 ?kb3 ?_); (case kb1 => omega); (case kb2 => omega); (case kb3 => decide)))
local macro_rules | `(tactic| walk_at "binaryOp Mult int int") => `(tactic| (k_here; (with_reducible refine w_mulq ?kb1 ?kb2 ?_); (case kb1 => omega); (case kb2 => omega); intro v9 l9 u9))
local macro_rules | `(tactic| walk_at "binaryOp Pow int int") => `(tactic| (k_here; (with_reducible refine w_pow16 ?_)))
local macro_rules | `(tactic| walk_at "binaryOp Pow int int") => `(tactic| (k_here; (with_reducible refine w_pow31 ?_)))
local macro_rules | `(tactic| walk_at "binaryOp Pow int int") => `(tactic| (k_here; (with_reducible refine w_pow32 ?_)))
local macro_rules | `(tactic| walk_at "binaryOp Pow int int") => `(tactic| (k_here; (with_reducible refine w_pow52 ?_)))
local macro_rules | `(tactic| walk_at "binaryOp Pow int int") => `(tactic| (k_here; (with_reducible refine w_pow53 ?_)))
local macro_rules | `(tactic| walk_at "binaryOp Pow int int") => `(tactic| (k_here; (with_reducible refine w_pow54 ?_)))
local macro_rules | `(tactic| walk_at "binaryOp Pow int int") => `(tactic| (k_here; (with_reducible refine w_pow63 ?_)))
local macro_rules | `(tactic| walk_at "binaryOp Pow int int") => `(tactic| (k_here; (with_reducible refine w_pow64 ?_)))
local macro_rules | `(tactic| walk_at "binaryOp Pow int int") => `(tactic| (k_here; (with_reducible refine w_unit ?_)))
local macro_rules | `(tactic| walk_at "binaryOp BitAnd int int") => `(tactic| (k_here; (with_reducible refine w_and52 ?_)))
local macro_rules | `(tactic| walk_at "binaryOp BitAnd int int") => `(tactic| (k_here; (with_reducible refine w_and11 ?_)))
local macro_rules | `(tactic| walk_at "binaryOp BitAnd int int") => `(tactic| (k_here; (with_reducible refine w_and63 ?_)))
local macro_rules | `(tactic| walk_at "binaryOp BitAnd int int") => `(tactic| (k_here; (with_reducible refine w_andm ?_)))
local macro_rules | `(tactic| walk_at "binaryOp BitOr int int") => `(tactic| (k_here; (with_reducible refine w_orh ?kb1 ?kb2 ?_); (case kb1 => omega); (case kb2 => omega)))
theorem is_negative_m {w : World} {mean : ExcName → Option Value} {mg mb : Str → Option Value} {n : Int} {tn : Tok} :
    Meet 1 w mean mg mb 35 (0 ≤ n ∧ n < 18446744073709551616) [.int n tn] (fun x : Bool => x = decide (9223372036854775808 ≤ n)) (fun (x : Bool) t => .bool x) := by
  constructor
  intro dp un gd cn cs a0 ccd cl outer A₀ base h₀ L m news s Q E B F X N T hk hp hd hu hret
  refine wpAny_call ?_
  (first | k_dflt cell_enter | fail "the def is not entered")
  k_steps
  all_goals first | (refine hret _ ?_ 0 _ _ (by k_asm) (by first | k_asm | (refine' cb_drop ?cbN ?cbS; (case cbN => assumption); (case cbS => first | kcj_in | kcj_all))); clear hret) | (exfalso; clear hret; omega)
  all_goals (rw [Bool.eq_iff_iff, beq_iff_eq, decide_eq_true_eq]; omega)
local macro_rules | `(tactic| walk_at "call ref") => `(tactic| (k_here; (with_reducible show wpAny _ _ (call (Value.ref 35) _) _ _ _); k_dflt (refine' use is_negative_m ?k1 ?k2 ?k3 ?k4 ?k5 ?kK ?kp ?kd ?ku ?_; (case k1 => k_asm); (case k2 => k_asm); (case k3 => k_asm); (case k4 => k_asm); (case k5 => k_asm); (case kK => first | exact rfl | assumption); (case kp => first | (with_reducible assumption) | (and_intros <;> with_reducible assumption) | omega); (case kd => ktr_room); (case ku => ktr_units)); intro x9 P9 t9 h9 tk9 F9 N9; (try subst P9); (try dsimp only); (try k_fold)))
theorem is_nan_m {w : World} {mean : ExcName → Option Value} {mg mb : Str → Option Value} {n : Int} {tn : Tok} :
    Meet 1 w mean mg mb 42 (0 ≤ n ∧ n < 18446744073709551616) [.int n tn] (fun x : Bool => x = decide (9218868437227405312 < mag n)) (fun (x : Bool) t => .bool x) := by
  constructor
  intro dp un gd cn cs a0 ccd cl outer A₀ base h₀ L m news s Q E B F X N T hk hp hd hu hret
  refine wpAny_call ?_
  (first | k_dflt cell_enter | fail "the def is not entered")
  k_steps
  all_goals first | (refine hret _ ?_ 0 _ _ (by k_asm) (by first | k_asm | (refine' cb_drop ?cbN ?cbS; (case cbN => assumption); (case cbS => first | kcj_in | kcj_all))); clear hret) | (exfalso; clear hret; omega)
  all_goals exact rfl
local macro_rules | `(tactic| walk_at "call ref") => `(tactic| (k_here; (with_reducible show wpAny _ _ (call (Value.ref 42) _) _ _ _); k_dflt (refine' use is_nan_m ?k1 ?k2 ?k3 ?k4 ?k5 ?kK ?kp ?kd ?ku ?_; (case k1 => k_asm); (case k2 => k_asm); (case k3 => k_asm); (case k4 => k_asm); (case k5 => k_asm); (case kK => first | exact rfl | assumption); (case kp => first | (with_reducible assumption) | (and_intros <;> with_reducible assumption) | omega); (case kd => ktr_room); (case ku => ktr_units)); intro x9 P9 t9 h9 tk9 F9 N9; (try subst P9); (try dsimp only); (try k_fold)))
theorem is_finite_m {w : World} {mean : ExcName → Option Value} {mg mb : Str → Option Value} {n : Int} {tn : Tok} :
    Meet 1 w mean mg mb 49 (0 ≤ n ∧ n < 18446744073709551616) [.int n tn] (fun x : Bool => x = decide (mag n < 9218868437227405312)) (fun (x : Bool) t => .bool x) := by
  constructor
  intro dp un gd cn cs a0 ccd cl outer A₀ base h₀ L m news s Q E B F X N T hk hp hd hu hret
  refine wpAny_call ?_
  (first | k_dflt cell_enter | fail "the def is not entered")
  k_steps
  all_goals first | (refine hret _ ?_ 0 _ _ (by k_asm) (by first | k_asm | (refine' cb_drop ?cbN ?cbS; (case cbN => assumption); (case cbS => first | kcj_in | kcj_all))); clear hret) | (exfalso; clear hret; omega)
  all_goals exact rfl
local macro_rules | `(tactic| walk_at "call ref") => `(tactic| (k_here; (with_reducible show wpAny _ _ (call (Value.ref 49) _) _ _ _); k_dflt (refine' use is_finite_m ?k1 ?k2 ?k3 ?k4 ?k5 ?kK ?kp ?kd ?ku ?_; (case k1 => k_asm); (case k2 => k_asm); (case k3 => k_asm); (case k4 => k_asm); (case k5 => k_asm); (case kK => first | exact rfl | assumption); (case kp => first | (with_reducible assumption) | (and_intros <;> with_reducible assumption) | omega); (case kd => ktr_room); (case ku => ktr_units)); intro x9 P9 t9 h9 tk9 F9 N9; (try subst P9); (try dsimp only); (try k_fold)))
theorem is_zero_m {w : World} {mean : ExcName → Option Value} {mg mb : Str → Option Value} {n : Int} {tn : Tok} :
    Meet 1 w mean mg mb 56 (0 ≤ n ∧ n < 18446744073709551616) [.int n tn] (fun x : Bool => x = decide (mag n = 0)) (fun (x : Bool) t => .bool x) := by
  constructor
  intro dp un gd cn cs a0 ccd cl outer A₀ base h₀ L m news s Q E B F X N T hk hp hd hu hret
  refine wpAny_call ?_
  (first | k_dflt cell_enter | fail "the def is not entered")
  k_steps
  all_goals first | (refine hret _ ?_ 0 _ _ (by k_asm) (by first | k_asm | (refine' cb_drop ?cbN ?cbS; (case cbN => assumption); (case cbS => first | kcj_in | kcj_all))); clear hret) | (exfalso; clear hret; omega)
  all_goals (rw [Bool.eq_iff_iff, beq_iff_eq, decide_eq_true_eq]; exact Iff.rfl)
local macro_rules | `(tactic| walk_at "call ref") => `(tactic| (k_here; (with_reducible show wpAny _ _ (call (Value.ref 56) _) _ _ _); k_dflt (refine' use is_zero_m ?k1 ?k2 ?k3 ?k4 ?k5 ?kK ?kp ?kd ?ku ?_; (case k1 => k_asm); (case k2 => k_asm); (case k3 => k_asm); (case k4 => k_asm); (case k5 => k_asm); (case kK => first | exact rfl | assumption); (case kp => first | (with_reducible assumption) | (and_intros <;> with_reducible assumption) | omega); (case kd => ktr_room); (case ku => ktr_units)); intro x9 P9 t9 h9 tk9 F9 N9; (try subst P9); (try dsimp only); (try k_fold)))
theorem law_kind_m {w : World} {mean : ExcName → Option Value} {mg mb : Str → Option Value} {n : Int} {tn : Tok} :
    Meet 1 w mean mg mb 245 (0 ≤ n ∧ n < 18446744073709551616) [.int n tn] (fun x : Int => (x = 2 ∧ 9218868437227405312 < mag n) ∨ (x = 1 ∧ mag n = 9218868437227405312) ∨ (x = 0 ∧ mag n < 9218868437227405312)) (fun (x : Int) t => .int x t) := by
  constructor
  intro dp un gd cn cs a0 ccd cl outer A₀ base h₀ L m news s Q E B F X N T hk hp hd hu hret
  refine wpAny_call ?_
  (first | k_dflt cell_enter | fail "the def is not entered")
  k_steps
  all_goals first | (refine hret _ ?_ _ _ _ (by k_asm) (by first | k_asm | (refine' cb_drop ?cbN ?cbS; (case cbN => assumption); (case cbS => first | kcj_in | kcj_all))); clear hret) | (exfalso; clear hret; omega)
  all_goals (unfold mag; omega)
local macro_rules | `(tactic| walk_at "call ref") => `(tactic| (k_here; (with_reducible show wpAny _ _ (call (Value.ref 245) _) _ _ _); k_dflt (refine' use law_kind_m ?k1 ?k2 ?k3 ?k4 ?k5 ?kK ?kp ?kd ?ku ?_; (case k1 => k_asm); (case k2 => k_asm); (case k3 => k_asm); (case k4 => k_asm); (case k5 => k_asm); (case kK => first | exact rfl | assumption); (case kp => first | (with_reducible assumption) | (and_intros <;> with_reducible assumption) | omega); (case kd => ktr_room); (case ku => ktr_units)); intro x9 P9 t9 h9 tk9 F9 N9; (try subst P9); (try dsimp only); (try k_fold)))
theorem law_kind_nan {w : World} {mean : ExcName → Option Value} {mg mb : Str → Option Value} {n : Int} {tn : Tok} :
    Meet 1 w mean mg mb 245 (0 ≤ n ∧ n < 18446744073709551616 ∧ 9218868437227405312 < mag n) [.int n tn] (fun x : Int => x = 2) (fun (x : Int) t => .int x t) := by
  constructor
  intro dp un gd cn cs a0 ccd cl outer A₀ base h₀ L m news s Q E B F X N T hk hp hd hu hret
  refine use law_kind_m B F X N T hk ⟨hp.1, hp.2.1⟩ hd hu (fun x P9 t h' tk' F' N' => hret x ?_ t h' tk' F' N')
  rcases P9 with h | h | h <;> omega
local macro_rules | `(tactic| walk_at "call ref") => `(tactic| (k_here; (with_reducible show wpAny _ _ (call (Value.ref 245) _) _ _ _); k_dflt (refine' use law_kind_nan ?k1 ?k2 ?k3 ?k4 ?k5 ?kK ?kp ?kd ?ku ?_; (case k1 => k_asm); (case k2 => k_asm); (case k3 => k_asm); (case k4 => k_asm); (case k5 => k_asm); (case kK => first | exact rfl | assumption); (case kp => first | (with_reducible assumption) | (and_intros <;> with_reducible assumption) | omega); (case kd => ktr_room); (case ku => ktr_units)); intro x9 P9 t9 h9 tk9 F9 N9; skip; (try dsimp only); (try k_fold)))
theorem law_kind_up {w : World} {mean : ExcName → Option Value} {mg mb : Str → Option Value} {n : Int} {tn : Tok} :
    Meet 1 w mean mg mb 245 (0 ≤ n ∧ n < 18446744073709551616 ∧ 9218868437227405312 ≤ mag n) [.int n tn] (fun x : Int => (x = 2 ∧ 9218868437227405312 < mag n) ∨ (x = 1 ∧ mag n = 9218868437227405312)) (fun (x : Int) t => .int x t) := by
  constructor
  intro dp un gd cn cs a0 ccd cl outer A₀ base h₀ L m news s Q E B F X N T hk hp hd hu hret
  refine use law_kind_m B F X N T hk ⟨hp.1, hp.2.1⟩ hd hu (fun x P9 t h' tk' F' N' => hret x ?_ t h' tk' F' N')
  omega
local macro_rules | `(tactic| walk_at "call ref") => `(tactic| (k_here; (with_reducible show wpAny _ _ (call (Value.ref 245) _) _ _ _); k_dflt (refine' use law_kind_up ?k1 ?k2 ?k3 ?k4 ?k5 ?kK ?kp ?kd ?ku ?_; (case k1 => k_asm); (case k2 => k_asm); (case k3 => k_asm); (case k4 => k_asm); (case k5 => k_asm); (case kK => first | exact rfl | assumption); (case kp => first | (with_reducible assumption) | (and_intros <;> with_reducible assumption) | omega); (case kd => ktr_room); (case ku => ktr_units)); intro x9 P9 t9 h9 tk9 F9 N9; skip; (try dsimp only); (try k_fold)))
theorem law_kind_le {w : World} {mean : ExcName → Option Value} {mg mb : Str → Option Value} {n : Int} {tn : Tok} :
    Meet 1 w mean mg mb 245 (0 ≤ n ∧ n < 18446744073709551616 ∧ mag n ≤ 9218868437227405312) [.int n tn] (fun x : Int => x ≠ 2) (fun (x : Int) t => .int x t) := by
  constructor
  intro dp un gd cn cs a0 ccd cl outer A₀ base h₀ L m news s Q E B F X N T hk hp hd hu hret
  refine use law_kind_m B F X N T hk ⟨hp.1, hp.2.1⟩ hd hu (fun x P9 t h' tk' F' N' => hret x ?_ t h' tk' F' N')
  omega
local macro_rules | `(tactic| walk_at "call ref") => `(tactic| (k_here; (with_reducible show wpAny _ _ (call (Value.ref 245) _) _ _ _); k_dflt (refine' use law_kind_le ?k1 ?k2 ?k3 ?k4 ?k5 ?kK ?kp ?kd ?ku ?_; (case k1 => k_asm); (case k2 => k_asm); (case k3 => k_asm); (case k4 => k_asm); (case k5 => k_asm); (case kK => first | exact rfl | assumption); (case kp => first | (with_reducible assumption) | (and_intros <;> with_reducible assumption) | omega); (case kd => ktr_room); (case ku => ktr_units)); intro x9 P9 t9 h9 tk9 F9 N9; skip; (try dsimp only); (try k_fold)))
theorem law_kind_fin {w : World} {mean : ExcName → Option Value} {mg mb : Str → Option Value} {n : Int} {tn : Tok} :
    Meet 1 w mean mg mb 245 (0 ≤ n ∧ n < 18446744073709551616 ∧ mag n < 9218868437227405312) [.int n tn] (fun x : Int => x = 0) (fun (x : Int) t => .int x t) := by
  constructor
  intro dp un gd cn cs a0 ccd cl outer A₀ base h₀ L m news s Q E B F X N T hk hp hd hu hret
  refine use law_kind_m B F X N T hk ⟨hp.1, hp.2.1⟩ hd hu (fun x P9 t h' tk' F' N' => hret x ?_ t h' tk' F' N')
  omega
local macro_rules | `(tactic| walk_at "call ref") => `(tactic| (k_here; (with_reducible show wpAny _ _ (call (Value.ref 245) _) _ _ _); k_dflt (refine' use law_kind_fin ?k1 ?k2 ?k3 ?k4 ?k5 ?kK ?kp ?kd ?ku ?_; (case k1 => k_asm); (case k2 => k_asm); (case k3 => k_asm); (case k4 => k_asm); (case k5 => k_asm); (case kK => first | exact rfl | assumption); (case kp => first | (with_reducible assumption) | (and_intros <;> with_reducible assumption) | omega); (case kd => ktr_room); (case ku => ktr_units)); intro x9 P9 t9 h9 tk9 F9 N9; skip; (try dsimp only); (try k_fold)))
theorem law_size_m {w : World} {mean : ExcName → Option Value} {mg mb : Str → Option Value} {n : Int} {tn : Tok} :
    Meet 1 w mean mg mb 238 (0 ≤ n ∧ n < 18446744073709551616) [.int n tn] (fun x : Int => x = lsize n) (fun (x : Int) t => .int x t) := by
  constructor
  intro dp un gd cn cs a0 ccd cl outer A₀ base h₀ L m news s Q E B F X N T hk hp hd hu hret
  refine wpAny_call ?_
  (first | k_dflt cell_enter | fail "the def is not entered")
  k_steps
  all_goals first | (refine hret _ ?_ _ _ _ (by k_asm) (by first | k_asm | (refine' cb_drop ?cbN ?cbS; (case cbN => assumption); (case cbS => first | kcj_in | kcj_all))); clear hret) | (exfalso; clear hret; omega)
  all_goals first | (with_reducible exact lsize_0 (by with_reducible assumption)) | (with_reducible exact lsize_1 (by with_reducible assumption))
local macro_rules | `(tactic| walk_at "call ref") => `(tactic| (k_here; (with_reducible show wpAny _ _ (call (Value.ref 238) _) _ _ _); k_dflt (refine' use law_size_m ?k1 ?k2 ?k3 ?k4 ?k5 ?kK ?kp ?kd ?ku ?_; (case k1 => k_asm); (case k2 => k_asm); (case k3 => k_asm); (case k4 => k_asm); (case k5 => k_asm); (case kK => first | exact rfl | assumption); (case kp => first | (with_reducible assumption) | (and_intros <;> with_reducible assumption) | omega); (case kd => ktr_room); (case ku => ktr_units)); intro x9 P9 t9 h9 tk9 F9 N9; (try subst P9); (try dsimp only); (try k_fold)))
theorem pack_m {w : World} {mean : ExcName → Option Value} {mg mb : Str → Option Value} {g e f: Int} {tg te tf : Tok} :
    Meet 1 w mean mg mb 28 (0 ≤ g ∧ g ≤ 1 ∧ 0 ≤ e ∧ e < 2048 ∧ 0 ≤ f ∧ f < 4503599627370496) [.int g tg, .int e te, .int f tf] (fun x : Int => x = g * 9223372036854775808 + e * 4503599627370496 + f) (fun (x : Int) t => .int x t) := by
  constructor
  intro dp un gd cn cs a0 ccd cl outer A₀ base h₀ L m news s Q E B F X N T hk hp hd hu hret
  refine wpAny_call ?_
  (first | k_dflt cell_enter | fail "the def is not entered")
  k_steps
  all_goals first | (refine hret _ ?_ _ _ _ (by k_asm) (by first | k_asm | (refine' cb_drop ?cbN ?cbS; (case cbN => assumption); (case cbS => first | kcj_in | kcj_all))); clear hret) | (exfalso; clear hret; omega)
  all_goals exact w_pack hp.1 hp.2.2.1 hp.2.2.2.1 hp.2.2.2.2.1 hp.2.2.2.2.2
local macro_rules | `(tactic| walk_at "call ref") => `(tactic| (k_here; (with_reducible show wpAny _ _ (call (Value.ref 28) _) _ _ _); k_dflt (refine' use pack_m ?k1 ?k2 ?k3 ?k4 ?k5 ?kK ?kp ?kd ?ku ?_; (case k1 => k_asm); (case k2 => k_asm); (case k3 => k_asm); (case k4 => k_asm); (case k5 => k_asm); (case kK => first | exact rfl | assumption); (case kp => first | (with_reducible assumption) | (and_intros <;> with_reducible assumption) | omega); (case kd => ktr_room); (case ku => ktr_units)); intro x9 P9 t9 h9 tk9 F9 N9; (try subst P9); (try dsimp only); (try k_fold)))
theorem law_value_m {w : World} {mean : ExcName → Option Value} {mg mb : Str → Option Value} {n : Int} {tn : Tok} :
    Meet 2 w mean mg mb 252 (0 ≤ n ∧ n < 18446744073709551616) [.int n tn] (fun x : Int => x = lvalue n) (fun (x : Int) t => .int x t) := by
  constructor
  intro dp un gd cn cs a0 ccd cl outer A₀ base h₀ L m news s Q E B F X N T hk hp hd hu hret
  refine wpAny_call ?_
  (first | k_dflt cell_enter | fail "the def is not entered")
  k_steps
  all_goals first | (refine hret _ ?_ _ _ _ (by k_asm) (by first | k_asm | (refine' cb_drop ?cbN ?cbS; (case cbN => assumption); (case cbS => first | kcj_in | kcj_all))); clear hret) | (exfalso; clear hret; omega)
  all_goals first | (with_reducible exact lvalue_n (by with_reducible assumption)) | (with_reducible exact lvalue_p (by with_reducible assumption))
local macro_rules | `(tactic| walk_at "call ref") => `(tactic| (k_here; (with_reducible show wpAny _ _ (call (Value.ref 252) _) _ _ _); k_dflt (refine' use law_value_m ?k1 ?k2 ?k3 ?k4 ?k5 ?kK ?kp ?kd ?ku ?_; (case k1 => k_asm); (case k2 => k_asm); (case k3 => k_asm); (case k4 => k_asm); (case k5 => k_asm); (case kK => first | exact rfl | assumption); (case kp => first | (with_reducible assumption) | (and_intros <;> with_reducible assumption) | omega); (case kd => ktr_room); (case ku => ktr_units)); intro x9 P9 t9 h9 tk9 F9 N9; (try subst P9); (try dsimp only); (try k_fold)))
theorem order_key_m {w : World} {mean : ExcName → Option Value} {mg mb : Str → Option Value} {n : Int} {tn : Tok} :
    Meet 2 w mean mg mb 119 (0 ≤ n ∧ n < 18446744073709551616) [.int n tn] (fun x : Int => (9223372036854775808 ≤ n → x = 9223372036854775808 - n) ∧ (n < 9223372036854775808 → x = n)) (fun (x : Int) t => .int x t) := by
  constructor
  intro dp un gd cn cs a0 ccd cl outer A₀ base h₀ L m news s Q E B F X N T hk hp hd hu hret
  refine wpAny_call ?_
  (first | k_dflt cell_enter | fail "the def is not entered")
  k_steps
  all_goals first | (refine hret _ ?_ _ _ _ (by k_asm) (by first | k_asm | (refine' cb_drop ?cbN ?cbS; (case cbN => assumption); (case cbS => first | kcj_in | kcj_all))); clear hret) | (exfalso; clear hret; omega)
  all_goals first | (with_reducible exact key_n hp (by with_reducible assumption)) | (with_reducible exact key_p (by with_reducible assumption))
local macro_rules | `(tactic| walk_at "call ref") => `(tactic| (k_here; (with_reducible show wpAny _ _ (call (Value.ref 119) _) _ _ _); k_dflt (refine' use order_key_m ?k1 ?k2 ?k3 ?k4 ?k5 ?kK ?kp ?kd ?ku ?_; (case k1 => k_asm); (case k2 => k_asm); (case k3 => k_asm); (case k4 => k_asm); (case k5 => k_asm); (case kK => first | exact rfl | assumption); (case kp => first | (with_reducible assumption) | (and_intros <;> with_reducible assumption) | omega); (case kd => ktr_room); (case ku => ktr_units)); intro x9 P9 t9 h9 tk9 F9 N9; (try subst P9); (try dsimp only); (try k_fold)))
theorem assembled_m {w : World} {mean : ExcName → Option Value} {mg mb : Str → Option Value} {g k p: Int} {tg tk tp : Tok} :
    Meet 2 w mean mg mb 91 (0 ≤ g ∧ g ≤ 1 ∧ 4503599627370496 ≤ k ∧ k < 9007199254740992 ∧ -1000 ≤ p ∧ p ≤ 100) [.int g tg, .int k tk, .int p tp] (fun x : Int => x = g * 9223372036854775808 + (p + 1075) * 4503599627370496 + (k - 4503599627370496)) (fun (x : Int) t => .int x t) := by
  constructor
  intro dp un gd cn cs a0 ccd cl outer A₀ base h₀ L m news s Q E B F X N T hk hp hd hu hret
  refine wpAny_call ?_
  (first | k_dflt cell_enter | fail "the def is not entered")
  k_steps
  all_goals first | (refine hret _ ?_ _ _ _ (by k_asm) (by first | k_asm | (refine' cb_drop ?cbN ?cbS; (case cbN => assumption); (case cbS => first | kcj_in | kcj_all))); clear hret) | (exfalso; clear hret; omega)
  all_goals omega
local macro_rules | `(tactic| walk_at "call ref") => `(tactic| (k_here; (with_reducible show wpAny _ _ (call (Value.ref 91) _) _ _ _); k_dflt (refine' use assembled_m ?k1 ?k2 ?k3 ?k4 ?k5 ?kK ?kp ?kd ?ku ?_; (case k1 => k_asm); (case k2 => k_asm); (case k3 => k_asm); (case k4 => k_asm); (case k5 => k_asm); (case kK => first | exact rfl | assumption); (case kp => first | (with_reducible assumption) | (and_intros <;> with_reducible assumption) | omega); (case kd => ktr_room); (case ku => ktr_units)); intro x9 P9 t9 h9 tk9 F9 N9; (try subst P9); (try dsimp only); (try k_fold)))
theorem parts_m {w : World} {mean : ExcName → Option Value} {mg mb : Str → Option Value} {n : Int} {tn : Tok} :
    MeetT 1 w mean mg mb 70 (0 ≤ n ∧ n < 18446744073709551616) [.int n tn] (fun x y z : Int => (x = n / 9223372036854775808 ∧ y = mant n ∧ z = (up n : Int) - 1074) ∧ (0 ≤ mant n ∧ mant n < 9007199254740992) ∧ up n ≤ 2046) := by
  constructor
  intro dp un gd cn cs a0 ccd cl outer A₀ base h₀ L m news s Q E B F X N T hk hp hd hu hret
  refine wpAny_call ?_
  (first | k_dflt cell_enter | fail "the def is not entered")
  k_steps
  all_goals ((rename News _ _ _ _ => N9); (refine hret _ _ _ ?_ _ _ _ _ _ _ _ (by k_asm) (by exact tup_drop N9)); clear hret)
  all_goals first | (with_reducible exact parts_0 (by with_reducible assumption)) | (with_reducible exact parts_1 (by with_reducible assumption))
local macro_rules | `(tactic| walk_at "call ref") => `(tactic| (k_here; (with_reducible show wpAny _ _ (call (Value.ref 70) _) _ _ _); k_dflt (refine' useT parts_m ?k1 ?k2 ?k3 ?k4 ?k5 ?kK ?kp ?kd ?ku ?_; (case k1 => k_asm); (case k2 => k_asm); (case k3 => k_asm); (case k4 => k_asm); (case k5 => k_asm); (case kK => first | exact rfl | assumption); (case kp => first | (with_reducible assumption) | (and_intros <;> with_reducible assumption) | omega); (case kd => ktr_room); (case ku => ktr_units)); intro x9 y9 z9 P9 t9 u9 v9 a9 n9 h9 tk9 F9 N9; (obtain ⟨⟨e91, e92, e93⟩, r91, r92⟩ := P9; subst e91; subst e92; subst e93); (try dsimp only); (try k_fold)))
local macro_rules | `(tactic| walk_at "call ref") => `(tactic| (k_here; (with_reducible show wpAny _ _ (call (Value.ref 77) _) _ _ _); (refine wpAny_call ?_); k_dflt (refine' code_def ?k1 ?k2 ?k3 ?k4 ?k5 ?kA ?kF ?kK ?k6 ?k7 ?k8 ?k9 ?kB ?_ ?c2 ?c3 ?c4 ?c5; (case kA => exact rfl); (case kF => exact rfl); (case kK => first | exact rfl | assumption); (case k1 => k_asm); (case k2 => k_asm); (case k3 => k_asm); (case k4 => k_asm); (case k5 => k_asm); (case k6 => k_is); (case k7 => k_is); (case k8 => ktr_room); (case k9 => exact BindsTo.of_eq rfl); (case c5 => decide); (case kB => exact locs rfl); (case c2 => exact rfl); (case c3 => exact rfl); (case c4 => exact rfl); k_whole; intro g' L' h' FG' F' N' B' X' T'; (try dsimp only); (try k_lift B'); (try k_fold))))
theorem width_m {w : World} {mean : ExcName → Option Value} {mg mb : Str → Option Value} {n : Int} {tn : Tok} :
    Meet 1 w mean mg mb 21 (0 ≤ n ∧ n < 18446744073709551616) [.int n tn] (fun x : Int => x = blen n ∧ (n = 1 → x = 1) ∧ (1 ≤ n → 1 ≤ x ∧ (x ≤ 53 → n ≤ 9007199254740991) ∧ (53 ≤ x → 4503599627370496 ≤ n)) ∧ (n ≤ 9007199254740992 → x ≤ 53 ∨ (x = 54 ∧ n = 9007199254740992))) (fun (x : Int) t => .int x t) := by
  constructor
  intro dp un gd cn cs a0 ccd cl outer A₀ base h₀ L m news s Q E B F X N T hk hp hd hu hret
  refine wpAny_call ?_
  (first | k_dflt cell_enter | fail "the def is not entered")
  (k_with "exec While Compare cons nil" => k_while_given ["n!", "many!"] (fun n₁ many₁ script n many => 0 ≤ n ∧ n < 18446744073709551616 ∧ blen n + many = blen n₁ + many₁) (fun n₁ many₁ script n many => n.toNat) "n" "many")
  (k_with "state" => (refine ⟨by omega, by omega, ?_⟩; rw [blen_half (by assumption)]; omega))
  k_steps
  all_goals first | (refine hret _ ?_ _ _ _ (by k_asm) (by first | k_asm | (refine' cb_drop ?cbN ?cbS; (case cbN => assumption); (case cbS => first | kcj_in | kcj_all))); clear hret) | (exfalso; clear hret; omega)
  all_goals exact width_end (by assumption) (by assumption) (by assumption)
local macro_rules | `(tactic| walk_at "call ref") => `(tactic| (k_here; (with_reducible show wpAny _ _ (call (Value.ref 21) _) _ _ _); k_dflt (refine' use width_m ?k1 ?k2 ?k3 ?k4 ?k5 ?kK ?kp ?kd ?ku ?_; (case k1 => k_asm); (case k2 => k_asm); (case k3 => k_asm); (case k4 => k_asm); (case k5 => k_asm); (case kK => first | exact rfl | assumption); (case kp => first | (with_reducible assumption) | (and_intros <;> with_reducible assumption) | omega); (case kd => ktr_room); (case ku => ktr_units)); intro x9 P9 t9 h9 tk9 F9 N9; (obtain ⟨e91, e92, e93, e94⟩ := P9); (try dsimp only); (try k_fold)))
local macro_rules | `(tactic| walk_at "binaryOp LShift int int") => `(tactic| (k_here; (with_reducible refine' w_shlc ?kb1 ?kb2 ?kb3 ?_); (case kb1 => assumption); (case kb2 => omega); (case kb3 => omega); intro v9 e9 l9 u9))
local macro_rules | `(tactic| walk_at "binaryOp LShift int int") => `(tactic| (k_here; (with_reducible refine' w_shlb ?kb1 ?kb2 ?kb3 ?_); (case kb1 => assumption); (case kb2 => omega); (case kb3 => omega); intro v9 e9 l9 u9))
local macro_rules | `(tactic| walk_at "binaryOp LShift int int") => `(tactic| (k_here; (with_reducible refine w_shl1 ?kb1 ?kb2 ?_); (case kb1 => omega); (case kb2 => omega)))
local macro_rules | `(tactic| walk_at "binaryOp LShift int int") => `(tactic| (k_here; (with_reducible refine w_shl0 ?kb1 ?kb2 ?_); (case kb1 => omega); (case kb2 => omega)))
theorem round_ratio_m {w : World} {mean : ExcName → Option Value} {mg mb : Str → Option Value} {g z : Int} {tg tz tb : Tok} :
    Meet 3 w mean mg mb 84 (0 ≤ g ∧ g ≤ 1 ∧ 0 ≤ z ∧ z ≤ 9007199254740992) [.int g tg, .int z tz, .int 1 tb] (fun x : Int => x = fromSize g z) (fun (x : Int) t => .int x t) := by
  constructor
  intro dp un gd cn cs a0 ccd cl outer A₀ base h₀ L m news s Q E B F X N T hk hp hd hu hret
  refine wpAny_call ?_
  (first | k_dflt cell_enter | fail "the def is not entered")
  k_steps
  all_goals first | (refine hret _ ?_ _ _ _ (by k_asm) (by first | k_asm | (refine' cb_drop ?cbN ?cbS; (case cbN => assumption); (case cbS => first | kcj_in | kcj_all))); clear hret) | (exfalso; clear hret; omega)
  all_goals first | (with_reducible exact rr_0 (by with_reducible assumption)) | (with_reducible exact rr_1 (by with_reducible assumption) (by with_reducible assumption) (by with_reducible assumption) hp.2.2.2 (by with_reducible assumption)) | (with_reducible exact rr_2 (by with_reducible assumption) (by with_reducible assumption) (by with_reducible assumption) (by with_reducible assumption) (by with_reducible assumption)) | (with_reducible exact rr_3 (by with_reducible assumption) (by with_reducible assumption) (by with_reducible assumption) (by with_reducible assumption) (by with_reducible assumption))
local macro_rules | `(tactic| walk_at "call ref") => `(tactic| (k_here; (with_reducible show wpAny _ _ (call (Value.ref 84) _) _ _ _); k_dflt (refine' use round_ratio_m ?k1 ?k2 ?k3 ?k4 ?k5 ?kK ?kp ?kd ?ku ?_; (case k1 => k_asm); (case k2 => k_asm); (case k3 => k_asm); (case k4 => k_asm); (case k5 => k_asm); (case kK => first | exact rfl | assumption); (case kp => first | (with_reducible assumption) | (and_intros <;> with_reducible assumption) | omega); (case kd => ktr_room); (case ku => ktr_units)); intro x9 P9 t9 h9 tk9 F9 N9; (try subst P9); (try dsimp only); (try k_fold)))
theorem from_int_m {w : World} {mean : ExcName → Option Value} {mg mb : Str → Option Value} {n : Int} {tn : Tok} :
    Meet 4 w mean mg mb 98 (-9007199254740992 ≤ n ∧ n ≤ 9007199254740992) [.int n tn] (fun x : Int => 0 ≤ x ∧ x < 18446744073709551616 ∧ mag x < 9218868437227405312 ∧ toInt x = n ∧ lvalue x % unit = 0) (fun (x : Int) t => .int x t) := by
  constructor
  intro dp un gd cn cs a0 ccd cl outer A₀ base h₀ L m news s Q E B F X N T hk hp hd hu hret
  refine wpAny_call ?_
  (first | k_dflt cell_enter | fail "the def is not entered")
  k_steps
  all_goals first | (refine hret _ ?_ _ _ _ (by k_asm) (by first | k_asm | (refine' cb_drop ?cbN ?cbS; (case cbN => assumption); (case cbS => first | kcj_in | kcj_all))); clear hret) | (exfalso; clear hret; omega)
  all_goals first | (with_reducible exact from_neg hp (by with_reducible assumption)) | (with_reducible exact from_pos hp (by with_reducible assumption))
local macro_rules | `(tactic| walk_at "call ref") => `(tactic| (k_here; (with_reducible show wpAny _ _ (call (Value.ref 98) _) _ _ _); k_dflt (refine' use from_int_m ?k1 ?k2 ?k3 ?k4 ?k5 ?kK ?kp ?kd ?ku ?_; (case k1 => k_asm); (case k2 => k_asm); (case k3 => k_asm); (case k4 => k_asm); (case k5 => k_asm); (case kK => first | exact rfl | assumption); (case kp => first | (with_reducible assumption) | (and_intros <;> with_reducible assumption) | omega); (case kd => ktr_room); (case ku => ktr_units)); intro x9 P9 t9 h9 tk9 F9 N9; (try subst P9); (try dsimp only); (try k_fold)))
theorem made_whole_m {w : World} {mean : ExcName → Option Value} {mg mb : Str → Option Value} {b z: Int} {tb tz : Tok} :
    Meet 4 w mean mg mb 161 (0 ≤ b ∧ b < 18446744073709551616 ∧ 0 ≤ z ∧ z ≤ 9007199254740992) [.int b tb, .int z tz] (fun x : Int => x = fromSize (b / 9223372036854775808) z) (fun (x : Int) t => .int x t) := by
  constructor
  intro dp un gd cn cs a0 ccd cl outer A₀ base h₀ L m news s Q E B F X N T hk hp hd hu hret
  refine wpAny_call ?_
  (first | k_dflt cell_enter | fail "the def is not entered")
  k_steps
  all_goals first | (refine hret _ ?_ _ _ _ (by k_asm) (by first | k_asm | (refine' cb_drop ?cbN ?cbS; (case cbN => assumption); (case cbS => first | kcj_in | kcj_all))); clear hret) | (exfalso; clear hret; omega)
  all_goals exact rfl
local macro_rules | `(tactic| walk_at "call ref") => `(tactic| (k_here; (with_reducible show wpAny _ _ (call (Value.ref 161) _) _ _ _); k_dflt (refine' use made_whole_m ?k1 ?k2 ?k3 ?k4 ?k5 ?kK ?kp ?kd ?ku ?_; (case k1 => k_asm); (case k2 => k_asm); (case k3 => k_asm); (case k4 => k_asm); (case k5 => k_asm); (case kK => first | exact rfl | assumption); (case kp => first | (with_reducible assumption) | (and_intros <;> with_reducible assumption) | (refine ⟨by omega, by omega, ?_, ?_⟩ <;> first | omega | exact (shr_ok (by omega) (by omega)).1 | exact (shr_ok (by omega) (by omega)).2.1 | exact (shr_ok (by omega) (by omega)).2.2.1 | exact (shr_ok (by omega) (by omega)).2.2.2)); (case kd => ktr_room); (case ku => ktr_units)); intro x9 P9 t9 h9 tk9 F9 N9; (try subst P9); (try dsimp only); (try k_fold)))
theorem to_int_m {w : World} {mean : ExcName → Option Value} {mg mb : Str → Option Value} {n : Int} {tn : Tok} :
    Meet 3 w mean mg mb 105 (0 ≤ n ∧ n < 18446744073709551616 ∧ mag n < 9218868437227405312) [.int n tn] (fun x : Int => x = toInt n) (fun (x : Int) t => .int x t) := by
  constructor
  intro dp un gd cn cs a0 ccd cl outer A₀ base h₀ L m news s Q E B F X N T hk hp hd hu hret
  refine wpAny_call ?_
  (first | k_dflt cell_enter | fail "the def is not entered")
  k_steps
  all_goals first | (refine hret _ ?_ _ _ _ (by k_asm) (by first | k_asm | (refine' cb_drop ?cbN ?cbS; (case cbN => assumption); (case cbS => first | kcj_in | kcj_all))); clear hret) | (exfalso; clear hret; omega)
  all_goals (first | rw [sz_hi (by with_reducible assumption)] | rw [sz_lo (by with_reducible assumption)]) <;> first | (with_reducible exact toInt_n (by with_reducible assumption)) | (with_reducible exact toInt_p hp (by with_reducible assumption))
local macro_rules | `(tactic| walk_at "call ref") => `(tactic| (k_here; (with_reducible show wpAny _ _ (call (Value.ref 105) _) _ _ _); k_dflt (refine' use to_int_m ?k1 ?k2 ?k3 ?k4 ?k5 ?kK ?kp ?kd ?ku ?_; (case k1 => k_asm); (case k2 => k_asm); (case k3 => k_asm); (case k4 => k_asm); (case k5 => k_asm); (case kK => first | exact rfl | assumption); (case kp => first | (with_reducible assumption) | (and_intros <;> with_reducible assumption) | omega); (case kd => ktr_room); (case ku => ktr_units)); intro x9 P9 t9 h9 tk9 F9 N9; (try subst P9); (try dsimp only); (try k_fold)))
theorem to_int_none {w : World} {mean : ExcName → Option Value} {mg mb : Str → Option Value} {n : Int} {tn : Tok} :
    Meet 3 w mean mg mb 105 (0 ≤ n ∧ n < 18446744073709551616 ∧ 9218868437227405312 ≤ mag n) [.int n tn] (fun x : Unit => x = ()) (fun (x : Unit) t => .none) := by
  constructor
  intro dp un gd cn cs a0 ccd cl outer A₀ base h₀ L m news s Q E B F X N T hk hp hd hu hret
  refine wpAny_call ?_
  (first | k_dflt cell_enter | fail "the def is not entered")
  k_steps
  all_goals first | (refine hret () ?_ 0 _ _ (by k_asm) (by first | k_asm | (refine' cb_drop ?cbN ?cbS; (case cbN => assumption); (case cbS => first | kcj_in | kcj_all))); clear hret) | (exfalso; clear hret; omega)
  all_goals exact rfl
local macro_rules | `(tactic| walk_at "call ref") => `(tactic| (k_here; (with_reducible show wpAny _ _ (call (Value.ref 105) _) _ _ _); k_dflt (refine' use to_int_none ?k1 ?k2 ?k3 ?k4 ?k5 ?kK ?kp ?kd ?ku ?_; (case k1 => k_asm); (case k2 => k_asm); (case k3 => k_asm); (case k4 => k_asm); (case k5 => k_asm); (case kK => first | exact rfl | assumption); (case kp => first | (with_reducible assumption) | (and_intros <;> with_reducible assumption) | omega); (case kd => ktr_room); (case ku => ktr_units)); intro x9 P9 t9 h9 tk9 F9 N9; (try subst P9); (try dsimp only); (try k_fold)))
theorem is_whole_m {w : World} {mean : ExcName → Option Value} {mg mb : Str → Option Value} {n : Int} {tn : Tok} :
    Meet 3 w mean mg mb 112 (0 ≤ n ∧ n < 18446744073709551616 ∧ mag n < 9218868437227405312) [.int n tn] (fun x : Bool => x = decide (lvalue n % unit = 0)) (fun (x : Bool) t => .bool x) := by
  constructor
  intro dp un gd cn cs a0 ccd cl outer A₀ base h₀ L m news s Q E B F X N T hk hp hd hu hret
  refine wpAny_call ?_
  (first | k_dflt cell_enter | fail "the def is not entered")
  k_steps
  all_goals first | (refine hret _ ?_ 0 _ _ (by k_asm) (by first | k_asm | (refine' cb_drop ?cbN ?cbS; (case cbN => assumption); (case cbS => first | kcj_in | kcj_all))); clear hret) | (exfalso; clear hret; omega)
  all_goals first | (with_reducible exact wh_hi (by with_reducible assumption)) | (with_reducible exact wh_lo (by with_reducible assumption))
local macro_rules | `(tactic| walk_at "call ref") => `(tactic| (k_here; (with_reducible show wpAny _ _ (call (Value.ref 112) _) _ _ _); k_dflt (refine' use is_whole_m ?k1 ?k2 ?k3 ?k4 ?k5 ?kK ?kp ?kd ?ku ?_; (case k1 => k_asm); (case k2 => k_asm); (case k3 => k_asm); (case k4 => k_asm); (case k5 => k_asm); (case kK => first | exact rfl | assumption); (case kp => first | (with_reducible assumption) | (and_intros <;> with_reducible assumption) | omega); (case kd => ktr_room); (case ku => ktr_units)); intro x9 P9 t9 h9 tk9 F9 N9; (try subst P9); (try dsimp only); (try k_fold)))
theorem is_whole_f {w : World} {mean : ExcName → Option Value} {mg mb : Str → Option Value} {n : Int} {tn : Tok} :
    Meet 3 w mean mg mb 112 (0 ≤ n ∧ n < 18446744073709551616 ∧ 9218868437227405312 ≤ mag n) [.int n tn] (fun x : Bool => x = false) (fun (x : Bool) t => .bool x) := by
  constructor
  intro dp un gd cn cs a0 ccd cl outer A₀ base h₀ L m news s Q E B F X N T hk hp hd hu hret
  refine wpAny_call ?_
  (first | k_dflt cell_enter | fail "the def is not entered")
  k_steps
  all_goals first | (refine hret _ ?_ 0 _ _ (by k_asm) (by first | k_asm | (refine' cb_drop ?cbN ?cbS; (case cbN => assumption); (case cbS => first | kcj_in | kcj_all))); clear hret) | (exfalso; clear hret; omega)
  all_goals exact rfl
local macro_rules | `(tactic| walk_at "call ref") => `(tactic| (k_here; (with_reducible show wpAny _ _ (call (Value.ref 112) _) _ _ _); k_dflt (refine' use is_whole_f ?k1 ?k2 ?k3 ?k4 ?k5 ?kK ?kp ?kd ?ku ?_; (case k1 => k_asm); (case k2 => k_asm); (case k3 => k_asm); (case k4 => k_asm); (case k5 => k_asm); (case kK => first | exact rfl | assumption); (case kp => first | (with_reducible assumption) | (and_intros <;> with_reducible assumption) | omega); (case kd => ktr_room); (case ku => ktr_units)); intro x9 P9 t9 h9 tk9 F9 N9; (try subst P9); (try dsimp only); (try k_fold)))
theorem to_uint32_m {w : World} {mean : ExcName → Option Value} {mg mb : Str → Option Value} {n : Int} {tn : Tok} :
    Meet 4 w mean mg mb 133 (0 ≤ n ∧ n < 18446744073709551616 ∧ mag n < 9218868437227405312) [.int n tn] (fun x : Int => x = toInt n % 4294967296) (fun (x : Int) t => .int x t) := by
  constructor
  intro dp un gd cn cs a0 ccd cl outer A₀ base h₀ L m news s Q E B F X N T hk hp hd hu hret
  refine wpAny_call ?_
  (first | k_dflt cell_enter | fail "the def is not entered")
  k_steps
  all_goals first | (refine hret _ ?_ _ _ _ (by k_asm) (by first | k_asm | (refine' cb_drop ?cbN ?cbS; (case cbN => assumption); (case cbS => first | kcj_in | kcj_all))); clear hret) | (exfalso; clear hret; omega)
  all_goals exact rfl
local macro_rules | `(tactic| walk_at "call ref") => `(tactic| (k_here; (with_reducible show wpAny _ _ (call (Value.ref 133) _) _ _ _); k_dflt (refine' use to_uint32_m ?k1 ?k2 ?k3 ?k4 ?k5 ?kK ?kp ?kd ?ku ?_; (case k1 => k_asm); (case k2 => k_asm); (case k3 => k_asm); (case k4 => k_asm); (case k5 => k_asm); (case kK => first | exact rfl | assumption); (case kp => first | (with_reducible assumption) | (and_intros <;> with_reducible assumption) | omega); (case kd => ktr_room); (case ku => ktr_units)); intro x9 P9 t9 h9 tk9 F9 N9; (try subst P9); (try dsimp only); (try k_fold)))
theorem to_uint32_z {w : World} {mean : ExcName → Option Value} {mg mb : Str → Option Value} {n : Int} {tn : Tok} :
    Meet 4 w mean mg mb 133 (0 ≤ n ∧ n < 18446744073709551616 ∧ 9218868437227405312 ≤ mag n) [.int n tn] (fun x : Int => x = 0) (fun (x : Int) t => .int x t) := by
  constructor
  intro dp un gd cn cs a0 ccd cl outer A₀ base h₀ L m news s Q E B F X N T hk hp hd hu hret
  refine wpAny_call ?_
  (first | k_dflt cell_enter | fail "the def is not entered")
  k_steps
  all_goals first | (refine hret _ ?_ _ _ _ (by k_asm) (by first | k_asm | (refine' cb_drop ?cbN ?cbS; (case cbN => assumption); (case cbS => first | kcj_in | kcj_all))); clear hret) | (exfalso; clear hret; omega)
  all_goals exact rfl
local macro_rules | `(tactic| walk_at "call ref") => `(tactic| (k_here; (with_reducible show wpAny _ _ (call (Value.ref 133) _) _ _ _); k_dflt (refine' use to_uint32_z ?k1 ?k2 ?k3 ?k4 ?k5 ?kK ?kp ?kd ?ku ?_; (case k1 => k_asm); (case k2 => k_asm); (case k3 => k_asm); (case k4 => k_asm); (case k5 => k_asm); (case kK => first | exact rfl | assumption); (case kp => first | (with_reducible assumption) | (and_intros <;> with_reducible assumption) | omega); (case kd => ktr_room); (case ku => ktr_units)); intro x9 P9 t9 h9 tk9 F9 N9; (try subst P9); (try dsimp only); (try k_fold)))
theorem to_int32_m {w : World} {mean : ExcName → Option Value} {mg mb : Str → Option Value} {n : Int} {tn : Tok} :
    Meet 5 w mean mg mb 140 (0 ≤ n ∧ n < 18446744073709551616 ∧ mag n < 9218868437227405312) [.int n tn] (fun x : Int => x = (toInt n + 2147483648) % 4294967296 - 2147483648) (fun (x : Int) t => .int x t) := by
  constructor
  intro dp un gd cn cs a0 ccd cl outer A₀ base h₀ L m news s Q E B F X N T hk hp hd hu hret
  refine wpAny_call ?_
  (first | k_dflt cell_enter | fail "the def is not entered")
  k_steps
  all_goals first | (refine hret _ ?_ _ _ _ (by k_asm) (by first | k_asm | (refine' cb_drop ?cbN ?cbS; (case cbN => assumption); (case cbS => first | kcj_in | kcj_all))); clear hret) | (exfalso; clear hret; omega)
  all_goals omega
local macro_rules | `(tactic| walk_at "call ref") => `(tactic| (k_here; (with_reducible show wpAny _ _ (call (Value.ref 140) _) _ _ _); k_dflt (refine' use to_int32_m ?k1 ?k2 ?k3 ?k4 ?k5 ?kK ?kp ?kd ?ku ?_; (case k1 => k_asm); (case k2 => k_asm); (case k3 => k_asm); (case k4 => k_asm); (case k5 => k_asm); (case kK => first | exact rfl | assumption); (case kp => first | (with_reducible assumption) | (and_intros <;> with_reducible assumption) | omega); (case kd => ktr_room); (case ku => ktr_units)); intro x9 P9 t9 h9 tk9 F9 N9; (try subst P9); (try dsimp only); (try k_fold)))
theorem to_int32_z {w : World} {mean : ExcName → Option Value} {mg mb : Str → Option Value} {n : Int} {tn : Tok} :
    Meet 5 w mean mg mb 140 (0 ≤ n ∧ n < 18446744073709551616 ∧ 9218868437227405312 ≤ mag n) [.int n tn] (fun x : Int => x = 0) (fun (x : Int) t => .int x t) := by
  constructor
  intro dp un gd cn cs a0 ccd cl outer A₀ base h₀ L m news s Q E B F X N T hk hp hd hu hret
  refine wpAny_call ?_
  (first | k_dflt cell_enter | fail "the def is not entered")
  k_steps
  all_goals first | (refine hret _ ?_ _ _ _ (by k_asm) (by first | k_asm | (refine' cb_drop ?cbN ?cbS; (case cbN => assumption); (case cbS => first | kcj_in | kcj_all))); clear hret) | (exfalso; clear hret; omega)
  all_goals exact rfl
local macro_rules | `(tactic| walk_at "call ref") => `(tactic| (k_here; (with_reducible show wpAny _ _ (call (Value.ref 140) _) _ _ _); k_dflt (refine' use to_int32_z ?k1 ?k2 ?k3 ?k4 ?k5 ?kK ?kp ?kd ?ku ?_; (case k1 => k_asm); (case k2 => k_asm); (case k3 => k_asm); (case k4 => k_asm); (case k5 => k_asm); (case kK => first | exact rfl | assumption); (case kp => first | (with_reducible assumption) | (and_intros <;> with_reducible assumption) | omega); (case kd => ktr_room); (case ku => ktr_units)); intro x9 P9 t9 h9 tk9 F9 N9; (try subst P9); (try dsimp only); (try k_fold)))
theorem to_uint16_m {w : World} {mean : ExcName → Option Value} {mg mb : Str → Option Value} {n : Int} {tn : Tok} :
    Meet 4 w mean mg mb 147 (0 ≤ n ∧ n < 18446744073709551616 ∧ mag n < 9218868437227405312) [.int n tn] (fun x : Int => x = toInt n % 65536) (fun (x : Int) t => .int x t) := by
  constructor
  intro dp un gd cn cs a0 ccd cl outer A₀ base h₀ L m news s Q E B F X N T hk hp hd hu hret
  refine wpAny_call ?_
  (first | k_dflt cell_enter | fail "the def is not entered")
  k_steps
  all_goals first | (refine hret _ ?_ _ _ _ (by k_asm) (by first | k_asm | (refine' cb_drop ?cbN ?cbS; (case cbN => assumption); (case cbS => first | kcj_in | kcj_all))); clear hret) | (exfalso; clear hret; omega)
  all_goals exact rfl
local macro_rules | `(tactic| walk_at "call ref") => `(tactic| (k_here; (with_reducible show wpAny _ _ (call (Value.ref 147) _) _ _ _); k_dflt (refine' use to_uint16_m ?k1 ?k2 ?k3 ?k4 ?k5 ?kK ?kp ?kd ?ku ?_; (case k1 => k_asm); (case k2 => k_asm); (case k3 => k_asm); (case k4 => k_asm); (case k5 => k_asm); (case kK => first | exact rfl | assumption); (case kp => first | (with_reducible assumption) | (and_intros <;> with_reducible assumption) | omega); (case kd => ktr_room); (case ku => ktr_units)); intro x9 P9 t9 h9 tk9 F9 N9; (try subst P9); (try dsimp only); (try k_fold)))
theorem to_uint16_z {w : World} {mean : ExcName → Option Value} {mg mb : Str → Option Value} {n : Int} {tn : Tok} :
    Meet 4 w mean mg mb 147 (0 ≤ n ∧ n < 18446744073709551616 ∧ 9218868437227405312 ≤ mag n) [.int n tn] (fun x : Int => x = 0) (fun (x : Int) t => .int x t) := by
  constructor
  intro dp un gd cn cs a0 ccd cl outer A₀ base h₀ L m news s Q E B F X N T hk hp hd hu hret
  refine wpAny_call ?_
  (first | k_dflt cell_enter | fail "the def is not entered")
  k_steps
  all_goals first | (refine hret _ ?_ _ _ _ (by k_asm) (by first | k_asm | (refine' cb_drop ?cbN ?cbS; (case cbN => assumption); (case cbS => first | kcj_in | kcj_all))); clear hret) | (exfalso; clear hret; omega)
  all_goals exact rfl
local macro_rules | `(tactic| walk_at "call ref") => `(tactic| (k_here; (with_reducible show wpAny _ _ (call (Value.ref 147) _) _ _ _); k_dflt (refine' use to_uint16_z ?k1 ?k2 ?k3 ?k4 ?k5 ?kK ?kp ?kd ?ku ?_; (case k1 => k_asm); (case k2 => k_asm); (case k3 => k_asm); (case k4 => k_asm); (case k5 => k_asm); (case kK => first | exact rfl | assumption); (case kp => first | (with_reducible assumption) | (and_intros <;> with_reducible assumption) | omega); (case kd => ktr_room); (case ku => ktr_units)); intro x9 P9 t9 h9 tk9 F9 N9; (try subst P9); (try dsimp only); (try k_fold)))
theorem split_m {w : World} {mean : ExcName → Option Value} {mg mb : Str → Option Value} {n : Int} {tn : Tok} :
    MeetT 2 w mean mg mb 154 (0 ≤ n ∧ n < 18446744073709551616) [.int n tn] (fun x y z : Int => x = lsize n / unit ∧ (0 ≤ y ∧ y < 9007199254740992) ∧ (y = 0 ↔ lvalue n % unit = 0) ∧ (z < 2 * y ↔ unit < 2 * (lsize n % unit)) ∧ (2 * y = z ↔ 2 * (lsize n % unit) = unit) ∧ (lvalue n % unit ≠ 0 → 0 ≤ lsize n / unit ∧ lsize n / unit < 9007199254740992)) := by
  constructor
  intro dp un gd cn cs a0 ccd cl outer A₀ base h₀ L m news s Q E B F X N T hk hp hd hu hret
  refine wpAny_call ?_
  (first | k_dflt cell_enter | fail "the def is not entered")
  k_steps
  all_goals ((rename News _ _ _ _ => N9); (refine hret _ _ _ ?_ _ _ _ _ _ _ _ (by k_asm) (by exact tup_drop N9)); clear hret)
  all_goals first | (with_reducible exact split_hi (by with_reducible assumption)) | (with_reducible exact split_lo (by with_reducible assumption))
local macro_rules | `(tactic| walk_at "call ref") => `(tactic| (k_here; (with_reducible show wpAny _ _ (call (Value.ref 154) _) _ _ _); k_dflt (refine' useT split_m ?k1 ?k2 ?k3 ?k4 ?k5 ?kK ?kp ?kd ?ku ?_; (case k1 => k_asm); (case k2 => k_asm); (case k3 => k_asm); (case k4 => k_asm); (case k5 => k_asm); (case kK => first | exact rfl | assumption); (case kp => first | (with_reducible assumption) | (and_intros <;> with_reducible assumption) | omega); (case kd => ktr_room); (case ku => ktr_units)); intro x9 y9 z9 P9 t9 u9 v9 a9 n9 h9 tk9 F9 N9; (obtain ⟨e91, r91, r92, r93, r94, r95⟩ := P9; subst e91); (try dsimp only); (try k_fold)))
theorem is_settled_m {w : World} {mean : ExcName → Option Value} {mg mb : Str → Option Value} {n : Int} {tn : Tok} :
    Meet 4 w mean mg mb 168 (0 ≤ n ∧ n < 18446744073709551616) [.int n tn] (fun x : Bool => x = decide (9218868437227405312 ≤ mag n ∨ lvalue n % unit = 0)) (fun (x : Bool) t => .bool x) := by
  constructor
  intro dp un gd cn cs a0 ccd cl outer A₀ base h₀ L m news s Q E B F X N T hk hp hd hu hret
  refine wpAny_call ?_
  (first | k_dflt cell_enter | fail "the def is not entered")
  k_steps
  all_goals first | (refine hret _ ?_ 0 _ _ (by k_asm) (by first | k_asm | (refine' cb_drop ?cbN ?cbS; (case cbN => assumption); (case cbS => first | kcj_in | kcj_all))); clear hret) | (exfalso; clear hret; omega)
  all_goals first | (with_reducible exact st_a (by with_reducible assumption)) | (with_reducible exact st_b (by with_reducible assumption)) | (with_reducible exact st_c (by with_reducible assumption) (by with_reducible assumption))
local macro_rules | `(tactic| walk_at "call ref") => `(tactic| (k_here; (with_reducible show wpAny _ _ (call (Value.ref 168) _) _ _ _); k_dflt (refine' use is_settled_m ?k1 ?k2 ?k3 ?k4 ?k5 ?kK ?kp ?kd ?ku ?_; (case k1 => k_asm); (case k2 => k_asm); (case k3 => k_asm); (case k4 => k_asm); (case k5 => k_asm); (case kK => first | exact rfl | assumption); (case kp => first | (with_reducible assumption) | (and_intros <;> with_reducible assumption) | omega); (case kd => ktr_room); (case ku => ktr_units)); intro x9 P9 t9 h9 tk9 F9 N9; (try subst P9); (try dsimp only); (try k_fold)))
theorem to_integer_m {w : World} {mean : ExcName → Option Value} {mg mb : Str → Option Value} {n : Int} {tn : Tok} :
    Meet 5 w mean mg mb 175 (0 ≤ n ∧ n < 18446744073709551616 ∧ mag n < 9218868437227405312) [.int n tn] (fun x : Int => 0 ≤ x ∧ x < 18446744073709551616 ∧ Here x (toInt n) n) (fun (x : Int) t => .int x t) := by
  constructor
  intro dp un gd cn cs a0 ccd cl outer A₀ base h₀ L m news s Q E B F X N T hk hp hd hu hret
  refine wpAny_call ?_
  (first | k_dflt cell_enter | fail "the def is not entered")
  k_steps
  all_goals first | (refine hret _ ?_ _ _ _ (by k_asm) (by first | k_asm | (refine' cb_drop ?cbN ?cbS; (case cbN => assumption); (case cbS => first | kcj_in | kcj_all))); clear hret) | (exfalso; clear hret; omega)
  all_goals first | (with_reducible exact toI_self hp (set_of (by with_reducible assumption))) | (with_reducible exact toI_end hp (ns_of (by with_reducible assumption)))
local macro_rules | `(tactic| walk_at "call ref") => `(tactic| (k_here; (with_reducible show wpAny _ _ (call (Value.ref 175) _) _ _ _); k_dflt (refine' use to_integer_m ?k1 ?k2 ?k3 ?k4 ?k5 ?kK ?kp ?kd ?ku ?_; (case k1 => k_asm); (case k2 => k_asm); (case k3 => k_asm); (case k4 => k_asm); (case k5 => k_asm); (case kK => first | exact rfl | assumption); (case kp => first | (with_reducible assumption) | (and_intros <;> with_reducible assumption) | omega); (case kd => ktr_room); (case ku => ktr_units)); intro x9 P9 t9 h9 tk9 F9 N9; (obtain ⟨p91, p92, p93⟩ := P9); (try dsimp only); (try k_fold)))
theorem to_integer_z {w : World} {mean : ExcName → Option Value} {mg mb : Str → Option Value} {n : Int} {tn : Tok} :
    Meet 5 w mean mg mb 175 (0 ≤ n ∧ n < 18446744073709551616 ∧ 9218868437227405312 ≤ mag n) [.int n tn] (fun x : Int => (9218868437227405312 < mag n → x = 0) ∧ (mag n = 9218868437227405312 → x = n)) (fun (x : Int) t => .int x t) := by
  constructor
  intro dp un gd cn cs a0 ccd cl outer A₀ base h₀ L m news s Q E B F X N T hk hp hd hu hret
  refine wpAny_call ?_
  (first | k_dflt cell_enter | fail "the def is not entered")
  k_steps
  all_goals first | (refine hret _ ?_ _ _ _ (by k_asm) (by first | k_asm | (refine' cb_drop ?cbN ?cbS; (case cbN => assumption); (case cbS => first | kcj_in | kcj_all))); clear hret) | (exfalso; clear hret; omega)
  all_goals omega
local macro_rules | `(tactic| walk_at "call ref") => `(tactic| (k_here; (with_reducible show wpAny _ _ (call (Value.ref 175) _) _ _ _); k_dflt (refine' use to_integer_z ?k1 ?k2 ?k3 ?k4 ?k5 ?kK ?kp ?kd ?ku ?_; (case k1 => k_asm); (case k2 => k_asm); (case k3 => k_asm); (case k4 => k_asm); (case k5 => k_asm); (case kK => first | exact rfl | assumption); (case kp => first | (with_reducible assumption) | (and_intros <;> with_reducible assumption) | omega); (case kd => ktr_room); (case ku => ktr_units)); intro x9 P9 t9 h9 tk9 F9 N9; (try subst P9); (try dsimp only); (try k_fold)))
theorem floor_m {w : World} {mean : ExcName → Option Value} {mg mb : Str → Option Value} {n : Int} {tn : Tok} :
    Meet 5 w mean mg mb 182 (0 ≤ n ∧ n < 18446744073709551616 ∧ mag n < 9218868437227405312) [.int n tn] (fun x : Int => 0 ≤ x ∧ x < 18446744073709551616 ∧ Here x (lvalue n / unit) n) (fun (x : Int) t => .int x t) := by
  constructor
  intro dp un gd cn cs a0 ccd cl outer A₀ base h₀ L m news s Q E B F X N T hk hp hd hu hret
  refine wpAny_call ?_
  (first | k_dflt cell_enter | fail "the def is not entered")
  k_steps
  all_goals first | (refine hret _ ?_ _ _ _ (by k_asm) (by first | k_asm | (refine' cb_drop ?cbN ?cbS; (case cbN => assumption); (case cbS => first | kcj_in | kcj_all))); clear hret) | (exfalso; clear hret; omega)
  all_goals first | (with_reducible exact floor_self hp (set_of (by with_reducible assumption))) | (with_reducible exact floor_neg hp (ns_of (by with_reducible assumption)) (by with_reducible assumption)) | (with_reducible exact floor_pos hp (ns_of (by with_reducible assumption)) (by with_reducible assumption))
local macro_rules | `(tactic| walk_at "call ref") => `(tactic| (k_here; (with_reducible show wpAny _ _ (call (Value.ref 182) _) _ _ _); k_dflt (refine' use floor_m ?k1 ?k2 ?k3 ?k4 ?k5 ?kK ?kp ?kd ?ku ?_; (case k1 => k_asm); (case k2 => k_asm); (case k3 => k_asm); (case k4 => k_asm); (case k5 => k_asm); (case kK => first | exact rfl | assumption); (case kp => first | (with_reducible assumption) | (and_intros <;> with_reducible assumption) | omega); (case kd => ktr_room); (case ku => ktr_units)); intro x9 P9 t9 h9 tk9 F9 N9; (obtain ⟨p91, p92, p93⟩ := P9); (try dsimp only); (try k_fold)))
theorem floor_z {w : World} {mean : ExcName → Option Value} {mg mb : Str → Option Value} {n : Int} {tn : Tok} :
    Meet 5 w mean mg mb 182 (0 ≤ n ∧ n < 18446744073709551616 ∧ 9218868437227405312 ≤ mag n) [.int n tn] (fun x : Int => x = n) (fun (x : Int) t => .int x t) := by
  constructor
  intro dp un gd cn cs a0 ccd cl outer A₀ base h₀ L m news s Q E B F X N T hk hp hd hu hret
  refine wpAny_call ?_
  (first | k_dflt cell_enter | fail "the def is not entered")
  k_steps
  all_goals first | (refine hret _ ?_ _ _ _ (by k_asm) (by first | k_asm | (refine' cb_drop ?cbN ?cbS; (case cbN => assumption); (case cbS => first | kcj_in | kcj_all))); clear hret) | (exfalso; clear hret; omega)
  all_goals exact rfl
local macro_rules | `(tactic| walk_at "call ref") => `(tactic| (k_here; (with_reducible show wpAny _ _ (call (Value.ref 182) _) _ _ _); k_dflt (refine' use floor_z ?k1 ?k2 ?k3 ?k4 ?k5 ?kK ?kp ?kd ?ku ?_; (case k1 => k_asm); (case k2 => k_asm); (case k3 => k_asm); (case k4 => k_asm); (case k5 => k_asm); (case kK => first | exact rfl | assumption); (case kp => first | (with_reducible assumption) | (and_intros <;> with_reducible assumption) | omega); (case kd => ktr_room); (case ku => ktr_units)); intro x9 P9 t9 h9 tk9 F9 N9; (try subst P9); (try dsimp only); (try k_fold)))
theorem ceil_m {w : World} {mean : ExcName → Option Value} {mg mb : Str → Option Value} {n : Int} {tn : Tok} :
    Meet 5 w mean mg mb 189 (0 ≤ n ∧ n < 18446744073709551616 ∧ mag n < 9218868437227405312) [.int n tn] (fun x : Int => 0 ≤ x ∧ x < 18446744073709551616 ∧ Here x (-(-lvalue n / unit)) n) (fun (x : Int) t => .int x t) := by
  constructor
  intro dp un gd cn cs a0 ccd cl outer A₀ base h₀ L m news s Q E B F X N T hk hp hd hu hret
  refine wpAny_call ?_
  (first | k_dflt cell_enter | fail "the def is not entered")
  k_steps
  all_goals first | (refine hret _ ?_ _ _ _ (by k_asm) (by first | k_asm | (refine' cb_drop ?cbN ?cbS; (case cbN => assumption); (case cbS => first | kcj_in | kcj_all))); clear hret) | (exfalso; clear hret; omega)
  all_goals first | (with_reducible exact ceil_self hp (set_of (by with_reducible assumption))) | (with_reducible exact ceil_neg hp (ns_of (by with_reducible assumption)) (by with_reducible assumption)) | (with_reducible exact ceil_pos hp (ns_of (by with_reducible assumption)) (by with_reducible assumption))
local macro_rules | `(tactic| walk_at "call ref") => `(tactic| (k_here; (with_reducible show wpAny _ _ (call (Value.ref 189) _) _ _ _); k_dflt (refine' use ceil_m ?k1 ?k2 ?k3 ?k4 ?k5 ?kK ?kp ?kd ?ku ?_; (case k1 => k_asm); (case k2 => k_asm); (case k3 => k_asm); (case k4 => k_asm); (case k5 => k_asm); (case kK => first | exact rfl | assumption); (case kp => first | (with_reducible assumption) | (and_intros <;> with_reducible assumption) | omega); (case kd => ktr_room); (case ku => ktr_units)); intro x9 P9 t9 h9 tk9 F9 N9; (obtain ⟨p91, p92, p93⟩ := P9); (try dsimp only); (try k_fold)))
theorem ceil_z {w : World} {mean : ExcName → Option Value} {mg mb : Str → Option Value} {n : Int} {tn : Tok} :
    Meet 5 w mean mg mb 189 (0 ≤ n ∧ n < 18446744073709551616 ∧ 9218868437227405312 ≤ mag n) [.int n tn] (fun x : Int => x = n) (fun (x : Int) t => .int x t) := by
  constructor
  intro dp un gd cn cs a0 ccd cl outer A₀ base h₀ L m news s Q E B F X N T hk hp hd hu hret
  refine wpAny_call ?_
  (first | k_dflt cell_enter | fail "the def is not entered")
  k_steps
  all_goals first | (refine hret _ ?_ _ _ _ (by k_asm) (by first | k_asm | (refine' cb_drop ?cbN ?cbS; (case cbN => assumption); (case cbS => first | kcj_in | kcj_all))); clear hret) | (exfalso; clear hret; omega)
  all_goals exact rfl
local macro_rules | `(tactic| walk_at "call ref") => `(tactic| (k_here; (with_reducible show wpAny _ _ (call (Value.ref 189) _) _ _ _); k_dflt (refine' use ceil_z ?k1 ?k2 ?k3 ?k4 ?k5 ?kK ?kp ?kd ?ku ?_; (case k1 => k_asm); (case k2 => k_asm); (case k3 => k_asm); (case k4 => k_asm); (case k5 => k_asm); (case kK => first | exact rfl | assumption); (case kp => first | (with_reducible assumption) | (and_intros <;> with_reducible assumption) | omega); (case kd => ktr_room); (case ku => ktr_units)); intro x9 P9 t9 h9 tk9 F9 N9; (try subst P9); (try dsimp only); (try k_fold)))
theorem half_m {w : World} {mean : ExcName → Option Value} {mg mb : Str → Option Value} {n : Int} {tn : Tok} :
    Meet 5 w mean mg mb 196 (0 ≤ n ∧ n < 18446744073709551616 ∧ mag n < 9218868437227405312) [.int n tn] (fun x : Int => 0 ≤ x ∧ x < 18446744073709551616 ∧ Here x ((2 * lvalue n + unit) / (2 * unit)) n) (fun (x : Int) t => .int x t) := by
  constructor
  intro dp un gd cn cs a0 ccd cl outer A₀ base h₀ L m news s Q E B F X N T hk hp hd hu hret
  refine wpAny_call ?_
  (first | k_dflt cell_enter | fail "the def is not entered")
  k_steps
  all_goals first | (refine hret _ ?_ _ _ _ (by k_asm) (by first | k_asm | (refine' cb_drop ?cbN ?cbS; (case cbN => assumption); (case cbS => first | kcj_in | kcj_all))); clear hret) | (exfalso; clear hret; omega)
  all_goals first | (with_reducible exact half_self hp (set_of (by with_reducible assumption))) | (with_reducible exact half_up hp (ns_of (by with_reducible assumption)) (.inl (Iff.mp (by with_reducible assumption) (by with_reducible assumption)))) | (with_reducible exact half_up hp (ns_of (by with_reducible assumption)) (.inr ⟨Iff.mp (by with_reducible assumption) (by with_reducible assumption), (by with_reducible assumption)⟩)) | (with_reducible exact half_stay hp (ns_of (by with_reducible assumption)) (.inr ⟨Iff.mp (by with_reducible assumption) (by with_reducible assumption), (by with_reducible assumption)⟩)) | (with_reducible exact half_stay hp (ns_of (by with_reducible assumption)) (.inl (hs_lt (by with_reducible assumption) (by with_reducible assumption) (by with_reducible assumption) (by with_reducible assumption))))
local macro_rules | `(tactic| walk_at "call ref") => `(tactic| (k_here; (with_reducible show wpAny _ _ (call (Value.ref 196) _) _ _ _); k_dflt (refine' use half_m ?k1 ?k2 ?k3 ?k4 ?k5 ?kK ?kp ?kd ?ku ?_; (case k1 => k_asm); (case k2 => k_asm); (case k3 => k_asm); (case k4 => k_asm); (case k5 => k_asm); (case kK => first | exact rfl | assumption); (case kp => first | (with_reducible assumption) | (and_intros <;> with_reducible assumption) | omega); (case kd => ktr_room); (case ku => ktr_units)); intro x9 P9 t9 h9 tk9 F9 N9; (obtain ⟨p91, p92, p93⟩ := P9); (try dsimp only); (try k_fold)))
theorem half_z {w : World} {mean : ExcName → Option Value} {mg mb : Str → Option Value} {n : Int} {tn : Tok} :
    Meet 5 w mean mg mb 196 (0 ≤ n ∧ n < 18446744073709551616 ∧ 9218868437227405312 ≤ mag n) [.int n tn] (fun x : Int => x = n) (fun (x : Int) t => .int x t) := by
  constructor
  intro dp un gd cn cs a0 ccd cl outer A₀ base h₀ L m news s Q E B F X N T hk hp hd hu hret
  refine wpAny_call ?_
  (first | k_dflt cell_enter | fail "the def is not entered")
  k_steps
  all_goals first | (refine hret _ ?_ _ _ _ (by k_asm) (by first | k_asm | (refine' cb_drop ?cbN ?cbS; (case cbN => assumption); (case cbS => first | kcj_in | kcj_all))); clear hret) | (exfalso; clear hret; omega)
  all_goals exact rfl
local macro_rules | `(tactic| walk_at "call ref") => `(tactic| (k_here; (with_reducible show wpAny _ _ (call (Value.ref 196) _) _ _ _); k_dflt (refine' use half_z ?k1 ?k2 ?k3 ?k4 ?k5 ?kK ?kp ?kd ?ku ?_; (case k1 => k_asm); (case k2 => k_asm); (case k3 => k_asm); (case k4 => k_asm); (case k5 => k_asm); (case kK => first | exact rfl | assumption); (case kp => first | (with_reducible assumption) | (and_intros <;> with_reducible assumption) | omega); (case kd => ktr_room); (case ku => ktr_units)); intro x9 P9 t9 h9 tk9 F9 N9; (try subst P9); (try dsimp only); (try k_fold)))
theorem compare_m {w : World} {mean : ExcName → Option Value} {mg mb : Str → Option Value} {a b : Int} {ta tb : Tok} :
    Meet 3 w mean mg mb 126 (0 ≤ a ∧ a < 18446744073709551616 ∧ 0 ≤ b ∧ b < 18446744073709551616 ∧ mag a ≤ 9218868437227405312 ∧ mag b ≤ 9218868437227405312) [.int a ta, .int b tb] (fun x : Int => (lvalue a < lvalue b → x = -1) ∧ (lvalue a = lvalue b → x = 0) ∧ (lvalue b < lvalue a → x = 1)) (fun (x : Int) t => .int x t) := by
  constructor
  intro dp un gd cn cs a0 ccd cl outer A₀ base h₀ L m news s Q E B F X N T hk hp hd hu hret
  refine wpAny_call ?_
  (first | k_dflt cell_enter | fail "the def is not entered")
  k_steps
  all_goals first | (refine hret _ ?_ _ _ _ (by k_asm) (by first | k_asm | (refine' cb_drop ?cbN ?cbS; (case cbN => assumption); (case cbS => first | kcj_in | kcj_all))); clear hret) | (exfalso; clear hret; omega)
  all_goals (have q9 := cmp_end (a := a) (b := b) hp (by with_reducible assumption) (by with_reducible assumption); clear hp; omega)
local macro_rules | `(tactic| walk_at "call ref") => `(tactic| (k_here; (with_reducible show wpAny _ _ (call (Value.ref 126) _) _ _ _); k_dflt (refine' use compare_m ?k1 ?k2 ?k3 ?k4 ?k5 ?kK ?kp ?kd ?ku ?_; (case k1 => k_asm); (case k2 => k_asm); (case k3 => k_asm); (case k4 => k_asm); (case k5 => k_asm); (case kK => first | exact rfl | assumption); (case kp => first | (with_reducible assumption) | (and_intros <;> with_reducible assumption) | omega); (case kd => ktr_room); (case ku => ktr_units)); intro x9 P9 t9 h9 tk9 F9 N9; (try subst P9); (try dsimp only); (try k_fold)))
theorem compare_none {w : World} {mean : ExcName → Option Value} {mg mb : Str → Option Value} {a b : Int} {ta tb : Tok} :
    Meet 3 w mean mg mb 126 (0 ≤ a ∧ a < 18446744073709551616 ∧ 0 ≤ b ∧ b < 18446744073709551616 ∧ (9218868437227405312 < mag a ∨ 9218868437227405312 < mag b)) [.int a ta, .int b tb] (fun x : Unit => x = ()) (fun (x : Unit) t => .none) := by
  constructor
  intro dp un gd cn cs a0 ccd cl outer A₀ base h₀ L m news s Q E B F X N T hk hp hd hu hret
  refine wpAny_call ?_
  (first | k_dflt cell_enter | fail "the def is not entered")
  k_steps
  all_goals first | (refine hret () ?_ 0 _ _ (by k_asm) (by first | k_asm | (refine' cb_drop ?cbN ?cbS; (case cbN => assumption); (case cbS => first | kcj_in | kcj_all))); clear hret) | (exfalso; clear hret; omega)
  all_goals exact rfl
local macro_rules | `(tactic| walk_at "call ref") => `(tactic| (k_here; (with_reducible show wpAny _ _ (call (Value.ref 126) _) _ _ _); k_dflt (refine' use compare_none ?k1 ?k2 ?k3 ?k4 ?k5 ?kK ?kp ?kd ?ku ?_; (case k1 => k_asm); (case k2 => k_asm); (case k3 => k_asm); (case k4 => k_asm); (case k5 => k_asm); (case kK => first | exact rfl | assumption); (case kp => first | (with_reducible assumption) | (and_intros <;> with_reducible assumption) | omega); (case kd => ktr_room); (case ku => ktr_units)); intro x9 P9 t9 h9 tk9 F9 N9; (try subst P9); (try dsimp only); (try k_fold)))
theorem min_of_m {w : World} {mean : ExcName → Option Value} {mg mb : Str → Option Value} {a b : Int} {ta tb : Tok} :
    Meet 4 w mean mg mb 203 (0 ≤ a ∧ a < 18446744073709551616 ∧ 0 ≤ b ∧ b < 18446744073709551616 ∧ mag a ≤ 9218868437227405312 ∧ mag b ≤ 9218868437227405312) [.int a ta, .int b tb] (fun x : Int => (lvalue a < lvalue b → x = a) ∧ (lvalue a = lvalue b → x = max a b) ∧ (lvalue b < lvalue a → x = b)) (fun (x : Int) t => .int x t) := by
  constructor
  intro dp un gd cn cs a0 ccd cl outer A₀ base h₀ L m news s Q E B F X N T hk hp hd hu hret
  refine wpAny_call ?_
  (first | k_dflt cell_enter | fail "the def is not entered")
  k_steps
  all_goals first | (refine hret _ ?_ _ _ _ (by k_asm) (by first | k_asm | (refine' cb_drop ?cbN ?cbS; (case cbN => assumption); (case cbS => first | kcj_in | kcj_all))); clear hret) | (exfalso; clear hret; omega)
  all_goals first | (with_reducible exact min_zz hp (by with_reducible assumption) (by with_reducible assumption)) | (have q9 := inj_end hp; omega)
local macro_rules | `(tactic| walk_at "call ref") => `(tactic| (k_here; (with_reducible show wpAny _ _ (call (Value.ref 203) _) _ _ _); k_dflt (refine' use min_of_m ?k1 ?k2 ?k3 ?k4 ?k5 ?kK ?kp ?kd ?ku ?_; (case k1 => k_asm); (case k2 => k_asm); (case k3 => k_asm); (case k4 => k_asm); (case k5 => k_asm); (case kK => first | exact rfl | assumption); (case kp => first | (with_reducible assumption) | (and_intros <;> with_reducible assumption) | omega); (case kd => ktr_room); (case ku => ktr_units)); intro x9 P9 t9 h9 tk9 F9 N9; (try subst P9); (try dsimp only); (try k_fold)))
theorem min_of_n {w : World} {mean : ExcName → Option Value} {mg mb : Str → Option Value} {a b : Int} {ta tb : Tok} :
    Meet 4 w mean mg mb 203 (0 ≤ a ∧ a < 18446744073709551616 ∧ 0 ≤ b ∧ b < 18446744073709551616 ∧ (9218868437227405312 < mag a ∨ 9218868437227405312 < mag b)) [.int a ta, .int b tb] (fun x : Int => x = 9221120237041090560) (fun (x : Int) t => .int x t) := by
  constructor
  intro dp un gd cn cs a0 ccd cl outer A₀ base h₀ L m news s Q E B F X N T hk hp hd hu hret
  refine wpAny_call ?_
  (first | k_dflt cell_enter | fail "the def is not entered")
  k_steps
  all_goals first | (refine hret _ ?_ _ _ _ (by k_asm) (by first | k_asm | (refine' cb_drop ?cbN ?cbS; (case cbN => assumption); (case cbS => first | kcj_in | kcj_all))); clear hret) | (exfalso; clear hret; omega)
  all_goals exact rfl
local macro_rules | `(tactic| walk_at "call ref") => `(tactic| (k_here; (with_reducible show wpAny _ _ (call (Value.ref 203) _) _ _ _); k_dflt (refine' use min_of_n ?k1 ?k2 ?k3 ?k4 ?k5 ?kK ?kp ?kd ?ku ?_; (case k1 => k_asm); (case k2 => k_asm); (case k3 => k_asm); (case k4 => k_asm); (case k5 => k_asm); (case kK => first | exact rfl | assumption); (case kp => first | (with_reducible assumption) | (and_intros <;> with_reducible assumption) | omega); (case kd => ktr_room); (case ku => ktr_units)); intro x9 P9 t9 h9 tk9 F9 N9; (try subst P9); (try dsimp only); (try k_fold)))
theorem max_of_m {w : World} {mean : ExcName → Option Value} {mg mb : Str → Option Value} {a b : Int} {ta tb : Tok} :
    Meet 4 w mean mg mb 210 (0 ≤ a ∧ a < 18446744073709551616 ∧ 0 ≤ b ∧ b < 18446744073709551616 ∧ mag a ≤ 9218868437227405312 ∧ mag b ≤ 9218868437227405312) [.int a ta, .int b tb] (fun x : Int => (lvalue a < lvalue b → x = b) ∧ (lvalue a = lvalue b → x = min a b) ∧ (lvalue b < lvalue a → x = a)) (fun (x : Int) t => .int x t) := by
  constructor
  intro dp un gd cn cs a0 ccd cl outer A₀ base h₀ L m news s Q E B F X N T hk hp hd hu hret
  refine wpAny_call ?_
  (first | k_dflt cell_enter | fail "the def is not entered")
  k_steps
  all_goals first | (refine hret _ ?_ _ _ _ (by k_asm) (by first | k_asm | (refine' cb_drop ?cbN ?cbS; (case cbN => assumption); (case cbS => first | kcj_in | kcj_all))); clear hret) | (exfalso; clear hret; omega)
  all_goals first | (with_reducible exact max_zz hp (by with_reducible assumption) (by with_reducible assumption)) | (have q9 := inj_end hp; omega)
local macro_rules | `(tactic| walk_at "call ref") => `(tactic| (k_here; (with_reducible show wpAny _ _ (call (Value.ref 210) _) _ _ _); k_dflt (refine' use max_of_m ?k1 ?k2 ?k3 ?k4 ?k5 ?kK ?kp ?kd ?ku ?_; (case k1 => k_asm); (case k2 => k_asm); (case k3 => k_asm); (case k4 => k_asm); (case k5 => k_asm); (case kK => first | exact rfl | assumption); (case kp => first | (with_reducible assumption) | (and_intros <;> with_reducible assumption) | omega); (case kd => ktr_room); (case ku => ktr_units)); intro x9 P9 t9 h9 tk9 F9 N9; (try subst P9); (try dsimp only); (try k_fold)))
theorem max_of_n {w : World} {mean : ExcName → Option Value} {mg mb : Str → Option Value} {a b : Int} {ta tb : Tok} :
    Meet 4 w mean mg mb 210 (0 ≤ a ∧ a < 18446744073709551616 ∧ 0 ≤ b ∧ b < 18446744073709551616 ∧ (9218868437227405312 < mag a ∨ 9218868437227405312 < mag b)) [.int a ta, .int b tb] (fun x : Int => x = 9221120237041090560) (fun (x : Int) t => .int x t) := by
  constructor
  intro dp un gd cn cs a0 ccd cl outer A₀ base h₀ L m news s Q E B F X N T hk hp hd hu hret
  refine wpAny_call ?_
  (first | k_dflt cell_enter | fail "the def is not entered")
  k_steps
  all_goals first | (refine hret _ ?_ _ _ _ (by k_asm) (by first | k_asm | (refine' cb_drop ?cbN ?cbS; (case cbN => assumption); (case cbS => first | kcj_in | kcj_all))); clear hret) | (exfalso; clear hret; omega)
  all_goals exact rfl
local macro_rules | `(tactic| walk_at "call ref") => `(tactic| (k_here; (with_reducible show wpAny _ _ (call (Value.ref 210) _) _ _ _); k_dflt (refine' use max_of_n ?k1 ?k2 ?k3 ?k4 ?k5 ?kK ?kp ?kd ?ku ?_; (case k1 => k_asm); (case k2 => k_asm); (case k3 => k_asm); (case k4 => k_asm); (case k5 => k_asm); (case kK => first | exact rfl | assumption); (case kp => first | (with_reducible assumption) | (and_intros <;> with_reducible assumption) | omega); (case kd => ktr_room); (case ku => ktr_units)); intro x9 P9 t9 h9 tk9 F9 N9; (try subst P9); (try dsimp only); (try k_fold)))
theorem order_right_n {w : World} {mean : ExcName → Option Value} {mg mb : Str → Option Value} {a b : Int} {ta tb : Tok} :
    Meet 20 w mean mg mb 259 (0 ≤ a ∧ a < 18446744073709551616 ∧ 0 ≤ b ∧ b < 18446744073709551616 ∧ (9218868437227405312 < mag a ∨ 9218868437227405312 < mag b)) [.int a ta, .int b tb] (fun x : Bool => x = true) (fun (x : Bool) t => .bool x) := by
  constructor
  intro dp un gd cn cs a0 ccd cl outer A₀ base h₀ L m news s Q E B F X N T hk hp hd hu hret
  refine wpAny_call ?_
  (first | k_dflt cell_enter | fail "the def is not entered")
  k_steps
  all_goals first | (refine hret _ ?_ 0 _ _ (by k_asm) (by first | k_asm | (refine' cb_drop ?cbN ?cbS; (case cbN => assumption); (case cbS => first | kcj_in | kcj_all))); clear hret) | (exfalso; clear hret; omega)
  all_goals first | exact rfl | (exfalso; omega)
local macro_rules | `(tactic| walk_at "call ref") => `(tactic| (k_here; (with_reducible show wpAny _ _ (call (Value.ref 259) _) _ _ _); k_dflt (refine' use order_right_n ?k1 ?k2 ?k3 ?k4 ?k5 ?kK ?kp ?kd ?ku ?_; (case k1 => k_asm); (case k2 => k_asm); (case k3 => k_asm); (case k4 => k_asm); (case k5 => k_asm); (case kK => first | exact rfl | assumption); (case kp => first | (with_reducible assumption) | (and_intros <;> with_reducible assumption) | omega); (case kd => ktr_room); (case ku => ktr_units)); intro x9 P9 t9 h9 tk9 F9 N9; (try subst P9); (try dsimp only); (try k_fold)))
theorem order_right_m {w : World} {mean : ExcName → Option Value} {mg mb : Str → Option Value} {a b : Int} {ta tb : Tok} :
    Meet 20 w mean mg mb 259 (0 ≤ a ∧ a < 18446744073709551616 ∧ 0 ≤ b ∧ b < 18446744073709551616 ∧ mag a ≤ 9218868437227405312 ∧ mag b ≤ 9218868437227405312) [.int a ta, .int b tb] (fun x : Bool => x = true) (fun (x : Bool) t => .bool x) := by
  constructor
  intro dp un gd cn cs a0 ccd cl outer A₀ base h₀ L m news s Q E B F X N T hk hp hd hu hret
  refine wpAny_call ?_
  (first | k_dflt cell_enter | fail "the def is not entered")
  have hp2 : 0 ≤ b ∧ b < 18446744073709551616 ∧ 0 ≤ a ∧ a < 18446744073709551616 ∧ mag b ≤ 9218868437227405312 ∧ mag a ≤ 9218868437227405312 := ⟨hp.2.2.1, hp.2.2.2.1, hp.1, hp.2.1, hp.2.2.2.2.2, hp.2.2.2.2.1⟩
  have hpa : 0 ≤ a ∧ a < 18446744073709551616 ∧ mag a ≤ 9218868437227405312 := ⟨hp.1, hp.2.1, hp.2.2.2.2.1⟩
  have hpb : 0 ≤ b ∧ b < 18446744073709551616 ∧ mag b ≤ 9218868437227405312 := ⟨hp.2.2.1, hp.2.2.2.1, hp.2.2.2.2.2⟩
  have hqa : 0 ≤ a ∧ a < 18446744073709551616 := ⟨hp.1, hp.2.1⟩
  have hqb : 0 ≤ b ∧ b < 18446744073709551616 := ⟨hp.2.2.1, hp.2.2.2.1⟩
  k_steps
  all_goals first | (refine hret _ ?_ 0 _ _ (by k_asm) (by first | k_asm | (refine' cb_drop ?cbN ?cbS; (case cbN => assumption); (case cbS => first | kcj_in | kcj_all))); clear hret) | (exfalso; clear hret; omega)
  all_goals first | exact rfl | (exfalso; with_reducible exact absurd (ord_sign (by with_reducible assumption)) (by with_reducible assumption)) | (rw [Bool.and_eq_true, beq_iff_eq, beq_iff_eq]; omega)
local macro_rules | `(tactic| walk_at "call ref") => `(tactic| (k_here; (with_reducible show wpAny _ _ (call (Value.ref 259) _) _ _ _); k_dflt (refine' use order_right_m ?k1 ?k2 ?k3 ?k4 ?k5 ?kK ?kp ?kd ?ku ?_; (case k1 => k_asm); (case k2 => k_asm); (case k3 => k_asm); (case k4 => k_asm); (case k5 => k_asm); (case kK => first | exact rfl | assumption); (case kp => first | (with_reducible assumption) | (and_intros <;> with_reducible assumption) | omega); (case kd => ktr_room); (case ku => ktr_units)); intro x9 P9 t9 h9 tk9 F9 N9; (try subst P9); (try dsimp only); (try k_fold)))
theorem order_right_a {w : World} {mean : ExcName → Option Value} {mg mb : Str → Option Value} {a b : Int} {ta tb : Tok} :
    Meet 20 w mean mg mb 259 (0 ≤ a ∧ a < 18446744073709551616 ∧ 0 ≤ b ∧ b < 18446744073709551616) [.int a ta, .int b tb] (fun x : Bool => x = true) (fun (x : Bool) t => .bool x) := by
  constructor
  intro dp un gd cn cs a0 ccd cl outer A₀ base h₀ L m news s Q E B F X N T hk hp hd hu hret
  by_cases h : 9218868437227405312 < mag a ∨ 9218868437227405312 < mag b
  · exact use order_right_n B F X N T hk ⟨hp.1, hp.2.1, hp.2.2.1, hp.2.2.2, h⟩ hd hu hret
  · exact use order_right_m B F X N T hk ⟨hp.1, hp.2.1, hp.2.2.1, hp.2.2.2, by omega, by omega⟩ hd hu hret
local macro_rules | `(tactic| walk_at "call ref") => `(tactic| (k_here; (with_reducible show wpAny _ _ (call (Value.ref 259) _) _ _ _); k_dflt (refine' use order_right_a ?k1 ?k2 ?k3 ?k4 ?k5 ?kK ?kp ?kd ?ku ?_; (case k1 => k_asm); (case k2 => k_asm); (case k3 => k_asm); (case k4 => k_asm); (case k5 => k_asm); (case kK => first | exact rfl | assumption); (case kp => first | (with_reducible assumption) | (and_intros <;> with_reducible assumption) | omega); (case kd => ktr_room); (case ku => ktr_units)); intro x9 P9 t9 h9 tk9 F9 N9; (try subst P9); (try dsimp only); (try k_fold)))
local macro_rules | `(tactic| walk_at "binaryOp Mult int int") => `(tactic| (k_here; (with_reducible refine w_mulu ?kb1 ?_); (case kb1 => assumption)))
theorem is_here_m {w : World} {mean : ExcName → Option Value} {mg mb : Str → Option Value} {f wh a : Int} {tf tw ta : Tok} :
    Meet 3 w mean mg mb 266 (0 ≤ f ∧ f < 18446744073709551616 ∧ 0 ≤ a ∧ a < 18446744073709551616 ∧ Builtin.Int.intBits wh ≤ 6000 ∧ Here f wh a) [.int f tf, .int wh tw, .int a ta] (fun x : Bool => x = true) (fun (x : Bool) t => .bool x) := by
  constructor
  intro dp un gd cn cs a0 ccd cl outer A₀ base h₀ L m news s Q E B F X N T hk hp hd hu hret
  refine wpAny_call ?_
  (first | k_dflt cell_enter | fail "the def is not entered")
  obtain ⟨hp1, hp2, hp3, hp4, hp5, hp6, hp7⟩ := hp
  k_steps
  all_goals first | (refine hret _ ?_ 0 _ _ (by k_asm) (by first | k_asm | (refine' cb_drop ?cbN ?cbS; (case cbN => assumption); (case cbS => first | kcj_in | kcj_all))); clear hret) | (exfalso; clear hret; omega)
  all_goals first | (with_reducible exact beq_iff_eq.mpr (hp6 (by with_reducible assumption))) | (with_reducible exact beq_iff_eq.mpr (hp7 (by with_reducible assumption)).2)
local macro_rules | `(tactic| walk_at "call ref") => `(tactic| (k_here; (with_reducible show wpAny _ _ (call (Value.ref 266) _) _ _ _); k_dflt (refine' use is_here_m ?k1 ?k2 ?k3 ?k4 ?k5 ?kK ?kp ?kd ?ku ?_; (case k1 => k_asm); (case k2 => k_asm); (case k3 => k_asm); (case k4 => k_asm); (case k5 => k_asm); (case kK => first | exact rfl | assumption); (case kp => first | (with_reducible assumption) | (and_intros <;> with_reducible assumption) | exact ⟨by omega, by omega, by omega, by omega, by first | exact bits_toInt | exact bits_div | exact bits_ndiv | exact bits_half, by assumption⟩); (case kd => ktr_room); (case ku => ktr_units)); intro x9 P9 t9 h9 tk9 F9 N9; (try subst P9); (try dsimp only); (try k_fold)))
local macro_rules | `(tactic| walk_at "binaryOp Mult int int") => `(tactic| (k_here; (with_reducible refine w_2unit ?_)))
local macro_rules | `(tactic| walk_at "binaryOp Mult int int") => `(tactic| (k_here; (with_reducible refine w_2value ?_)))
local macro_rules | `(tactic| walk_at "binaryOp Mult int int") => `(tactic| (k_here; (with_reducible refine w_cutn ?kb1 ?_); (case kb1 => omega)))
local macro_rules | `(tactic| walk_at "binaryOp Mult int int") => `(tactic| (k_here; (with_reducible refine w_cutp ?kb1 ?_); (case kb1 => omega)))
theorem whole_right_m {w : World} {mean : ExcName → Option Value} {mg mb : Str → Option Value} {n : Int} {tn : Tok} :
    Meet 20 w mean mg mb 273 (0 ≤ n ∧ n < 18446744073709551616 ∧ mag n < 9218868437227405312) [.int n tn] (fun x : Bool => x = true) (fun (x : Bool) t => .bool x) := by
  constructor
  intro dp un gd cn cs a0 ccd cl outer A₀ base h₀ L m news s Q E B F X N T hk hp hd hu hret
  refine wpAny_call ?_
  (first | k_dflt cell_enter | fail "the def is not entered")
  k_steps
  all_goals first | (refine hret _ ?_ 0 _ _ (by k_asm) (by first | k_asm | (refine' cb_drop ?cbN ?cbS; (case cbN => assumption); (case cbS => first | kcj_in | kcj_all))); clear hret) | (exfalso; clear hret; omega)
  all_goals first | exact rfl | (exfalso; with_reducible exact wr_no (by with_reducible assumption))
local macro_rules | `(tactic| walk_at "call ref") => `(tactic| (k_here; (with_reducible show wpAny _ _ (call (Value.ref 273) _) _ _ _); k_dflt (refine' use whole_right_m ?k1 ?k2 ?k3 ?k4 ?k5 ?kK ?kp ?kd ?ku ?_; (case k1 => k_asm); (case k2 => k_asm); (case k3 => k_asm); (case k4 => k_asm); (case k5 => k_asm); (case kK => first | exact rfl | assumption); (case kp => first | (with_reducible assumption) | (and_intros <;> with_reducible assumption) | omega); (case kd => ktr_room); (case ku => ktr_units)); intro x9 P9 t9 h9 tk9 F9 N9; (try subst P9); (try dsimp only); (try k_fold)))
theorem whole_right_z {w : World} {mean : ExcName → Option Value} {mg mb : Str → Option Value} {n : Int} {tn : Tok} :
    Meet 20 w mean mg mb 273 (0 ≤ n ∧ n < 18446744073709551616 ∧ 9218868437227405312 ≤ mag n) [.int n tn] (fun x : Bool => x = true) (fun (x : Bool) t => .bool x) := by
  constructor
  intro dp un gd cn cs a0 ccd cl outer A₀ base h₀ L m news s Q E B F X N T hk hp hd hu hret
  refine wpAny_call ?_
  (first | k_dflt cell_enter | fail "the def is not entered")
  k_steps
  all_goals first | (refine hret _ ?_ 0 _ _ (by k_asm) (by first | k_asm | (refine' cb_drop ?cbN ?cbS; (case cbN => assumption); (case cbS => first | kcj_in | kcj_all))); clear hret) | (exfalso; clear hret; omega)
  all_goals first | (rw [beq_iff_eq]; omega) | exact decide_eq_true rfl
local macro_rules | `(tactic| walk_at "call ref") => `(tactic| (k_here; (with_reducible show wpAny _ _ (call (Value.ref 273) _) _ _ _); k_dflt (refine' use whole_right_z ?k1 ?k2 ?k3 ?k4 ?k5 ?kK ?kp ?kd ?ku ?_; (case k1 => k_asm); (case k2 => k_asm); (case k3 => k_asm); (case k4 => k_asm); (case k5 => k_asm); (case kK => first | exact rfl | assumption); (case kp => first | (with_reducible assumption) | (and_intros <;> with_reducible assumption) | omega); (case kd => ktr_room); (case ku => ktr_units)); intro x9 P9 t9 h9 tk9 F9 N9; (try subst P9); (try dsimp only); (try k_fold)))
theorem law_cell_m {w : World} {mean : ExcName → Option Value} {mg mb : Str → Option Value} {ns : List Int} {k : Int} {tk : Tok} :
    MeetL 1 w mean mg mb 224 ns (0 ≤ k ∧ k < 1000 ∧ (∀ y ∈ ns, Builtin.Int.intBits y ≤ 1048576)) [.int k tk] (fun x : Int => 0 ≤ x ∧ Builtin.Int.intBits x ≤ 1048576) (fun (x : Int) t => .int x t) := by
  constructor
  intro dp un gd cn cs a0 ccd cl outer A₀ base h₀ L m news s l vs c Q E B F X N' T hk hm hi hn hp hd hu hret
  have N := news_up N' hm
  clear N' hm
  refine wpAny_call ?_
  (first | k_dflt cell_enter | fail "the def is not entered")
  (k_with "pyIter ref" => k_state (fun pre q => 0 ≤ q ∧ q < 1100000) "mixed")
  k_steps
  all_goals first | (refine hret _ ?_ _ _ _ (by k_asm) (by first | k_asm | (refine' cb_drop ?cbN ?cbS; (case cbN => assumption); (case cbS => first | kcj_in | kcj_all))); clear hret) | (exfalso; clear hret; omega)
  all_goals first | (with_reducible exact cell_in hp.2.2 hp.1 (by with_reducible assumption)) | (with_reducible exact cell_out (by with_reducible assumption) (by with_reducible assumption))
local macro_rules | `(tactic| walk_at "call ref") => `(tactic| (k_here; (with_reducible show wpAny _ _ (call (Value.ref 224) _) _ _ _); k_dflt (refine' useL ?k1 ?k2 ?k3 ?k4 ?k5 ?kK ?kl ?ki ?kt law_cell_m ?kp ?kd ?ku ?_; (case k1 => k_asm); (case k2 => k_asm); (case k3 => k_asm); (case k4 => k_asm); (case k5 => k_asm); (case kK => first | exact rfl | assumption); (case kl => k_mem); (case ki => l_ints); (case kt => l_fit); (case kp => first | (with_reducible assumption) | (and_intros <;> with_reducible assumption) | exact ⟨by omega, by omega, by assumption⟩); (case kd => ktr_room); (case ku => ktr_units)); intro x9 P9 t9 h9 tk9 F9 N9; (obtain ⟨p91, p92⟩ := P9); (try dsimp only); (try k_fold)))
local macro_rules | `(tactic| walk_at "call ref") => `(tactic| (k_here; (with_reducible show wpAny _ _ (call (Value.ref 217) _) _ _ _); (refine wpAny_call ?_); k_dflt (refine' code_def ?k1 ?k2 ?k3 ?k4 ?k5 ?kA ?kF ?kK ?k6 ?k7 ?k8 ?k9 ?kB ?_ ?c2 ?c3 ?c4 ?c5; (case kA => exact rfl); (case kF => exact rfl); (case kK => first | exact rfl | assumption); (case k1 => k_asm); (case k2 => k_asm); (case k3 => k_asm); (case k4 => k_asm); (case k5 => k_asm); (case k6 => k_is); (case k7 => k_is); (case k8 => ktr_room); (case k9 => exact BindsTo.of_eq rfl); (case c5 => decide); (case kB => exact locs rfl); (case c2 => exact rfl); (case c3 => exact rfl); (case c4 => exact rfl); k_whole; intro g' L' h' FG' F' N' B' X' T'; (try dsimp only); (try k_lift B'); (try k_fold))))
local macro_rules | `(tactic| bits_by_make) => `(tactic| first | with_reducible assumption | ((with_reducible refine bits_ediv ?kbb ?_); (case kbb => decide); bits_by_make))
theorem law_double_m {w : World} {mean : ExcName → Option Value} {mg mb : Str → Option Value} {ns : List Int} {k h : Int} {tk th : Tok} :
    MeetL 2 w mean mg mb 231 ns ((0 ≤ k ∧ k < 1000 ∧ 0 ≤ h ∧ h < 18446744073709551616) ∧ (∀ y ∈ ns, Builtin.Int.intBits y ≤ 1048576)) [.int k tk, .int h th] (fun x : Int => 0 ≤ x ∧ x < 18446744073709551616) (fun (x : Int) t => .int x t) := by
  constructor
  intro dp un gd cn cs a0 ccd cl outer A₀ base h₀ L m news s l vs c Q E B F X N' T hk hm hi hn hp hd hu hret
  have N := news_up N' hm
  clear N' hm
  refine wpAny_call ?_
  (first | k_dflt cell_enter | fail "the def is not entered")
  obtain ⟨hpR, hpS⟩ := hp
  k_steps
  all_goals first | (refine hret _ ?_ _ _ _ (by k_asm) (by first | k_asm | (refine' cb_drop ?cbN ?cbS; (case cbN => assumption); (case cbS => first | kcj_in | kcj_all))); clear hret) | (exfalso; clear hret; omega)
  all_goals omega
local macro_rules | `(tactic| walk_at "call ref") => `(tactic| (k_here; (with_reducible show wpAny _ _ (call (Value.ref 231) _) _ _ _); k_dflt (refine' useL ?k1 ?k2 ?k3 ?k4 ?k5 ?kK ?kl ?ki ?kt law_double_m ?kp ?kd ?ku ?_; (case k1 => k_asm); (case k2 => k_asm); (case k3 => k_asm); (case k4 => k_asm); (case k5 => k_asm); (case kK => first | exact rfl | assumption); (case kl => k_mem); (case ki => l_ints); (case kt => l_fit); (case kp => first | (with_reducible assumption) | (and_intros <;> with_reducible assumption) | exact ⟨by omega, by assumption⟩); (case kd => ktr_room); (case ku => ktr_units)); intro x9 P9 t9 h9 tk9 F9 N9; (obtain ⟨p91, p92⟩ := P9); (try dsimp only); (try k_fold)))
theorem whole_right_a {w : World} {mean : ExcName → Option Value} {mg mb : Str → Option Value} {n : Int} {tn : Tok} :
    Meet 20 w mean mg mb 273 (0 ≤ n ∧ n < 18446744073709551616) [.int n tn] (fun x : Bool => x = true) (fun (x : Bool) t => .bool x) := by
  constructor
  intro dp un gd cn cs a0 ccd cl outer A₀ base h₀ L m news s Q E B F X N T hk hp hd hu hret
  by_cases h : mag n < 9218868437227405312
  · exact use whole_right_m B F X N T hk ⟨hp.1, hp.2, h⟩ hd hu hret
  · exact use whole_right_z B F X N T hk ⟨hp.1, hp.2, by omega⟩ hd hu hret
local macro_rules | `(tactic| walk_at "call ref") => `(tactic| (k_here; (with_reducible show wpAny _ _ (call (Value.ref 273) _) _ _ _); k_dflt (refine' use whole_right_a ?k1 ?k2 ?k3 ?k4 ?k5 ?kK ?kp ?kd ?ku ?_; (case k1 => k_asm); (case k2 => k_asm); (case k3 => k_asm); (case k4 => k_asm); (case k5 => k_asm); (case kK => first | exact rfl | assumption); (case kp => first | (with_reducible assumption) | (and_intros <;> with_reducible assumption) | omega); (case kd => ktr_room); (case ku => ktr_units)); intro x9 P9 t9 h9 tk9 F9 N9; (try subst P9); (try dsimp only); (try k_fold)))
local macro_rules | `(tactic| walk_at "binaryOp FloorDiv int int") => `(tactic| (k_here; (with_reducible refine w_divR ?kb1 ?_); (case kb1 => first | decide | omega); intro v9 e9))
local macro_rules | `(tactic| walk_at "exec If") => `(tactic| (k_here; k_dflt (refine wpAny_If ?_)))
local macro_rules | `(tactic| walk_at "execs cons") => `(tactic| (k_here; (with_reducible refine wpAny_execs_cons ?_); (try dsimp only)))
local macro_rules | `(tactic| walk_at "execs nil") => `(tactic| (k_here; (with_reducible refine wpAny_execs_nil ?_)))
theorem sb_of {ns : List Int} (h : PyData.layable0 (.list (ns.map .int)) = true) : ∀ y ∈ ns.take 24, Builtin.Int.intBits y ≤ 1048576 :=
  fun _ hy => PySem.intBits_le_of_item (List.mem_of_mem_take hy) h
local macro_rules | `(tactic| walk_at "subscriptTail Call") => `(tactic| (k_here; (fail_if_success (with_reducible show wpAny _ _ (subscriptTail _ (PySem.Expr.Constant _ _ _) _ _) _ _ _)); k_dflt (refine kba_turn (value' := PySem.Expr.Name (PySem.Str.ofString "_") ⟨0, 0, 0, 0⟩) (fun _ => rfl) ?_)))
local macro_rules | `(tactic| walk_at "exec For Name Call cons nil") => `(tactic| (k_here; (rename Fr _ _ _ _ => lF'); (with_unfolding_all refine' For_invVF lF' ?k1 ?k2 ?_; (case k1 => exact rfl); (case k2 => exact rfl); k_whole)))
local macro_rules | `(tactic| walk_at "pyIter ref") => `(tactic| k_dflt (k_state_short (fun pre q => 0 ≤ q ∧ q < 18446744073709551616) "ahead"))
local macro_rules | `(tactic| walk_at "InvEndN") => `(tactic| k_dflt kst_close)
set_option maxHeartbeats 16000000 in
theorem whole_law : PySem.Challenge.rw_nt0407_01.Holds := hd (by
  k_go0
  all_goals try k_fold
  have hSB := sb_of (by assumption)
  k_steps)
end Nt
theorem PySem.Challenge.cw_nt0407_01_holds : PySem.Challenge.rw_nt0407_01.Holds :=
  Nt.whole_law
