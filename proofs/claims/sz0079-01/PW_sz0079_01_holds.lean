import PyProof.Rows.All
import Wide.All
import OpenK.AllK
import Wide.FinOn
import KE.BitLaws
import PySem.Challenge.RW_sz0079_01
set_option Elab.async false
set_option linter.all false
-- part HDA
section
open PySem PySem.W PyProof.Rows
set_option Elab.async false
set_option maxRecDepth 100000
set_option maxHeartbeats 8000000
namespace Mine
theorem pre2 {L P Q : Prop} (_ : L) (_ : P) (q : Q) : Q := q
theorem ex2 {Q : Prop} (L P : Prop) (h : L → P → Q) : ∃ L P : Prop, L → P → Q := ⟨L, P, h⟩
theorem hdA : ∃ L P : Prop, L → P → PySem.Challenge.rw_sz0079_01.row.wellSaid = true → PySem.Challenge.rw_sz0079_01.row.Holds := by
  apply ex2
  case h =>
    intro left walk said
    apply pre2 (?hl : type_of% left) (?hc : type_of% walk)
    rotate_left 3
    exact left
    exact walk
    w_on
    k_head
    w_witness2
end Mine
end
-- part P1
section
open PySem PyProof.Rows
namespace Mine

theorem band_nat (x y : Nat) : Builtin.bitAnd (x : Int) (y : Int) = ((x &&& y : Nat) : Int) := by
  rw [bitAnd_pp (Int.natCast_nonneg _) (Int.natCast_nonneg _)]; rfl

theorem band_mask (x : Nat) (k : Nat) : Builtin.bitAnd (x : Int) (((2 ^ k - 1 : Nat)) : Int) = ((x % 2 ^ k : Nat) : Int) := by
  rw [band_nat, Nat.and_two_pow_sub_one_eq_mod]

theorem band_63 (x : Nat) : Builtin.bitAnd (x : Int) (9223372036854775808 - 1) = ((x % 9223372036854775808 : Nat) : Int) := band_mask x 63
theorem band_52 (x : Nat) : Builtin.bitAnd (x : Int) 4503599627370495 = ((x % 4503599627370496 : Nat) : Int) := band_mask x 52
theorem band_11 (x : Nat) : Builtin.bitAnd (x : Int) 2047 = ((x % 2048 : Nat) : Int) := band_mask x 11

theorem and_pow_zero {a k : Nat} (h : a < 2 ^ k) (b : Nat) : a &&& (b * 2 ^ k) = 0 := by
  apply Nat.eq_of_testBit_eq
  intro i
  rw [Nat.testBit_and, Nat.zero_testBit]
  by_cases hi : i < k
  · rw [Nat.testBit_mul_two_pow]
    simp [Nat.not_le.mpr hi]
  · have : a.testBit i = false := Nat.testBit_lt_two_pow (Nat.lt_of_lt_of_le h (Nat.pow_le_pow_right (by decide) (Nat.le_of_not_lt hi)))
    rw [this, Bool.false_and]

theorem bor_disj {a b : Nat} (h : a &&& b = 0) : Builtin.bitOr (a : Int) (b : Int) = ((a + b : Nat) : Int) := by
  rw [bitOr_and, band_nat, h]; simp

theorem bor_hi (a b k : Nat) (h : a < 2 ^ k) : Builtin.bitOr (a : Int) ((b * 2 ^ k : Nat) : Int) = ((a + b * 2 ^ k : Nat) : Int) := bor_disj (and_pow_zero h b)
theorem bor_lo (a b k : Nat) (h : a < 2 ^ k) : Builtin.bitOr ((b * 2 ^ k : Nat) : Int) (a : Int) = ((b * 2 ^ k + a : Nat) : Int) := by
  rw [bitOr_comm, bor_hi _ _ _ h, Nat.add_comm]

/-- the hidden bit onto a fraction -/
theorem bor_hidden (a : Nat) (h : a < 4503599627370496) : Builtin.bitOr (a : Int) 4503599627370496 = ((a + 4503599627370496 : Nat) : Int) := by
  have := bor_hi a 1 52 h
  simpa using this
theorem bor_zero (a : Nat) : Builtin.bitOr 0 (a : Int) = (a : Int) := by
  have := @bor_disj 0 a (by simp)
  simpa using this
theorem bor_zero' (a : Nat) : Builtin.bitOr (a : Int) 0 = (a : Int) := by rw [bitOr_comm, bor_zero]
theorem bor_exp (e f : Nat) (h : f < 4503599627370496) : Builtin.bitOr ((e : Int) * 4503599627370496) (f : Int) = ((e * 4503599627370496 + f : Nat) : Int) := by
  have := bor_lo f e 52 h
  simpa using this
/-- the sign turned -/
theorem bxor_sign (a : Nat) (h : a < 9223372036854775808) : Builtin.bitXor (a : Int) 9223372036854775808 = ((a + 9223372036854775808 : Nat) : Int) := by
  rw [bitXor_and, show (9223372036854775808 : Int) = ((1 * 2 ^ 63 : Nat) : Int) from rfl, band_nat, and_pow_zero (by simpa using h)]
  simp
theorem fdiv_pow (x : Int) (k : Nat) (_h : 0 ≤ x) : x.fdiv (2 ^ k) = x / 2 ^ k := Int.fdiv_eq_ediv_of_nonneg _ (by exact Int.le_of_lt (Int.pow_pos (by decide)))

/-- how many bits -/
noncomputable def bl (n : Nat) : Nat := if n = 0 then 0 else Nat.log2 n + 1
theorem bl_zero : bl 0 = 0 := rfl
theorem bl_lt {n : Nat} : n < 2 ^ bl n := by
  unfold bl
  split
  · subst_vars; decide
  · exact Nat.lt_log2_self
theorem bl_le {n : Nat} (h : n ≠ 0) : 2 ^ (bl n - 1) ≤ n := by
  unfold bl
  rw [if_neg h]
  exact Nat.log2_self_le h
theorem bl_pos {n : Nat} (h : n ≠ 0) : 1 ≤ bl n := by
  unfold bl; rw [if_neg h]; omega
theorem bl_eq {n k : Nat} (h1 : 2 ^ k ≤ n) (h2 : n < 2 ^ (k + 1)) : bl n = k + 1 := by
  have h0 : n ≠ 0 := by have := Nat.two_pow_pos k; omega
  have a := @bl_lt n
  have b := bl_le h0
  have p := bl_pos h0
  have c : k < bl n := (Nat.pow_lt_pow_iff_right (by decide : 1 < 2)).mp (Nat.lt_of_le_of_lt h1 a)
  have d : bl n - 1 < k + 1 := (Nat.pow_lt_pow_iff_right (by decide : 1 < 2)).mp (Nat.lt_of_le_of_lt b h2)
  omega
theorem bl_le_of_lt {n k : Nat} (h : n < 2 ^ k) : bl n ≤ k := by
  by_cases h0 : n = 0
  · subst h0; exact Nat.zero_le _
  · have b := bl_le h0
    have p := bl_pos h0
    have d : bl n - 1 < k := (Nat.pow_lt_pow_iff_right (by decide : 1 < 2)).mp (Nat.lt_of_le_of_lt b h)
    omega
theorem bl_shift {n : Nat} (k : Nat) (h : 2 ^ k ≤ n) : bl (n / 2 ^ k) + k = bl n := by
  have h0 : n ≠ 0 := by have := Nat.two_pow_pos k; omega
  have a := @bl_lt n
  have b := bl_le h0
  have p := bl_pos h0
  have c : k < bl n := (Nat.pow_lt_pow_iff_right (by decide : 1 < 2)).mp (Nat.lt_of_le_of_lt h a)
  have : bl (n / 2 ^ k) = (bl n - 1 - k) + 1 := by
    apply bl_eq
    · rw [Nat.le_div_iff_mul_le (Nat.two_pow_pos k), ← Nat.pow_add]
      rw [show bl n - 1 - k + k = bl n - 1 from by omega]; exact b
    · rw [Nat.div_lt_iff_lt_mul (Nat.two_pow_pos k), ← Nat.pow_add]
      rw [show bl n - 1 - k + 1 + k = bl n from by omega]; exact a
  omega
theorem bl_mul (n k : Nat) (h : n ≠ 0) : bl (n * 2 ^ k) = bl n + k := by
  have a := @bl_lt n
  have b := bl_le h
  have p := bl_pos h
  have : bl (n * 2 ^ k) = (bl n - 1 + k) + 1 := by
    apply bl_eq
    · rw [Nat.pow_add]; exact Nat.mul_le_mul_right _ b
    · rw [show bl n - 1 + k + 1 = bl n + k from by omega, Nat.pow_add]
      exact Nat.mul_lt_mul_of_pos_right a (Nat.two_pow_pos k)
  omega
theorem bl_one : bl 1 = 1 := bl_eq (k := 0) (by decide) (by decide)
theorem bl_small {n : Nat} (h : n < 2) : bl n = n := by
  have : n = 0 ∨ n = 1 := by omega
  rcases this with rfl | rfl
  · rfl
  · exact bl_one

/-- the whole number with its hidden bit at 2 ^ 52 -/
noncomputable def man (q : Nat) : Nat := q * 2 ^ (53 - bl q)
theorem man_lo {q : Nat} (h : q ≠ 0) (hq : q < 9007199254740992) : 4503599627370496 ≤ man q := by
  have b := bl_le h
  have p := bl_pos h
  have c := bl_le_of_lt (k := 53) hq
  unfold man
  calc 4503599627370496 = 2 ^ (bl q - 1) * 2 ^ (53 - bl q) := by rw [← Nat.pow_add, show bl q - 1 + (53 - bl q) = 52 from by omega]
    _ ≤ _ := Nat.mul_le_mul_right _ b
theorem man_hi {q : Nat} (hq : q < 9007199254740992) : man q < 9007199254740992 := by
  have a := @bl_lt q
  have c := bl_le_of_lt (k := 53) hq
  unfold man
  calc q * 2 ^ (53 - bl q) < 2 ^ bl q * 2 ^ (53 - bl q) := Nat.mul_lt_mul_of_pos_right a (Nat.two_pow_pos _)
    _ = 9007199254740992 := by rw [← Nat.pow_add, show bl q + (53 - bl q) = 53 from by omega]

/-- the double's bits of a whole number below 2 ^ 53 -/
noncomputable def enc (q : Nat) : Nat := if q = 0 then 0 else (bl q + 1022) * 4503599627370496 + (man q - 4503599627370496)
theorem enc_zero : enc 0 = 0 := rfl
theorem enc_pos {q : Nat} (h : q ≠ 0) : enc q = (bl q + 1022) * 4503599627370496 + (man q - 4503599627370496) := by unfold enc; rw [if_neg h]
theorem enc_lt {q : Nat} (hq : q < 9007199254740992) : enc q < 9218868437227405312 := by
  unfold enc
  split
  · decide
  · have := man_hi hq
    have c := bl_le_of_lt (k := 53) hq
    omega
theorem enc_one : enc 1 = 4607182418800017408 := by rw [enc_pos (by decide)]; unfold man; rw [bl_one]
theorem enc_ne {q : Nat} (h : q ≠ 0) : 4503599627370496 ≤ enc q := by rw [enc_pos h]; omega
end Mine
namespace Mine
theorem fdiv_nat (x k : Nat) : ((x : Int)).fdiv (2 ^ k) = ((x / 2 ^ k : Nat) : Int) := by
  rw [fdiv_pow _ _ (Int.natCast_nonneg _)]; simp
theorem fdiv_63 (x : Nat) : ((x : Int)).fdiv (2 ^ Int.toNat 63) = ((x / 9223372036854775808 : Nat) : Int) := fdiv_nat x 63
theorem fdiv_52 (x : Nat) : ((x : Int)).fdiv (2 ^ Int.toNat 52) = ((x / 4503599627370496 : Nat) : Int) := fdiv_nat x 52
theorem fdiv_64 (x : Nat) : ((x : Int)).fdiv (2 ^ Int.toNat 64) = ((x / 18446744073709551616 : Nat) : Int) := fdiv_nat x 64
section
variable {n : Int} {sg e f : Nat} (hn : n = ((sg * 9223372036854775808 + e * 4503599627370496 + f : Nat) : Int)) (hf : f < 4503599627370496) (he : e < 2048)
include hn hf he
theorem pf1 : n.fdiv (2 ^ Int.toNat 63) = sg := by rw [hn, fdiv_63]; omega
theorem pf2 : Builtin.bitAnd (n.fdiv (2 ^ Int.toNat 52)) 2047 = e := by rw [hn, fdiv_52, band_11]; omega
theorem pf3 : Builtin.bitAnd n 4503599627370495 = f := by rw [hn, band_52]; omega
theorem pf4 : Builtin.bitOr (Builtin.bitAnd n 4503599627370495) 4503599627370496 = f + 4503599627370496 := by rw [pf3 hn hf he, bor_hidden _ hf]; omega
theorem pf5 : Builtin.bitAnd n (9223372036854775808 - 1) = (e * 4503599627370496 + f : Nat) := by rw [hn, band_63]; omega
end
/-- the while loop of width -/
def InvW0 (n₀ : Nat) (n many : Int) : Prop := 0 ≤ n ∧ 0 ≤ many ∧ (bl n.toNat : Int) + many = bl n₀
theorem wd_init (n : Nat) : InvW0 n n 0 := ⟨Int.natCast_nonneg _, by omega, by simp⟩
theorem wd_turn {n₀ : Nat} {n many : Int} (h : InvW0 n₀ n many) (hn : 1 * 2 ^ Int.toNat 64 ≤ n) :
    InvW0 n₀ (n.fdiv (2 ^ Int.toNat 64)) (many + 64) := by
  obtain ⟨h1, h2, h3⟩ := h
  have hn : 18446744073709551616 ≤ n := hn
  obtain ⟨k, rfl⟩ := Int.eq_ofNat_of_zero_le h1
  unfold InvW0
  rw [fdiv_64]
  have := bl_shift (n := k) 64 (by omega)
  simp only [Int.toNat_natCast] at h3 ⊢
  rw [show (18446744073709551616 : Nat) = 2 ^ 64 from rfl]
  exact ⟨Int.natCast_nonneg _, by omega, by omega⟩
theorem wd_less {n : Int} (hn : 1 * 2 ^ Int.toNat 64 ≤ n) : (n.fdiv (2 ^ Int.toNat 64)).toNat < n.toNat := by
  have hn : 18446744073709551616 ≤ n := hn
  obtain ⟨k, rfl⟩ := Int.eq_ofNat_of_zero_le (a := n) (by omega)
  rw [fdiv_64]
  simp only [Int.toNat_natCast]
  omega
end Mine

namespace Mine
def InvW (n₀ : Nat) (k : Int) (a b : Int) : Prop := 0 ≤ a ∧ (bl a.toNat : Int) + b = bl n₀ ∧ a < 2 ^ k.toNat
theorem wd_start {n₀ : Nat} {n many : Int} (h : InvW0 n₀ n many) (hn : ¬ 1 * 2 ^ Int.toNat 64 ≤ n) : InvW n₀ (2 * 32) n many := by
  have hn : ¬ (18446744073709551616 : Int) ≤ n := hn
  exact ⟨h.1, h.2.2, by show n < (18446744073709551616 : Int); omega⟩
theorem wd_more {n₀ k : Nat} {a b : Int} (h : InvW n₀ (2 * (k : Int)) a b) (hn : 1 * 2 ^ Int.toNat k ≤ a) : InvW n₀ k (a.fdiv (2 ^ Int.toNat k)) (b + k) := by
  obtain ⟨x, rfl⟩ := Int.eq_ofNat_of_zero_le h.1
  simp only [Int.toNat_natCast, Int.one_mul] at hn
  have hn' : 2 ^ k ≤ x := by exact_mod_cast hn
  have e := bl_shift k hn'
  have h2 := h.2.1
  have h3 := h.2.2
  rw [show (2 * (k : Int)).toNat = 2 * k from by omega] at h3
  have h3' : x < 2 ^ (2 * k) := by exact_mod_cast h3
  simp only [Int.toNat_natCast] at h2 ⊢
  rw [fdiv_nat]
  refine ⟨Int.natCast_nonneg _, ?_, ?_⟩
  · simp only [Int.toNat_natCast]; omega
  · simp only [Int.toNat_natCast]
    have : x / 2 ^ k < 2 ^ k := by
      rw [Nat.div_lt_iff_lt_mul (Nat.two_pow_pos k), ← Nat.pow_add, ← Nat.two_mul]; exact h3'
    exact_mod_cast this
theorem wd_same {n₀ k : Nat} {a b : Int} (h : InvW n₀ (2 * (k : Int)) a b) (hn : ¬ 1 * 2 ^ Int.toNat k ≤ a) : InvW n₀ k a b := by
  refine ⟨h.1, h.2.1, ?_⟩
  simp only [Int.toNat_natCast, Int.one_mul] at hn ⊢
  omega
theorem wd_end {n₀ : Nat} {a b : Int} (h : InvW n₀ 1 a b) : (bl n₀ : Int) = b + a := by
  have h1 := h.1
  have h2 := h.2.1
  have h3 : a < 2 := h.2.2
  rw [bl_small (n := a.toNat) (by omega)] at h2
  omega
end Mine
namespace Mine
theorem wd_eq {n₀ : Nat} {K k a b : Int} (h : InvW n₀ K a b) (e : 2 * k = K) : InvW n₀ (2 * k) a b := by subst e; exact h
end Mine
namespace Mine
/-- small enough for every step of arithmetic -/
def Sm (x : Int) : Prop := Builtin.Int.intBits x ≤ 4000
theorem sm_nat {x : Nat} (k : Nat) (h : x < 2 ^ k) (hk : k ≤ 4000) : Sm (x : Int) := by
  unfold Sm Builtin.Int.intBits
  split
  · exact Nat.zero_le _
  · rename_i h0
    have h0' : x ≠ 0 := by intro e; subst e; simp at h0
    have : (x : Int).natAbs.log2 < k := by
      rw [Int.natAbs_natCast]; exact (Nat.log2_lt h0').mpr h
    omega
theorem sm_small {x : Int} (h1 : 0 ≤ x) (h2 : x < 18446744073709551616) : Sm x := by
  obtain ⟨n, rfl⟩ := Int.eq_ofNat_of_zero_le h1
  exact sm_nat 64 (by have : (n : Int) < 18446744073709551616 := h2; omega) (by decide)
section
variable {prog : Program} {w : World} {A : Around} {E : Value → Shared → Prop} {s : Shared} {a b n : Int} {t u : Tok} {Q : Value → Shared → Prop}
theorem shl_sm (ha : Sm a) (hn : 0 ≤ n) (hn2 : n ≤ 4000) (h : Q (.int (a * 2 ^ n.toNat) s.toks) { s with toks := s.toks + 1 }) : wpAny (model prog w) A (binaryOp .LShift (.int a t) (.int n u)) Q E s :=
  lshift_int hn (by unfold Sm at ha; omega) h
theorem fdiv_sm (hs : Sm b) (hb : b ≠ 0) (h : Q (.int (a.fdiv b) s.toks) { s with toks := s.toks + 1 }) : wpAny (model prog w) A (binaryOp .FloorDiv (.int a t) (.int b u)) Q E s :=
  floordiv_int hb h (Or.inl (PyProof.noPylong_of_log2 (by
    unfold Sm Builtin.Int.intBits at hs
    rw [if_neg (by simpa using hb)] at hs
    omega)))
theorem mul_sm (ha : Sm a) (hb : Sm b) (h : Q (.int (a * b) s.toks) { s with toks := s.toks + 1 }) : wpAny (model prog w) A (binaryOp .Mult (.int a t) (.int b u)) Q E s :=
  PyProof.Rows.mul_int h (by
    unfold Sm at ha hb
    unfold IntMulOk Builtin.Int.intTooBig
    have : ¬ ((Builtin.Int.intBits a + Builtin.Int.intBits b : Int) > bitsLine) := by
      have : (bitsLine : Int) = 134217728 := rfl
      omega
    simp only [this, decide_false, Bool.and_false, Bool.false_eq_true, not_false_eq_true])
end
end Mine
namespace Mine
/-- quotient: what is wanted of its numbers -/
structure QuotIn (q b k : Nat) (top p : Int) : Prop where
  ht : top = ((q * b : Nat) : Int)
  hp : p = -(k : Int)
  hk : k ≤ 60
  hb : 0 < b
  hs : Sm ((q * b : Nat) : Int)
  hsb : Sm (b : Int)
theorem quot_f1 {q b k : Nat} {top p : Int} (h : QuotIn q b k top p) : (top * 2 ^ (-p).toNat).fdiv b = ((q * 2 ^ k : Nat) : Int) := by
  have hb := h.hb
  rw [h.ht, h.hp, show (-(-(k : Int))).toNat = k from by omega, Int.fdiv_eq_ediv_of_nonneg _ (by omega)]
  have : ((q * b : Nat) : Int) * 2 ^ k = ((q * 2 ^ k * b : Nat) : Int) := by push_cast; rw [Int.mul_assoc, Int.mul_comm (b : Int), Int.mul_assoc]
  rw [this]
  push_cast
  exact Int.mul_ediv_cancel _ (by omega)
theorem quot_f2 {q b k : Nat} {top p : Int} (h : QuotIn q b k top p) : (top * 2 ^ (-p).toNat).fmod b = 0 := by
  have hb := h.hb
  rw [h.ht, h.hp, show (-(-(k : Int))).toNat = k from by omega, Int.fmod_eq_emod_of_nonneg _ (by omega)]
  have : ((q * b : Nat) : Int) * 2 ^ k = ((q * 2 ^ k * b : Nat) : Int) := by push_cast; rw [Int.mul_assoc, Int.mul_comm (b : Int), Int.mul_assoc]
  rw [this]
  push_cast
  exact Int.mul_emod_left _ _
theorem quot_f3 {q b k : Nat} {top p : Int} (h : QuotIn q b k top p) (h0 : 0 ≤ p) : (b : Int) * 2 ^ p.toNat = b ∧ k = 0 := by
  have := h.hp
  have hk : k = 0 := by omega
  subst hk
  rw [this]
  simp
theorem quot_f4 {q b k : Nat} {top p : Int} (h : QuotIn q b k top p) (h0 : k = 0) : top.fdiv b = ((q * 2 ^ k : Nat) : Int) ∧ top.fmod b = 0 := by
  have hb := h.hb
  subst h0
  rw [h.ht, Int.fdiv_eq_ediv_of_nonneg _ (by omega), Int.fmod_eq_emod_of_nonneg _ (by omega)]
  push_cast
  refine ⟨?_, ?_⟩
  · rw [Int.mul_ediv_cancel _ (by omega)]; simp
  · exact Int.mul_emod_left _ _
end Mine
namespace Mine
theorem pack_eq {e f : Nat} {x y : Int} (hx : x = e) (hy : y = f) (hf : f < 4503599627370496) : ((e * 4503599627370496 + f : Nat) : Int) = Builtin.bitOr (Builtin.bitOr (0 * 2 ^ Int.toNat 63) (x * 2 ^ Int.toNat 52)) y := by
  subst hx; subst hy
  have e1 : ((e : Int) * 2 ^ Int.toNat 52) = ((e * 4503599627370496 : Nat) : Int) := (Int.natCast_mul e 4503599627370496).symm
  rw [show (0 : Int) * 2 ^ Int.toNat 63 = 0 from rfl, e1, bor_zero]
  exact (bor_lo f e 52 hf).symm
theorem two_52 : (4503599627370496 : Int) * 2 ^ Int.toNat 1 = 9007199254740992 := rfl
/-- the numbers that a rounding meets -/
structure RoundIn (q j : Nat) : Prop where
  h0 : q ≠ 0
  hq : q < 9007199254740992
  hj : j ≤ 1100
theorem RoundIn.b53 {q j : Nat} (h : RoundIn q j) : bl q ≤ 53 := bl_le_of_lt h.hq
theorem RoundIn.b1 {q j : Nat} (h : RoundIn q j) : 1 ≤ bl q := bl_pos h.h0
theorem RoundIn.top {q j : Nat} (h : RoundIn q j) : bl (q * 2 ^ j) = bl q + j := bl_mul q j h.h0
theorem RoundIn.bot {q j : Nat} (_h : RoundIn q j) : bl (2 ^ j) = j + 1 := bl_eq (Nat.le_refl _) (Nat.pow_lt_pow_right (by decide) (by omega))
theorem RoundIn.pos {q j : Nat} (h : RoundIn q j) : 0 < q * 2 ^ j := Nat.mul_pos (Nat.pos_of_ne_zero h.h0) (Nat.two_pow_pos j)
theorem RoundIn.smt {q j : Nat} (h : RoundIn q j) : Sm ((q * 2 ^ j : Nat) : Int) := by
  refine sm_nat (53 + j) ?_ (by have := h.hj; omega)
  rw [Nat.pow_add]
  exact Nat.mul_lt_mul_of_pos_right h.hq (Nat.two_pow_pos j)
theorem RoundIn.smb {q j : Nat} (h : RoundIn q j) : Sm ((2 ^ j : Nat) : Int) := sm_nat (j + 1) (Nat.pow_lt_pow_right (by decide) (by omega)) (by have := h.hj; omega)
theorem RoundIn.quot {q j : Nat} (h : RoundIn q j) (k : Nat) (p : Int) (hk : k ≤ 60) (hp : p = -(k : Int)) : QuotIn q (2 ^ j) k ((q * 2 ^ j : Nat) : Int) p := ⟨rfl, hp, hk, Nat.two_pow_pos j, h.smt, h.smb⟩
theorem RoundIn.big {q j : Nat} (h : RoundIn q j) : 9007199254740992 ≤ q * 2 ^ (54 - bl q) := by
  have := man_lo h.h0 h.hq
  have := h.b53
  rw [show 54 - bl q = (53 - bl q) + 1 from by omega, Nat.pow_succ, ← Nat.mul_assoc]
  unfold man at *
  omega
theorem RoundIn.enc {q j : Nat} (h : RoundIn q j) : Mine.enc q = (bl q + 1022) * 4503599627370496 + (q * 2 ^ (53 - bl q) - 4503599627370496) := enc_pos h.h0
end Mine
namespace Mine
/-- the bits of a whole number with a sign -/
structure Bits (sg q : Nat) (n : Int) : Prop where
  hn : n = ((sg * 9223372036854775808 + enc q : Nat) : Int)
  hs : sg ≤ 1
  hq : q < 9007199254740992
theorem Bits.low {sg q : Nat} {n : Int} (h : Bits sg q n) : Builtin.bitAnd n (9223372036854775808 - 1) = (enc q : Int) := by
  rw [h.hn, band_63]
  have := enc_lt h.hq
  omega
theorem Bits.nan {sg q : Nat} {n : Int} (h : Bits sg q n) : decide ((9218868437227405312 : Int) < Builtin.bitAnd n (9223372036854775808 - 1)) = false := by
  rw [h.low]; have := enc_lt h.hq; simp; omega
theorem Bits.inf {sg q : Nat} {n : Int} (h : Bits sg q n) : (Builtin.bitAnd n (9223372036854775808 - 1) == 9218868437227405312) = false := by
  rw [h.low]; have := enc_lt h.hq; simp; omega
theorem Bits.zero {sg q : Nat} {n : Int} (h : Bits sg q n) : (Builtin.bitAnd n (9223372036854775808 - 1) == 0) = decide (q = 0) := by
  rw [h.low]
  by_cases h0 : q = 0
  · subst h0; rfl
  · have := enc_ne h0
    simp only [h0, decide_false, beq_eq_false_iff_ne, ne_eq]
    omega
theorem Bits.neg {sg q : Nat} {n : Int} (h : Bits sg q n) : (n.fdiv (2 ^ Int.toNat 63) == 1) = decide (sg = 1) := by
  rw [h.hn, fdiv_63]
  have := enc_lt h.hq
  have := h.hs
  have e : ((sg * 9223372036854775808 + enc q) / 9223372036854775808) = sg := by omega
  rw [e]
  by_cases h1 : sg = 1
  · subst h1; rfl
  · simp only [h1, decide_false, beq_eq_false_iff_ne, ne_eq]; omega
theorem Bits.form {sg q : Nat} {n : Int} (h : Bits sg q n) (h0 : q ≠ 0) : n = ((sg * 9223372036854775808 + (bl q + 1022) * 4503599627370496 + (man q - 4503599627370496) : Nat) : Int) := by
  rw [h.hn, enc_pos h0, Nat.add_assoc]
theorem Bits.frac {sg q : Nat} {n : Int} (h : Bits sg q n) : man q - 4503599627370496 < 4503599627370496 := by
  have := man_hi h.hq; omega
theorem Bits.exp {sg q : Nat} {n : Int} (h : Bits sg q n) : bl q + 1022 < 2048 := by have := bl_le_of_lt (k := 53) h.hq; omega
theorem Bits.turn {q : Nat} {n : Int} (h : Bits 0 q n) : Builtin.bitXor n 9223372036854775808 = ((9223372036854775808 + enc q : Nat) : Int) := by
  rw [h.hn, Nat.zero_mul, Nat.zero_add, bxor_sign _ (by have := enc_lt h.hq; omega)]
  omega
theorem bits_one : Bits 0 1 4607182418800017408 := ⟨by rw [enc_one]; rfl, by decide, by decide⟩
theorem bits_of {q : Nat} {x : Int} (hx : x = (enc q : Int)) (hq : q < 9007199254740992) : Bits 0 q x := ⟨by rw [hx, Nat.zero_mul, Nat.zero_add], by decide, hq⟩
theorem bits_neg {q : Nat} {x : Int} (hx : x = ((9223372036854775808 + enc q : Nat) : Int)) (hq : q < 9007199254740992) : Bits 1 q x := ⟨by rw [hx, Nat.one_mul], by decide, hq⟩
theorem man_shift {q : Nat} (h0 : q ≠ 0) (hq : q < 9007199254740992) : man q * 2 ^ (bl q - 1) = q * 4503599627370496 := by
  have c := bl_le_of_lt (k := 53) hq
  have p := bl_pos h0
  unfold man
  rw [Nat.mul_assoc, ← Nat.pow_add, show 53 - bl q + (bl q - 1) = 52 from by omega]
end Mine
namespace Mine
theorem rx1 {q : Nat} (h : bl q = 53) : (man q : Int) * 2 ^ ((bl q : Int) - 53).toNat = q := by
  unfold man
  rw [h, show ((53 : Nat) : Int) - 53 = 0 from rfl]
  simp
theorem rxU {q : Nat} (h : bl q ≤ 53) : (1 : Int) * 2 ^ (0 - ((bl q : Int) - 53)).toNat = ((2 ^ (53 - bl q) : Nat) : Int) := by
  rw [show (0 - ((bl q : Int) - 53)).toNat = 53 - bl q from by omega, Int.one_mul]
  simp
theorem rx2 {q : Nat} (h : bl q ≤ 53) : (man q : Int).fmod (1 * 2 ^ (0 - ((bl q : Int) - 53)).toNat) = 0 := by
  rw [rxU h, Int.fmod_eq_emod_of_nonneg _ (Int.natCast_nonneg _)]
  unfold man
  rw [← Int.natCast_emod, Nat.mul_mod_left]
  rfl
theorem rx3 {q : Nat} (h : bl q ≤ 53) : (man q : Int).fdiv (1 * 2 ^ (0 - ((bl q : Int) - 53)).toNat) = q := by
  rw [rxU h, Int.fdiv_eq_ediv_of_nonneg _ (Int.natCast_nonneg _)]
  unfold man
  rw [← Int.natCast_ediv, Nat.mul_div_cancel _ (Nat.two_pow_pos _)]
theorem rx4 {q : Nat} (h : bl q ≤ 53) : Sm (1 * 2 ^ (0 - ((bl q : Int) - 53)).toNat) := by
  rw [rxU h]; exact sm_nat (53 - bl q + 1) (Nat.pow_lt_pow_right (by decide) (by omega)) (by omega)
theorem rx5 {q : Nat} (h : bl q ≤ 53) : (1 : Int) * 2 ^ (0 - ((bl q : Int) - 53)).toNat ≠ 0 := by
  rw [rxU h]; have := Nat.two_pow_pos (53 - bl q); omega
end Mine
end
-- part PT
section
open PySem PySem.Spec PySem.Calls PySem.W PyProof.Rows PyProof
namespace Mine
open Builtin Builtin.Str

/-- the text of a list of code points -/
abbrev T (l : List Nat) : PySem.Str := ⟨l.toArray⟩
theorem codes_T (l : List Nat) : (T l).cps.toList = l := rfl
theorem T_codes (x : PySem.Str) : T x.cps.toList = x := by cases x; rfl
theorem len_codes (x : PySem.Str) : x.length = x.cps.toList.length := by simp [PySem.Str.length]
theorem of_codes {x : PySem.Str} {l : List Nat} (h : x.cps.toList = l) : x = T l := by rw [← h, T_codes]

theorem lit_of {s : String} {l : List Nat} (h : s.toList.map Char.toNat = l) : (PySem.Str.ofString s).cps.toList = l := by rw [← h, PySem.Str.ofString_eq_toList]
theorem lit_nil : (PySem.Str.ofString "").cps.toList = [] := lit_of rfl
theorem lit_one : (PySem.Str.ofString "1").cps.toList = [49] := lit_of rfl
theorem lit_zero : (PySem.Str.ofString "0").cps.toList = [48] := lit_of rfl
theorem lit_minus : (PySem.Str.ofString "-").cps.toList = [45] := lit_of rfl
theorem lit_nine : (PySem.Str.ofString "9").cps.toList = [57] := lit_of rfl
theorem lit_la : (PySem.Str.ofString "a").cps.toList = [97] := lit_of rfl
theorem lit_lz : (PySem.Str.ofString "z").cps.toList = [122] := lit_of rfl
theorem lit_ua : (PySem.Str.ofString "A").cps.toList = [65] := lit_of rfl
theorem lit_uz : (PySem.Str.ofString "Z").cps.toList = [90] := lit_of rfl
theorem lit_figs : (PySem.Str.ofString "0123456789abcdefghijklmnopqrstuvwxyz").cps.toList = [48, 49, 50, 51, 52, 53, 54, 55, 56, 57, 97, 98, 99, 100, 101, 102, 103, 104, 105, 106, 107, 108, 109, 110, 111, 112, 113, 114, 115, 116, 117, 118, 119, 120, 121, 122] := lit_of rfl
theorem lit_pm : (PySem.Str.ofString "+-").cps.toList = [43, 45] := lit_of rfl
theorem lit_ee : (PySem.Str.ofString "eE").cps.toList = [101, 69] := lit_of rfl
theorem lit_x1 : (PySem.Str.ofString "0x").cps.toList = [48, 120] := lit_of rfl
theorem lit_x2 : (PySem.Str.ofString "0X").cps.toList = [48, 88] := lit_of rfl
theorem lit_inf : (PySem.Str.ofString "Infinity").cps.toList = [73, 110, 102, 105, 110, 105, 116, 121] := lit_of rfl
theorem lit_dot : (PySem.Str.ofString ".").cps.toList = [46] := lit_of rfl
theorem lit_nan : (PySem.Str.ofString "NaN").cps.toList = [78, 97, 78] := lit_of rfl
theorem slice_cut {x : PySem.Str} {l : List Nat} (hx : x.cps.toList = l) {lo hi : Option Int} (a b : Nat) (h : strSliceIndices lo hi 1 l.length = (List.range (b - a)).map (fun k => a + k)) (hab : a ≤ b) (hb : b ≤ l.length) :
    Txt.slice x lo hi = T ((l.drop a).take (b - a)) := by
  subst hx
  unfold Txt.slice
  rw [len_codes, h]
  have hp : ((List.range (b - a)).map (fun k => a + k)).filterMap (x.cps[·]?) = (x.cps.toList.drop a).take (b - a) := by
    have := StrLaws.picks x.cps.toList (b - a) a (by omega)
    rw [← this]
    congr 1
    funext i
    simp
  split
  · rename_i hq
    simp only [List.length_map, List.length_range, beq_self_eq_true, Bool.true_and, beq_iff_eq] at hq
    have ha : a = 0 := by omega
    have hb' : b = x.cps.toList.length := by omega
    subst ha
    rw [hb', List.drop_zero, Nat.sub_zero, List.take_of_length_le (Nat.le_refl _), T_codes]
  · rw [hp]
theorem slice_ss {x : PySem.Str} {l : List Nat} (hx : x.cps.toList = l) {i j : Int} (a b : Nat) (hi : i = a) (hj : j = b) (hab : a ≤ b) (hb : b ≤ l.length) : Txt.slice x (some i) (some j) = T ((l.drop a).take (b - a)) := by
  subst hi; subst hj
  exact slice_cut hx a b (StrLaws.strSliceIndices_plain hab hb) hab hb
theorem slice_ns {x : PySem.Str} {l : List Nat} (hx : x.cps.toList = l) {j : Int} (b : Nat) (hj : j = b) (hb : b ≤ l.length) : Txt.slice x none (some j) = T (l.take b) := by
  subst hj
  have := slice_cut hx (lo := none) (hi := some (b : Int)) 0 b (by rw [StrLaws.sliceIdx_none_lo]; exact StrLaws.strSliceIndices_plain (Nat.zero_le _) hb) (Nat.zero_le _) hb
  simpa using this
theorem slice_sn {x : PySem.Str} {l : List Nat} (hx : x.cps.toList = l) {i : Int} (a : Nat) (hi : i = a) (ha : a ≤ l.length) : Txt.slice x (some i) none = T (l.drop a) := by
  subst hi
  have := slice_cut hx (lo := some (a : Int)) (hi := none) a l.length (by rw [StrLaws.sliceIdx_none_hi]; exact StrLaws.strSliceIndices_plain ha (Nat.le_refl _)) ha (Nat.le_refl _)
  rw [this]
  congr 1
  rw [List.take_of_length_le (by simp)]
/-- a cut whose end lies beyond -/
theorem clip_hi (lo : Option Int) {j : Int} {n : Nat} (h : (n : Int) ≤ j) : strSliceIndices lo (some j) 1 n = strSliceIndices lo (some (n : Int)) 1 n := by
  have h1 : ¬ (j < 0) := by omega
  have h2 : ¬ ((n : Int) < 0) := by omega
  have e1 : max (0 : Int) (min j (n : Int)) = n := by omega
  have e2 : max (0 : Int) (min (n : Int) (n : Int)) = n := by omega
  simp only [strSliceIndices, h1, h2, if_false, e1, e2, show ((1 : Int) > 0) = True from by simp, if_true]
theorem slice_ss' {x : PySem.Str} {l : List Nat} (hx : x.cps.toList = l) {i j : Int} (a b : Nat) (hi : i = a) (hj : j = b) (hab : a ≤ b) (ha : a ≤ l.length) : Txt.slice x (some i) (some j) = T ((l.drop a).take (b - a)) := by
  by_cases hb : b ≤ l.length
  · exact slice_ss hx a b hi hj hab hb
  · subst hi; subst hj
    rw [slice_cut hx (lo := some (a : Int)) (hi := some (b : Int)) a l.length (by rw [clip_hi _ (by omega)]; exact StrLaws.strSliceIndices_plain ha (Nat.le_refl _)) ha (Nat.le_refl _)]
    have e : (l.drop a).take (l.length - a) = (l.drop a).take (b - a) := by
      rw [List.take_of_length_le (by simp), List.take_of_length_le (by simp; omega)]
    rw [e]
theorem slice_ns' {x : PySem.Str} {l : List Nat} (hx : x.cps.toList = l) {j : Int} (b : Nat) (hj : j = b) : Txt.slice x none (some j) = T (l.take b) := by
  by_cases hb : b ≤ l.length
  · exact slice_ns hx b hj hb
  · subst hj
    have := slice_cut hx (lo := none) (hi := some (b : Int)) 0 l.length (by rw [StrLaws.sliceIdx_none_lo, clip_hi _ (by omega)]; exact StrLaws.strSliceIndices_plain (Nat.zero_le _) (Nat.le_refl _)) (Nat.zero_le _) (Nat.le_refl _)
    rw [this]
    congr 1
    simp only [List.drop_zero, Nat.sub_zero]
    rw [List.take_of_length_le (Nat.le_refl _), List.take_of_length_le (by omega)]
theorem slice_last {x : PySem.Str} {l : List Nat} (hx : x.cps.toList = l) {j : Int} (hj : j = -1) (hl : l ≠ []) : Txt.slice x none (some j) = T l.dropLast := by
  subst hj
  have h1 : 1 ≤ l.length := by cases l <;> simp_all
  have := slice_cut hx (lo := none) (hi := some (-1 : Int)) 0 (l.length - 1) (by rw [StrLaws.sliceIdx_none_lo, StrLaws.sliceIdx_neg_hi _ _ (by decide) (by omega), show (-1 + (l.length : Int)) = ((l.length - 1 : Nat) : Int) from by omega]; exact StrLaws.strSliceIndices_plain (Nat.zero_le _) (by omega)) (Nat.zero_le _) (by omega)
  rw [this, List.dropLast_eq_take]
  rfl

section
variable {prog : Program} {w : World} {A : Around} {E : Value → Shared → Prop} {s : Shared} {x y : PySem.Str} {t u : Tok} {a b : List Nat} {Q : Value → Shared → Prop}
theorem t_len (hx : x.cps.toList = a) (hl : a.length ≤ 100000) (h : ∀ t' k, Q (.int a.length t') { s with toks := k }) : wpAny (model prog w) A (call (.builtin "len") [.str x t]) Q E s := by
  have e := len_codes x
  rw [hx] at e
  exact P.len_str (by rw [e]; omega) (by rw [e]; exact h _ _)
theorem t_add (hx : x.cps.toList = a) (hy : y.cps.toList = b) (hl : a.length + b.length ≤ 100000) (h : ∀ t' k, Q (.str (T (a ++ b)) t') { s with toks := k }) : wpAny (model prog w) A (binaryOp .Add (.str x t) (.str y u)) Q E s := by
  subst hx; subst hy
  refine SBL.add (fun t' k _ => ?_) (hsz := ?_)
  · have e : x ++ y = T (x.cps.toList ++ y.cps.toList) := by
      rw [← T_codes (x ++ y)]
      congr 1
      show (x.cps ++ y.cps).toList = _
      simp
    rw [e]
    exact h _ _
  · rw [len_codes, len_codes, sizeLine_eq]; omega
theorem t_eq (hx : x.cps.toList = a) (hy : y.cps.toList = b) (h : Q (.bool (decide (a = b))) s) : wpAny (model prog w) A (compareOp .Eq (.str x t) (.str y u)) Q E s := by
  refine P.eq_str ?_
  rw [hx, hy, show (a == b) = decide (a = b) from by rw [Bool.eq_iff_iff]; simp]
  exact h
theorem t_ne (hx : x.cps.toList = a) (hy : y.cps.toList = b) (h : Q (.bool (!decide (a = b))) s) : wpAny (model prog w) A (compareOp .NotEq (.str x t) (.str y u)) Q E s := by
  refine P.ne_str ?_
  rw [hx, hy, show (a != b) = !decide (a = b) from by rw [Bool.eq_iff_iff]; simp]
  exact h
theorem t_eqT (hx : x.cps.toList = a) (hy : y.cps.toList = b) (e : a = b) (h : Q (.bool true) s) : wpAny (model prog w) A (compareOp .Eq (.str x t) (.str y u)) Q E s := t_eq hx hy (by rw [decide_eq_true e]; exact h)
theorem t_eqF (hx : x.cps.toList = a) (hy : y.cps.toList = b) (e : a ≠ b) (h : Q (.bool false) s) : wpAny (model prog w) A (compareOp .Eq (.str x t) (.str y u)) Q E s := t_eq hx hy (by rw [decide_eq_false e]; exact h)
theorem t_neT (hx : x.cps.toList = a) (hy : y.cps.toList = b) (e : a = b) (h : Q (.bool false) s) : wpAny (model prog w) A (compareOp .NotEq (.str x t) (.str y u)) Q E s := t_ne hx hy (by rw [decide_eq_true e]; exact h)
theorem t_in {c : Nat} (hy : y.cps.toList = [c]) (hx : x.cps.toList = a) (h : Q (.bool (decide (c ∈ a))) s) : wpAny (model prog w) A (compareOp .In (.str y u) (.str x t)) Q E s := by
  refine P.in_str ?_
  rw [of_codes hy, show T [c] = ⟨#[c]⟩ from rfl, StrLaws.found_one, hx]
  exact h
theorem t_inF {c : Nat} (hy : y.cps.toList = [c]) (hx : x.cps.toList = a) (e : c ∉ a) (h : Q (.bool false) s) : wpAny (model prog w) A (compareOp .In (.str y u) (.str x t)) Q E s := t_in hy hx (by rw [decide_eq_false e]; exact h)
theorem t_inT {c : Nat} (hy : y.cps.toList = [c]) (hx : x.cps.toList = a) (e : c ∈ a) (h : Q (.bool true) s) : wpAny (model prog w) A (compareOp .In (.str y u) (.str x t)) Q E s := t_in hy hx (by rw [decide_eq_true e]; exact h)
theorem t_notinF {c : Nat} (hy : y.cps.toList = [c]) (hx : x.cps.toList = a) (e : c ∉ a) (h : Q (.bool true) s) : wpAny (model prog w) A (compareOp .NotIn (.str y u) (.str x t)) Q E s := by
  refine P.notIn_str ?_
  rw [of_codes hy, show T [c] = ⟨#[c]⟩ from rfl, StrLaws.found_one, hx, decide_eq_false e]
  exact h
theorem t_item {value slice : Expr} {i : Int} {c : Nat} (hx : x.cps.toList = a) (h0 : 0 ≤ i) (hc : a[i.toNat]? = some c) (h63 : i < 9223372036854775808) (h : ∀ t' k, Q (.str (T [c]) t') { s with toks := k })
    (hs : subscripted slice false (.str x t) (.int i u) = operate [.str x t, .int i u] (getItem (.str x t) (.int i u)) := by with_unfolding_all rfl)
    (ht : ∀ r, letTemporaryGo value (.str x t) r = pure () := by intro _; with_unfolding_all rfl) : wpAny (model prog w) A (subscriptTail value slice (.str x t) (.int i u)) Q E s := by
  have hlt : i.toNat < a.length := by
    rcases Nat.lt_or_ge i.toNat a.length with hh | hh
    · exact hh
    · rw [List.getElem?_eq_none hh] at hc; cases hc
  have el := len_codes x
  rw [hx] at el
  have hn : x.cps[i.toNat]? = some c := by rw [← hc, ← hx]; simp
  refine item_str (by unfold fitsSsize; simp; omega) (by omega) (by omega) (fun _ => ?_) hs ht
  have e : Txt.item x i = T [c] := by
    unfold Txt.item Txt.charAt
    rw [StrLaws.at_nonneg h0 hn]
    rfl
  rw [e]
  exact h _ _
theorem t_last {value slice : Expr} {i : Int} {c : Nat} (hx : x.cps.toList = a) (h0 : i = -1) (hc : a.getLast? = some c) (hl : a.length ≤ 100000) (h : ∀ t' k, Q (.str (T [c]) t') { s with toks := k })
    (hs : subscripted slice false (.str x t) (.int i u) = operate [.str x t, .int i u] (getItem (.str x t) (.int i u)) := by with_unfolding_all rfl)
    (ht : ∀ r, letTemporaryGo value (.str x t) r = pure () := by intro _; with_unfolding_all rfl) : wpAny (model prog w) A (subscriptTail value slice (.str x t) (.int i u)) Q E s := by
  subst h0
  have hne : a ≠ [] := by intro e; subst e; cases hc
  have hpos : 1 ≤ a.length := by cases a <;> simp_all
  have el := len_codes x
  rw [hx] at el
  refine item_str (by decide) (by omega) (by omega) (fun _ => ?_) hs ht
  have e : Txt.item x (-1) = T [c] := by
    unfold Txt.item Txt.charAt
    rw [StrLaws.seqIndex_neg (by decide) (by omega), el]
    simp only [Option.bind_some]
    have : x.cps[(-1 + (a.length : Int)).toNat]? = some c := by
      rw [show (-1 + (a.length : Int)).toNat = a.length - 1 from by omega]
      rw [List.getLast?_eq_getElem?] at hc
      rw [← hc, ← hx]; simp
    rw [this]
    rfl
  rw [e]
  exact h _ _
theorem t_le {c d : Nat} (hx : x.cps.toList = [c]) (hy : y.cps.toList = [d]) (h : Q (.bool (decide (c ≤ d))) s) : wpAny (model prog w) A (compareOp .LtE (.str x t) (.str y u)) Q E s := by
  refine P.le_str ?_
  rw [hx, hy]
  have e : (!decide ([d] < [c])) = decide (c ≤ d) := by
    rw [StrLaws.lt_cons_cons, StrLaws.lt_nil_nil, Bool.and_false, Bool.or_false, Bool.eq_iff_iff]
    simp
  rw [e]; exact h
theorem t_ord {c : Nat} (hx : x.cps.toList = [c]) (h : ∀ t' k, Q (.int c t') { s with toks := k }) : wpAny (model prog w) A (call (.builtin "ord") [.str x t]) Q E s := by
  rw [of_codes hx]
  exact P.ord_of_char (h _ _)
end

section
variable {prog : Program} {w : World} {A : Around} {E : Value → Shared → Prop} {s : Shared} {x : PySem.Str} {t : Tok} {Q : Value → Shared → Prop} {h₀ : Heap} {L : Addr} {m : PySem.Str → Option Value} {news : List (Addr × Obj)}
theorem t_slice_ss {value slice : Expr} {i j : Int} {ui uj : Tok} {z : PySem.Str} (hF : Fr h₀ L s.heap m) (hN : News h₀ L s.heap news) (e : Txt.slice x (some i) (some j) = z) (hl : x.cps.toList.length ≤ 100000)
    (h : ∀ h' t' k, Fr h₀ L h' m → News h₀ L h' news → Q (.str z t') { s with heap := h', toks := k })
    (hs : subscripted slice false (.str x t) (.ref s.heap.objs.size) = operate [.ref s.heap.objs.size, .str x t] (getItem (.str x t) (.ref s.heap.objs.size)) := by with_unfolding_all rfl)
    (ht : ∀ r, letTemporaryGo value (.str x t) r = pure () := by intro _; with_unfolding_all rfl) :
    wpAny (model prog w) A (subscriptTail value slice (.str x t) (.ref s.heap.objs.size)) Q E { s with heap := s.heap.push { cls := .type "slice", data := .fields #[.int i ui, .int j uj, .none] } } :=
  slice_strN_ss hF hN (fun h' t' k a b => by rw [e]; exact h h' t' k a b) hs ht (by rw [len_codes, sizeLine_eq]; omega)
theorem t_slice_ns {value slice : Expr} {j : Int} {uj : Tok} {z : PySem.Str} (hF : Fr h₀ L s.heap m) (hN : News h₀ L s.heap news) (e : Txt.slice x none (some j) = z) (hl : x.cps.toList.length ≤ 100000)
    (h : ∀ h' t' k, Fr h₀ L h' m → News h₀ L h' news → Q (.str z t') { s with heap := h', toks := k })
    (hs : subscripted slice false (.str x t) (.ref s.heap.objs.size) = operate [.ref s.heap.objs.size, .str x t] (getItem (.str x t) (.ref s.heap.objs.size)) := by with_unfolding_all rfl)
    (ht : ∀ r, letTemporaryGo value (.str x t) r = pure () := by intro _; with_unfolding_all rfl) :
    wpAny (model prog w) A (subscriptTail value slice (.str x t) (.ref s.heap.objs.size)) Q E { s with heap := s.heap.push { cls := .type "slice", data := .fields #[.none, .int j uj, .none] } } :=
  slice_strN_ns hF hN (fun h' t' k a b => by rw [e]; exact h h' t' k a b) hs ht (by rw [len_codes, sizeLine_eq]; omega)
theorem t_slice_sn {value slice : Expr} {i : Int} {ui : Tok} {z : PySem.Str} (hF : Fr h₀ L s.heap m) (hN : News h₀ L s.heap news) (e : Txt.slice x (some i) none = z) (hl : x.cps.toList.length ≤ 100000)
    (h : ∀ h' t' k, Fr h₀ L h' m → News h₀ L h' news → Q (.str z t') { s with heap := h', toks := k })
    (hs : subscripted slice false (.str x t) (.ref s.heap.objs.size) = operate [.ref s.heap.objs.size, .str x t] (getItem (.str x t) (.ref s.heap.objs.size)) := by with_unfolding_all rfl)
    (ht : ∀ r, letTemporaryGo value (.str x t) r = pure () := by intro _; with_unfolding_all rfl) :
    wpAny (model prog w) A (subscriptTail value slice (.str x t) (.ref s.heap.objs.size)) Q E { s with heap := s.heap.push { cls := .type "slice", data := .fields #[.int i ui, .none, .none] } } :=
  slice_strN_sn hF hN (fun h' t' k a b => by rw [e]; exact h h' t' k a b) hs ht (by rw [len_codes, sizeLine_eq]; omega)
end

section
variable {prog : Program} {w : World} {A : Around} {E : Value → Shared → Prop} {s : Shared} {a b : Int} {t u : Tok} {Q : Value → Shared → Prop}
theorem lt_T (h : a < b) (hq : Q (.bool true) s) : wpAny (model prog w) A (compareOp .Lt (.int a t) (.int b u)) Q E s := PyProof.Rows.lt_int (by rw [decide_eq_true h]; exact hq)
end
end Mine
end
-- part P2
section
open PySem PySem.W PyProof.Rows
namespace Mine
/-- the code point of a figure -/
noncomputable def fig (d : Nat) : Nat := if d < 10 then 48 + d else 87 + d
theorem fig_lo {d : Nat} (h : d < 10) : fig d = 48 + d := by unfold fig; rw [if_pos h]
theorem fig_hi {d : Nat} (h : ¬ d < 10) : fig d = 87 + d := by unfold fig; rw [if_neg h]
theorem fig_inj {a b : Nat} (h : fig a = fig b) (ha : a < 36) (hb : b < 36) : a = b := by
  unfold fig at h; split at h <;> split at h <;> omega
/-- figures, the least first; none of nought -/
noncomputable def lz (r n : Nat) : List Nat := if h : n = 0 ∨ r < 2 then [] else n % r :: lz r (n / r)
termination_by n
decreasing_by exact Nat.div_lt_self (by omega) (by omega)
theorem lz_zero (r : Nat) : lz r 0 = [] := by rw [lz, dif_pos (Or.inl rfl)]
theorem lz_pos {r n : Nat} (hr : 2 ≤ r) (hn : n ≠ 0) : lz r n = n % r :: lz r (n / r) := by rw [lz, dif_neg (by omega)]
/-- figures, the least first; one at least -/
noncomputable def digs (r n : Nat) : List Nat := if n = 0 then [0] else lz r n
theorem digs_pos {r n : Nat} (hn : n ≠ 0) : digs r n = lz r n := by unfold digs; rw [if_neg hn]
theorem digs_step {r n : Nat} (hr : 2 ≤ r) : n % r :: lz r (n / r) = digs r n := by
  unfold digs
  split
  · rename_i h; subst h; rw [Nat.zero_mod, Nat.zero_div, lz_zero]
  · rename_i h; rw [lz_pos hr h]
/-- the text of a whole number, as code points -/
noncomputable def rep (r n : Nat) : List Nat := (digs r n).reverse.map fig

theorem lz_lt {r : Nat} (hr : 2 ≤ r) : ∀ (n : Nat), ∀ d ∈ lz r n, d < r := by
  intro n
  induction n using Nat.strongRecOn with
  | _ n ih =>
    by_cases h : n = 0
    · subst h; rw [lz_zero]; exact fun d hd => nomatch hd
    · rw [lz_pos hr h]
      intro d hd
      rcases List.mem_cons.mp hd with rfl | hd
      · exact Nat.mod_lt _ (by omega)
      · exact ih _ (Nat.div_lt_self (by omega) (by omega)) d hd
theorem digs_lt {r n : Nat} (hr : 2 ≤ r) : ∀ d ∈ digs r n, d < r := by
  unfold digs
  split
  · intro d hd; rw [List.mem_singleton.mp hd]; omega
  · exact lz_lt hr n
theorem digs_ne (r n : Nat) (hr : 2 ≤ r) : digs r n ≠ [] := by rw [← digs_step hr]; exact List.cons_ne_nil _ _
theorem lz_len {r : Nat} (hr : 2 ≤ r) : ∀ (k n : Nat), n < 2 ^ k → (lz r n).length ≤ k := by
  intro k
  induction k with
  | zero => intro n h; have : n = 0 := by simpa using h
            subst this; rw [lz_zero]; exact Nat.le_refl _
  | succ k ih =>
    intro n h
    by_cases h0 : n = 0
    · subst h0; rw [lz_zero]; exact Nat.zero_le _
    · rw [lz_pos hr h0, List.length_cons]
      refine Nat.succ_le_succ (ih _ ?_)
      rw [Nat.pow_succ] at h
      calc n / r ≤ n / 2 := Nat.div_le_div_left hr (by decide)
        _ < 2 ^ k := by omega
theorem digs_len {r n : Nat} (hr : 2 ≤ r) (hn : n < 9007199254740992) : (digs r n).length ≤ 53 := by
  unfold digs
  split
  · decide
  · exact lz_len hr 53 n hn
theorem digs_pos_len {r n : Nat} (hr : 2 ≤ r) : 1 ≤ (digs r n).length := by
  rw [← digs_step hr, List.length_cons]; omega
theorem rep_len (r n : Nat) : (rep r n).length = (digs r n).length := by simp [rep]
theorem rep_ne {r n : Nat} (hr : 2 ≤ r) : rep r n ≠ [] := by
  intro h
  have := congrArg List.length h
  rw [rep_len] at this
  have := digs_pos_len (n := n) hr
  simp_all

/-- what figures, the least first, are worth -/
noncomputable def val (r : Nat) : List Nat → Nat
  | [] => 0
  | d :: l => d + r * val r l
theorem val_lz {r : Nat} (hr : 2 ≤ r) : ∀ n, val r (lz r n) = n := by
  intro n
  induction n using Nat.strongRecOn with
  | _ n ih =>
    by_cases h : n = 0
    · subst h; rw [lz_zero]; rfl
    · rw [lz_pos hr h]
      show n % r + r * val r (lz r (n / r)) = n
      rw [ih _ (Nat.div_lt_self (by omega) (by omega))]
      exact Nat.mod_add_div n r
theorem val_digs {r n : Nat} (hr : 2 ≤ r) : val r (digs r n) = n := by
  unfold digs
  split
  · rename_i h; subst h; rfl
  · exact val_lz hr n
theorem val_foldl (r : Nat) (l : List Nat) : l.reverse.foldl (fun a d => a * r + d) 0 = val r l := by
  induction l with
  | nil => rfl
  | cons d l ih =>
    rw [List.reverse_cons, List.foldl_append, ih]
    show val r l * r + d = d + r * val r l
    rw [Nat.mul_comm, Nat.add_comm]
end Mine
namespace Mine
theorem not_blank {L : List Nat} {c : Nat} (hL : (L.all fun x => decide (x < 45) || decide (122 < x)) = true) (h1 : 45 ≤ c) (h2 : c ≤ 122) : c ∉ L := by
  intro h
  have := List.all_eq_true.mp hL c h
  simp only [Bool.or_eq_true, decide_eq_true_eq] at this
  omega
end Mine
namespace Mine
theorem worth_turn {V D : Nat → Nat} {r a m : Nat} {pre : List Int} {n f : Int} (hV : ∀ k, a + k < m → V (a + k + 1) = V (a + k) * r + D (a + k)) (hk : pre.length < ((m : Int) - (a : Int)).toNat) (hn : n = (a : Int) + (pre.length : Int)) (hf : f = (V (a + pre.length) : Int)) :
    f * r + (D n.toNat : Int) = (V (a + (pre ++ [n]).length) : Int) := by
  rw [List.length_append, List.length_singleton, ← Nat.add_assoc, hV _ (by omega), hf, hn, show ((a : Int) + (pre.length : Int)).toNat = a + pre.length from by omega]
  rw [Int.natCast_add, Int.natCast_mul]
end Mine
namespace Mine
theorem worth_end {V : Nat → Nat} {a n : Nat} {f : Int} (hf : f = (V (a + (rangeKs (a : Int) ((n : Int) - (a : Int)).toNat).length) : Int)) (ha : a ≤ n) : (V n : Int) = f := by
  rw [hf, show (rangeKs (a : Int) ((n : Int) - (a : Int)).toNat).length = n - a from by simp [rangeKs] <;> omega, show a + (n - a) = n from by omega]
end Mine

namespace Mine
/-- the figure at a place, and what the figures ahead of it are worth -/
noncomputable def Dg (ms : List Nat) (a i : Nat) : Nat := ms.getD (i - a) 0
noncomputable def Vg (r : Nat) (ms : List Nat) (a i : Nat) : Nat := (ms.take (i - a)).foldl (fun x d => x * r + d) 0
theorem Vg_zero (r : Nat) (ms : List Nat) (a : Nat) : Vg r ms a a = 0 := by unfold Vg; rw [Nat.sub_self]; rfl
theorem Vg_step {r : Nat} {ms : List Nat} {a k : Nat} (h : k < ms.length) : Vg r ms a (a + k + 1) = Vg r ms a (a + k) * r + Dg ms a (a + k) := by
  unfold Vg Dg
  rw [show a + k + 1 - a = k + 1 from by omega, show a + k - a = k from by omega, List.take_succ, List.foldl_append]
  simp [List.getElem?_eq_getElem h, List.getD]
theorem Vg_all {r q a : Nat} (hr : 2 ≤ r) : Vg r (digs r q).reverse a (a + (digs r q).length) = q := by
  unfold Vg
  rw [show a + (digs r q).length - a = (digs r q).reverse.length from by simp, List.take_length, val_foldl, val_digs hr]
theorem Dg_lt {r q a i : Nat} (hr : 2 ≤ r) : Dg (digs r q).reverse a i < r := by
  unfold Dg
  rw [List.getD]
  cases h : (digs r q).reverse[i - a]? with
  | none => show 0 < r; omega
  | some d =>
    show d < r
    exact digs_lt hr d (List.mem_reverse.mp (List.mem_of_getElem? h))
theorem Dg_at {r q i : Nat} {pre : List Nat} (h1 : pre.length ≤ i) (h2 : i < (pre ++ rep r q).length) : (pre ++ rep r q)[i]? = some (fig (Dg (digs r q).reverse pre.length i)) := by
  rw [List.getElem?_append_right h1]
  unfold rep
  rw [List.getElem?_map]
  have h3 : i - pre.length < (digs r q).reverse.length := by
    rw [List.length_append, rep_len] at h2
    rw [List.length_reverse]; omega
  unfold Dg
  rw [List.getD, List.getElem?_eq_getElem h3]
  rfl
/-- the greatest figure is not nought -/
theorem lz_last {r : Nat} (hr : 2 ≤ r) : ∀ n, n ≠ 0 → ∃ d, (lz r n).getLast? = some d ∧ d ≠ 0 := by
  intro n
  induction n using Nat.strongRecOn with
  | _ n ih =>
    intro h
    rw [lz_pos hr h]
    by_cases hq : n / r = 0
    · rw [hq, lz_zero]
      refine ⟨n % r, rfl, ?_⟩
      have := Nat.mod_add_div n r
      rw [hq] at this
      omega
    · obtain ⟨d, hd, h0⟩ := ih _ (Nat.div_lt_self (by omega) (by omega)) hq
      refine ⟨d, ?_, h0⟩
      rw [List.getLast?_cons, hd]
      rfl
theorem rep_head {r q : Nat} (hr : 2 ≤ r) (hr2 : r ≤ 36) : ∃ d l, rep r q = fig d :: l ∧ d < r ∧ (q ≠ 0 → d ≠ 0) ∧ (q = 0 → l = []) := by
  by_cases h : q = 0
  · subst h
    exact ⟨0, [], rfl, by omega, fun h => absurd rfl h, fun _ => rfl⟩
  · obtain ⟨d, hd, h0⟩ := lz_last hr q h
    unfold rep
    rw [digs_pos h]
    obtain ⟨l, hl⟩ : ∃ l, (lz r q).reverse = d :: l := by
      cases hx : (lz r q).reverse with
      | nil => rw [List.reverse_eq_nil_iff] at hx; rw [hx] at hd; cases hd
      | cons a l =>
        refine ⟨l, ?_⟩
        have : (lz r q).getLast? = some a := by rw [← List.head?_reverse, hx]; rfl
        rw [hd] at this
        rw [Option.some.inj this]
    refine ⟨d, l.map fig, by rw [hl]; rfl, ?_, fun _ => h0, fun e => absurd e h⟩
    exact lz_lt hr q d (List.mem_of_getLast? hd)
theorem fig_range {d : Nat} (h : d < 36) : 48 ≤ fig d ∧ fig d ≤ 122 ∧ fig d ≠ 73 := by
  unfold fig; split <;> omega
theorem fig_48 {d : Nat} (h : fig d = 48) : d = 0 := by unfold fig at h; split at h <;> omega
theorem rep_last {r q : Nat} (hr : 2 ≤ r) (hr2 : r ≤ 36) : ∃ d, (rep r q).getLast? = some (fig d) ∧ d < 36 := by
  unfold rep
  rw [← digs_step hr]
  refine ⟨q % r, by simp, ?_⟩
  have := Nat.mod_lt q (show r > 0 by omega)
  omega
end Mine
namespace Mine
open PyProof in
theorem lstrip_no {c : Nat} {l : List Nat} {y : PySem.Str} (h : y.cps.contains c = false) : Txt.lstripChars (T (c :: l)) y = T (c :: l) := by
  unfold Txt.lstripChars Txt.stripBy
  have h1 : stripLo y.cps.contains true (T (c :: l)) = 0 := by
    unfold stripLo
    rw [if_pos rfl, codes_T, List.takeWhile_cons, h]
    rfl
  rw [if_pos]
  unfold stripSame
  rw [h1]
  simp [stripHi]
open PyProof in
theorem rep_strip {q : Nat} (h0 : q ≠ 0) : Txt.lstripChars (T (rep 10 q)) (PySem.Str.ofString "0") = T (rep 10 q) := by
  obtain ⟨d, l, e, _, hd, _⟩ := rep_head (r := 10) (q := q) (by decide) (by decide)
  rw [e]
  refine lstrip_no ?_
  have h1 : fig d ≠ 48 := fun h => hd h0 (fig_48 h)
  have h2 : (PySem.Str.ofString "0").cps = #[48] := by decide +kernel
  rw [h2]
  simp [h1]
theorem rep_ne_take {r q : Nat} (hr : 2 ≤ r) (hr2 : r ≤ 36) (x : Nat) : (rep r q).take 2 ≠ [48, x] := by
  obtain ⟨d, l, e, _, hd, hl⟩ := rep_head (r := r) (q := q) hr hr2
  rw [e]
  by_cases h0 : q = 0
  · rw [hl h0]; simp
  · intro h
    simp only [List.take_succ_cons, List.cons.injEq] at h
    exact hd h0 (fig_48 h.1)
theorem rep_ne_inf {r q : Nat} (hr : 2 ≤ r) (hr2 : r ≤ 36) : (rep r q).take 8 ≠ [73, 110, 102, 105, 110, 105, 116, 121] := by
  obtain ⟨d, l, e, hd, _, _⟩ := rep_head (r := r) (q := q) hr hr2
  rw [e]
  intro h
  simp only [List.take_succ_cons, List.cons.injEq] at h
  have := fig_range (d := d) (by omega)
  omega
end Mine
namespace Mine
noncomputable def sgn (sg : Nat) : List Nat := if sg = 1 then [45] else []
end Mine
namespace Mine
theorem sgn_len (sg : Nat) : (sgn sg).length ≤ 1 := by unfold sgn; split <;> decide
end Mine
end
-- part P3
section
open PySem PySem.Spec PySem.Calls PySem.W PyProof.Rows PyProof
namespace Mine
theorem strs_append {vs : List Value} {xs : List PySem.Str} (h : StrsAre vs xs) (y : PySem.Str) (t : Tok) : StrsAre (vs ++ [.str y t]) (xs ++ [y]) := by
  induction h with
  | nil => exact .cons y t .nil
  | cons a u _ ih => exact .cons a u ih
theorem strs_reverse {vs : List Value} {xs : List PySem.Str} (h : StrsAre vs xs) : StrsAre vs.reverse xs.reverse := by
  induction h with
  | nil => exact .nil
  | cons a u _ ih => rw [List.reverse_cons, List.reverse_cons]; exact strs_append ih a u
theorem strs_len {vs : List Value} {xs : List PySem.Str} (h : StrsAre vs xs) : vs.length = xs.length := by
  induction h with
  | nil => rfl
  | cons a u _ ih => rw [List.length_cons, List.length_cons, ih]
theorem strs_carried {vs : List Value} {xs : List PySem.Str} (h : StrsAre vs xs) : CarriedAll vs (xs.map PyData.str) := by
  induction h with
  | nil => exact .nil
  | cons a u _ ih => exact .cons (.str a u) ih
theorem strs_canLay : ∀ xs : List PySem.Str, (∀ x ∈ xs, PyData.strOk x = true) → PyData.canLayAll0 (xs.map PyData.str) = true
  | [], _ => rfl
  | a :: r, h => by
    have h1 := h a (.head _)
    have h2 := strs_canLay r fun x hx => h x (.tail _ hx)
    simp [PyData.canLayAll0, PyData.canLay0, h1, h2]
theorem strs_depth : ∀ xs : List PySem.Str, PyData.depthAll (xs.map PyData.str) = 0
  | [] => rfl
  | _ :: r => by simp [PyData.depthAll, PyData.depth, strs_depth r]
theorem strs_shaped (xs : List PySem.Str) (h : ∀ x ∈ xs, PyData.strOk x = true) : SeqAt.shaped (.list (xs.map PyData.str)) = true := by
  simp [SeqAt.shaped, PyData.canLay0, PyData.depth, strs_canLay xs h, strs_depth]
theorem strs_same_nil (xs : List PySem.Str) : PySem.Spec.same (.list (xs.map PyData.str)) (.list []) = decide (xs = []) := by
  cases xs with
  | nil => simp [PySem.Spec.same, PySem.Spec.sameAll]
  | cons a r => simp [PySem.Spec.same, PySem.Spec.sameAll]
section
variable {prog : Program} {w : World} {A : Around} {E : Value → Shared → Prop} {s : Shared} {Q : Value → Shared → Prop} {h₀ : Heap} {L D l l2 : Addr} {m : PySem.Str → Option Value} {news : List (Addr × Obj)}
theorem eq_strs_nil {its : Array Value} {n n' : Nat} {xs : List PySem.Str} (N : News h₀ L s.heap news) (m1 : (l, listOf its n) ∈ news) (m2 : (l2, listOf #[] n') ∈ news) (hs : StrsAre its.toList xs) (hok : ∀ x ∈ xs, PyData.strOk x = true) (hu : A.units + 64 < cLine)
    (h : Q (.bool (decide (xs = []))) s) : wpAny (model prog w) A (compareOp .Eq (.ref l) (.ref l2)) Q E s := by
  have hl1 : s.heap.IsList l its.toList.toArray := ⟨_, N.get m1, rfl, n, rfl⟩
  have hl2 : s.heap.IsList l2 ([] : List Value).toArray := ⟨_, N.get m2, rfl, n', rfl⟩
  refine eq_dataH_same (da := .list (xs.map PyData.str)) (db := .list []) (reads_newData hl1 (strs_carried hs)) (reads_newData hl2 .nil) (strs_shaped xs hok) (by decide) hu ?_ (by rw [strs_same_nil]; exact h)
  exact SeqAt.noMix_of_shape (.list .str) rfl _ _ (list_map_has fun _ => rfl) rfl
theorem join_nil_T : ∀ (ls : List (List Nat)), PySem.Str.join (PySem.Str.ofString "") (ls.map T) = T ls.flatten
  | [] => rfl
  | [a] => by
    show T a = T ([a].flatten)
    simp
  | a :: b :: r => by
    have ih := join_nil_T (b :: r)
    show T a ++ PySem.Str.ofString "" ++ PySem.Str.join (PySem.Str.ofString "") ((b :: r).map T) = _
    rw [ih]
    apply PySem.Str.ext'
    apply Array.toList_inj.mp
    rw [PySem.Str.cps_append, PySem.Str.cps_append]
    simp [show (PySem.Str.ofString "").cps = #[] from by decide +kernel]
theorem join_strs {its : Array Value} {n : Nat} {t : Tok} {ls : List (List Nat)} {z : List Nat} (N : News h₀ L s.heap news) (m1 : (l, listOf its n) ∈ news) (hs : StrsAre its.toList (ls.map T)) (hz : ls.flatten = z) (hlen : ∀ x ∈ ls, x.length ≤ 1) (hn : ls.length ≤ 1000)
    (h : ∀ t' k, Q (.str (T z) t') { s with toks := k }) : wpAny (model prog w) A (call (.builtin "str.join") [.str (PySem.Str.ofString "") t, .ref l]) Q E s := by
  have hl1 : s.heap.IsList l its := ⟨_, N.get m1, rfl, n, rfl⟩
  refine join_listC hl1 hs (by decide +kernel) ?_ fun t' k => ?_
  · have hb : ∀ l2 : List (List Nat), (∀ x ∈ l2, x.length ≤ 1) → ((l2.map T).map (·.length)).sum ≤ l2.length := by
      intro l2 hl
      induction l2 with
      | nil => exact Nat.le_refl _
      | cons a r ih =>
        rw [List.map_cons, List.map_cons, List.sum_cons, List.length_cons]
        have h1 : (T a).length ≤ 1 := by rw [len_codes, codes_T]; exact hl a (.head _)
        have h2 := ih fun x hx => hl x (.tail _ hx)
        omega
    have := hb ls hlen
    rw [List.length_map]
    omega
  · have e : Txt.join (PySem.Str.ofString "") (ls.map T) = T z := by
      unfold Txt.join
      rw [StrLaws.glued_eq_join, join_nil_T, hz]
    rw [e]
    exact h t' k
theorem rev_strs {its : Array Value} {n : Nat} {news' : List (Addr × Obj)} (F : Fr h₀ L s.heap m) (N : News h₀ L s.heap news) (U : Upd D (listOf its n) (listOf its.toList.reverse.toArray n) news news') (hz : its.size ≤ 1000)
    (h : ∀ h', Fr h₀ L h' m → News h₀ L h' news' → Q .none { s with heap := h' }) : wpAny (model prog w) A (call (.builtin "list.reverse") [.ref D]) Q E s :=
  kl_reverse F N rfl U (by rw [Array.length_toList, sizeLine_eq]; omega) h
end
/-- the state of whole_figures' loop: the number left, the figures found, the list's items -/
structure WSt where
  a : Int
  ta : Tok
  ds : List Nat
  vs : Array Value
  c : Nat
def WInv (r n : Nat) (c : WSt) : Prop := 0 ≤ c.a ∧ ((c.ds = [] ∧ c.a = n) ∨ (c.ds ≠ [] ∧ c.ds ++ lz r c.a.toNat = digs r n))
def WFacts (c : WSt) : Prop := StrsAre c.vs.toList ((c.ds.map fun d => [fig d]).map T) ∧ ∀ d ∈ c.ds, d < 36
noncomputable def WMu (c : WSt) : Nat := 2 * c.a.toNat + (if c.ds = [] then 1 else 0)
theorem w_init (r n : Nat) (t : Tok) (c : Nat) : WInv r n ⟨n, t, [], #[], c⟩ := ⟨Int.natCast_nonneg _, .inl ⟨rfl, rfl⟩⟩
theorem w_facts0 (n : Int) (t : Tok) (c : Nat) : WFacts ⟨n, t, [], #[], c⟩ := ⟨.nil, fun _ hd => nomatch hd⟩
theorem fm_nat (a r : Nat) : Int.fmod (a : Int) (r : Int) = ((a % r : Nat) : Int) := by
  rw [Int.fmod_eq_emod_of_nonneg _ (Int.natCast_nonneg _)]; rfl
theorem fd_nat (a r : Nat) : Int.fdiv (a : Int) (r : Int) = ((a / r : Nat) : Int) := by
  rw [Int.fdiv_eq_ediv_of_nonneg _ (Int.natCast_nonneg _)]; rfl
theorem w_turn {r n : Nat} (hr : 2 ≤ r) {a : Int} {ta : Tok} {ds : List Nat} {vs : Array Value} {c : Nat} (h : WInv r n ⟨a, ta, ds, vs, c⟩) (hgo : 0 < a ∨ ds = []) (ta' : Tok) (vs' : Array Value) (c' : Nat) :
    WInv r n ⟨Int.fdiv a r, ta', ds ++ [(Int.fmod a r).toNat], vs', c'⟩ := by
  obtain ⟨h1, h2⟩ := h
  obtain ⟨k, rfl⟩ := Int.eq_ofNat_of_zero_le h1
  simp only at h2 hgo
  refine ⟨by rw [fd_nat]; exact Int.natCast_nonneg _, .inr ⟨by simp, ?_⟩⟩
  simp only [fd_nat, fm_nat, Int.toNat_natCast]
  rcases h2 with ⟨rfl, e⟩ | ⟨hne, e⟩
  · have : k = n := by exact_mod_cast e
    subst this
    rw [List.nil_append, List.singleton_append]
    exact digs_step hr
  · have hk : k ≠ 0 := by
      rcases hgo with h | h
      · intro e0; subst e0; simp at h
      · exact absurd h hne
    rw [List.append_assoc, List.singleton_append, ← lz_pos hr hk]
    exact e
theorem w_less {r n : Nat} (hr : 2 ≤ r) {a : Int} {ta : Tok} {ds : List Nat} {vs : Array Value} {c : Nat} (h : WInv r n ⟨a, ta, ds, vs, c⟩) (hgo : 0 < a ∨ ds = []) (ta' : Tok) (vs' : Array Value) (c' : Nat) :
    WMu ⟨Int.fdiv a r, ta', ds ++ [(Int.fmod a r).toNat], vs', c'⟩ < WMu ⟨a, ta, ds, vs, c⟩ := by
  obtain ⟨h1, _⟩ := h
  obtain ⟨k, rfl⟩ := Int.eq_ofNat_of_zero_le h1
  unfold WMu
  simp only [fd_nat, Int.toNat_natCast]
  rw [if_neg (by simp)]
  have hd : k / r ≤ k / 2 := Nat.div_le_div_left hr (by decide)
  rcases hgo with h | h
  · have : 0 < k := by exact_mod_cast h
    split <;> omega
  · rw [if_pos h]; omega
theorem w_item {r : Nat} (hr : 2 ≤ r) (hr2 : r ≤ 36) {a : Int} (h : 0 ≤ a) : [48, 49, 50, 51, 52, 53, 54, 55, 56, 57, 97, 98, 99, 100, 101, 102, 103, 104, 105, 106, 107, 108, 109, 110, 111, 112, 113, 114, 115, 116, 117, 118, 119, 120, 121, 122][(Int.fmod a r).toNat]? = some (fig (Int.fmod a r).toNat) := by
  obtain ⟨k, rfl⟩ := Int.eq_ofNat_of_zero_le h
  rw [fm_nat, Int.toNat_natCast]
  have : k % r < 36 := Nat.lt_of_lt_of_le (Nat.mod_lt _ (by omega)) hr2
  generalize k % r = d at this
  have key : ∀ d, d < 36 → [48, 49, 50, 51, 52, 53, 54, 55, 56, 57, 97, 98, 99, 100, 101, 102, 103, 104, 105, 106, 107, 108, 109, 110, 111, 112, 113, 114, 115, 116, 117, 118, 119, 120, 121, 122][d]? = some (fig d) := by decide
  exact key d this
theorem w_pos {r : Nat} {a : Int} (h : 0 ≤ a) : 0 ≤ Int.fmod a r := by
  obtain ⟨k, rfl⟩ := Int.eq_ofNat_of_zero_le h
  rw [fm_nat]; exact Int.natCast_nonneg _
theorem w_lt {r : Nat} (hr : 2 ≤ r) (hr2 : r ≤ 36) {a : Int} (h : 0 ≤ a) : Int.fmod a r < 9223372036854775808 := by
  obtain ⟨k, rfl⟩ := Int.eq_ofNat_of_zero_le h
  rw [fm_nat]
  have : k % r < 36 := Nat.lt_of_lt_of_le (Nat.mod_lt _ (by omega)) hr2
  omega
theorem w_fig {r : Nat} (hr : 2 ≤ r) (hr2 : r ≤ 36) {a : Int} (h : 0 ≤ a) : (Int.fmod a r).toNat < 36 := by
  have := w_pos (r := r) h
  obtain ⟨k, rfl⟩ := Int.eq_ofNat_of_zero_le h
  rw [fm_nat, Int.toNat_natCast]
  exact Nat.lt_of_lt_of_le (Nat.mod_lt _ (by omega)) hr2
theorem w_push {ds : List Nat} {vs : Array Value} {a : Int} {ta : Tok} {c : Nat} (h : WFacts ⟨a, ta, ds, vs, c⟩) (d : Nat) (hd : d < 36) (t : Tok) (a' : Int) (ta' : Tok) (c' : Nat) : WFacts ⟨a', ta', ds ++ [d], vs.push (.str (T [fig d]) t), c'⟩ := by
  obtain ⟨h, h2⟩ := h
  unfold WFacts
  simp only [Array.toList_push, List.map_append, List.map_cons, List.map_nil] at *
  refine ⟨strs_append h _ _, fun x hx => ?_⟩
  rcases List.mem_append.mp hx with hx | hx
  · exact h2 x hx
  · rw [List.mem_singleton.mp hx]; exact hd
theorem w_size {c : WSt} (h : WFacts c) : c.vs.size = c.ds.length := by
  have := strs_len h.1
  simpa using this
theorem w_few {r n : Nat} (hr : 2 ≤ r) (hn : n < 9007199254740992) {c : WSt} (h : WInv r n c) : c.ds.length ≤ 53 := by
  rcases h.2 with ⟨e, _⟩ | ⟨_, e⟩
  · rw [e]; exact Nat.zero_le _
  · have := digs_len hr hn
    rw [← e, List.length_append] at this
    omega
theorem w_ok {ds : List Nat} (h : ∀ d ∈ ds, d < 36) : ∀ x ∈ (ds.map fun d => [fig d]).map T, PyData.strOk x = true := by
  intro x hx
  obtain ⟨y, hy, rfl⟩ := List.mem_map.mp hx
  obtain ⟨d, hd, rfl⟩ := List.mem_map.mp hy
  have := fig_range (h d hd)
  simp [PyData.strOk]
  omega
section
variable {prog : Program} {w : World} {A : Around} {E : Value → Shared → Prop} {s : Shared} {h₀ : Heap} {L D l2 : Addr} {m : PySem.Str → Option Value} {news : List (Addr × Obj)}
theorem eq_found {Q : Value → Shared → Prop} {a : Int} {ta : Tok} {ds : List Nat} {vs : Array Value} {c n n' : Nat} (hf : WFacts ⟨a, ta, ds, vs, c⟩) (N : News h₀ L s.heap news) (m1 : (D, listOf vs n) ∈ news) (m2 : (l2, listOf #[] n') ∈ news) (hu : A.units + 64 < cLine)
    (h : Q (.bool (decide (ds = []))) s) : wpAny (model prog w) A (compareOp .Eq (.ref D) (.ref l2)) Q E s :=
  eq_strs_nil N m1 m2 hf.1 (w_ok hf.2) hu (by simpa using h)
def WEnd (D : Addr) (r : Nat) (a : Int) (vs : Array Value) (c : Nat) (h₀ : Heap) (L : Addr) (m : PySem.Str → Option Value) (s : Shared) (fl : Flow) (s₃ : Shared) : Prop :=
  fl = .next ∧ ∃ (t1 t2 : Tok) (h' : Heap) (tk' : Nat) (m' : PySem.Str → Option Value) (news' : List (Addr × Obj)), s₃ = { s with heap := h', toks := tk' } ∧ Fr h₀ L h' m' ∧
    (∀ z, m' z = if z = PySem.Str.ofString "number" then some (.int (Int.fdiv a r) t1) else m z) ∧ News h₀ L h' news' ∧ (D, listOf (vs.push (.str (T [fig (Int.fmod a r).toNat]) t2)) (c + 1)) ∈ news'
theorem whole_while {r n : Nat} (hr : 2 ≤ r) (hr2 : r ≤ 36) (hn : n < 9007199254740992) {env : Env} {test : Expr} {body : List Stmt} {pos : Pos} {t : Tok} {c₀ : Nat} {Q : Flow → Shared → Prop}
    (F : Fr h₀ L s.heap m) (N : News h₀ L s.heap [(D, listOf #[] c₀)]) (hk : m (PySem.Str.ofString "number") = some (.int n t))
    (turn : ∀ (a : Int) (ta : Tok) (ds : List Nat) (vs : Array Value) (c : Nat) (h : Heap) (tk : Nat), 0 ≤ a → WFacts ⟨a, ta, ds, vs, c⟩ → WInv r n ⟨a, ta, ds, vs, c⟩ → vs.size ≤ 53 → Fr h₀ L h (fun z => if z = PySem.Str.ofString "number" then some (.int a ta) else m z) → News h₀ L h [(D, listOf vs c)] →
      wpAny (model prog w) A (isTrue test env (eval test env)) (fun b s₂ => if b = true then (0 < a ∨ ds = []) ∧ wpAny (model prog w) A (execs body env) (fun fl s₃ => WEnd D r a vs c h₀ L m s fl s₃) E s₂ else Q .next s₂) E { s with heap := h, toks := tk })
    (hE : PassesOwn (model prog w) A env E := by passes_own) :
    wpAny (model prog w) A (exec (.While test body [] pos) env) Q E s := by
  refine ksw_while (σ := WSt) (fun c => [(D, listOf c.vs c.c)]) (fun c => [(PySem.Str.ofString "number", .int c.a c.ta)]) WFacts [] (WInv r n) WMu ⟨n, t, [], #[], c₀⟩ F N (w_facts0 _ _ _) (fun p hp => by rw [List.mem_singleton.mp hp]; exact hk) (w_init r n t c₀) ?_ hE
  rintro ⟨a, ta, ds, vs, c⟩ u h tk hf hp Fk Nk
  have hsz : vs.size ≤ 53 := by have h1 := w_size hf; have h2 := w_few hr hn hp; simp only at h1 h2; omega
  refine wpAny_mono (turn a ta ds vs c h tk hp.1 hf hp hsz Fk Nk) (fun b s₂ q => ?_) fun _ _ x => x
  cases b with
  | false => simpa using q
  | true =>
    simp only [if_true] at q ⊢
    obtain ⟨hgo, q⟩ := q
    refine wpAny_mono q (fun fl s₃ q => ?_) fun _ _ x => x
    obtain ⟨rfl, t1, t2, h', tk', m', news', rfl, F', hm, N', hmem⟩ := q
    exact ksw_end ⟨Int.fdiv a r, t1, ds ++ [(Int.fmod a r).toNat], vs.push (.str (T [fig (Int.fmod a r).toNat]) t2), c + 1⟩ F' N' (fun p hp => by rw [List.mem_singleton.mp hp]; exact hmem) (w_push hf _ (w_fig hr hr2 hp.1) _ _ _ _)
      (fun p hp => by rw [List.mem_singleton.mp hp]; show m' _ = _; rw [hm, if_pos rfl]) (fun z hz _ => by
        have := hz _ (List.mem_singleton.mpr rfl)
        rw [hm, if_neg this]) (w_turn hr hp hgo _ _ _) (w_less hr hp hgo _ _ _)
end
theorem w_done {r n : Nat} {a : Int} {ta : Tok} {ds : List Nat} {vs : Array Value} {c : Nat} (h : WInv r n ⟨a, ta, ds, vs, c⟩) (h0 : ¬ 0 < a) (hne : ds ≠ []) : ds = digs r n := by
  obtain ⟨h1, h2⟩ := h
  simp only at h1 h2
  have : a = 0 := by omega
  subst this
  rcases h2 with ⟨e, _⟩ | ⟨_, e⟩
  · exact absurd e hne
  · rw [show (0 : Int).toNat = 0 from rfl, lz_zero, List.append_nil] at e; exact e
theorem w_rev {ds : List Nat} {vs : Array Value} (h : StrsAre vs.toList ((ds.map fun d => [fig d]).map T)) : StrsAre vs.toList.reverse.toArray.toList ((ds.reverse.map fun d => [fig d]).map T) := by
  have := strs_reverse h
  rw [← List.map_reverse, ← List.map_reverse] at this
  exact this
theorem w_flat (r n : Nat) : (((digs r n).reverse.map fun d => [fig d])).flatten = rep r n := by
  unfold rep
  generalize (digs r n).reverse = l
  induction l with
  | nil => rfl
  | cons a l ih => rw [List.map_cons, List.flatten_cons, ih]; rfl
end Mine
namespace Mine
theorem over2 {x : PySem.Str} {v w : Option Value} {m : PySem.Str → Option Value} (z : PySem.Str) : (if z = x then v else if z = x then w else m z) = if z = x then v else m z := by
  split
  · rfl
  · rfl
theorem w_join {r n : Nat} {a : Int} {ta : Tok} {ds : List Nat} {vs : Array Value} {c : Nat} (hf : WFacts ⟨a, ta, ds, vs, c⟩) (hi : WInv r n ⟨a, ta, ds, vs, c⟩) (h0 : ¬ 0 < a) (hne : ¬ ds = []) : StrsAre vs.toList.reverse.toArray.toList (((digs r n).reverse.map fun d => [fig d]).map T) := by
  have e := w_done hi h0 hne
  subst e
  exact w_rev hf.1
theorem one_len (l : List Nat) : ∀ x ∈ (l.map fun d => [fig d]), x.length ≤ 1 := by
  intro x hx
  obtain ⟨d, _, rfl⟩ := List.mem_map.mp hx
  exact Nat.le_refl _
end Mine
namespace Mine
theorem w_end {D : Addr} {r : Nat} {a : Int} {vs : Array Value} {c : Nat} {h₀ h' : Heap} {L : Addr} {m : PySem.Str → Option Value} {s s₃ : Shared} {t1 t2 : Tok} {tk' : Nat} {w : Option Value} {news' : List (Addr × Obj)}
    (F : Fr h₀ L h' (fun y => if y = PySem.Str.ofString "number" then some (.int (Int.fdiv a r) t1) else if y = PySem.Str.ofString "number" then w else m y)) (N : News h₀ L h' news')
    (hm : (D, listOf (vs.push (.str (T [fig (Int.fmod a r).toNat]) t2)) (c + 1)) ∈ news') (hs : s₃ = { s with heap := h', toks := tk' }) : WEnd D r a vs c h₀ L m s .next s₃ :=
  ⟨rfl, t1, t2, h', tk', _, news', hs, F, fun z => over2 z, N, hm⟩
end Mine
end
-- part P4
section
open PySem PySem.Spec PySem.Calls PySem.W PyProof.Rows PyProof
namespace Mine
theorem core_digs : ∀ (fuel n : Nat) (ds : List Char), n < fuel → Nat.toDigitsCore 10 fuel n ds = (digs 10 n).reverse.map Nat.digitChar ++ ds := by
  intro fuel
  induction fuel with
  | zero => intro n ds h; omega
  | succ fuel ih =>
    intro n ds h
    rw [Nat.toDigitsCore]
    by_cases h0 : n / 10 = 0
    · have : digs 10 n = [n % 10] := by rw [← digs_step (by decide), h0, lz_zero]
      rw [this]
      simp [h0]
    · have h1 : n ≠ 0 := by omega
      have e : digs 10 n = n % 10 :: digs 10 (n / 10) := by
        rw [digs_pos h1, lz_pos (by decide) h1, ← digs_pos h0]
      simp only [h0, if_false]
      rw [ih _ _ (by omega), e]
      simp
theorem digit_code {d : Nat} (h : d < 10) : (Nat.digitChar d).toNat = fig d := by
  have key : ∀ d, d < 10 → (Nat.digitChar d).toNat = fig d := by decide
  exact key d h
theorem toDigits_rep (n : Nat) : (Nat.toDigits 10 n).map Char.toNat = rep 10 n := by
  unfold Nat.toDigits
  rw [core_digs _ _ _ (Nat.lt_succ_self n), List.append_nil, List.map_map]
  unfold rep
  apply List.map_congr_left
  intro d hd
  exact digit_code (digs_lt (by decide) d (List.mem_reverse.mp hd))
theorem str_nat (n : Nat) : PySem.Str.ofString (toString ((n : Nat) : Int)) = T (rep 10 n) := by
  have := text_ofNat n
  rw [toDigits_rep] at this
  exact this
section
variable {prog : Program} {w : World} {A : Around} {E : Value → Shared → Prop} {s : Shared} {x y : PySem.Str} {t u : Tok} {Q : Value → Shared → Prop}
/-- str of a whole number -/
theorem t_str {n : Nat} {a : Int} (ha : a = n) (hb : n < 2 ^ 1900) (h : ∀ t' k, Q (.str (T (rep 10 n)) t') { s with toks := k }) : wpAny (model prog w) A (call (.type "str") [.int a t]) Q E s := by
  subst ha
  refine P.str_of_int ?_ ?_
  · rw [Int.natAbs_natCast]
    by_cases h0 : n = 0
    · subst h0; decide
    · exact Nat.lt_of_lt_of_le ((Nat.log2_lt h0).mpr hb) (by decide)
  · have := h s.toks (s.toks + 1)
    rw [← str_nat] at this
    exact this
end
/-- the next figures, the least first -/
noncomputable def inc (r : Nat) : List Nat → List Nat
  | [] => [1]
  | d :: l => if d = r - 1 then 0 :: inc r l else (d + 1) :: l
theorem inc_lz {r : Nat} (hr : 2 ≤ r) : ∀ n, inc r (lz r n) = lz r (n + 1) := by
  intro n
  induction n using Nat.strongRecOn with
  | _ n ih =>
    by_cases h : n = 0
    · subst h
      rw [lz_zero, lz_pos hr (by decide), Nat.zero_add, Nat.mod_eq_of_lt (by omega), Nat.div_eq_of_lt (by omega), lz_zero]
      rfl
    · rw [lz_pos hr h, lz_pos hr (Nat.succ_ne_zero n)]
      unfold inc
      have hm := Nat.mod_lt n (show r > 0 by omega)
      have hd := Nat.mod_add_div n r
      split
      · rename_i e
        have h1 : n + 1 = r * (n / r + 1) := by rw [Nat.mul_add]; omega
        have h2 : (n + 1) % r = 0 := by rw [h1]; exact Nat.mul_mod_right _ _
        have h3 : (n + 1) / r = n / r + 1 := by rw [h1]; exact Nat.mul_div_cancel_left _ (by omega)
        rw [h2, h3, ih _ (Nat.div_lt_self (by omega) (by omega))]
      · rename_i e
        have h1 : n + 1 = (n % r + 1) + r * (n / r) := by omega
        have h2 : (n + 1) % r = n % r + 1 := by rw [h1, Nat.add_mul_mod_self_left]; exact Nat.mod_eq_of_lt (by omega)
        have h3 : (n + 1) / r = n / r := by rw [h1, Nat.add_mul_div_left _ _ (by omega), Nat.div_eq_of_lt (by omega)]; omega
        rw [h2, h3]
theorem inc_digs {r : Nat} (hr : 2 ≤ r) (n : Nat) : inc r (digs r n) = digs r (n + 1) := by
  rw [digs_pos (Nat.succ_ne_zero n), ← inc_lz hr]
  by_cases h : n = 0
  · subst h
    rw [lz_zero]
    show inc r [0] = inc r []
    unfold inc
    rw [if_neg (by omega)]
  · rw [digs_pos h]
noncomputable def FIGS : List Nat := [48, 49, 50, 51, 52, 53, 54, 55, 56, 57, 97, 98, 99, 100, 101, 102, 103, 104, 105, 106, 107, 108, 109, 110, 111, 112, 113, 114, 115, 116, 117, 118, 119, 120, 121, 122]
theorem figs_at {d : Nat} (h : d < 36) : FIGS[d]? = some (fig d) := by
  have key : ∀ d, d < 36 → FIGS[d]? = some (fig d) := by decide
  exact key d h
theorem figs_take {r d : Nat} (hr : r ≤ 36) (h : d < r) : (FIGS.take r)[d]? = some (fig d) := by
  rw [List.getElem?_take_of_lt h, figs_at (by omega)]
theorem figs_last {r : Nat} (hr : 2 ≤ r) (hr2 : r ≤ 36) : (FIGS.take r).getLast? = some (fig (r - 1)) := by
  have hl : (FIGS.take r).length = r := by rw [List.length_take]; show min r 36 = r; omega
  rw [List.getLast?_eq_getElem?, hl]
  exact figs_take hr2 (by omega)
theorem idx_first {l : List Nat} {c i : Nat} (hi : l[i]? = some c) (hk : ∀ k, k < i → l[k]? ≠ some c) {x : PySem.Str} (hx : x.cps.toList = l) : ∃ rest, Builtin.Str.occurrences x ⟨#[c]⟩ 0 x.length 1 = i :: rest := by
  rcases StrLaws.occ_head_from x ⟨#[c]⟩ 0 1 (Nat.le_refl 1) with ⟨_, hn⟩ | ⟨j, r, e, _, hat, hn⟩
  · exact absurd ((StrLaws.subAt_one x c i).mpr (by rw [hx]; exact hi)) (by
      intro h
      have := hn i (Nat.zero_le _)
      simp only [StrLaws.At] at this
      apply this
      exact h)
  · refine ⟨r, ?_⟩
    rw [e]
    have h1 : l[j]? = some c := by
      have := (StrLaws.subAt_one x c j).mp hat
      rw [hx] at this; exact this
    rcases Nat.lt_trichotomy j i with h | h | h
    · exact absurd h1 (hk j h)
    · rw [h]
    · refine absurd ?_ (hn i (Nat.zero_le _) h)
      exact (StrLaws.subAt_one x c i).mpr (by rw [hx]; exact hi)
end Mine
namespace Mine
section
variable {prog : Program} {w : World} {A : Around} {E : Value → Shared → Prop} {s : Shared} {x y : PySem.Str} {t u : Tok} {Q : Value → Shared → Prop}
theorem t_index {l : List Nat} {c i : Nat} (hx : x.cps.toList = l) (hy : y.cps.toList = [c]) (hi : l[i]? = some c) (hk : ∀ k, k < i → l[k]? ≠ some c) (h : ∀ t' k, Q (.int i t') { s with toks := k }) :
    wpAny (model prog w) A (call (.builtin "str.index") [.str x t, .str y u]) Q E s := by
  obtain ⟨rest, e⟩ := idx_first hi hk hx
  rw [of_codes hy]
  exact PySem.SC.index e (h _ _)
end
theorem figs_idx {r d : Nat} (hr : r ≤ 36) (h : d < r) : ∀ k, k < d → (FIGS.take r)[k]? ≠ some (fig d) := by
  intro k hk e
  rw [figs_take hr (by omega)] at e
  have := fig_inj (Option.some.inj e) (by omega) (by omega)
  omega
end Mine
namespace Mine
section
variable {prog : Program} {w : World} {A : Around} {E : Value → Shared → Prop} {s : Shared} {x y : PySem.Str} {t u : Tok} {Q : Value → Shared → Prop}
theorem rep_fold (c : Nat) : ∀ (n : Nat) (a : Array Nat), (List.replicate n #[c]).foldl (· ++ ·) a = (a.toList ++ List.replicate n c).toArray
  | 0, a => by simp
  | n + 1, a => by
    rw [List.replicate_succ, List.foldl_cons, rep_fold c n]
    simp [List.replicate_succ]
theorem t_mul {c n : Nat} {i : Int} (hx : x.cps.toList = [c]) (hi : i = n) (hn : n ≤ 1000) (h : ∀ t' k, Q (.str (T (List.replicate n c)) t') { s with toks := k }) : wpAny (model prog w) A (binaryOp .Mult (.str x t) (.int i u)) Q E s := by
  subst hi
  have hx' := of_codes hx
  subst hx'
  refine P.mul_str (by simp; omega) (fun h1 _ => ?_) (fun _ _ => by unfold Builtin.Str.tooLong; simp [PySem.Str.length, sizeLine_eq]; omega) ?_
  · have h2 : (1 : Int) ≤ (2 ^ 63 - 1) / (n : Int) := Int.le_ediv_of_mul_le (by omega) (by omega)
    show ¬ (((T [c]).length : Int) > (2 ^ 63 - 1) / (n : Int))
    rw [len_codes, codes_T]
    exact Int.not_lt.mpr h2
  by_cases h0 : n = 0
  · subst h0
    rw [if_pos (by decide)]
    exact ⟨by decide, h _ _⟩
  · rw [if_neg (by omega)]
    by_cases h1 : n = 1
    · subst h1
      rw [if_pos (by rfl)]
      exact h _ _
    · rw [if_neg (by simp [PySem.Str.length]; omega)]
      have e : (⟨(List.replicate ((n : Int)).toNat (T [c]).cps).foldl (· ++ ·) #[]⟩ : PySem.Str) = T (List.replicate n c) := by
        rw [show (T [c]).cps = #[c] from rfl, rep_fold]
        simp
      rw [e]
      exact ⟨by rw [len_codes, codes_T, sizeLine_eq]; simp; omega, h _ _⟩
end
end Mine
end
-- part MB
section
open PySem PySem.Spec PySem.Calls PySem.W PyProof.Rows
set_option Elab.async false
set_option maxRecDepth 100000
set_option maxHeartbeats 8000000
namespace Mine

noncomputable abbrev LZ : List Str := looseW hdA.view_1 [Str.ofString "SIGN_BIT", Str.ofString "FRACTION_MASK", Str.ofString "HIDDEN_BIT_dbits", Str.ofString "NEG_ZERO", Str.ofString "ONE", Str.ofString "INF", Str.ofString "NAN", Str.ofString "HIDDEN_BIT_numshow"]

abbrev Ret := Heap → Addr → (Str → Option Value) → Shared → (Value → Shared → Prop) → Prop

/-- a call of the function at `f` with `vs`, over the ledger `news`, goes on as `R` says -/
def Cl (need : Nat) (f : Addr) (vs : List Value) (news : List (Addr × Obj)) (R : Ret) : Prop :=
  ∀ (w : World) (mean : ExcName → Option Value) (mg mb : Str → Option Value) (dp un : Nat) (gd : Option (List Code)) (cn : Str) (cs : Scope) (a : Addr) (ccd : Value) (cl : List (Str × Addr)) (outer : List Env) (A₀ : Around) (base h₀ : Heap) (L : Addr) (m : Str → Option Value) (s : Shared) (Q E : Value → Shared → Prop),
    Below A₀ base outer h₀ → Fr h₀ L s.heap m → (hdA.heap_1 w.params).In h₀ → News h₀ L s.heap news → Top hdA.view_1 LZ mean mg mb h₀ → cs.kind = .function →
    dp + need < recursionLimit → un + 8 * need < cLine → R h₀ L m s Q →
    wpAny (model PySem.Challenge.rw_sz0079_01.row.prog w) (ktrTop dp un gd cn cs L a ccd cl outer) (call (.ref f) vs) Q E s

theorem Cl.use {need : Nat} {f : Addr} {vs : List Value} {news : List (Addr × Obj)} {R : Ret} (C : Cl need f vs news R)
    {w : World} {mean : ExcName → Option Value} {mg mb : Str → Option Value} {dp un : Nat} {gd : Option (List Code)} {cn : Str} {cs : Scope} {a : Addr} {ccd : Value} {cl : List (Str × Addr)} {outer : List Env} {A₀ : Around} {base h₀ : Heap} {L : Addr} {m : Str → Option Value} {s : Shared} {Q E : Value → Shared → Prop}
    (k1 : Below A₀ base outer h₀) (k2 : Fr h₀ L s.heap m) (k3 : (hdA.heap_1 w.params).In h₀) (k4 : News h₀ L s.heap news) (k5 : Top hdA.view_1 LZ mean mg mb h₀) (k6 : cs.kind = .function)
    (k7 : dp + need < recursionLimit) (k8 : un + 8 * need < cLine) (r : R h₀ L m s Q) :
    wpAny (model PySem.Challenge.rw_sz0079_01.row.prog w) (ktrTop dp un gd cn cs L a ccd cl outer) (call (.ref f) vs) Q E s :=
  C w mean mg mb dp un gd cn cs a ccd cl outer A₀ base h₀ L m s Q E k1 k2 k3 k4 k5 k6 k7 k8 r

abbrev RetI (news : List (Addr × Obj)) (x : Int) : Ret := fun h₀ L m s Q => ∀ (t : Tok) (h' : Heap) (tk' : Nat), Fr h₀ L h' m → News h₀ L h' news → Q (.int x t) { s with heap := h', toks := tk' }
abbrev RetB (news : List (Addr × Obj)) (x : Bool) : Ret := fun h₀ L m s Q => ∀ (h' : Heap) (tk' : Nat), Fr h₀ L h' m → News h₀ L h' news → Q (.bool x) { s with heap := h', toks := tk' }
abbrev RetS (news : List (Addr × Obj)) (x : Str) : Ret := fun h₀ L m s Q => ∀ (t : Tok) (h' : Heap) (tk' : Nat), Fr h₀ L h' m → News h₀ L h' news → Q (.str x t) { s with heap := h', toks := tk' }
abbrev RetN (news : List (Addr × Obj)) : Ret := fun h₀ L m s Q => ∀ (h' : Heap) (tk' : Nat), Fr h₀ L h' m → News h₀ L h' news → Q .none { s with heap := h', toks := tk' }
abbrev tup (vs : List Value) (c : Nat) : Obj := { cls := .type "tuple", data := .seq vs.toArray c }
abbrev Ret2II (news : List (Addr × Obj)) (x y : Int) : Ret := fun h₀ L m s Q => ∀ (D : Addr) (t u : Tok) (c : Nat) (h' : Heap) (tk' : Nat), Fr h₀ L h' m → News h₀ L h' ((D, { cls := .type "tuple", data := .seq #[.int x t, .int y u] c }) :: news) → Q (.ref D) { s with heap := h', toks := tk' }
abbrev Ret2BI (news : List (Addr × Obj)) (x : Bool) (y : Int) : Ret := fun h₀ L m s Q => ∀ (D : Addr) (u : Tok) (c : Nat) (h' : Heap) (tk' : Nat), Fr h₀ L h' m → News h₀ L h' ((D, { cls := .type "tuple", data := .seq #[.bool x, .int y u] c }) :: news) → Q (.ref D) { s with heap := h', toks := tk' }
abbrev Ret2SI (news : List (Addr × Obj)) (x : Str) (y : Int) : Ret := fun h₀ L m s Q => ∀ (D : Addr) (t u : Tok) (c : Nat) (h' : Heap) (tk' : Nat), Fr h₀ L h' m → News h₀ L h' ((D, { cls := .type "tuple", data := .seq #[.str x t, .int y u] c }) :: news) → Q (.ref D) { s with heap := h', toks := tk' }
abbrev Ret3 (news : List (Addr × Obj)) (x y z : Int) : Ret := fun h₀ L m s Q => ∀ (D : Addr) (t u v : Tok) (c : Nat) (h' : Heap) (tk' : Nat), Fr h₀ L h' m → News h₀ L h' ((D, { cls := .type "tuple", data := .seq #[.int x t, .int y u, .int z v] c }) :: news) → Q (.ref D) { s with heap := h', toks := tk' }
abbrev Ret4 (news : List (Addr × Obj)) (x y z v : Int) : Ret := fun h₀ L m s Q => ∀ (D : Addr) (t₁ t₂ t₃ t₄ : Tok) (c : Nat) (h' : Heap) (tk' : Nat), Fr h₀ L h' m → News h₀ L h' ((D, { cls := .type "tuple", data := .seq #[.int x t₁, .int y t₂, .int z t₃, .int v t₄] c }) :: news) → Q (.ref D) { s with heap := h', toks := tk' }
/-- a tuple of an empty list and nought -/
abbrev Ret2LI (news : List (Addr × Obj)) (y : Int) : Ret := fun h₀ L m s Q => ∀ (D l : Addr) (u : Tok) (c c' : Nat) (h' : Heap) (tk' : Nat), Fr h₀ L h' m → News h₀ L h' ((D, { cls := .type "tuple", data := .seq #[.ref l, .int y u] c }) :: (l, { cls := .type "list", data := .seq #[] c' }) :: news) → Q (.ref D) { s with heap := h', toks := tk' }
section
variable {news news' : List (Addr × Obj)} {h₀ h' g : Heap} {L L' D l : Addr} {m m' : Str → Option Value} {s : Shared} {Q : Value → Shared → Prop} {tk' c c' : Nat} {t t₁ t₂ t₃ t₄ : Tok}
theorem news_over (N : News h₀ L g news) (G : Fr g L' h' m') : News h₀ L h' news := fun p hp => ⟨G.keep _ _ (N p hp).1, (N p hp).2⟩
theorem news_more {p₀ : Addr × Obj} (N : News h₀ L h' news') (hm : p₀ ∈ news') (N' : News h₀ L h' news) : News h₀ L h' (p₀ :: news) := fun p hp => by
  rcases List.mem_cons.mp hp with rfl | hp
  · exact N _ hm
  · exact N' p hp
theorem rB {x y : Bool} (hr : RetB news x h₀ L m s Q) (e : x = y) (F : Fr h₀ L h' m) (N : News h₀ L g news) (G : Fr g L' h' m') : Q (.bool y) { s with heap := h', toks := tk' } := by
  subst e; exact hr _ _ F (news_over N G)
theorem rI {x y : Int} (hr : RetI news x h₀ L m s Q) (e : x = y) (F : Fr h₀ L h' m) (N : News h₀ L g news) (G : Fr g L' h' m') : Q (.int y t) { s with heap := h', toks := tk' } := by
  subst e; exact hr _ _ _ F (news_over N G)
theorem rS {x y : Str} (hr : RetS news x h₀ L m s Q) (e : x = y) (F : Fr h₀ L h' m) (N : News h₀ L g news) (G : Fr g L' h' m') : Q (.str y t) { s with heap := h', toks := tk' } := by
  subst e; exact hr _ _ _ F (news_over N G)
theorem rN (hr : RetN news h₀ L m s Q) (F : Fr h₀ L h' m) (N : News h₀ L g news) (G : Fr g L' h' m') : Q .none { s with heap := h', toks := tk' } := hr _ _ F (news_over N G)
theorem r2II {x x' y y' : Int} (hr : Ret2II news x y h₀ L m s Q) (e1 : x = x') (e2 : y = y') (F : Fr h₀ L h' m) (N : News h₀ L g news) (G : Fr g L' h' m') (N' : News h₀ L h' news') (hm : (D, ({ cls := .type "tuple", data := .seq #[.int x' t₁, .int y' t₂] c } : Obj)) ∈ news') : Q (.ref D) { s with heap := h', toks := tk' } := by
  subst e1; subst e2; exact hr _ _ _ _ _ _ F (news_more N' hm (news_over N G))
theorem r2BI {x x' : Bool} {y y' : Int} (hr : Ret2BI news x y h₀ L m s Q) (e1 : x = x') (e2 : y = y') (F : Fr h₀ L h' m) (N : News h₀ L g news) (G : Fr g L' h' m') (N' : News h₀ L h' news') (hm : (D, ({ cls := .type "tuple", data := .seq #[.bool x', .int y' t₂] c } : Obj)) ∈ news') : Q (.ref D) { s with heap := h', toks := tk' } := by
  subst e1; subst e2; exact hr _ _ _ _ _ F (news_more N' hm (news_over N G))
theorem r2SI {x x' : Str} {y y' : Int} (hr : Ret2SI news x y h₀ L m s Q) (e1 : x = x') (e2 : y = y') (F : Fr h₀ L h' m) (N : News h₀ L g news) (G : Fr g L' h' m') (N' : News h₀ L h' news') (hm : (D, ({ cls := .type "tuple", data := .seq #[.str x' t₁, .int y' t₂] c } : Obj)) ∈ news') : Q (.ref D) { s with heap := h', toks := tk' } := by
  subst e1; subst e2; exact hr _ _ _ _ _ _ F (news_more N' hm (news_over N G))
theorem r3 {x x' y y' z z' : Int} (hr : Ret3 news x y z h₀ L m s Q) (e1 : x = x') (e2 : y = y') (e3 : z = z') (F : Fr h₀ L h' m) (N : News h₀ L g news) (G : Fr g L' h' m') (N' : News h₀ L h' news') (hm : (D, ({ cls := .type "tuple", data := .seq #[.int x' t₁, .int y' t₂, .int z' t₃] c } : Obj)) ∈ news') : Q (.ref D) { s with heap := h', toks := tk' } := by
  subst e1; subst e2; subst e3; exact hr _ _ _ _ _ _ _ F (news_more N' hm (news_over N G))
theorem r4 {x x' y y' z z' v v' : Int} (hr : Ret4 news x y z v h₀ L m s Q) (e1 : x = x') (e2 : y = y') (e3 : z = z') (e4 : v = v') (F : Fr h₀ L h' m) (N : News h₀ L g news) (G : Fr g L' h' m') (N' : News h₀ L h' news') (hm : (D, ({ cls := .type "tuple", data := .seq #[.int x' t₁, .int y' t₂, .int z' t₃, .int v' t₄] c } : Obj)) ∈ news') : Q (.ref D) { s with heap := h', toks := tk' } := by
  subst e1; subst e2; subst e3; subst e4; exact hr _ _ _ _ _ _ _ _ F (news_more N' hm (news_over N G))
theorem r2LI {y y' : Int} (hr : Ret2LI news y h₀ L m s Q) (e1 : y = y') (F : Fr h₀ L h' m) (N : News h₀ L g news) (G : Fr g L' h' m') (N' : News h₀ L h' news') (hm : (D, ({ cls := .type "tuple", data := .seq #[.ref l, .int y' t₂] c } : Obj)) ∈ news') (hl : (l, ({ cls := .type "list", data := .seq #[] c' } : Obj)) ∈ news') : Q (.ref D) { s with heap := h', toks := tk' } := by
  subst e1; exact hr _ _ _ _ _ _ _ F (news_more N' hm (news_more N' hl (news_over N G)))
end

/-- a def entered with an empty ledger: all that stands in the heap stays -/
theorem code_defP {prog : Program} {w : World} {A₀ A : Around} {s : Shared} {base h₀ : Heap} {outer : List Env} {L : Addr} {m : Str → Option Value} {env : Env} {news : List (Addr × Obj)} {K : Frag} {p : Program} {loose : List Str} {mean : ExcName → Option Value} {mg mb : Str → Option Value}
    {R : Result → Shared → Prop} {name qual : Str} {params : Arguments} {body : List Stmt} {scope : Scope} {dV kV doc pm cdv ct oc : Value} {an od : Option Addr} {osl : Array (Option Value)} {f : Addr} {args : Args} {binds : List (Str × Value)}
    (B : Below A₀ base outer h₀) (F : Fr h₀ L s.heap m) (X₀ : K.In h₀) (N : News h₀ L s.heap news) (T : Top p loose mean mg mb h₀) (hA : A.frames = some (env :: outer)) (hf : env.frame = some L) (hke : env.scope.kind = .function)
    (ho : K.lookup f = some ⟨oc, od, .func (fnOf name qual params body scope dV kV doc pm an cdv ct), osl⟩) (hcd : codeIn K cdv qual = true) (hroom : A.depth < recursionLimit)
    (hbind : BindsTo s (fnOf name qual params body scope dV kV doc pm an cdv ct) args binds) (hloc : ∀ y ∈ binds, scope.names.lookup y.1 = some .local)
    (h : ∀ g L' h₁, s.heap.StaysIn g → Fr h₀ L g m → News h₀ L g news → Fr g L' h₁ (fun y => binds.reverse.lookup y) → News g L' h₁ [] → Below A base (env :: outer) g → K.In g → Top p loose mean mg mb g →
      wpAny (model prog w) (A.deeper (envOf qual scope L' f cdv)) (execs body (envOf qual scope L' f cdv))
        (fun fl s' => LeaveK h₀ L m g R (match fl with | .ret v => v | _ => .none) s')
        (fun e s' => wpAny (model prog w) (A.deeper (envOf qual scope L' f cdv)) (leaving (envOf qual scope L' f cdv) e) (fun _ s'' => R (.error e) s'') (fun e' s'' => R (.error e') s'') s')
        { s with heap := h₁, toks := s.toks + binds.length })
    (hco : scope.isCoroutine = false) (hgen : scope.isGenerator = false) (hk : scope.kind = .function)
    (hcell : ∀ x ∈ scope.names, x.2 ≠ .cell) : codeAny (model prog w) A (.call (.ref f) args) R s := by
  obtain ⟨FG, BG, st, lv⟩ := groundX (R := R) B F (News.nil (L := L)) hA hf hke
  refine codeAny_call_def (fd := fnX name qual params body scope [] dV kV doc pm an cdv ct) (body := body) (binds := binds) hroom ((X₀.keeps F.keep) _ _ ho) rfl (T.nolimit.keeps F.keep) (codeRec_of (X₀.keeps F.keep) hcd) rfl hbind hcell hloc (fun h₁ hns hk₁ => ?_) hco hgen hk
  exact wpAny_mono (h _ s.heap.objs.size h₁ (fun _ _ e => e) FG N ⟨hns, hk₁, Nat.le_refl _⟩ News.nil BG (X₀.keeps st) (T.keeps st)) (fun fl s' hl => lv _ _ hl) fun _ _ y => y

theorem Cl.on {need : Nat} {f : Addr} {vs : List Value} {news : List (Addr × Obj)} {R : Ret} (C : Cl need f vs news R)
    {w : World} {mean : ExcName → Option Value} {mg mb : Str → Option Value} {dp un : Nat} {gd : Option (List Code)} {cn : Str} {cs : Scope} {a : Addr} {ccd : Value} {cl : List (Str × Addr)} {outer : List Env} {A₀ : Around} {base h₀ : Heap} {L : Addr} {m : Str → Option Value} {s : Shared} {Q E : Value → Shared → Prop}
    (k : Below A₀ base outer h₀ ∧ Fr h₀ L s.heap m ∧ (hdA.heap_1 w.params).In h₀ ∧ News h₀ L s.heap news ∧ Top hdA.view_1 LZ mean mg mb h₀ ∧ cs.kind = .function ∧ dp + need < recursionLimit ∧ un + 8 * need < cLine) (r : R h₀ L m s Q) :
    wpAny (model PySem.Challenge.rw_sz0079_01.row.prog w) (ktrTop dp un gd cn cs L a ccd cl outer) (call (.ref f) vs) Q E s :=
  C.use k.1 k.2.1 k.2.2.1 k.2.2.2.1 k.2.2.2.2.1 k.2.2.2.2.2.1 k.2.2.2.2.2.2.1 k.2.2.2.2.2.2.2 r

/-- an if without else that turns two ints: its ways meet again, P said of the two -/
def MJ2 (x y : Str) (P : Int → Int → Prop) (h₀ : Heap) (L : Addr) (m : Str → Option Value) (news : List (Addr × Obj)) (s : Shared) (fl : Flow) (s' : Shared) : Prop :=
  fl = .next ∧ ∃ (a b : Int) (t u : Tok) (h' : Heap) (tk' : Nat), s' = { s with heap := h', toks := tk' } ∧ P a b ∧ Fr h₀ L h' (fun z => if z = y then some (.int b u) else if z = x then some (.int a t) else m z) ∧ News h₀ L h' news
def MJN (P : Int → Int → Prop) (a b : Int) (h₀ : Heap) (L : Addr) (m : Str → Option Value) (news : List (Addr × Obj)) (s : Shared) (s' : Shared) : Prop :=
  ∃ (h' : Heap) (tk' : Nat), s' = { s with heap := h', toks := tk' } ∧ P a b ∧ Fr h₀ L h' m ∧ News h₀ L h' news
theorem mj_if2 {M : Model} {A : Around} {E : Value → Shared → Prop} {s : Shared} {env : Env} {h₀ : Heap} {L : Addr} {m : Str → Option Value} {news : List (Addr × Obj)} {test : Expr} {body : List Stmt} {x y : Str} {pos : Pos} {a b : Int} {t u : Tok} {Q : Flow → Shared → Prop} (P : Int → Int → Prop)
    (_F : Fr h₀ L s.heap m) (_N : News h₀ L s.heap news) (hx : m x = some (.int a t)) (hy : m y = some (.int b u))
    (hc : wpAny M A (isTrue test env (eval test env)) (fun k s₂ => if k = true then wpAny M A (execs body env) (fun fl s₃ => MJ2 x y P h₀ L m news s fl s₃) E s₂ else MJN P a b h₀ L m news s s₂) E s)
    (hk : ∀ (a b : Int) (t u : Tok) (h' : Heap) (tk' : Nat), P a b → Fr h₀ L h' (fun z => if z = y then some (.int b u) else if z = x then some (.int a t) else m z) → News h₀ L h' news → Q .next { s with heap := h', toks := tk' }) :
    wpAny M A (exec (.If test body [] pos) env) Q E s := by
  refine wpAny_If (wpAny_mono hc (fun k s₂ h => ?_) fun _ _ h => h)
  cases k with
  | true =>
    simp only [if_true] at h
    show wpAny M A (execs body env) Q E s₂
    refine wpAny_mono h (fun fl s₃ h => ?_) fun _ _ h => h
    obtain ⟨rfl, a', b', t', u', h', tk', rfl, hP, F, N⟩ := h
    exact hk a' b' t' u' h' tk' hP F N
  | false =>
    simp only [Bool.false_eq_true, if_false] at h
    obtain ⟨h', tk', rfl, hP, F, N⟩ := h
    refine wpAny_execs_nil (hk a b t u h' tk' hP ?_ N)
    have e : (fun z => if z = y then some (.int b u) else if z = x then some (.int a t) else m z) = m := by
      funext z
      by_cases h1 : z = y
      · rw [if_pos h1, h1, hy]
      · rw [if_neg h1]
        by_cases h2 : z = x
        · rw [if_pos h2, h2, hx]
        · rw [if_neg h2]
    rw [e]
    exact F

/-- an if whose test is false on every way -/
def MJ0 (h₀ : Heap) (L : Addr) (m : Str → Option Value) (news : List (Addr × Obj)) (s : Shared) (k : Bool) (s' : Shared) : Prop :=
  k = false ∧ ∃ (h' : Heap) (tk' : Nat), s' = { s with heap := h', toks := tk' } ∧ Fr h₀ L h' m ∧ News h₀ L h' news
theorem mj_if_no {M : Model} {A : Around} {E : Value → Shared → Prop} {s : Shared} {env : Env} {h₀ : Heap} {L : Addr} {m : Str → Option Value} {news : List (Addr × Obj)} {test : Expr} {body : List Stmt} {pos : Pos} {Q : Flow → Shared → Prop}
    (_F : Fr h₀ L s.heap m) (_N : News h₀ L s.heap news)
    (hc : wpAny M A (isTrue test env (eval test env)) (fun k s₂ => MJ0 h₀ L m news s k s₂) E s)
    (hk : ∀ (h' : Heap) (tk' : Nat), Fr h₀ L h' m → News h₀ L h' news → Q .next { s with heap := h', toks := tk' }) :
    wpAny M A (exec (.If test body [] pos) env) Q E s := by
  refine wpAny_If (wpAny_mono hc (fun k s₂ h => ?_) fun _ _ h => h)
  obtain ⟨rfl, h', tk', rfl, F, N⟩ := h
  exact wpAny_execs_nil (hk h' tk' F N)

/-- a while whose test is false at once -/
theorem mj_while_no {prog : Program} {w : World} {A : Around} {E : Value → Shared → Prop} {s : Shared} {env : Env} {h₀ : Heap} {L : Addr} {m : Str → Option Value} {news : List (Addr × Obj)} {test : Expr} {body : List Stmt} {pos : Pos} {Q : Flow → Shared → Prop}
    (F : Fr h₀ L s.heap m) (N : News h₀ L s.heap news)
    (hc : ∀ (h' : Heap) (tk' : Nat), Fr h₀ L h' m → News h₀ L h' news → wpAny (model prog w) A (isTrue test env (eval test env)) (fun k s₂ => MJ0 h₀ L m news { s with heap := h', toks := tk' } k s₂) E { s with heap := h', toks := tk' })
    (hk : ∀ (h' : Heap) (tk' : Nat), Fr h₀ L h' m → News h₀ L h' news → Q .next { s with heap := h', toks := tk' })
    (hE : PassesOwn (model prog w) A env E := by passes_own) :
    wpAny (model prog w) A (exec (.While test body [] pos) env) Q E s := by
  refine ksw_while (σ := Unit) (fun _ => news) (fun _ => []) (fun _ => True) [] (fun _ => True) (fun _ => 0) () F N trivial (fun _ hp => nomatch hp) trivial ?_ hE
  intro c u h tk _ _ Fk Nk
  have e : kstB (fun z => if ([] : List Str).contains z then u z else m z) [] = m := rfl
  rw [e] at Fk
  refine wpAny_mono (hc h tk Fk Nk) (fun b s₂ q => ?_) fun _ _ x => x
  obtain ⟨rfl, h', tk', rfl, F', N'⟩ := q
  simp only [Bool.false_eq_true, if_false]
  exact hk h' tk' F' N'

/-- both arms of a conditional expression meet in a text, or in an int of which P holds -/
def MJS (z : List Nat) (h₀ : Heap) (L : Addr) (m : Str → Option Value) (news : List (Addr × Obj)) (s : Shared) (v : Value) (s' : Shared) : Prop :=
  ∃ (x : Str) (t : Tok) (h' : Heap) (tk' : Nat), v = .str x t ∧ x.cps.toList = z ∧ s' = { s with heap := h', toks := tk' } ∧ Fr h₀ L h' m ∧ News h₀ L h' news
def MJI (P : Int → Prop) (h₀ : Heap) (L : Addr) (m : Str → Option Value) (news : List (Addr × Obj)) (s : Shared) (v : Value) (s' : Shared) : Prop :=
  ∃ (x : Int) (t : Tok) (h' : Heap) (tk' : Nat), v = .int x t ∧ P x ∧ s' = { s with heap := h', toks := tk' } ∧ Fr h₀ L h' m ∧ News h₀ L h' news
section
variable {M : Model} {A : Around} {E : Value → Shared → Prop} {s : Shared} {env : Env} {h₀ : Heap} {L : Addr} {m : Str → Option Value} {news : List (Addr × Obj)} {test a b : Expr} {pos : Pos} {Q : Value → Shared → Prop}
theorem mj_str (z : List Nat) (_F : Fr h₀ L s.heap m) (_N : News h₀ L s.heap news)
    (hc : wpAny M A (isTrue test env (eval test env)) (fun k s₁ => if k = true then wpAny M A (eval a env) (fun v s₂ => MJS z h₀ L m news s v s₂) E s₁ else wpAny M A (eval b env) (fun v s₂ => MJS z h₀ L m news s v s₂) E s₁) E s)
    (hk : ∀ (t : Tok) (h' : Heap) (tk' : Nat), Fr h₀ L h' m → News h₀ L h' news → Q (.str ⟨z.toArray⟩ t) { s with heap := h', toks := tk' }) :
    wpAny M A (eval (.IfExp test a b pos) env) Q E s := by
  refine wpAny_mono (Q := fun v s₂ => _) (wpAny_IfExp hc) (fun v s₂ h => ?_) fun _ _ h => h
  obtain ⟨x, t, h', tk', rfl, rfl, rfl, F, N⟩ := h
  have e : x = ⟨x.cps.toList.toArray⟩ := by cases x; rfl
  have := hk t h' tk' F N
  rw [← e] at this
  exact this
theorem mj_int (P : Int → Prop) (_F : Fr h₀ L s.heap m) (_N : News h₀ L s.heap news)
    (hc : wpAny M A (isTrue test env (eval test env)) (fun k s₁ => if k = true then wpAny M A (eval a env) (fun v s₂ => MJI P h₀ L m news s v s₂) E s₁ else wpAny M A (eval b env) (fun v s₂ => MJI P h₀ L m news s v s₂) E s₁) E s)
    (hk : ∀ (x : Int) (t : Tok) (h' : Heap) (tk' : Nat), P x → Fr h₀ L h' m → News h₀ L h' news → Q (.int x t) { s with heap := h', toks := tk' }) :
    wpAny M A (eval (.IfExp test a b pos) env) Q E s := by
  refine wpAny_mono (Q := fun v s₂ => _) (wpAny_IfExp hc) (fun v s₂ h => ?_) fun _ _ h => h
  obtain ⟨x, t, h', tk', rfl, hP, rfl, F, N⟩ := h
  exact hk x t h' tk' hP F N
end
end Mine
namespace Mine
/-- all ways of an or meet in one bool -/
def MJB (k : Bool) (h₀ : Heap) (L : Addr) (m : Str → Option Value) (news : List (Addr × Obj)) (s : Shared) (v : Value) (s' : Shared) : Prop :=
  ∃ (h' : Heap) (tk' : Nat), v = .bool k ∧ s' = { s with heap := h', toks := tk' } ∧ Fr h₀ L h' m ∧ News h₀ L h' news
theorem mj_bool {M : Model} {A : Around} {E : Value → Shared → Prop} {s : Shared} {env : Env} {h₀ : Heap} {L : Addr} {m : Str → Option Value} {news : List (Addr × Obj)} {op : BoolOp} {es : List Expr} {pos : Pos} {Q : Value → Shared → Prop} (k : Bool) (_F : Fr h₀ L s.heap m) (_N : News h₀ L s.heap news)
    (hc : wpAny M A (eval (.BoolOp op es pos) env) (fun v s₂ => MJB k h₀ L m news s v s₂) E s)
    (hk : ∀ (h' : Heap) (tk' : Nat), Fr h₀ L h' m → News h₀ L h' news → Q (.bool k) { s with heap := h', toks := tk' }) :
    wpAny M A (eval (.BoolOp op es pos) env) Q E s := by
  refine wpAny_mono hc (fun v s₂ h => ?_) fun _ _ h => h
  obtain ⟨h', tk', rfl, rfl, F, N⟩ := h
  exact hk h' tk' F N
end Mine
end
-- part P5
section
open PySem PySem.Spec PySem.Calls PySem.W PyProof.Rows PyProof
namespace Mine
theorem lz_lo {r : Nat} (hr : 2 ≤ r) : ∀ n, n ≠ 0 → 1 ≤ (lz r n).length ∧ r ^ ((lz r n).length - 1) ≤ n := by
  intro n
  induction n using Nat.strongRecOn with
  | _ n ih =>
    intro h
    rw [lz_pos hr h, List.length_cons]
    refine ⟨by omega, ?_⟩
    by_cases hq : n / r = 0
    · rw [hq, lz_zero]; simp; omega
    · obtain ⟨h1, h2⟩ := ih _ (Nat.div_lt_self (by omega) (by omega)) hq
      rw [show (lz r (n / r)).length + 1 - 1 = ((lz r (n / r)).length - 1) + 1 from by omega, Nat.pow_succ]
      calc r ^ ((lz r (n / r)).length - 1) * r ≤ n / r * r := Nat.mul_le_mul_right _ h2
        _ ≤ n := Nat.div_mul_le_self n r
theorem lz_hi {r : Nat} (hr : 2 ≤ r) : ∀ n, n < r ^ (lz r n).length := by
  intro n
  induction n using Nat.strongRecOn with
  | _ n ih =>
    by_cases h : n = 0
    · subst h; rw [lz_zero]; simp
    · rw [lz_pos hr h, List.length_cons, Nat.pow_succ]
      have := ih (n / r) (Nat.div_lt_self (by omega) (by omega))
      have h2 := Nat.mod_add_div n r
      have h3 := Nat.mod_lt n (show r > 0 by omega)
      have h4 : (n / r + 1) * r ≤ r ^ (lz r (n / r)).length * r := Nat.mul_le_mul_right _ this
      rw [Nat.add_mul, Nat.one_mul, Nat.mul_comm] at h4
      omega
theorem lz_get {r : Nat} (hr : 2 ≤ r) : ∀ (j n : Nat), j < (lz r n).length → (lz r n)[j]? = some (n / r ^ j % r) := by
  intro j
  induction j with
  | zero =>
    intro n h
    by_cases h0 : n = 0
    · subst h0; rw [lz_zero] at h; exact absurd h (by simp)
    · rw [lz_pos hr h0]; simp
  | succ j ih =>
    intro n h
    by_cases h0 : n = 0
    · subst h0; rw [lz_zero] at h; exact absurd h (by simp)
    · rw [lz_pos hr h0] at h ⊢
      rw [List.getElem?_cons_succ, ih _ (by simpa using h), Nat.div_div_eq_div_mul, Nat.pow_succ, Nat.mul_comm r]
/-- how many decimal figures -/
noncomputable def dl (n : Nat) : Nat := (digs 10 n).length
theorem dl_eq' {n : Nat} (h : n ≠ 0) : dl n = (lz 10 n).length := by unfold dl; rw [digs_pos h]
theorem dl_hi {n : Nat} (h : n ≠ 0) : n < 10 ^ dl n := by rw [dl_eq' h]; exact lz_hi (by decide) n
theorem dl_lo {n : Nat} (h : n ≠ 0) : 1 ≤ dl n ∧ 10 ^ (dl n - 1) ≤ n := by rw [dl_eq' h]; exact lz_lo (by decide) n h
theorem dl_le {n k : Nat} (h : n ≠ 0) (hk : n < 10 ^ k) : dl n ≤ k := by
  have := (dl_lo h).2
  have h2 : dl n - 1 < k := (Nat.pow_lt_pow_iff_right (by decide : 1 < 10)).mp (Nat.lt_of_le_of_lt this hk)
  have := (dl_lo h).1
  omega
theorem dl_ge {n k : Nat} (h : n ≠ 0) (hk : 10 ^ k ≤ n) : k < dl n :=
  (Nat.pow_lt_pow_iff_right (by decide : 1 < 10)).mp (Nat.lt_of_le_of_lt hk (dl_hi h))
theorem dl_mul {q U : Nat} (hq : q ≠ 0) (hU : U ≠ 0) : (dl (q * U) = dl q + dl U - 1) ∨ (dl (q * U) = dl q + dl U) := by
  have h0 : q * U ≠ 0 := Nat.mul_ne_zero hq hU
  have a1 := dl_lo hq; have a2 := dl_hi hq; have b1 := dl_lo hU; have b2 := dl_hi hU
  have lo : 10 ^ (dl q - 1 + (dl U - 1)) ≤ q * U := by rw [Nat.pow_add]; exact Nat.mul_le_mul a1.2 b1.2
  have hi : q * U < 10 ^ (dl q + dl U) := by rw [Nat.pow_add]; exact Nat.mul_lt_mul'' a2 b2
  have := dl_ge h0 lo
  have := dl_le h0 hi
  omega
theorem dl_small {q : Nat} (h : q < 9007199254740992) : dl q ≤ 16 := by
  by_cases h0 : q = 0
  · subst h0; decide
  · exact dl_le h0 (Nat.lt_of_lt_of_le h (by decide))
theorem rep_dl (n : Nat) : (rep 10 n).length = dl n := rep_len 10 n

/-- the figure at a place from the left; what is left behind it -/
noncomputable def fg (q d i : Nat) : Nat := q / 10 ^ (d - 1 - i) % 10
noncomputable def Nn (q U d i : Nat) : Nat := (q % 10 ^ (d - i)) * (U * 10 ^ i)
theorem fg_lt (q d i : Nat) : fg q d i < 10 := Nat.mod_lt _ (by decide)
theorem Nn_zero {q U : Nat} (hq : q ≠ 0) : Nn q U (dl q) 0 = q * U := by
  unfold Nn
  rw [Nat.sub_zero, Nat.mod_eq_of_lt (dl_hi hq), Nat.pow_zero, Nat.mul_one]
theorem cut_div (q k c : Nat) (hc : 0 < c) : ((q % 10 ^ (k + 1)) * c) / (10 ^ k * c) = q / 10 ^ k % 10 := by
  rw [Nat.mul_div_mul_right _ _ hc, Nat.pow_succ, Nat.mod_mul_right_div_self]
theorem cut_mod (q k c : Nat) : ((q % 10 ^ (k + 1)) * c) % (10 ^ k * c) = (q % 10 ^ k) * c := by
  rw [Nat.mul_mod_mul_right, Nat.pow_succ, Nat.mod_mul_right_mod]
theorem Nn_ten {q U d i k : Nat} (h : d = i + k + 1) : Nn q U d i * 10 = (q % 10 ^ (k + 1)) * (U * 10 ^ (i + 1)) := by
  unfold Nn
  rw [show d - i = k + 1 from by omega, Nat.pow_succ 10 i, Nat.mul_assoc, Nat.mul_assoc]
theorem W_eq {U d i k : Nat} (h : d = i + k + 1) : U * 10 ^ d = 10 ^ k * (U * 10 ^ (i + 1)) := by
  subst h
  rw [show i + k + 1 = k + (i + 1) from by omega, Nat.pow_add, Nat.mul_left_comm]
theorem s_fig {q U d i : Nat} (hi : i < d) (hU : 0 < U) : ((Nn q U d i : Int) * 10).fdiv ((U * 10 ^ d : Nat) : Int) = (fg q d i : Int) := by
  obtain ⟨k, hk⟩ : ∃ k, d = i + k + 1 := ⟨d - i - 1, by omega⟩
  have hc : 0 < U * 10 ^ (i + 1) := Nat.mul_pos hU (Nat.pow_pos (by decide))
  have e : (Nn q U d i : Int) * 10 = ((Nn q U d i * 10 : Nat) : Int) := by rw [Int.natCast_mul]; rfl
  rw [e, Nn_ten hk, W_eq hk, Int.fdiv_eq_ediv_of_nonneg _ (Int.natCast_nonneg _), ← Int.natCast_ediv, cut_div _ _ _ hc]
  unfold fg
  rw [show d - 1 - i = k from by omega]
theorem s_rest {q U d i : Nat} (hi : i < d) : ((Nn q U d i : Int) * 10).fmod ((U * 10 ^ d : Nat) : Int) = (Nn q U d (i + 1) : Int) := by
  obtain ⟨k, hk⟩ : ∃ k, d = i + k + 1 := ⟨d - i - 1, by omega⟩
  have e : (Nn q U d i : Int) * 10 = ((Nn q U d i * 10 : Nat) : Int) := by rw [Int.natCast_mul]; rfl
  rw [e, Nn_ten hk, W_eq hk, Int.fmod_eq_emod_of_nonneg _ (Int.natCast_nonneg _), ← Int.natCast_emod, cut_mod]
  unfold Nn
  rw [show d - (i + 1) = k from by omega]
theorem s_low {q U d i : Nat} (hU : 2 ≤ U) (h : q % 10 ^ (d - (i + 1)) = 0) : Nn q U d (i + 1) = 0 := by unfold Nn; rw [h, Nat.zero_mul]
theorem s_notlow {q U d i : Nat} (hU : 2 ≤ U) (h : q % 10 ^ (d - (i + 1)) ≠ 0) : 10 ^ (i + 1) < Nn q U d (i + 1) := by
  unfold Nn
  have h1 : 0 < 10 ^ (i + 1) := Nat.pow_pos (by decide)
  have h2 : 1 ≤ q % 10 ^ (d - (i + 1)) := Nat.one_le_iff_ne_zero.mpr h
  calc 10 ^ (i + 1) < 2 * 10 ^ (i + 1) := by omega
    _ ≤ U * 10 ^ (i + 1) := Nat.mul_le_mul_right _ hU
    _ = 1 * (U * 10 ^ (i + 1)) := (Nat.one_mul _).symm
    _ ≤ _ := Nat.mul_le_mul_right _ h2
theorem s_high {q U d i a : Nat} (hi : i < d) (ha : a < U) : Nn q U d (i + 1) + a * 10 ^ (i + 1) < U * 10 ^ d := by
  obtain ⟨k, hk⟩ : ∃ k, d = i + k + 1 := ⟨d - i - 1, by omega⟩
  rw [W_eq hk]
  unfold Nn
  rw [show d - (i + 1) = k from by omega]
  have h1 : q % 10 ^ k + 1 ≤ 10 ^ k := Nat.mod_lt _ (Nat.pow_pos (by decide))
  have h2 : a * 10 ^ (i + 1) < U * 10 ^ (i + 1) := Nat.mul_lt_mul_of_pos_right ha (Nat.pow_pos (by decide))
  calc q % 10 ^ k * (U * 10 ^ (i + 1)) + a * 10 ^ (i + 1) < q % 10 ^ k * (U * 10 ^ (i + 1)) + U * 10 ^ (i + 1) := Nat.add_lt_add_left h2 _
    _ = (q % 10 ^ k + 1) * (U * 10 ^ (i + 1)) := by rw [Nat.add_mul, Nat.one_mul]
    _ ≤ _ := Nat.mul_le_mul_right _ h1
/-- the first figures -/
noncomputable def F (q d i : Nat) : List Nat := (List.range i).map fun j => fg q d j
theorem F_len (q d i : Nat) : (F q d i).length = i := by simp [F]
theorem F_succ (q d i : Nat) : F q d (i + 1) = F q d i ++ [fg q d i] := by unfold F; rw [List.range_succ, List.map_append]; rfl
theorem F_all {q : Nat} (hq : q ≠ 0) : (digs 10 q).reverse = F q (dl q) (dl q) := by
  apply List.ext_getElem?
  intro j
  rw [digs_pos hq]
  have hd := dl_eq' hq
  by_cases hj : j < dl q
  · rw [List.getElem?_reverse (by omega), lz_get (by decide) _ _ (by omega)]
    unfold F
    rw [List.getElem?_map, List.getElem?_range hj]
    simp only [Option.map_some]
    unfold fg
    rw [hd, show (lz 10 q).length - 1 - j = (lz 10 q).length - 1 - j from rfl]
  · rw [List.getElem?_eq_none (by simp; omega), List.getElem?_eq_none (by rw [F_len]; omega)]
theorem F_stop {q d i : Nat} (hi : i < d) (h : q % 10 ^ (d - (i + 1)) = 0) : F q d d = F q d (i + 1) ++ List.replicate (d - (i + 1)) 0 := by
  apply List.ext_getElem?
  intro j
  by_cases hj : j < i + 1
  · rw [List.getElem?_append_left (by rw [F_len]; exact hj)]
    unfold F
    rw [List.getElem?_map, List.getElem?_map, List.getElem?_range hj, List.getElem?_range (by omega)]
  · rw [List.getElem?_append_right (by rw [F_len]; omega), F_len]
    by_cases hd : j < d
    · rw [List.getElem?_replicate, if_pos (by omega)]
      unfold F
      rw [List.getElem?_map, List.getElem?_range hd]
      simp only [Option.map_some, Option.some.injEq]
      unfold fg
      obtain ⟨c, hc⟩ := Nat.dvd_of_mod_eq_zero h
      rw [hc, show d - (i + 1) = (d - 1 - j) + 1 + (j - (i + 1)) from by omega, Nat.pow_add, Nat.pow_succ, Nat.mul_assoc, Nat.mul_assoc, Nat.mul_div_cancel_left _ (Nat.pow_pos (by decide)), Nat.mul_mod_right]
    · rw [List.getElem?_eq_none (by rw [F_len]; omega), List.getElem?_eq_none (by simp; omega)]
theorem rep_stop {q i : Nat} (hq : q ≠ 0) (hi : i < dl q) (h : q % 10 ^ (dl q - (i + 1)) = 0) : rep 10 q = (F q (dl q) (i + 1)).map fig ++ List.replicate (dl q - (i + 1)) 48 := by
  unfold rep
  rw [F_all hq, F_stop hi h, List.map_append, List.map_replicate]
  rfl
theorem rep_one {d : Nat} (h : d < 10) : rep 10 d = [fig d] := by
  unfold rep
  rw [← digs_step (by decide), Nat.mod_eq_of_lt h, Nat.div_eq_of_lt h, lz_zero]
  rfl
end Mine
namespace Mine
/-- what decimal_place meets -/
structure PlaceIn (q U : Nat) : Prop where
  h0 : q ≠ 0
  hq : q < 9007199254740992
  hU : 2 ≤ U
  hU2 : U < 2 ^ 60
theorem PlaceIn.big {q U : Nat} (h : PlaceIn q U) : q * U < 2 ^ 1900 := by
  have h1 := h.hq
  have h2 := h.hU2
  have : q * U < 9007199254740992 * 2 ^ 60 := Nat.mul_lt_mul'' h1 h2
  exact Nat.lt_of_lt_of_le this (by rw [show (9007199254740992 : Nat) = 2 ^ 53 from rfl, ← Nat.pow_add]; exact Nat.pow_le_pow_right (by decide) (by decide))
theorem PlaceIn.bigU {q U : Nat} (h : PlaceIn q U) : U < 2 ^ 1900 := Nat.lt_of_lt_of_le h.hU2 (Nat.pow_le_pow_right (by decide) (by decide))
theorem PlaceIn.smU {q U : Nat} (h : PlaceIn q U) : Sm (U : Int) := sm_nat 60 h.hU2 (by decide)
theorem PlaceIn.d16 {q U : Nat} (h : PlaceIn q U) : dl q ≤ 16 := dl_small h.hq
theorem PlaceIn.d1 {q U : Nat} (h : PlaceIn q U) : 1 ≤ dl q := (dl_lo h.h0).1
theorem PlaceIn.found {q U : Nat} (h : PlaceIn q U) : (((rep 10 (q * U)).length : Int) - ((rep 10 U).length : Int) = (dl q : Int) - 1) ∨ (((rep 10 (q * U)).length : Int) - ((rep 10 U).length : Int) = (dl q : Int)) := by
  rw [rep_dl, rep_dl]
  have hU := h.hU
  have := dl_mul h.h0 (show U ≠ 0 by omega)
  have h1 := h.d1
  have h2 := (dl_lo (show U ≠ 0 by omega)).1
  omega
theorem sm_ten {k : Nat} (h : k ≤ 20) : Sm ((10 ^ k : Nat) : Int) := by
  refine sm_nat 100 ?_ (by decide)
  exact Nat.lt_of_le_of_lt (Nat.pow_le_pow_right (by decide) h) (by decide)
theorem ten_cast {f : Int} {k : Nat} (h : f = k) : (10 : Int) ^ f.toNat = ((10 ^ k : Nat) : Int) := by
  subst h; rw [Int.toNat_natCast, Int.natCast_pow]; rfl
theorem PlaceIn.le {q U : Nat} (h : PlaceIn q U) : U * 10 ^ (dl q - 1) ≤ q * U := by
  rw [Nat.mul_comm]; exact Nat.mul_le_mul_right _ (dl_lo h.h0).2
theorem PlaceIn.gt {q U a : Nat} (h : PlaceIn q U) (ha : a < U) : q * U + a < U * 10 ^ dl q := by
  have h1 := dl_hi h.h0
  calc q * U + a < q * U + U := by omega
    _ = (q + 1) * U := by rw [Nat.add_mul, Nat.one_mul]
    _ ≤ 10 ^ dl q * U := Nat.mul_le_mul_right _ h1
    _ = _ := Nat.mul_comm _ _
end Mine
namespace Mine
noncomputable def eU (q : Nat) : Nat := if man q = 4503599627370496 then 4 * 2 ^ (53 - bl q) else 2 * 2 ^ (53 - bl q)
noncomputable def ea (q : Nat) : Nat := if man q = 4503599627370496 then 2 else 1
theorem eU_place {q : Nat} (h0 : q ≠ 0) (hq : q < 9007199254740992) : PlaceIn q (eU q) := by
  have h1 := Nat.two_pow_pos (53 - bl q)
  have h2 : 2 ^ (53 - bl q) ≤ 2 ^ 52 := Nat.pow_le_pow_right (by decide) (by have := bl_pos h0; omega)
  have h3 : (2 : Nat) ^ 60 = 256 * 2 ^ 52 := by rw [show (256 : Nat) = 2 ^ 8 from rfl, ← Nat.pow_add]
  refine ⟨h0, hq, ?_, ?_⟩ <;> unfold eU <;> split <;> omega
theorem ea_lt (q : Nat) : ea q < eU q := by
  have h1 := Nat.two_pow_pos (53 - bl q)
  unfold ea eU; split <;> omega
theorem eU_edge {q : Nat} (h : man q = 4503599627370496) : q * eU q = man q * 4 ∧ ea q = 2 := by
  unfold eU ea
  rw [if_pos h, if_pos h]
  refine ⟨?_, rfl⟩
  unfold man
  rw [Nat.mul_comm 4, Nat.mul_assoc]
theorem eU_mid {q : Nat} (h : man q ≠ 4503599627370496) : q * eU q = man q * 2 ∧ ea q = 1 := by
  unfold eU ea
  rw [if_neg h, if_neg h]
  refine ⟨?_, rfl⟩
  unfold man
  rw [Nat.mul_comm 2, Nat.mul_assoc]
end Mine
end
-- part P6
section
open PySem PySem.Spec PySem.Calls PySem.W PyProof.Rows PyProof
namespace Mine
/-- the state of shortest's loop -/
structure SSt where
  i : Nat
  n1 : Int
  n2 : Int
  n3 : Int
  t1 : Tok
  t2 : Tok
  t3 : Tok
  vs : Array Value
  c : Nat
def SInv (q U a : Nat) (c : SSt) : Prop := c.i < dl q ∧ c.n1 = (Nn q U (dl q) c.i : Int) ∧ c.n2 = ((a * 10 ^ c.i : Nat) : Int) ∧ c.n3 = ((10 ^ c.i : Nat) : Int)
def SFacts (q : Nat) (c : SSt) : Prop := StrsAre c.vs.toList (((F q (dl q) c.i).map fun x => [fig x]).map T)
def FigIs (x : Int) (n : Nat) : Prop := x = n ∧ n < 10
def Lw (_k : Bool) : Prop := True
theorem s_size {q : Nat} {c : SSt} (h : SFacts q c) : c.vs.size = c.i := by
  have := strs_len h
  simpa [F_len] using this
theorem s_push {q i : Nat} {n1 n2 n3 : Int} {t1 t2 t3 : Tok} {vs : Array Value} {c : Nat} (h : SFacts q ⟨i, n1, n2, n3, t1, t2, t3, vs, c⟩) (t : Tok) : StrsAre (vs.push (.str (T [fig (fg q (dl q) i)]) t)).toList (((F q (dl q) (i + 1)).map fun x => [fig x]).map T) := by
  unfold SFacts at h
  simp only at h
  rw [F_succ, List.map_append, List.map_append, Array.toList_push]
  exact strs_append h _ _
abbrev sNames : List PySem.Str := [PySem.Str.ofString "figure", PySem.Str.ofString "is_low", PySem.Str.ofString "is_high"]
noncomputable def sPs (c : SSt) : List (PySem.Str × Value) := [(PySem.Str.ofString "number", .int c.n1 c.t1), (PySem.Str.ofString "above", .int c.n2 c.t2), (PySem.Str.ofString "below", .int c.n3 c.t3)]
def SNext (q U a : Nat) (D : Addr) (h₀ : Heap) (L : Addr) (m : PySem.Str → Option Value) (s : Shared) (i : Nat) (vs : Array Value) (c : Nat) (s₃ : Shared) : Prop :=
  ∃ (c' : SSt) (h' : Heap) (tk' : Nat) (m' : PySem.Str → Option Value) (news' : List (Addr × Obj)) (t4 : Tok), s₃ = { s with heap := h', toks := tk' } ∧ Fr h₀ L h' m' ∧ News h₀ L h' news' ∧
    c'.i = i + 1 ∧ c'.vs = vs.push (.str (T [fig (fg q (dl q) i)]) t4) ∧ (D, listOf c'.vs c'.c) ∈ news' ∧ SInv q U a c' ∧ (∀ p ∈ sPs c', m' p.1 = some p.2) ∧ (∀ z, (∀ p ∈ sPs c', z ≠ p.1) → sNames.contains z = false → m' z = m z)
def SPost (q U a : Nat) (D : Addr) (h₀ : Heap) (L : Addr) (m : PySem.Str → Option Value) (s : Shared) (i : Nat) (vs : Array Value) (c : Nat) (Q : Flow → Shared → Prop) (fl : Flow) (s₃ : Shared) : Prop :=
  match fl with
  | .ret v => Q (.ret v) s₃
  | .next => SNext q U a D h₀ L m s i vs c s₃
  | _ => False
section
variable {prog : Program} {w : World} {A : Around} {E : Value → Shared → Prop} {s : Shared} {h₀ : Heap} {L D l2 : Addr} {m : PySem.Str → Option Value} {rest : List (Addr × Obj)}
theorem short_while {q U a : Nat} (hq0 : q ≠ 0) (hq : q < 9007199254740992) {env : Env} {test : Expr} {body : List Stmt} {pos : Pos} {c₀ : Nat} {n1 n2 n3 : Int} {t1 t2 t3 : Tok} {Q : Flow → Shared → Prop}
    (F₀ : Fr h₀ L s.heap m) (N₀ : News h₀ L s.heap ((D, listOf #[] c₀) :: rest)) (k1 : m (PySem.Str.ofString "number") = some (.int n1 t1)) (k2 : m (PySem.Str.ofString "above") = some (.int n2 t2)) (k3 : m (PySem.Str.ofString "below") = some (.int n3 t3))
    (e1 : n1 = ((q * U : Nat) : Int)) (e2 : n2 = (a : Int)) (e3 : n3 = 1)
    (turn : ∀ (i : Nat) (n1 n2 n3 : Int) (t1 t2 t3 : Tok) (vs : Array Value) (c : Nat) (u : PySem.Str → Option Value) (h : Heap) (tk : Nat), SInv q U a ⟨i, n1, n2, n3, t1, t2, t3, vs, c⟩ → SFacts q ⟨i, n1, n2, n3, t1, t2, t3, vs, c⟩ → vs.size ≤ 16 →
      Fr h₀ L h (fun z => if z = PySem.Str.ofString "number" then some (.int n1 t1) else if z = PySem.Str.ofString "above" then some (.int n2 t2) else if z = PySem.Str.ofString "below" then some (.int n3 t3) else if sNames.contains z then u z else m z) → News h₀ L h [(D, listOf vs c)] →
      wpAny (model prog w) A (isTrue test env (eval test env)) (fun b s₂ => if b = true then wpAny (model prog w) A (execs body env) (fun fl s₃ => SPost q U a D h₀ L m s i vs c Q fl s₃) E s₂ else Q .next s₂) E { s with heap := h, toks := tk })
    (hE : PassesOwn (model prog w) A env E := by passes_own) :
    wpAny (model prog w) A (exec (.While test body [] pos) env) Q E s := by
  have hd := (dl_lo hq0).1
  have hd16 := dl_small hq
  refine ksw_while (σ := SSt) (fun c => [(D, listOf c.vs c.c)]) sPs (SFacts q) sNames (SInv q U a) (fun c => dl q - c.i) ⟨0, n1, n2, n3, t1, t2, t3, #[], c₀⟩ F₀ (fun p hp => N₀ p (by rw [List.mem_singleton.mp hp]; exact .head _)) ?_ ?_ ?_ ?_ hE
  · show StrsAre [] (((F q (dl q) 0).map fun x => [fig x]).map T)
    exact .nil
  · intro p hp
    simp only [sPs, List.mem_cons, List.not_mem_nil, or_false] at hp
    rcases hp with rfl | rfl | rfl
    · exact k1
    · exact k2
    · exact k3
  · refine ⟨hd, ?_, ?_, ?_⟩
    · show n1 = _
      rw [e1, Nn_zero hq0]
    · show n2 = _
      rw [e2]; simp
    · show n3 = _
      rw [e3]; simp
  · rintro ⟨i, n1, n2, n3, t1, t2, t3, vs, c⟩ u h tk hf hp Fk Nk
    have hsz : vs.size ≤ 16 := by have h1 := s_size hf; have h2 := hp.1; simp only at h1 h2; omega
    refine wpAny_mono (turn i n1 n2 n3 t1 t2 t3 vs c u h tk hp hf hsz Fk Nk) (fun b s₂ r => ?_) fun _ _ x => x
    cases b with
    | false => simpa using r
    | true =>
      simp only [if_true] at r ⊢
      refine wpAny_mono r (fun fl s₃ r => ?_) fun _ _ x => x
      cases fl with
      | ret v => exact r
      | brk => exact r.elim
      | cont => exact r.elim
      | next =>
        obtain ⟨c', h', tk', m', news', t4, rfl, F', N', ei, ev, hmem, hI, hk, hr⟩ := r
        refine ksw_end c' F' N' (fun p hp => by rw [List.mem_singleton.mp hp]; exact hmem) ?_ hk hr hI ?_
        · have := s_push hf t4
          unfold SFacts
          rw [ev, ei]
          exact this
        · show dl q - c'.i < dl q - i
          have := hp.1
          simp only at this
          omega
theorem s_next {q U a : Nat} {i : Nat} {n1 n2 n3 x1 x2 x3 : Int} {t1 t2 t3 u1 u2 u3 t4 : Tok} {vs : Array Value} {c : Nat} {s₃ : Shared} {h' : Heap} {tk' : Nat} {m' : PySem.Str → Option Value} {news' : List (Addr × Obj)}
    (_hI : SInv q U a ⟨i, n1, n2, n3, t1, t2, t3, vs, c⟩) (hI2 : SInv q U a ⟨i + 1, x1, x2, x3, 0, 0, 0, vs, c⟩) (F' : Fr h₀ L h' m') (N' : News h₀ L h' news') (hm : (D, listOf (vs.push (.str (T [fig (fg q (dl q) i)]) t4)) (c + 1)) ∈ news')
    (k1 : m' (PySem.Str.ofString "number") = some (.int x1 u1)) (k2 : m' (PySem.Str.ofString "above") = some (.int x2 u2)) (k3 : m' (PySem.Str.ofString "below") = some (.int x3 u3))
    (hr : ∀ z, (∀ p ∈ sPs ⟨i + 1, x1, x2, x3, u1, u2, u3, vs.push (.str (T [fig (fg q (dl q) i)]) t4), c + 1⟩, z ≠ p.1) → sNames.contains z = false → m' z = m z) (hs : s₃ = { s with heap := h', toks := tk' }) : SNext q U a D h₀ L m s i vs c s₃ :=
  ⟨⟨i + 1, x1, x2, x3, u1, u2, u3, vs.push (.str (T [fig (fg q (dl q) i)]) t4), c + 1⟩, h', tk', m', news', t4, hs, F', N', rfl, rfl, hm, hI2, (fun p hp => by
    simp only [sPs, List.mem_cons, List.not_mem_nil, or_false] at hp
    rcases hp with rfl | rfl | rfl
    · exact k1
    · exact k2
    · exact k3), hr⟩
theorem t_strF {x : Int} {n : Nat} {t : Tok} {Q : Value → Shared → Prop} (h : FigIs x n) (hq : ∀ t' k, Q (.str (T [fig n]) t') { s with toks := k }) : wpAny (model prog w) A (call (.type "str") [.int x t]) Q E s := by
  refine t_str h.1 (Nat.lt_of_lt_of_le h.2 ?_) (fun t' k => ?_)
  · exact Nat.le_trans (show 10 ≤ 2 ^ 4 by decide) (Nat.pow_le_pow_right (by decide) (by decide))
  · rw [rep_one h.2]; exact hq t' k
end
/-- what a turn of shortest's loop reckons -/
structure STurn (q U a i : Nat) (n1 n2 n3 W : Int) : Prop where
  fig : FigIs ((n1 * 10).fdiv W) (fg q (dl q) i)
  high : (n1 * 10).fmod W + n2 * 10 < W
  ne : (n1 * 10).fmod W ≠ n3 * 10
  low : q % 10 ^ (dl q - (i + 1)) = 0 → (n1 * 10).fmod W < n3 * 10
  notlow : q % 10 ^ (dl q - (i + 1)) ≠ 0 → ¬ (n1 * 10).fmod W < n3 * 10
  next : q % 10 ^ (dl q - (i + 1)) ≠ 0 → ∀ (t1 t2 t3 : Tok) (vs : Array Value) (c : Nat), SInv q U a ⟨i + 1, (n1 * 10).fmod W, n2 * 10, n3 * 10, t1, t2, t3, vs, c⟩
theorem s_turn {q U a i : Nat} {n1 n2 n3 W : Int} {t1 t2 t3 : Tok} {vs : Array Value} {c : Nat} (hI : SInv q U a ⟨i, n1, n2, n3, t1, t2, t3, vs, c⟩) (hU : 2 ≤ U) (ha : a < U) (hW : W = ((U * 10 ^ dl q : Nat) : Int)) : STurn q U a i n1 n2 n3 W := by
  obtain ⟨hi, r1, r2, r3⟩ := hI
  simp only at hi r1 r2 r3
  subst r1; subst r2; subst r3; subst hW
  have e2 : ((a * 10 ^ i : Nat) : Int) * 10 = ((a * 10 ^ (i + 1) : Nat) : Int) := by rw [Nat.pow_succ, ← Nat.mul_assoc, Int.natCast_mul (a * 10 ^ i)]; rfl
  have e3 : ((10 ^ i : Nat) : Int) * 10 = ((10 ^ (i + 1) : Nat) : Int) := by rw [Nat.pow_succ, Int.natCast_mul]; rfl
  have hp : 0 < 10 ^ (i + 1) := Nat.pow_pos (by decide)
  have hne : Nn q U (dl q) (i + 1) ≠ 10 ^ (i + 1) := by
    by_cases hz : q % 10 ^ (dl q - (i + 1)) = 0
    · rw [s_low hU hz]; omega
    · have := s_notlow (d := dl q) (i := i) hU hz; omega
  refine ⟨⟨s_fig hi (by omega), fg_lt _ _ _⟩, ?_, ?_, ?_, ?_, ?_⟩
  · rw [s_rest hi, e2, ← Int.natCast_add]; exact Int.ofNat_lt.mpr (s_high hi ha)
  · rw [s_rest hi, e3]; exact fun h => hne (Int.ofNat_inj.mp h)
  · intro hz; rw [s_rest hi, e3, s_low hU hz]; exact Int.ofNat_lt.mpr hp
  · intro hz; rw [s_rest hi, e3]; have := s_notlow (d := dl q) (i := i) hU hz; exact fun h => by have := Int.ofNat_lt.mp h; omega
  · intro hz _ _ _ _ _
    rw [s_rest hi, e2, e3]
    refine ⟨?_, rfl, rfl, rfl⟩
    show i + 1 < dl q
    rcases Nat.lt_or_ge (i + 1) (dl q) with h | h
    · exact h
    · rw [show dl q - (i + 1) = 0 from by omega, Nat.pow_zero, Nat.mod_one] at hz; exact absurd rfl hz
abbrev RetSh (news : List (Addr × Obj)) (q : Nat) : Ret := fun h₀ L m s Q => ∀ fs : List Nat, fs.length ≤ dl q → rep 10 q = fs ++ List.replicate (dl q - fs.length) 48 → Ret2SI news (T fs) (dl q) h₀ L m s Q
theorem retSh_at {news : List (Addr × Obj)} {q U a : Nat} {h₀ : Heap} {L : Addr} {m : PySem.Str → Option Value} {s : Shared} {Q : Value → Shared → Prop} {i : Nat} {n1 n2 n3 : Int} {t1 t2 t3 : Tok} {vs : Array Value} {c : Nat} (hr : RetSh news q h₀ L m s Q) (h0 : q ≠ 0) (hI : SInv q U a ⟨i, n1, n2, n3, t1, t2, t3, vs, c⟩) (hz : q % 10 ^ (dl q - (i + 1)) = 0) :
    Ret2SI news (T ((F q (dl q) (i + 1)).map fig)) (dl q) h₀ L m s Q := by
  have hi : i < dl q := hI.1
  have hl : ((F q (dl q) (i + 1)).map fig).length = i + 1 := by rw [List.length_map, F_len]
  exact hr _ (by rw [hl]; omega) (by rw [hl]; exact rep_stop h0 hi hz)
theorem F_flat (l : List Nat) : ((l.map fun x => [fig x])).flatten = l.map fig := by
  induction l with
  | nil => rfl
  | cons a l ih => rw [List.map_cons, List.flatten_cons, ih]; rfl
theorem one_len' (l : List Nat) : ∀ x ∈ (l.map fun d => [fig d]), x.length ≤ 1 := by
  intro x hx
  obtain ⟨d, _, rfl⟩ := List.mem_map.mp hx
  exact Nat.le_refl _
end Mine
namespace Mine
noncomputable def lwOf {k : Bool} (_h : Lw k) : Bool := k
end Mine
namespace Mine
def NZ (x : Int) : Prop := x ≠ 0
theorem NZ.out {x : Int} (h : NZ x) : x ≠ 0 := h
end Mine
end
section
open PySem PySem.Spec PySem.Calls PySem.W PyProof.Rows
set_option maxRecDepth 100000
set_option maxHeartbeats 8000000
namespace Mine
local macro_rules | `(tactic| walk_at "MINE room") => `(tactic| first | assumption | ((try simp only [depth_under_make, depth_under_kw, depth_in1, depth_deeper, depth_caller] at *); (try dsimp only [ktrTop] at *); (simp only [recursionLimit] at *); omega) | ((have hcL9 := cLine_is); (try simp only [units_in1, units_deeper, Around.mark_units, units_caller] at *); (try dsimp only [ktrTop] at *); omega))
local macro_rules | `(tactic| walk_at "MINE enter") => `(tactic| (refine' code_defP ?k1 ?k2 ?k3 ?k4 ?k5 ?kA ?kF ?kK ?k6 ?k7 ?k8 ?k9 ?kB ?_ ?c2 ?c3 ?c4 ?c5; (case kA => exact rfl); (case kF => exact rfl); (case kK => assumption); (case k1 => k_asm); (case k2 => k_asm); (case k3 => k_asm); (case k4 => k_asm); (case k5 => k_asm); (case k6 => k_is); (case k7 => k_is); (case k8 => ktr_room); (case k9 => exact BindsTo.of_eq rfl); (case c5 => decide); (case kB => exact locs rfl); (case c2 => exact rfl); (case c3 => exact rfl); (case c4 => exact rfl); k_whole; intro g' L' h' hSt' FG' hNg' F' N' B' X' T'; (try dsimp only); (try k_fold)))
local macro_rules | `(tactic| walk_at "MINE in") => `(tactic| (w_top off; unfold Cl; k_fill; intro w mean mg mb dp un gd cn cs a ccd cl outer A₀ base h₀ L m s Q E hB hF hX hN hT hk hdp hun hret; refine wpAny_call ?_; k_dflt (walk_at "MINE enter")))
local macro_rules | `(tactic| walk_at "MINE end") => `(tactic| first
  | (refine' rI ?r ?e ?F ?N ?G; (case r => with_reducible assumption); (case F => assumption); (case N => assumption); (case G => assumption))
  | (refine' rB ?r ?e ?F ?N ?G; (case r => with_reducible assumption); (case F => assumption); (case N => assumption); (case G => assumption))
  | (refine' rS ?r ?e ?F ?N ?G; (case r => with_reducible assumption); (case F => assumption); (case N => assumption); (case G => assumption))
  | (refine' rN ?r ?F ?N ?G; (case r => with_reducible assumption); (case F => assumption); (case N => assumption); (case G => assumption))
  | (refine' r2II ?r ?e1 ?e2 ?F ?N ?G ?N2 ?hm; (case r => with_reducible assumption); (case F => assumption); (case N => assumption); (case G => assumption); (case N2 => assumption); (case hm => k_mem))
  | (refine' r2BI ?r ?e1 ?e2 ?F ?N ?G ?N2 ?hm; (case r => with_reducible assumption); (case F => assumption); (case N => assumption); (case G => assumption); (case N2 => assumption); (case hm => k_mem))
  | (refine' r2SI ?r ?e1 ?e2 ?F ?N ?G ?N2 ?hm; (case r => with_reducible assumption); (case F => assumption); (case N => assumption); (case G => assumption); (case N2 => assumption); (case hm => k_mem))
  | (refine' r2LI ?r ?e1 ?F ?N ?G ?N2 ?hm ?hl; (case r => with_reducible assumption); (case F => assumption); (case N => assumption); (case G => assumption); (case N2 => assumption); (case hm => k_mem); (case hl => k_mem))
  | (refine' r3 ?r ?e1 ?e2 ?e3 ?F ?N ?G ?N2 ?hm; (case r => with_reducible assumption); (case F => assumption); (case N => assumption); (case G => assumption); (case N2 => assumption); (case hm => k_mem))
  | (refine' r4 ?r ?e1 ?e2 ?e3 ?e4 ?F ?N ?G ?N2 ?hm; (case r => with_reducible assumption); (case F => assumption); (case N => assumption); (case G => assumption); (case N2 => assumption); (case hm => k_mem)))
local macro_rules | `(tactic| walk_at "MINE sides") => `(tactic| exact And.intro (by k_asm) (And.intro (by k_asm) (And.intro (by k_asm) (And.intro (by k_asm) (And.intro (by k_asm) (And.intro (by first | exact rfl | assumption) (And.intro (by walk_at "MINE room") (by walk_at "MINE room"))))))))
local macro_rules | `(tactic| walk_at "MINE on") => `(tactic| ((try dsimp only [RetI, RetB, RetS, RetN, Ret2II, Ret2BI, Ret2SI, Ret2LI, Ret3, Ret4]); intros; (try dsimp only); (try k_sweep); (try k_fold)))
local macro_rules | `(tactic| walk_at "binaryOp LShift int int") => `(tactic| (refine' shl_sm ?ka ?kb ?kc ?_; (case ka => with_reducible assumption); (case kb => omega); (case kc => omega)))
local macro_rules | `(tactic| walk_at "binaryOp FloorDiv int int") => `(tactic| (refine' fdiv_sm ?ka ?kb ?_; (case ka => with_reducible assumption); (case kb => first | with_reducible assumption | omega)))
local macro_rules | `(tactic| walk_at "binaryOp Mult int int") => `(tactic| (refine' mul_sm ?ka ?kb ?_; (case ka => with_reducible assumption); (case kb => with_reducible assumption)))
local macro_rules | `(tactic| walk_at "eval Call") => `(tactic| ((with_reducible show wpAny _ _ (eval (Expr.Call (Expr.Name _ _) _ [] _) _) _ _ _); k_dflt (refine Call_ ?_)))
local macro_rules | `(tactic| walk_at "MINE inline") => `(tactic| (refine wpAny_call ?_; k_dflt (refine' code_def ?k1 ?k2 ?k3 ?k4 ?k5 ?kA ?kF ?kK ?k6 ?k7 ?k8 ?k9 ?kB ?_ ?c2 ?c3 ?c4 ?c5; (case kA => exact rfl); (case kF => exact rfl); (case kK => first | exact rfl | assumption); (case k1 => k_asm); (case k2 => k_asm); (case k3 => k_asm); (case k4 => k_asm); (case k5 => k_asm); (case k6 => k_is); (case k7 => k_is); (case k8 => first | ktr_room | walk_at "MINE room"); (case k9 => exact BindsTo.of_eq rfl); (case c5 => decide); (case kB => exact locs rfl); (case c2 => exact rfl); (case c3 => exact rfl); (case c4 => exact rfl); k_whole; intro g' L' h' FG' F' N' B' X' T'; (try dsimp only); (try k_fold))))
local macro_rules | `(tactic| walk_at "W if no") => `(tactic| (k_dflt (refine' mj_if_no ?k1 ?k2 ?kc ?kk; (case k1 => k_asm); (case k2 => k_asm)); (case' kk => (intro h' tk' F' N'; try k_sweep))))
local macro_rules | `(tactic| walk_at "LIT") => `(tactic| first | with_reducible exact lit_nil | with_reducible exact lit_one | with_reducible exact lit_zero | with_reducible exact lit_minus | with_reducible exact lit_nine | with_reducible exact lit_la | with_reducible exact lit_lz | with_reducible exact lit_ua | with_reducible exact lit_uz | with_reducible exact lit_figs | with_reducible exact lit_pm | with_reducible exact lit_ee | with_reducible exact lit_x1 | with_reducible exact lit_x2 | with_reducible exact lit_inf | with_reducible exact lit_dot | with_reducible exact lit_nan | with_reducible exact codes_T _)
local macro_rules | `(tactic| walk_at "LEN") => `(tactic| first | with_reducible assumption | (rw [lit_figs]; decide) | (simp only [List.length_append, List.length_cons, List.length_nil, List.length_take, List.length_drop, List.length_replicate, List.length_map, List.length_reverse] at *; omega) | omega)
local macro_rules | `(tactic| walk_at "call builtin:len") => `(tactic| ((with_reducible show wpAny _ _ (call (Value.builtin _) [Value.str _ _]) _ _ _); k_dflt (refine' t_len ?kx ?kl ?_; (case kx => walk_at "LIT"); (case kl => walk_at "LEN")); intro _ _))
local macro_rules | `(tactic| walk_at "call builtin:ord") => `(tactic| ((with_reducible show wpAny _ _ (call (Value.builtin _) [Value.str _ _]) _ _ _); k_dflt (refine' t_ord ?kx ?_; (case kx => walk_at "LIT")); intro _ _))
local macro_rules | `(tactic| walk_at "binaryOp Add str str") => `(tactic| (k_dflt (refine' t_add ?kx ?ky ?kl ?_; (case kx => walk_at "LIT"); (case ky => walk_at "LIT"); (case kl => walk_at "LEN")); intro _ _))
local macro_rules | `(tactic| walk_at "compareOp LtE str str") => `(tactic| (k_dflt (refine' t_le ?kx ?ky ?_; (case kx => walk_at "LIT"); (case ky => walk_at "LIT"))))
local macro_rules | `(tactic| walk_at "compareOp Eq str str") => `(tactic| (k_dflt (first | (refine' t_eqF ?kx ?ky ?ke ?_; (case kx => walk_at "LIT"); (case ky => walk_at "LIT"); (case ke => first | with_reducible assumption | decide)) | (refine' t_eqT ?kx ?ky ?ke ?_; (case kx => walk_at "LIT"); (case ky => walk_at "LIT"); (case ke => first | with_reducible rfl | with_reducible assumption | decide)) | (refine' t_eq ?kx ?ky ?_; (case kx => walk_at "LIT"); (case ky => walk_at "LIT")))))
local macro_rules | `(tactic| walk_at "compareOp NotEq str str") => `(tactic| (k_dflt (refine' t_neT ?kx ?ky ?ke ?_; (case kx => walk_at "LIT"); (case ky => walk_at "LIT"); (case ke => first | with_reducible rfl | with_reducible assumption))))
local macro_rules | `(tactic| walk_at "compareOp In str str") => `(tactic| (k_dflt (first | (refine' t_inF ?kx ?ky ?ke ?_; (case kx => walk_at "LIT"); (case ky => walk_at "LIT"); (case ke => first | with_reducible assumption | decide)) | (refine' t_inT ?kx ?ky ?ke ?_; (case kx => walk_at "LIT"); (case ky => walk_at "LIT"); (case ke => first | with_reducible assumption | decide)))))
local macro_rules | `(tactic| walk_at "compareOp NotIn str str") => `(tactic| (k_dflt (refine' t_notinF ?kx ?ky ?ke ?_; (case kx => walk_at "LIT"); (case ky => walk_at "LIT"); (case ke => first | with_reducible assumption | decide))))
local macro_rules | `(tactic| walk_at "W item") => `(tactic| ((with_reducible show wpAny _ _ (subscriptTail _ _ (Value.str _ _) (Value.int _ _)) _ _ _); k_dflt (first | (refine' t_item ?kx ?k0 ?kc ?k6 ?_; (case kx => walk_at "LIT"); (case kc => walk_at "ITEM"); (case k0 => omega); (case k6 => omega)) | (refine' t_last ?kx ?k0 ?kc ?kl ?_; (case kx => walk_at "LIT"); (case k0 => first | rfl | decide); (case kc => walk_at "ITEM"); (case kl => walk_at "LEN"))); intro _ _))
local macro_rules | `(tactic| walk_at "ITEM") => `(tactic| first | with_reducible assumption | k_extra "ITEM")
local macro_rules | `(tactic| walk_at "W while no") => `(tactic| (k_dflt (refine' mj_while_no ?k1 ?k2 ?kc ?kk ?kE; (case k1 => k_asm); (case k2 => k_asm); (case kE => passes_own)); (case' kc => (intro h' tk' F' N'; (try k_sweep); (try dsimp only))); (case' kk => (intro h' tk' F' N'; (try k_sweep)))))
local macro_rules | `(tactic| walk_at "subscriptTail") => `(tactic| first | walk_at "W item" | walk_at "W slice")
local macro_rules | `(tactic| walk_at "subscriptTail Name Name str int") => `(tactic| walk_at "W item")
local macro_rules | `(tactic| walk_at "subscriptTail Name Constant str int") => `(tactic| walk_at "W item")
local macro_rules | `(tactic| walk_at "subscriptTail Name UnaryOp str int") => `(tactic| walk_at "W item")
local macro_rules | `(tactic| walk_at "subscriptTail Name BinOp str int") => `(tactic| walk_at "W item")
local macro_rules | `(tactic| walk_at "W slice") => `(tactic| ((with_reducible show wpAny _ _ (subscriptTail _ _ (Value.str _ _) (Value.ref _)) _ _ _); k_dflt (first
  | ((with_reducible show wpAny _ _ (subscriptTail _ (Expr.Slice (some _) (some _) none _) _ _) _ _ _); (refine' t_slice_ss (s := ⟨_, _, _, _, _⟩) ?kF ?kN ?ke ?kl ?_; (case kF => k_asm); (case kN => k_asm); (case ke => k_extra "SLICE"); (case kl => walk_at "LEN")))
  | ((with_reducible show wpAny _ _ (subscriptTail _ (Expr.Slice none (some _) none _) _ _) _ _ _); (refine' t_slice_ns (s := ⟨_, _, _, _, _⟩) ?kF ?kN ?ke ?kl ?_; (case kF => k_asm); (case kN => k_asm); (case ke => k_extra "SLICE"); (case kl => walk_at "LEN")))
  | ((with_reducible show wpAny _ _ (subscriptTail _ (Expr.Slice (some _) none none _) _ _) _ _ _); (refine' t_slice_sn (s := ⟨_, _, _, _, _⟩) ?kF ?kN ?ke ?kl ?_; (case kF => k_asm); (case kN => k_asm); (case ke => k_extra "SLICE"); (case kl => walk_at "LEN")))); intro h' t' k' F' N'; (try k_sweep)))
local macro_rules | `(tactic| walk_at "subscriptTail Name Slice str ref") => `(tactic| walk_at "W slice")
local macro_rules | `(tactic| walk_at "W ifexp str") => `(tactic| ((with_reducible show wpAny _ _ (eval (Expr.IfExp _ (Expr.Constant (Const.str _) _ _) _ _) _) _ _ _); k_dflt (refine' mj_str _ ?k1 ?k2 ?kc ?kk; (case k1 => k_asm); (case k2 => k_asm)); (case' kk => (intro t' h' tk' F' N'; (try k_sweep)))))
local macro_rules | `(tactic| walk_at "W ifexp int") => `(tactic| ((with_reducible show wpAny _ _ (eval (Expr.IfExp _ (Expr.Constant (Const.int _) _ _) _ _) _) _ _ _); k_dflt (refine' mj_int (fun x => 1 ≤ x ∧ x ≤ 4) ?k1 ?k2 ?kc ?kk; (case k1 => k_asm); (case k2 => k_asm)); (case' kk => (intro x' t' h' tk' hP' F' N'; (try k_sweep)))))
local macro_rules | `(tactic| walk_at $s:str) => `(tactic| k_extra $s)
-- part C1
section
theorem c_is_nan {n : Int} {b : Bool} (h : decide ((9218868437227405312 : Int) < Builtin.bitAnd n (9223372036854775808 - 1)) = b) (t : Tok) (news : List (Addr × Obj)) :
   Cl 1 42 [.int n t] news (RetB news b) := by
  walk_at "MINE in"
  k_with_none
  k_steps
  walk_at "MINE end"
  exact h.symm
theorem c_is_inf {n : Int} {b : Bool} (h : (Builtin.bitAnd n (9223372036854775808 - 1) == 9218868437227405312) = b) (t : Tok) (news : List (Addr × Obj)) :
   Cl 1 49 [.int n t] news (RetB news b) := by
  walk_at "MINE in"
  k_steps
  walk_at "MINE end"
  exact h.symm
theorem c_is_zero {n : Int} {b : Bool} (h : (Builtin.bitAnd n (9223372036854775808 - 1) == 0) = b) (t : Tok) (news : List (Addr × Obj)) :
   Cl 1 56 [.int n t] news (RetB news b) := by
  walk_at "MINE in"
  k_steps
  walk_at "MINE end"
  exact h.symm
theorem c_is_negative {n : Int} {b : Bool} (h : (n.fdiv (2 ^ Int.toNat 63) == 1) = b) (t : Tok) (news : List (Addr × Obj)) :
   Cl 1 35 [.int n t] news (RetB news b) := by
  walk_at "MINE in"
  k_steps
  walk_at "MINE end"
  exact h.symm
theorem c_parts {n : Int} {sg e f : Nat} (hn : n = ((sg * 9223372036854775808 + e * 4503599627370496 + f : Nat) : Int)) (hf : f < 4503599627370496) (he : e < 2048) (he1 : 1 ≤ e) {x y z : Int} (hx : x = sg) (hy : y = f + 4503599627370496) (hz : z = e - 1075) (t : Tok) (news : List (Addr × Obj)) :
   Cl 1 70 [.int n t] news (Ret3 news x y z) := by
  have h1 := pf1 hn hf he
  have h2 := pf2 hn hf he
  have h3 := pf3 hn hf he
  have h4 := pf4 hn hf he
  walk_at "MINE in"
  k_steps
  all_goals walk_at "MINE end"
  all_goals omega
theorem c_parts0 (t : Tok) (news : List (Addr × Obj)) :
   Cl 1 70 [.int 0 t] news (Ret3 news 0 0 (-1074)) := by
  walk_at "MINE in"
  k_steps
  all_goals walk_at "MINE end"
  all_goals rfl
end
-- part C2
section
theorem wd_word {M : Model} {A : Around} {E : Value → Shared → Prop} {s : Shared} {env : Env} {h₀ : Heap} {L : Addr} {m : Str → Option Value} {news : List (Addr × Obj)} {test : Expr} {body : List Stmt} {pos : Pos} {a b : Int} {t u v : Tok} {Q : Flow → Shared → Prop} (n₀ : Nat) {k : Int}
    (F : Fr h₀ L s.heap m) (N : News h₀ L s.heap news) (hx : m (Str.ofString "n") = some (.int a t)) (hy : m (Str.ofString "many") = some (.int b u)) (_hs : m (Str.ofString "step") = some (.int k v)) (hI : InvW n₀ (2 * k) a b)
    (hc : InvW n₀ (2 * k) a b → wpAny M A (isTrue test env (eval test env)) (fun k' s₂ => if k' = true then wpAny M A (execs body env) (fun fl s₃ => MJ2 (Str.ofString "n") (Str.ofString "many") (InvW n₀ k) h₀ L m news s fl s₃) E s₂ else MJN (InvW n₀ k) a b h₀ L m news s s₂) E s)
    (hk : ∀ (a b : Int) (t u : Tok) (h' : Heap) (tk' : Nat), InvW n₀ k a b → Fr h₀ L h' (fun z => if z = Str.ofString "many" then some (.int b u) else if z = Str.ofString "n" then some (.int a t) else m z) → News h₀ L h' news → Q .next { s with heap := h', toks := tk' }) :
    wpAny M A (exec (.If test body [] pos) env) Q E s := mj_if2 (InvW n₀ k) F N hx hy (hc hI) hk
local macro_rules | `(tactic| walk_at "W width if") => `(tactic| ((k_dflt (refine' wd_word _ ?k1 ?k2 ?k3 ?k4 ?k5 ?k6 ?kc ?kk; (case k1 => k_asm); (case k2 => k_asm); (case k3 => exact rfl); (case k4 => exact rfl); (case k5 => exact rfl); (case k6 => first | (refine' wd_eq ?kA ?kB; (case kA => assumption); (case kB => decide)) | exact wd_start (by assumption) (by assumption)))); (case' kc => intro hI); (case' kk => (intro a' b' t' u' h' tk' hI' F' N'; try k_sweep))))
theorem c_width (n : Nat) (t : Tok) (news : List (Addr × Obj)) :
   Cl 1 21 [.int n t] news (RetI news (bl n)) := by
  walk_at "MINE in"
  k_with "exec While Compare cons nil" => k_while (fun _ n' many => InvW0 n n' many) (fun _ n' _ => n'.toNat) "n" "many"
  k_with "state" => exact wd_turn (by assumption) (by assumption)
  k_with "state" => exact wd_init _
  k_with "measure" => exact wd_less (by assumption)
  k_with "exec If Compare cons nil" => walk_at "W width if"
  k_with "MJ2" => exact ⟨rfl, _, _, _, _, _, _, rfl, wd_more (by assumption) (by assumption), by assumption, by assumption⟩
  k_with "MJN" => exact ⟨_, _, rfl, wd_same (by assumption) (by assumption), by assumption, by assumption⟩
  k_steps
  all_goals walk_at "MINE end"
  all_goals exact wd_end (by assumption)
end
-- part C3
section
theorem c_quot {q b k : Nat} {top p : Int} (h : QuotIn q b k top p) (t u v : Tok) (news : List (Addr × Obj)) :
   Cl 1 77 [.int top t, .int b u, .int p v] news (Ret3 news (q * 2 ^ k : Nat) 0 b) := by
  have hb := h.hb
  have hs1 : Sm top := h.ht ▸ h.hs
  have hs2 := h.hsb
  have hp := h.hp
  have hk := h.hk
  have e1 := quot_f1 h
  have e2 := quot_f2 h
  walk_at "MINE in"
  by_cases h0 : 0 ≤ p
  · have e3 := quot_f3 h h0
    have e4 := quot_f4 h e3.2
    have e5 := e3.1
    have hs3 : Sm ((b : Int) * 2 ^ p.toNat) := e5.symm ▸ hs2
    k_steps
    all_goals walk_at "MINE end"
    all_goals first | exact e5.symm | (rw [e5]; first | exact e4.1.symm | exact e4.2.symm)
  · k_steps
    all_goals walk_at "MINE end"
    all_goals first | exact e1.symm | exact e2.symm | rfl
theorem c_pack {e f : Nat} (hf : f < 4503599627370496) (he : e < 2048) {x y : Int} (hx : x = e) (hy : y = f) (t u v : Tok) (news : List (Addr × Obj)) :
   Cl 1 28 [.int 0 t, .int x u, .int y v] news (RetI news (e * 4503599627370496 + f : Nat)) := by
  have hs : Sm x := by rw [hx]; exact sm_nat 11 he (by decide)
  have hs0 : Sm 0 := sm_small (by decide) (by decide)
  walk_at "MINE in"
  k_steps
  walk_at "MINE end"
  exact pack_eq hx hy hf
theorem c_assembled {m k : Nat} (h1 : 4503599627370496 ≤ m) (h2 : m < 9007199254740992) (hk2 : k < 2047) {p : Int} (hp : p = k - 1075) (t u v : Tok) (news : List (Addr × Obj)) :
   Cl 2 91 [.int 0 t, .int m u, .int p v] news (RetI news (k * 4503599627370496 + (m - 4503599627370496) : Nat)) := by
  have e0 := two_52
  walk_at "MINE in"
  k_with_none
  k_with "call ref" => (refine Cl.on (c_pack (e := k) (f := m - 4503599627370496) (by omega) (by omega) (by omega) (by omega) _ _ _ _) (by walk_at "MINE sides") ?_; walk_at "MINE on")
  k_steps
  all_goals first | walk_at "MINE end" | (exfalso; omega)
  all_goals rfl
end
-- part C4
section
theorem c_round {q j : Nat} (h : RoundIn q j) {x y : Int} (hx : x = ((q * 2 ^ j : Nat) : Int)) (hy : y = ((2 ^ j : Nat) : Int)) (t u v : Tok) (news : List (Addr × Obj)) :
   Cl 3 84 [.int 0 t, .int x u, .int y v] news (RetI news (enc q)) := by
  subst hx; subst hy
  have e0 := two_52
  have e1 := h.b53
  have e2 := h.b1
  have e3 := h.top
  have e4 := h.bot
  have e5 := h.pos
  have e6 := h.big
  have e7 := man_lo h.h0 h.hq
  have e8 := man_hi h.hq
  have e9 : 0 < 2 ^ j := Nat.two_pow_pos j
  rw [h.enc]
  unfold man at e7 e8
  walk_at "MINE in"
  k_with_none
  k_with "call ref" => (refine Cl.on (c_width _ _ _) (by walk_at "MINE sides") ?_; walk_at "MINE on")
  k_with "call ref" => (refine Cl.on (c_quot (h.quot (54 - bl q) _ (by omega) (by omega)) _ _ _ _) (by walk_at "MINE sides") ?_; walk_at "MINE on")
  k_with "call ref" => (refine Cl.on (c_quot (h.quot (53 - bl q) _ (by omega) (by omega)) _ _ _ _) (by walk_at "MINE sides") ?_; walk_at "MINE on")
  k_with "call ref" => (refine Cl.on (c_assembled (k := bl q + 1022) e7 e8 (by omega) (by omega) _ _ _ _) (by walk_at "MINE sides") ?_; walk_at "MINE on")
  k_steps
  all_goals first | (exfalso; omega) | (walk_at "MINE end"; rfl)

theorem c_round0 {x : Int} (hx : x = 0) (t u v : Tok) (b : Int) (news : List (Addr × Obj)) :
   Cl 1 84 [.int 0 t, .int x u, .int b v] news (RetI news (enc 0)) := by
  subst hx
  have hs0 : Sm 0 := sm_small (by decide) (by decide)
  walk_at "MINE in"
  k_with_none
  k_steps
  all_goals (walk_at "MINE end"; rfl)
theorem c_from_int {q : Nat} (hq : q < 9007199254740992) {x : Int} (hx : x = q) (t : Tok) (news : List (Addr × Obj)) :
   Cl 4 105 [.int x t] news (RetI news (enc q)) := by
  walk_at "MINE in"
  k_with_none
  by_cases h0 : q = 0
  · subst h0
    k_with "call ref" => (refine Cl.on (c_round0 (by omega) _ _ _ _ _) (by walk_at "MINE sides") ?_; walk_at "MINE on")
    k_steps
    all_goals first | (exfalso; omega) | (walk_at "MINE end"; rfl)
  · k_with "call ref" => (refine Cl.on (c_round (j := 0) ⟨h0, hq, by decide⟩ (by omega) (by rfl) _ _ _ _) (by walk_at "MINE sides") ?_; walk_at "MINE on")
    k_steps
    all_goals first | (exfalso; omega) | (walk_at "MINE end"; rfl)
/-- what a rounding by a scale meets: the number by 2 ^ j, step -j -/
theorem c_scaled {q j : Nat} (h : RoundIn q j) (hj : 1 ≤ j) {x y : Int} (hx : x = ((q * 2 ^ j : Nat) : Int)) (hy : y = -(j : Int)) (t u v : Tok) (news : List (Addr × Obj)) :
   Cl 4 98 [.int 0 t, .int x u, .int y v] news (RetI news (enc q)) := by
  subst hx
  have e1 := h.b53
  have e2 := h.b1
  have e3 := h.top
  have e5 := h.pos
  have e6 := h.hj
  have hs1 : Sm 1 := sm_small (by decide) (by decide)
  have e7 : (1 : Int) * 2 ^ (-y).toNat = ((2 ^ j : Nat) : Int) := by rw [hy, show (-(-(j : Int))).toNat = j from by omega]; push_cast; rw [Int.one_mul]
  walk_at "MINE in"
  k_with_none
  k_with "call ref" => (refine Cl.on (c_width _ _ _) (by walk_at "MINE sides") ?_; walk_at "MINE on")
  k_with "call ref" => (refine Cl.on (c_round h (by rfl) (by exact e7) _ _ _ _) (by walk_at "MINE sides") ?_; walk_at "MINE on")
  k_steps
  all_goals first | (exfalso; omega) | (walk_at "MINE end"; rfl)
end
-- part C5
section
theorem c_neg {q : Nat} {n : Int} (h : Bits 0 q n) (t : Tok) (news : List (Addr × Obj)) :
   Cl 2 138 [.int n t] news (RetI news (9223372036854775808 + enc q : Nat)) := by
  walk_at "MINE in"
  k_with_none
  k_with "call ref" => (refine Cl.on (c_is_nan h.nan _ _) (by walk_at "MINE sides") ?_; walk_at "MINE on")
  k_steps
  all_goals walk_at "MINE end"
  exact h.turn.symm
theorem c_parts_any {q : Nat} {n : Int} (h : Bits 0 q n) (_h1 : q + 1 < 9007199254740992) : ∃ (M P : Int) (j : Nat), (∀ (t : Tok) (news : List (Addr × Obj)), Cl 1 70 [.int n t] news (Ret3 news 0 M P)) ∧ Sm M ∧ -1074 ≤ P ∧ P ≤ 0 ∧
    (if -52 < P then -52 else P) = -(j : Int) ∧ 52 ≤ j ∧ j ≤ 1074 ∧ M * 2 ^ (P - if -52 < P then -52 else P).toNat + 4503599627370496 * 2 ^ (-52 - if -52 < P then -52 else P).toNat = (((q + 1) * 2 ^ j : Nat) : Int) := by
  by_cases h0 : q = 0
  · subst h0
    obtain rfl : n = 0 := h.hn
    exact ⟨0, -1074, 1074, fun t news => c_parts0 t news, sm_small (by decide) (by decide), by decide, by decide, by decide, by decide, by decide, by decide +kernel⟩
  · have c := bl_le_of_lt (k := 53) h.hq
    have p := bl_pos h0
    have e : (if (-52 : Int) < bl q - 53 then (-52 : Int) else bl q - 53) = -52 := by split <;> omega
    refine ⟨man q, bl q - 53, 52, fun t news => c_parts (x := 0) (y := man q) (z := bl q - 53) (h.form h0) h.frac h.exp (by omega) (by omega) (by have := man_lo h0 h.hq; omega) (by omega) t news, sm_nat 53 (man_hi h.hq) (by decide), by omega, by omega, e, by decide, by decide, ?_⟩
    rw [e, show ((bl q : Int) - 53 - -52).toNat = bl q - 1 from by omega]
    have := man_shift h0 h.hq
    have e2 : (man q : Int) * 2 ^ (bl q - 1) = (q : Int) * 4503599627370496 := by
      have := congrArg (Nat.cast : Nat → Int) this
      rw [Int.natCast_mul, Int.natCast_mul, Int.natCast_pow] at this
      exact this
    rw [e2, show (-52 - -52 : Int).toNat = 0 from rfl]
    rw [Int.natCast_mul]
    show (q : Int) * 4503599627370496 + 4503599627370496 * 1 = ((q + 1 : Nat) : Int) * 4503599627370496
    omega
theorem c_add {q : Nat} {n : Int} (h : Bits 0 q n) (h1 : q + 1 < 9007199254740992) (t u : Tok) (news : List (Addr × Obj)) :
   Cl 5 145 [.int n t, .int 4607182418800017408 u] news (RetI news (enc (q + 1))) := by
  have hb := bits_one
  have hsm1 : Sm 4503599627370496 := sm_small (by decide) (by decide)
  obtain ⟨M, P, j, hc, hM, hP1, hP2, hst, hj1, hj2, hX⟩ := c_parts_any h h1
  have hr : RoundIn (q + 1) j := ⟨by omega, h1, by omega⟩
  walk_at "MINE in"
  k_with_none
  k_with "call ref" => (refine Cl.on (c_scaled hr (by omega) (by omega) (by omega) _ _ _ _) (by walk_at "MINE sides") ?_; walk_at "MINE on")
  k_with "call ref" => (refine Cl.on (c_is_nan h.nan _ _) (by walk_at "MINE sides") ?_; walk_at "MINE on")
  k_with "call ref" => (refine Cl.on (c_is_nan hb.nan _ _) (by walk_at "MINE sides") ?_; walk_at "MINE on")
  k_with "call ref" => (refine Cl.on (c_is_inf h.inf _ _) (by walk_at "MINE sides") ?_; walk_at "MINE on")
  k_with "call ref" => (refine Cl.on (c_is_inf hb.inf _ _) (by walk_at "MINE sides") ?_; walk_at "MINE on")
  k_with "call ref" => (refine Cl.on (c_is_zero h.zero _ _) (by walk_at "MINE sides") ?_; walk_at "MINE on")
  k_with "call ref" => (refine Cl.on (c_is_zero (b := false) hb.zero _ _) (by walk_at "MINE sides") ?_; walk_at "MINE on")
  k_with "call ref" => (refine Cl.on (c_parts (sg := 0) (e := 1023) (f := 0) (x := 0) (y := 4503599627370496) (z := -52) rfl (by decide) (by decide) (by decide) (by decide) (by decide) (by decide) _ _) (by walk_at "MINE sides") ?_; walk_at "MINE on")
  k_with "call ref" => (refine Cl.on (hc _ _) (by walk_at "MINE sides") ?_; walk_at "MINE on")
  k_with "exec If BoolOp" => walk_at "W if no"
  k_with "MJ0" => exact ⟨by simp_all, _, _, rfl, by assumption, by assumption⟩
  k_with "call ref" => ((with_reducible show wpAny _ _ (call (Value.ref 152) _ _) _ _ _); walk_at "MINE inline")
  k_steps
  all_goals first | (exfalso; omega) | (walk_at "MINE end"; rfl)
end
-- part R1
section
theorem c_rest {y z b : Int} (hb : 1 ≤ b) {x : Int} (hx : x = 0) (t u v p : Tok) (news : List (Addr × Obj)) :
   Cl 1 119 [.int x t, .int y u, .int z v, .int b p] news (Ret2LI news 0) := by
  subst hx
  walk_at "MINE in"
  k_with_none
  k_with "exec While Compare cons nil" => walk_at "W while no"
  k_with "MJ0" => exact ⟨by simp; omega, _, _, rfl, by assumption, by assumption⟩
  k_steps
  all_goals first | (exfalso; omega) | (walk_at "MINE end" <;> rfl)
end
-- part R2
section
local macro_rules | `(tactic| walk_at "W whole while") => `(tactic| ((k_dflt (refine' whole_while ?hr ?hr2 ?hn ?k1 ?k2 ?kn ?kturn ?kE; (case hr => assumption); (case hr2 => assumption); (case hn => assumption); (case k1 => k_asm); (case k2 => k_asm); (case kn => exact rfl); (case kE => passes_own))); intro a ta ds vs c h tk ha hf hi hs F' N'; (try k_sweep); (try k_fold)))
theorem c_whole {n r : Nat} (hr : 2 ≤ r) (hr2 : r ≤ 36) (hn : n < 9007199254740992) {x : Int} (hx : x = n) (t u : Tok) (news : List (Addr × Obj)) :
   Cl 12 112 [.int x t, .int r u] news (RetS news (T (rep r n))) := by
  subst hx
  have hsr : Sm (r : Int) := sm_nat 6 (by omega) (by decide)
  walk_at "MINE in"
  k_with_none
  k_with "exec While BoolOp" => walk_at "W whole while"
  k_with "Or" => first | exact Or.inl (by assumption) | exact Or.inr (by assumption)
  k_with "compareOp Eq ref ref" => refine eq_found (by assumption) (by k_asm) (by k_mem) (by k_mem) (by walk_at "MINE room") ?_
  k_with "subscriptTail Name BinOp str int" => (refine t_item lit_figs (w_pos (by assumption)) (w_item hr hr2 (by assumption)) (w_lt hr hr2 (by assumption)) ?_; intro _ _)
  k_with "WEnd" => exact w_end (by assumption) (by assumption) (by k_mem) rfl
  k_with "call builtin:str.join" => (refine join_strs (by k_asm) (by k_mem) (w_join (by assumption) (by assumption) (by assumption) (by assumption)) (w_flat r n) (one_len _) (by rw [List.length_map, List.length_reverse]; have := digs_len hr hn; omega) ?_; intro _ _)
  k_with "call builtin:list.reverse" => (refine rev_strs (by k_asm) (by k_asm) (by k_upd) (by omega) ?_; intro _ _ _)
  k_steps
  all_goals (walk_at "MINE end" <;> rfl)
end
-- part R3
section
theorem c_radix0 {r : Nat} {n : Int} (h : Bits 0 0 n) (t u : Tok) (news : List (Addr × Obj)) :
   Cl 13 131 [.int n t, .int r u] news (RetS news (T (rep r 0))) := by
  walk_at "MINE in"
  k_with_none
  k_with "call ref" => (refine Cl.on (c_is_nan h.nan _ _) (by walk_at "MINE sides") ?_; walk_at "MINE on")
  k_with "call ref" => (refine Cl.on (c_is_zero h.zero _ _) (by walk_at "MINE sides") ?_; walk_at "MINE on")
  k_steps
  all_goals (walk_at "MINE end"; exact (of_codes lit_zero).symm)
theorem c_radix {sg q r : Nat} {n : Int} (h : Bits sg q n) (h0 : q ≠ 0) (hr : 2 ≤ r) (hr2 : r ≤ 36) (t u : Tok) (news : List (Addr × Obj)) :
   Cl 13 131 [.int n t, .int r u] news (RetS news (T (sgn sg ++ rep r q))) := by
  have hz : (Builtin.bitAnd n (9223372036854775808 - 1) == 0) = false := by rw [h.zero]; exact decide_eq_false h0
  have b1 := bl_pos h0
  have b2 : bl q ≤ 53 := bl_le_of_lt h.hq
  have hlo := man_lo h0 h.hq
  have hhi := man_hi h.hq
  have hsm : Sm (man q : Int) := sm_nat 53 hhi (by decide)
  have hs1 : Sm 1 := sm_small (by decide) (by decide)
  walk_at "MINE in"
  k_with_none
  k_with "call ref" => (refine Cl.on (c_is_nan h.nan _ _) (by walk_at "MINE sides") ?_; walk_at "MINE on")
  k_with "call ref" => (refine Cl.on (c_is_zero hz _ _) (by walk_at "MINE sides") ?_; walk_at "MINE on")
  k_with "call ref" => (refine Cl.on (c_is_inf h.inf _ _) (by walk_at "MINE sides") ?_; walk_at "MINE on")
  k_with "call ref" => (refine Cl.on (c_is_negative h.neg _ _) (by walk_at "MINE sides") ?_; walk_at "MINE on")
  k_with "call ref" => (refine Cl.on (c_parts (x := sg) (y := man q) (z := bl q - 53) (h.form h0) h.frac h.exp (by omega) (by omega) (by omega) (by omega) _ _) (by walk_at "MINE sides") ?_; walk_at "MINE on")
  k_with "call ref" => (refine Cl.on (c_rest (by omega) (by omega) _ _ _ _ _) (by walk_at "MINE sides") ?_; walk_at "MINE on")
  k_with "call ref" => (refine Cl.on (c_whole (n := q) hr hr2 h.hq (by omega) _ _ _) (by walk_at "MINE sides") ?_; walk_at "MINE on")
  k_with "eval IfExp" => ((with_reducible show wpAny _ _ (eval (Expr.IfExp _ (Expr.Constant (Const.str _) _ _) _ _) _) _ _ _); k_dflt (refine mj_str (sgn sg) (by k_asm) (by k_asm) ?_ ?_); rotate_left; (intro t' h' tk' F' N'; (try k_sweep)))
  k_with "eval IfExp" => walk_at "W ifexp int"
  k_with "MJS" => exact ⟨_, _, _, _, rfl, (by first | exact lit_nil.trans (by simp_all [sgn]) | exact lit_minus.trans (by simp_all [sgn])), rfl, by assumption, by assumption⟩
  k_with "MJI" => exact ⟨_, _, _, _, rfl, by omega, rfl, by assumption, by assumption⟩
  have hlen : (sgn sg).length + (rep r q).length ≤ 100000 := by have h1 := sgn_len sg; have h2 := digs_len hr h.hq; rw [rep_len]; omega
  have c5 := rx4 b2
  have c4 := rx5 b2
  have c3 := rx3 b2
  have c2 := rx2 b2
  by_cases hbl : bl q = 53
  · have c1 := rx1 hbl
    k_steps
    all_goals first | (exfalso; omega) | (walk_at "MINE end" <;> rfl)
  · k_steps
    all_goals first | (exfalso; omega) | (walk_at "MINE end" <;> rfl)
end
-- part T1
section
theorem c_figure {d : Nat} (hd : d < 36) (t : Tok) (news : List (Addr × Obj)) :
   Cl 1 180 [.str (T [fig d]) t] news (RetI news d) := by
  have hf : (d < 10 ∧ fig d = 48 + d) ∨ (10 ≤ d ∧ fig d = 87 + d) := by
    by_cases h : d < 10
    · exact .inl ⟨h, fig_lo h⟩
    · exact .inr ⟨by omega, fig_hi h⟩
  generalize fig d = c at hf
  walk_at "MINE in"
  k_with_none
  k_steps
  all_goals first | (exfalso; omega) | (walk_at "MINE end"; omega)
theorem c_is_blank {c : Nat} (h1 : 45 ≤ c) (h2 : c ≤ 122) (t : Tok) (news : List (Addr × Obj)) :
   Cl 1 159 [.str (T [c]) t] news (RetB news false) := by
  walk_at "MINE in"
  k_with_none
  k_with "compareOp In str str" => exact t_inF (codes_T _) (lit_of rfl) (not_blank (by decide +kernel) h1 h2) ?_
  k_with "compareOp In str str" => refine t_inF (codes_T _) (lit_of rfl) (not_blank (by decide +kernel) h1 h2) ?_
  k_steps
  all_goals (walk_at "MINE end"; rfl)
theorem c_skip {c : Nat} {l : List Nat} (h1 : 45 ≤ c) (h2 : c ≤ 122) (hl : (c :: l).length ≤ 100) (t u : Tok) (news : List (Addr × Obj)) :
   Cl 2 166 [.str (T (c :: l)) t, .int 0 u] news (RetI news 0) := by
  have hc : (c :: l)[(0 : Int).toNat]? = some c := rfl
  have hl2 : (c :: l).length ≤ 100000 := by omega
  walk_at "MINE in"
  k_with_none
  k_with "call ref" => (refine Cl.on (c_is_blank h1 h2 _ _) (by walk_at "MINE sides") ?_; walk_at "MINE on")
  k_with "exec While BoolOp" => walk_at "W while no"
  k_with "MJ0" => exact ⟨by simp_all, _, _, rfl, by assumption, by assumption⟩
  k_steps
  all_goals (walk_at "MINE end"; rfl)
end
-- part T2
section
theorem c_trimmed {c e : Nat} {l : List Nat} (h1 : 45 ≤ c) (h2 : c ≤ 122) (g1 : 45 ≤ e) (g2 : e ≤ 122) (he : (c :: l).getLast? = some e) (hl : (c :: l).length ≤ 100) (t : Tok) (news : List (Addr × Obj)) :
   Cl 3 173 [.str (T (c :: l)) t] news (RetS news (T (c :: l))) := by
  have hl2 : (c :: l).length ≤ 100000 := by omega
  have hp : 1 ≤ (c :: l).length := by simp
  have hc : (c :: l)[(((c :: l).length : Int) - 1).toNat]? = some e := by
    rw [List.getLast?_eq_getElem?] at he
    rw [show (((c :: l).length : Int) - 1).toNat = (c :: l).length - 1 from by omega]
    exact he
  have hs : Txt.slice (T (c :: l)) (some 0) (some ((c :: l).length : Int)) = T (c :: l) :=
    (slice_ss (codes_T _) 0 (c :: l).length rfl rfl (Nat.zero_le _) (Nat.le_refl _)).trans (by rw [List.drop_zero, Nat.sub_zero, List.take_of_length_le (Nat.le_refl _)])
  walk_at "MINE in"
  k_with_none
  k_with "call ref" => (refine Cl.on (c_is_blank g1 g2 _ _) (by walk_at "MINE sides") ?_; walk_at "MINE on")
  k_with "call ref" => (refine Cl.on (c_skip h1 h2 (by omega) _ _ _) (by walk_at "MINE sides") ?_; walk_at "MINE on")
  k_with "exec While BoolOp" => walk_at "W while no"
  k_with "MJ0" => exact ⟨by simp_all, _, _, rfl, by assumption, by assumption⟩
  k_with "SLICE" => exact hs
  k_steps
  all_goals (walk_at "MINE end"; rfl)
end
-- part T3
section
theorem c_sign_no {c : Nat} {l : List Nat} (h1 : c ∉ [43, 45]) (hl : (c :: l).length ≤ 100) (t u : Tok) (news : List (Addr × Obj)) :
   Cl 1 208 [.str (T (c :: l)) t, .int 0 u] news (Ret2BI news false 0) := by
  have hc : (c :: l)[(0 : Int).toNat]? = some c := rfl
  have hl2 : (c :: l).length ≤ 100000 := by omega
  walk_at "MINE in"
  k_with_none
  have h2 : [c] ≠ [45] := by intro e; simp at e; simp [e] at h1
  k_steps
  all_goals (walk_at "MINE end" <;> rfl)
theorem c_sign_minus {l : List Nat} (hl : (45 :: l).length ≤ 100) (t u : Tok) (news : List (Addr × Obj)) :
   Cl 1 208 [.str (T (45 :: l)) t, .int 0 u] news (Ret2BI news true 1) := by
  have hc : (45 :: l)[(0 : Int).toNat]? = some 45 := rfl
  have hl2 : (45 :: l).length ≤ 100000 := by omega
  have hp : 1 ≤ (45 :: l).length := by simp
  walk_at "MINE in"
  k_with_none
  k_steps
  all_goals (walk_at "MINE end" <;> rfl)
theorem c_run_end {l : List Nat} {a r : Nat} {D : Nat → Nat} (hr : r ≤ 36) (hD : ∀ i, D i < r) (hA : ∀ i, a ≤ i → i < l.length → l[i]? = some (fig (D i))) (ha : a ≤ l.length) (hl : l.length ≤ 100) {x : Int} (hx : x = (a : Int)) (t u v : Tok) (news : List (Addr × Obj)) :
   Cl 2 187 [.str (T l) t, .int x u, .int r v] news (RetI news l.length) := by
  subst hx
  have hl2 : l.length ≤ 100000 := by omega
  walk_at "MINE in"
  k_with_none
  k_with "exec While BoolOp" => k_while (fun _ (i : Int) => (a : Int) ≤ i ∧ i ≤ (l.length : Int)) (fun _ i => ((l.length : Int) - i).toNat) "at"
  k_with "state" => omega
  k_with "measure" => omega
  k_with "ITEM" => exact hA _ (by omega) (by omega)
  k_with "call ref" => (refine Cl.on (c_figure (Nat.lt_of_lt_of_le (hD _) hr) _ _) (by walk_at "MINE sides") ?_; walk_at "MINE on")
  k_with "compareOp Lt int int" => refine lt_T (Int.ofNat_lt.mpr (hD _)) ?_
  k_steps
  all_goals first | (exfalso; omega) | (walk_at "MINE end"; omega)

theorem c_worth {l : List Nat} {a r : Nat} {D : Nat → Nat} {V : Nat → Nat} (hr : r ≤ 36) (hD : ∀ i, D i < r) (hA : ∀ i, a ≤ i → i < l.length → l[i]? = some (fig (D i))) (ha : a ≤ l.length) (hl : l.length ≤ 100)
    (h0 : V a = 0) (hV : ∀ k, a + k < l.length → V (a + k + 1) = V (a + k) * r + D (a + k)) {x y : Int} (hx : x = (a : Int)) (hy : y = (l.length : Int)) (t u v z : Tok) (news : List (Addr × Obj)) :
   Cl 2 194 [.str (T l) t, .int x u, .int y z, .int r v] news (RetI news (V l.length)) := by
  subst hx; subst hy
  have hl2 : l.length ≤ 100000 := by omega
  walk_at "MINE in"
  k_with_none
  k_with "pyIter ref" => k_state (fun pre (f : Int) => f = (V (a + pre.length) : Int)) "found"
  k_with "ITEM" => exact hA _ (by omega) (by omega)
  k_with "call ref" => (refine Cl.on (c_figure (Nat.lt_of_lt_of_le (hD _) hr) _ _) (by walk_at "MINE sides") ?_; walk_at "MINE on")
  k_with "state" => exact worth_turn hV (by assumption) (by assumption) (by assumption)
  k_with "state" => (simp only [List.length_nil, Nat.add_zero, h0]; rfl)
  k_steps
  all_goals (walk_at "MINE end"; exact worth_end kInv ha)
theorem c_run_rep {pre : List Nat} {r q : Nat} (hr : 2 ≤ r) (hr2 : r ≤ 36) (hl : (pre ++ rep r q).length ≤ 100) {x : Int} (hx : x = (pre.length : Int)) (t u v : Tok) (news : List (Addr × Obj)) :
   Cl 2 187 [.str (T (pre ++ rep r q)) t, .int x u, .int r v] news (RetI news (pre ++ rep r q).length) :=
  c_run_end (D := Dg (digs r q).reverse pre.length) hr2 (fun _ => Dg_lt hr) (fun _ h1 h2 => Dg_at h1 h2) (by simp) hl hx t u v news
theorem c_worth_rep {pre : List Nat} {r q : Nat} (hr : 2 ≤ r) (hr2 : r ≤ 36) (hl : (pre ++ rep r q).length ≤ 100) {x y : Int} (hx : x = (pre.length : Int)) (hy : y = ((pre ++ rep r q).length : Int)) (t u v z : Tok) (news : List (Addr × Obj)) :
   Cl 2 194 [.str (T (pre ++ rep r q)) t, .int x u, .int y z, .int r v] news (RetI news q) := by
  have := c_worth (V := Vg r (digs r q).reverse pre.length) (D := Dg (digs r q).reverse pre.length) hr2 (fun _ => Dg_lt hr) (fun _ h1 h2 => Dg_at h1 h2) (by simp) hl (Vg_zero _ _ _) (fun k hk => Vg_step (by rw [List.length_reverse]; rw [List.length_append, rep_len] at hk; omega)) hx hy t u v z news
  rw [List.length_append, rep_len, Vg_all hr] at this
  exact this
end
-- part T4
section
theorem c_turned_no (n : Int) (t : Tok) (news : List (Addr × Obj)) :
   Cl 1 215 [.int n t, .bool false] news (RetI news n) := by
  walk_at "MINE in"
  k_with_none
  k_steps
  all_goals (walk_at "MINE end" <;> rfl)
theorem c_turned_yes {q : Nat} {n : Int} (h : Bits 0 q n) (t : Tok) (news : List (Addr × Obj)) :
   Cl 1 215 [.int n t, .bool true] news (RetI news (9223372036854775808 + enc q : Nat)) := by
  walk_at "MINE in"
  k_with_none
  k_steps
  all_goals (walk_at "MINE end"; exact h.turn.symm)
theorem c_exp {l : List Nat} (hl : l.length ≤ 100) {x : Int} (hx : x = (l.length : Int)) (t u : Tok) (news : List (Addr × Obj)) :
   Cl 1 222 [.str (T l) t, .int x u] news (Ret2II news 0 x) := by
  have hl2 : l.length ≤ 100000 := by omega
  walk_at "MINE in"
  k_with_none
  k_steps
  all_goals first | (exfalso; omega) | (walk_at "MINE end" <;> rfl)
theorem c_from_dec0 {x : Int} (hx : x = 0) (t u : Tok) (news : List (Addr × Obj)) :
   Cl 1 201 [.str (T (rep 10 0)) t, .int x u] news (RetI news (enc 0)) := by
  show Cl 1 201 [.str (T [48]) t, .int x u] news (RetI news (enc 0))
  walk_at "MINE in"
  k_with_none
  k_steps
  all_goals first | (exfalso; omega) | (walk_at "MINE end" <;> rfl)
theorem c_from_dec {q : Nat} (h0 : q ≠ 0) (hq : q < 9007199254740992) {x : Int} (hx : x = 0) (t u : Tok) (news : List (Addr × Obj)) :
   Cl 4 201 [.str (T (rep 10 q)) t, .int x u] news (RetI news (enc q)) := by
  subst hx
  have hl : (rep 10 q).length ≤ 100 := by rw [rep_len]; have := digs_len (r := 10) (by decide) hq; omega
  have hne : rep 10 q ≠ [] := rep_ne (by decide)
  walk_at "MINE in"
  k_with_none
  k_with "storeName" => rw [rep_strip h0]
  k_with "call ref" => (refine Cl.on (c_worth_rep (pre := []) (by decide) (by decide) hl (by rfl) (by rfl) _ _ _ _ _) (by walk_at "MINE sides") ?_; walk_at "MINE on")
  k_with "call ref" => (refine Cl.on (c_round (j := 0) ⟨h0, hq, by decide⟩ (by simp) (by rfl) _ _ _ _) (by walk_at "MINE sides") ?_; walk_at "MINE on")
  k_steps
  all_goals first | (exfalso; omega) | (walk_at "MINE end" <;> rfl)

theorem c_decimal {q : Nat} (hq : q < 9007199254740992) {x : Int} (hx : x = 0) (t u : Tok) (news : List (Addr × Obj)) :
   Cl 5 229 [.str (T (rep 10 q)) t, .int x u] news (Ret2II news (enc q) (rep 10 q).length) := by
  subst hx
  have hl : (rep 10 q).length ≤ 100 := by rw [rep_len]; have := digs_len (r := 10) (by decide) hq; omega
  have hl2 : (rep 10 q).length ≤ 100000 := by omega
  have hne : rep 10 q ≠ [] := rep_ne (by decide)
  have hinf : (rep 10 q).take 8 ≠ [73, 110, 102, 105, 110, 105, 116, 121] := rep_ne_inf (by decide) (by decide)
  have hs1 : Txt.slice (T (rep 10 q)) (some 0) (some (0 + 8)) = T ((rep 10 q).take 8) := slice_ss' (codes_T _) 0 8 rfl rfl (by decide) (Nat.zero_le _)
  have hs2 : Txt.slice (T (rep 10 q)) (some 0) (some ((rep 10 q).length : Int)) = T (rep 10 q) :=
    (slice_ss (codes_T _) 0 (rep 10 q).length rfl rfl (Nat.zero_le _) (Nat.le_refl _)).trans (by rw [List.drop_zero, Nat.sub_zero, List.take_of_length_le (Nat.le_refl _)])
  have hf : ∀ (x : Int) (_ : x = 0) (t u : Tok) (news : List (Addr × Obj)), Cl 4 201 [.str (T (rep 10 q)) t, .int x u] news (RetI news (enc q)) := by
    intro x hx t u news
    by_cases h0 : q = 0
    · subst h0; exact fun w mean mg mb dp un gd cn cs a ccd cl outer A₀ base h₀ L m s Q E k1 k2 k3 k4 k5 k6 k7 k8 k9 => c_from_dec0 hx t u news w mean mg mb dp un gd cn cs a ccd cl outer A₀ base h₀ L m s Q E k1 k2 k3 k4 k5 k6 (by omega) (by omega) k9
    · exact c_from_dec h0 hq hx t u news
  walk_at "MINE in"
  k_with_none
  k_with "SLICE" => exact hs1
  k_with "SLICE" => exact hs2
  k_with "call ref" => (refine Cl.on (c_run_rep (pre := []) (by decide) (by decide) hl (by rfl) _ _ _ _) (by walk_at "MINE sides") ?_; walk_at "MINE on")
  k_with "call ref" => (refine Cl.on (c_exp (l := rep 10 q) hl (by rfl) _ _ _) (by walk_at "MINE sides") ?_; walk_at "MINE on")
  k_with "call ref" => (refine Cl.on (hf _ (by omega) _ _ _) (by walk_at "MINE sides") ?_; walk_at "MINE on")
  k_steps
  all_goals first | (exfalso; omega) | (walk_at "MINE end" <;> rfl)
end
-- part T5
section
theorem c_to_number {q : Nat} (hq : q < 9007199254740992) (t : Tok) (news : List (Addr × Obj)) :
   Cl 6 236 [.str (T (rep 10 q)) t] news (RetI news (enc q)) := by
  have hl : (rep 10 q).length ≤ 100 := by rw [rep_len]; have := digs_len (r := 10) (by decide) hq; omega
  have hl2 : (rep 10 q).length ≤ 100000 := by omega
  have hne : rep 10 q ≠ [] := rep_ne (by decide)
  have hx1 : (rep 10 q).take 2 ≠ [48, 120] := rep_ne_take (by decide) (by decide) _
  have hx2 : (rep 10 q).take 2 ≠ [48, 88] := rep_ne_take (by decide) (by decide) _
  have hs1 : Txt.slice (T (rep 10 q)) none (some 2) = T ((rep 10 q).take 2) := slice_ns' (codes_T _) 2 rfl
  obtain ⟨d, l, e, hd, _, _⟩ := rep_head (r := 10) (q := q) (by decide) (by decide)
  obtain ⟨d2, e2, hd2⟩ := rep_last (r := 10) (q := q) (by decide) (by decide)
  have g1 := fig_range (d := d) (by omega)
  have g2 := fig_range (d := d2) (by omega)
  have htr : ∀ (t : Tok) (news : List (Addr × Obj)), Cl 3 173 [.str (T (rep 10 q)) t] news (RetS news (T (rep 10 q))) := by
    rw [e] at hl e2 ⊢
    exact fun t news => c_trimmed (by omega) (by omega) (by omega) (by omega) e2 hl t news
  have hsg : ∀ (t u : Tok) (news : List (Addr × Obj)), Cl 1 208 [.str (T (rep 10 q)) t, .int 0 u] news (Ret2BI news false 0) := by
    rw [e] at hl ⊢
    exact fun t u news => c_sign_no (by simp; omega) hl t u news
  walk_at "MINE in"
  k_with_none
  k_with "SLICE" => exact hs1
  k_with "call ref" => (refine Cl.on (htr _ _) (by walk_at "MINE sides") ?_; walk_at "MINE on")
  k_with "call ref" => (refine Cl.on (hsg _ _ _) (by walk_at "MINE sides") ?_; walk_at "MINE on")
  k_with "call ref" => (refine Cl.on (c_decimal hq (by rfl) _ _ _) (by walk_at "MINE sides") ?_; walk_at "MINE on")
  k_with "call ref" => (refine Cl.on (c_turned_no _ _ _) (by walk_at "MINE sides") ?_; walk_at "MINE on")
  k_steps
  all_goals first | (exfalso; omega) | (walk_at "MINE end" <;> rfl)
/-- parse_int over a sign (or none) and figures -/
theorem c_parse {pre : List Nat} {r q : Nat} {b : Bool} {v : Int} (hr : 2 ≤ r) (hr2 : r ≤ 36) (hq : q < 9007199254740992) (hp : pre.length ≤ 1)
    (hsk : ∀ (t u : Tok) (news : List (Addr × Obj)), Cl 2 166 [.str (T (pre ++ rep r q)) t, .int 0 u] news (RetI news 0))
    (hsg : ∀ (t u : Tok) (news : List (Addr × Obj)), Cl 1 208 [.str (T (pre ++ rep r q)) t, .int 0 u] news (Ret2BI news b pre.length))
    (htn : ∀ (t : Tok) (news : List (Addr × Obj)), Cl 1 215 [.int (enc q) t, .bool b] news (RetI news v)) (t u : Tok) (news : List (Addr × Obj)) :
   Cl 6 243 [.str (T (pre ++ rep r q)) t, .int r u] news (RetI news v) := by
  have hl1 : (rep r q).length ≤ 53 := by rw [rep_len]; exact digs_len hr hq
  have hl0 : 1 ≤ (rep r q).length := by rw [rep_len]; exact digs_pos_len hr
  have hle : (pre ++ rep r q).length = pre.length + (rep r q).length := List.length_append
  have hl : (pre ++ rep r q).length ≤ 100 := by omega
  have hl2 : (pre ++ rep r q).length ≤ 100000 := by omega
  have hx1 : (rep r q).take 2 ≠ [48, 120] := rep_ne_take hr hr2 _
  have hx2 : (rep r q).take 2 ≠ [48, 88] := rep_ne_take hr hr2 _
  have hs1 : Txt.slice (T (pre ++ rep r q)) (some (pre.length : Int)) (some ((pre.length : Int) + 2)) = T ((rep r q).take 2) :=
    (slice_ss' (codes_T _) pre.length (pre.length + 2) rfl rfl (by omega) (by omega)).trans (by rw [List.drop_left, Nat.add_sub_cancel_left])
  walk_at "MINE in"
  k_with_none
  k_with "SLICE" => exact hs1
  k_with "call ref" => (refine Cl.on (hsk _ _ _) (by walk_at "MINE sides") ?_; walk_at "MINE on")
  k_with "call ref" => (refine Cl.on (hsg _ _ _) (by walk_at "MINE sides") ?_; walk_at "MINE on")
  k_with "call ref" => (refine Cl.on (c_run_rep hr hr2 hl (by rfl) _ _ _ _) (by walk_at "MINE sides") ?_; walk_at "MINE on")
  k_with "call ref" => (refine Cl.on (c_worth_rep hr hr2 hl (by rfl) (by rfl) _ _ _ _ _) (by walk_at "MINE sides") ?_; walk_at "MINE on")
  k_with "call ref" => (refine Cl.on (c_from_int hq (by rfl) _ _) (by walk_at "MINE sides") ?_; walk_at "MINE on")
  k_with "call ref" => (refine Cl.on (htn _ _) (by walk_at "MINE sides") ?_; walk_at "MINE on")
  k_steps
  all_goals first | (exfalso; omega) | (walk_at "MINE end" <;> rfl)
end
-- part N1
section
theorem c_next {r : Nat} (hr : 2 ≤ r) (hr2 : r ≤ 36) : ∀ (ds : List Nat), (∀ d ∈ ds, d < r) → ds.length ≤ 60 → ∀ (t u : Tok) (news : List (Addr × Obj)),
    Cl (ds.length + 1) 320 [.str (T (ds.reverse.map fig)) t, .int r u] news (RetS news (T ((inc r ds).reverse.map fig)))
  | [], _, _ => fun t u news => by
    have hs1 : Txt.slice (PySem.Str.ofString "0123456789abcdefghijklmnopqrstuvwxyz") none (some (r : Int)) = T (FIGS.take r) := slice_ns' lit_figs r rfl
    walk_at "MINE in"
    k_with_none
    k_with "SLICE" => exact hs1
    k_steps
    all_goals (walk_at "MINE end"; exact (of_codes lit_one).symm)
  | d :: ds, hd, hl => fun t u news => by
    have ih := c_next hr hr2 ds (fun x hx => hd x (.tail _ hx)) (by simp at hl; omega)
    have hlc : (d :: ds).length = ds.length + 1 := rfl
    have hd0 : d < r := hd d (.head _)
    have hs1 : Txt.slice (PySem.Str.ofString "0123456789abcdefghijklmnopqrstuvwxyz") none (some (r : Int)) = T (FIGS.take r) := slice_ns' lit_figs r rfl
    have hne : ((d :: ds).reverse.map fig) ≠ [] := by simp
    have hlast : ((d :: ds).reverse.map fig).getLast? = some (fig d) := by simp
    have hdrop : ((d :: ds).reverse.map fig).dropLast = ds.reverse.map fig := by simp
    have hs2 : Txt.slice (T ((d :: ds).reverse.map fig)) none (some (-1)) = T (ds.reverse.map fig) := (slice_last (codes_T _) rfl hne).trans (by rw [hdrop])
    have hl2 : ((d :: ds).reverse.map fig).length ≤ 100000 := by simp at hl ⊢; omega
    have hl3 : ((inc r ds).reverse.map fig).length + 1 ≤ 100000 := by
      have : ∀ l : List Nat, (inc r l).length ≤ l.length + 1 := by
        intro l
        induction l with
        | nil => exact Nat.le_refl _
        | cons a l ih => unfold inc; split <;> simp; exact ih
      have := this ds
      simp at hl ⊢; omega
    have hl4 : (ds.reverse.map fig).length ≤ 1000 := by simp at hl ⊢; omega
    have hfl := figs_last hr hr2
    have hfl2 : (FIGS.take r).length ≤ 100000 := by simp [FIGS]; omega
    by_cases he : d = r - 1
    · have hinc : inc r (d :: ds) = 0 :: inc r ds := by show (if d = r - 1 then _ else _) = _; rw [if_pos he]
      rw [hinc]
      have heq : [fig d] = [fig (r - 1)] := by rw [he]
      walk_at "MINE in"
      k_with_none
      k_with "SLICE" => exact hs1
      k_with "SLICE" => exact hs2
      k_with "call ref" => (refine Cl.on (ih _ _ _) (by walk_at "MINE sides") ?_; walk_at "MINE on")
      k_steps
      all_goals (walk_at "MINE end"; first | (simp; done) | (simp [fig]; done))
    · have hinc : inc r (d :: ds) = (d + 1) :: ds := by show (if d = r - 1 then _ else _) = _; rw [if_neg he]
      rw [hinc]
      have hneq : [fig d] ≠ [fig (r - 1)] := fun e => he (fig_inj (by simpa using e) (by omega) (by omega))
      have hidx := figs_take hr2 hd0
      have hit : (FIGS.take r)[((d : Int) + 1).toNat]? = some (fig (d + 1)) := figs_take hr2 (by omega)
      walk_at "MINE in"
      k_with_none
      k_with "SLICE" => exact hs1
      k_with "SLICE" => exact hs2
      k_with "call builtin:str.index" => (refine t_index (codes_T _) (codes_T _) hidx (figs_idx hr2 hd0) ?_; intro _ _)
      k_steps
      all_goals (walk_at "MINE end"; first | (simp; done) | (simp [fig]; done))
end
-- part S1
section
theorem c_place {q U : Nat} (h : PlaceIn q U) {x y : Int} (hx : x = ((q * U : Nat) : Int)) (hy : y = (U : Int)) (t u : Tok) (news : List (Addr × Obj)) :
   Cl 1 257 [.int x t, .int y u] news (RetI news (dl q)) := by
  subst hx; subst hy
  have e1 := h.big
  have e2 := h.bigU
  have e3 := h.smU
  have e4 := h.d1
  have e5 := h.d16
  have l1 : (rep 10 (q * U)).length ≤ 100000 := by have := h.found; rw [rep_dl] at *; have : dl U ≤ 60 := dl_le (by have := h.hU; omega) (Nat.lt_of_lt_of_le h.hU2 (by decide)); rw [rep_dl] at *; omega
  have l2 : (rep 10 U).length ≤ 100000 := by rw [rep_dl]; have : dl U ≤ 60 := dl_le (by have := h.hU; omega) (Nat.lt_of_lt_of_le h.hU2 (by decide)); omega
  walk_at "MINE in"
  k_with_none
  k_with "call type:str" => (refine t_str (n := q * U) rfl e1 ?_; intro _ _)
  k_with "call type:str" => (refine t_str (n := U) rfl e2 ?_; intro _ _)
  rcases h.found with hf | hf
  · have hc := ten_cast (k := dl q - 1) (f := ((rep 10 (q * U)).length : Int) - ((rep 10 U).length : Int)) (by omega)
    have hs : Sm ((10 : Int) ^ (((rep 10 (q * U)).length : Int) - ((rep 10 U).length : Int)).toNat) := by rw [hc]; exact sm_ten (by omega)
    have hle : (U : Int) * (10 : Int) ^ (((rep 10 (q * U)).length : Int) - ((rep 10 U).length : Int)).toNat ≤ ((q * U : Nat) : Int) := by
      rw [hc, ← Int.natCast_mul]; exact Int.ofNat_le.mpr h.le
    clear hc
    k_steps
    all_goals first | (exfalso; omega) | (walk_at "MINE end"; omega)
  · have hc := ten_cast (k := dl q) (f := ((rep 10 (q * U)).length : Int) - ((rep 10 U).length : Int)) (by omega)
    have hs : Sm ((10 : Int) ^ (((rep 10 (q * U)).length : Int) - ((rep 10 U).length : Int)).toNat) := by rw [hc]; exact sm_ten (by omega)
    have hle : ¬ (U : Int) * (10 : Int) ^ (((rep 10 (q * U)).length : Int) - ((rep 10 U).length : Int)).toNat ≤ ((q * U : Nat) : Int) := by
      rw [hc, ← Int.natCast_mul]; have := h.gt (a := 0) (by have := h.hU; omega); omega
    clear hc
    k_steps
    all_goals first | (exfalso; omega) | (walk_at "MINE end"; omega)
end
-- part S2
section
theorem c_first {q U a : Nat} (h : PlaceIn q U) (ha : a < U) (b : Bool) {x y z : Int} (hx : x = ((q * U : Nat) : Int)) (hy : y = (a : Int)) (hz : z = (U : Int)) (t u v : Tok) (news : List (Addr × Obj)) :
   Cl 2 264 [.int x t, .int y u, .int z v, .bool b] news (RetI news (dl q)) := by
  subst hx; subst hy; subst hz
  have e3 := h.smU
  have e5 := h.d16
  have hc := ten_cast (k := dl q) (f := (dl q : Int)) rfl
  have hs : Sm ((10 : Int) ^ ((dl q : Int)).toNat) := by rw [hc]; exact sm_ten (by omega)
  have hgt : ((q * U : Nat) : Int) + (a : Int) < (U : Int) * (10 : Int) ^ ((dl q : Int)).toNat := by
    rw [hc, ← Int.natCast_mul, ← Int.natCast_add]; exact Int.ofNat_lt.mpr (h.gt ha)
  clear hc
  walk_at "MINE in"
  k_with_none
  k_with "call ref" => (refine Cl.on (c_place h rfl rfl _ _ _) (by walk_at "MINE sides") ?_; walk_at "MINE on")
  k_steps
  all_goals first | (exfalso; omega) | (walk_at "MINE end"; rfl)
theorem c_last (x y z : Int) (t u v : Tok) (news : List (Addr × Obj)) :
   Cl 1 278 [.int x t, .int y u, .int z v, .bool true, .bool false] news (RetI news x) := by
  walk_at "MINE in"
  k_with_none
  k_steps
  all_goals first | (exfalso; omega) | (walk_at "MINE end"; simp)
theorem c_laid {fs : List Nat} {d : Nat} (hf : fs.length ≤ d) (hd : d ≤ 21) {x : Int} (hx : x = (d : Int)) (t u : Tok) (news : List (Addr × Obj)) :
   Cl 1 299 [.str (T fs) t, .int x u] news (RetS news (T (fs ++ List.replicate (d - fs.length) 48))) := by
  subst hx
  have hl2 : fs.length ≤ 100000 := by omega
  walk_at "MINE in"
  k_with_none
  k_with "binaryOp Mult str int" => (refine t_mul (n := d - fs.length) lit_zero (by omega) (by omega) ?_; intro _ _)
  k_steps
  all_goals first | (exfalso; omega) | (walk_at "MINE end"; rfl)
theorem c_nofig {sg q : Nat} {n : Int} (h : Bits sg q n) (t : Tok) (news : List (Addr × Obj)) :
   Cl 2 306 [.int n t] news (RetN news) := by
  walk_at "MINE in"
  k_with_none
  k_with "call ref" => (refine Cl.on (c_is_nan h.nan _ _) (by walk_at "MINE sides") ?_; walk_at "MINE on")
  k_with "call ref" => (refine Cl.on (c_is_inf h.inf _ _) (by walk_at "MINE sides") ?_; walk_at "MINE on")
  k_steps
  all_goals (walk_at "MINE end")
end
-- part S3
section
theorem c_sc {q : Nat} (h0 : q ≠ 0) (hq : q < 9007199254740992) {x y : Int} (hx : x = (man q : Int)) (hy : y = (bl q : Int) - 53) (t u : Tok) (news : List (Addr × Obj)) :
   Cl 1 250 [.int x t, .int y u] news (Ret4 news (q * eU q : Nat) (ea q) 1 (eU q)) := by
  subst hx; subst hy
  have b1 := bl_pos h0
  have b2 : bl q ≤ 53 := bl_le_of_lt hq
  have hhi := man_hi hq
  have hsm : Sm (man q : Int) := sm_nat 53 hhi (by decide)
  have hs1 : Sm 1 := sm_small (by decide) (by decide)
  have hs2 : Sm 2 := sm_small (by decide) (by decide)
  have hs4 : Sm 4 := sm_small (by decide) (by decide)
  have hsA : Sm ((man q : Int) * 2) := by have := sm_nat (x := man q * 2) 54 (by omega) (by decide); rw [Int.natCast_mul] at this; exact this
  have hsB : Sm ((man q : Int) * 4) := by have := sm_nat (x := man q * 4) 55 (by omega) (by decide); rw [Int.natCast_mul] at this; exact this
  have hpw : (2 : Int) ^ (0 - ((bl q : Int) - 53)).toNat = ((2 ^ (53 - bl q) : Nat) : Int) := by
    rw [show (0 - ((bl q : Int) - 53)).toNat = 53 - bl q from by omega, Int.natCast_pow]; rfl
  by_cases hm : man q = 4503599627370496
  · obtain ⟨f1, f2⟩ := eU_edge hm
    have f3 : eU q = 4 * 2 ^ (53 - bl q) := by unfold eU; rw [if_pos hm]
    have g1 : ((q * eU q : Nat) : Int) = (man q : Int) * 4 := by rw [f1, Int.natCast_mul]; rfl
    have g3 : (eU q : Int) = 4 * 2 ^ (0 - ((bl q : Int) - 53)).toNat := by rw [hpw, f3, Int.natCast_mul]; rfl
    by_cases hb : bl q = 53
    · have c0 : (2 : Int) ^ ((bl q : Int) - 53).toNat = 1 := by rw [hb]; rfl
      have g4 : (eU q : Int) = 4 := by rw [f3, hb]; rfl
      walk_at "MINE in"
      k_with_none
      k_steps
      all_goals first | (exfalso; omega) | (walk_at "MINE end" <;> first | (rw [g1, c0]; omega) | (rw [f2, c0]; rfl) | (rw [c0]; rfl) | exact g4)
    · walk_at "MINE in"
      k_with_none
      k_steps
      all_goals first | (exfalso; omega) | (walk_at "MINE end" <;> first | exact g1 | (rw [f2]; rfl) | exact g3 | rfl)
  · obtain ⟨f1, f2⟩ := eU_mid hm
    have f3 : eU q = 2 * 2 ^ (53 - bl q) := by unfold eU; rw [if_neg hm]
    have g1 : ((q * eU q : Nat) : Int) = (man q : Int) * 2 := by rw [f1, Int.natCast_mul]; rfl
    have g3 : (eU q : Int) = 2 * 2 ^ (0 - ((bl q : Int) - 53)).toNat := by rw [hpw, f3, Int.natCast_mul]; rfl
    by_cases hb : bl q = 53
    · have c0 : (2 : Int) ^ ((bl q : Int) - 53).toNat = 1 := by rw [hb]; rfl
      have g4 : (eU q : Int) = 2 := by rw [f3, hb]; rfl
      walk_at "MINE in"
      k_with_none
      k_steps
      all_goals first | (exfalso; omega) | (walk_at "MINE end" <;> first | (rw [g1, c0]; omega) | (rw [f2, c0]; rfl) | (rw [c0]; rfl) | exact g4)
    · walk_at "MINE in"
      k_with_none
      k_steps
      all_goals first | (exfalso; omega) | (walk_at "MINE end" <;> first | exact g1 | (rw [f2]; rfl) | exact g3 | rfl)
end
-- part S4
section
local macro_rules | `(tactic| walk_at "binaryOp FloorDiv int int") => `(tactic| (refine' fdiv_sm ?ka ?kb ?_; (case ka => with_reducible assumption); (case kb => exact NZ.out (by with_reducible assumption))))
local macro_rules | `(tactic| walk_at "binaryOp Mod int int") => `(tactic| (refine' mod_int' ?kb ?_; (case kb => exact NZ.out (by with_reducible assumption))))
local macro_rules | `(tactic| walk_at "W or low") => `(tactic| ((fail_if_success (with_reducible show wpAny _ _ _ (fun v s₂ => MJB _ _ _ _ _ _ v s₂) _ _)); (with_reducible show wpAny _ _ (eval (Expr.BoolOp BoolOp.Or (Expr.Compare (Expr.Name _ _) _ _ _ :: _) _) _) _ _ _); (with_reducible rename Lw _ => hLw'); k_dflt (refine' mj_bool (lwOf hLw') ?k1 ?k2 ?kc ?kk; (case k1 => k_asm); (case k2 => k_asm)); (case' kk => (intro h' tk' F' N'; (try k_sweep); (try dsimp only [lwOf])))))
local macro_rules | `(tactic| walk_at "W or high") => `(tactic| ((fail_if_success (with_reducible show wpAny _ _ _ (fun v s₂ => MJB _ _ _ _ _ _ v s₂) _ _)); (with_reducible show wpAny _ _ (eval (Expr.BoolOp BoolOp.Or (Expr.Compare (Expr.BinOp _ _ _ _) _ _ _ :: _) _) _) _ _ _); k_dflt (refine' mj_bool false ?k1 ?k2 ?kc ?kk; (case k1 => k_asm); (case k2 => k_asm)); (case' kk => (intro h' tk' F' N'; (try k_sweep)))))
theorem c_shortest {sg q : Nat} {n : Int} (h : Bits sg q n) (h0 : q ≠ 0) (t : Tok) (news : List (Addr × Obj)) :
   Cl 4 271 [.int n t] news (RetSh news q) := by
  have hq := h.hq
  have hpl := eU_place h0 hq
  have hea := ea_lt q
  have b1 := bl_pos h0
  have hd1 := hpl.d1
  have hd16 := hpl.d16
  have hlo := man_lo h0 hq
  have hW : (eU q : Int) * (10 : Int) ^ ((dl q : Int)).toNat = ((eU q * 10 ^ dl q : Nat) : Int) := by rw [ten_cast (k := dl q) rfl, Int.natCast_mul]
  have hsU := hpl.smU
  have hsT : Sm ((10 : Int) ^ ((dl q : Int)).toNat) := by rw [ten_cast (k := dl q) rfl]; exact sm_ten (by omega)
  have hsW : Sm ((eU q : Int) * (10 : Int) ^ ((dl q : Int)).toNat) := by
    rw [hW]
    refine sm_nat 160 ?_ (by decide)
    have h1 : 10 ^ dl q ≤ 10 ^ 20 := Nat.pow_le_pow_right (by decide) (by omega)
    have h2 : (10 : Nat) ^ 20 < 2 ^ 100 := by decide
    calc eU q * 10 ^ dl q < 2 ^ 60 * 2 ^ 100 := Nat.mul_lt_mul'' hpl.hU2 (Nat.lt_of_le_of_lt h1 h2)
      _ = 2 ^ 160 := by rw [← Nat.pow_add]
  have hWn : NZ ((eU q : Int) * (10 : Int) ^ ((dl q : Int)).toNat) := by
    unfold NZ; rw [hW]; have := hpl.hU; have : 0 < eU q * 10 ^ dl q := Nat.mul_pos (by omega) (Nat.pow_pos (by decide)); omega
  walk_at "MINE in"
  k_with_none
  k_with "call ref" => (refine Cl.on (c_parts (x := sg) (y := man q) (z := bl q - 53) (h.form h0) h.frac h.exp (by omega) (by omega) (by omega) (by omega) _ _) (by walk_at "MINE sides") ?_; walk_at "MINE on")
  k_with "call ref" => (refine Cl.on (c_sc h0 hq rfl rfl _ _ _) (by walk_at "MINE sides") ?_; walk_at "MINE on")
  k_with "call ref" => (refine Cl.on (c_first hpl hea _ rfl rfl rfl _ _ _ _) (by walk_at "MINE sides") ?_; walk_at "MINE on")
  k_with "call ref" => (refine Cl.on (c_last _ _ _ _ _ _ _) (by walk_at "MINE sides") ?_; walk_at "MINE on")
  k_with "eval BoolOp" => walk_at "W or low"
  k_with "eval BoolOp" => walk_at "W or high"
  k_with "MJB" => exact ⟨_, _, congrArg Value.bool (by first | rfl | exact decide_eq_true (by omega) | exact decide_eq_false (by omega) | assumption | exact beq_eq_false_iff_ne.mpr (by omega)), rfl, by assumption, by assumption⟩
  k_with "call type:str" => (refine t_strF (by assumption) ?_; intro _ _)
  k_with "exec While Constant" => (refine short_while (q := q) (U := eU q) (a := ea q) h0 hq (by k_asm) (by k_asm) rfl rfl rfl rfl rfl rfl ?_ (by passes_own); (intro i n1 n2 n3 t1 t2 t3 vs c u hh tk hI hSF hsz F' N'); have hT := s_turn hI hpl.hU hea hW; have hfig := hT.fig; have hhigh := hT.high; have hne := hT.ne; (by_cases hz : q % 10 ^ (dl q - (i + 1)) = 0); (case' pos => (have hLw : Lw true := trivial; have hlow := hT.low hz; try k_fold)); (case' neg => (have hLw : Lw false := trivial; have hlow := hT.notlow hz; have hnx := hT.next hz; try k_fold)))
  k_with "SPost" => dsimp only [SPost]
  k_with "SNext" => exact s_next hI (hnx 0 0 0 vs c) (by assumption) (by assumption) (by k_mem) rfl rfl rfl (by dsimp only [sPs]; ksw_same) rfl
  k_with "call builtin:str.join" => (refine join_strs (by k_asm) (by k_mem) (s_push hSF _) (F_flat _) (one_len' _) (by have := hI.1; simp only at this; rw [List.length_map, F_len]; omega) ?_; intro _ _)
  k_steps
  all_goals exact r2SI (retSh_at (by with_reducible assumption) h0 hI hz) rfl rfl (by assumption) (by assumption) (by assumption) (by assumption) (by k_mem)
end
-- part S5
section
theorem c_show0 {n : Int} (h : Bits 0 0 n) (t : Tok) (news : List (Addr × Obj)) :
   Cl 5 313 [.int n t] news (RetS news (T (rep 10 0))) := by
  walk_at "MINE in"
  k_with_none
  k_with "call ref" => (refine Cl.on (c_nofig h _ _) (by walk_at "MINE sides") ?_; walk_at "MINE on")
  k_with "call ref" => (refine Cl.on (c_is_zero h.zero _ _) (by walk_at "MINE sides") ?_; walk_at "MINE on")
  k_steps
  all_goals (walk_at "MINE end"; exact (of_codes lit_zero).symm)
theorem c_show {sg q : Nat} {n : Int} (h : Bits sg q n) (h0 : q ≠ 0) (t : Tok) (news : List (Addr × Obj)) :
   Cl 5 313 [.int n t] news (RetS news (T (sgn sg ++ rep 10 q))) := by
  have hz : (Builtin.bitAnd n (9223372036854775808 - 1) == 0) = false := by rw [h.zero]; exact decide_eq_false h0
  have hd16 := dl_small h.hq
  have hlen : (sgn sg).length + (rep 10 q).length ≤ 100000 := by have h1 := sgn_len sg; rw [rep_dl]; omega
  walk_at "MINE in"
  k_with_none
  k_with "call ref" => (refine Cl.on (c_nofig h _ _) (by walk_at "MINE sides") ?_; walk_at "MINE on")
  k_with "call ref" => (refine Cl.on (c_is_zero hz _ _) (by walk_at "MINE sides") ?_; walk_at "MINE on")
  k_with "call ref" => (refine Cl.on (c_is_negative h.neg _ _) (by walk_at "MINE sides") ?_; walk_at "MINE on")
  k_with "call ref" => (refine Cl.on (c_shortest h h0 _ _) (by walk_at "MINE sides") ?_; (dsimp only [RetSh, Ret2SI]; intro fs hfl hrep D t1 u1 c1 h1' tk1 F1 N1; (try dsimp only); (try k_sweep); (try k_fold)))
  k_with "call ref" => (refine Cl.on (c_laid hfl (by omega) rfl _ _ _) (by walk_at "MINE sides") ?_; rw [← hrep]; walk_at "MINE on")
  k_with "eval IfExp" => ((with_reducible show wpAny _ _ (eval (Expr.IfExp _ (Expr.Constant (Const.str _) _ _) _ _) _) _ _ _); k_dflt (refine mj_str (sgn sg) (by k_asm) (by k_asm) ?_ ?_); rotate_left; (intro t' h' tk' F' N'; (try k_sweep)))
  k_with "MJS" => exact ⟨_, _, _, _, rfl, (by first | exact lit_nil.trans (by simp_all [sgn]) | exact lit_minus.trans (by simp_all [sgn])), rfl, by assumption, by assumption⟩
  k_steps
  all_goals (walk_at "MINE end" <;> rfl)
end
-- part W1
section
theorem rest_other : ¬ Str.ofString "rest" = Str.ofString "other" := by decide
section
variable {prog : Program} {w : World} {A : Around} {E : Value → Shared → Prop} {s : Shared} {h₀ : Heap} {L : Addr} {m : Str → Option Value} {news : List (Addr × Obj)}
def LEnd (r : Nat) (a : Int) (ds : List Nat) (h₀ : Heap) (L : Addr) (m : Str → Option Value) (news : List (Addr × Obj)) (s : Shared) (fl : Flow) (s₃ : Shared) : Prop :=
  fl = .next ∧ ∃ (t1 t2 : Tok) (h' : Heap) (tk' : Nat) (m' : Str → Option Value) (news' : List (Addr × Obj)), s₃ = { s with heap := h', toks := tk' } ∧ Fr h₀ L h' m' ∧
    (∀ z, m' z = if z = Str.ofString "other" then some (.str (T (fig (Int.fmod a r).toNat :: ds.reverse.map fig)) t2) else if z = Str.ofString "rest" then some (.int (Int.fdiv a r) t1) else m z) ∧ News h₀ L h' news' ∧ ∀ p ∈ news, p ∈ news'
def LOut (a : Int) (ds : List Nat) (h₀ : Heap) (L : Addr) (m : Str → Option Value) (news : List (Addr × Obj)) (s s₂ : Shared) : Prop :=
  ¬ 0 < a ∧ ds ≠ [] ∧ ∃ (h' : Heap) (tk' : Nat), s₂ = { s with heap := h', toks := tk' } ∧ Fr h₀ L h' m ∧ News h₀ L h' news
theorem law_while {r n : Nat} (hr : 2 ≤ r) (hr2 : r ≤ 36) (hn : n < 9007199254740992) {env : Env} {test : Expr} {body : List Stmt} {pos : Pos} {t t' : Tok} {Q : Flow → Shared → Prop}
    (F : Fr h₀ L s.heap m) (N : News h₀ L s.heap news) (hk : m (Str.ofString "rest") = some (.int n t)) (hk2 : m (Str.ofString "other") = some (.str (T []) t'))
    (turn : ∀ (a : Int) (ta : Tok) (ds : List Nat) (tb : Tok) (h : Heap) (tk : Nat), 0 ≤ a → WInv r n ⟨a, ta, ds, #[], 0⟩ → (ds.reverse.map fig).length ≤ 53 → (∀ d ∈ ds, d < 36) →
      Fr h₀ L h (fun z => if z = Str.ofString "other" then some (.str (T (ds.reverse.map fig)) tb) else if z = Str.ofString "rest" then some (.int a ta) else m z) → News h₀ L h news →
      wpAny (model prog w) A (isTrue test env (eval test env)) (fun b s₂ => if b = true then (0 < a ∨ ds = []) ∧ wpAny (model prog w) A (execs body env) (fun fl s₃ => LEnd r a ds h₀ L m news s fl s₃) E s₂
        else LOut a ds h₀ L (fun z => if z = Str.ofString "other" then some (.str (T (ds.reverse.map fig)) tb) else if z = Str.ofString "rest" then some (.int a ta) else m z) news s s₂) E { s with heap := h, toks := tk })
    (go : ∀ (a : Int) (ta tb : Tok) (h' : Heap) (tk' : Nat), Fr h₀ L h' (fun z => if z = Str.ofString "other" then some (.str (T (rep r n)) tb) else if z = Str.ofString "rest" then some (.int a ta) else m z) → News h₀ L h' news → Q .next { s with heap := h', toks := tk' })
    (hE : PassesOwn (model prog w) A env E := by passes_own) :
    wpAny (model prog w) A (exec (.While test body [] pos) env) Q E s := by
  refine ksw_while (σ := Int × Tok × List Nat × Tok) (fun _ => news) (fun c => [(Str.ofString "other", .str (T (c.2.2.1.reverse.map fig)) c.2.2.2), (Str.ofString "rest", .int c.1 c.2.1)]) (fun c => ∀ d ∈ c.2.2.1, d < 36) [] (fun c => WInv r n ⟨c.1, c.2.1, c.2.2.1, #[], 0⟩) (fun c => WMu ⟨c.1, c.2.1, c.2.2.1, #[], 0⟩) (n, t, [], t') F N (fun _ hd => nomatch hd) ?_ (w_init r n t 0) ?_ hE
  · intro p hp
    rcases List.mem_cons.mp hp with rfl | hp
    · exact hk2
    · rw [List.mem_singleton.mp hp]; exact hk
  rintro ⟨a, ta, ds, tb⟩ u h tk hf hp Fk Nk
  have hsz : (ds.reverse.map fig).length ≤ 53 := by
    have h2 := w_few hr hn hp
    rw [List.length_map, List.length_reverse]; exact h2
  refine wpAny_mono (turn a ta ds tb h tk hp.1 hp hsz hf Fk Nk) (fun b s₂ q => ?_) fun _ _ x => x
  cases b with
  | false =>
    simp only [Bool.false_eq_true, if_false] at q ⊢
    obtain ⟨h0, hne, h', tk', rfl, F', N'⟩ := q
    have e : ds = digs r n := w_done hp h0 hne
    refine go a ta tb h' tk' ?_ N'
    have e2 : ds.reverse.map fig = rep r n := by rw [e]; rfl
    rw [← e2]; exact F'
  | true =>
    simp only [if_true] at q ⊢
    obtain ⟨hgo, q⟩ := q
    refine wpAny_mono q (fun fl s₃ q => ?_) fun _ _ x => x
    obtain ⟨rfl, t1, t2, h', tk', m', news', rfl, F', hm, N', hmem⟩ := q
    have hfd := w_fig hr hr2 hp.1
    have e3 : ((ds ++ [(Int.fmod a r).toNat]).reverse.map fig) = fig (Int.fmod a r).toNat :: ds.reverse.map fig := by simp
    refine ksw_end (Int.fdiv a r, t1, ds ++ [(Int.fmod a r).toNat], t2) F' N' hmem ?_ ?_ ?_ (w_turn hr hp hgo _ _ _) (w_less hr hp hgo _ _ _)
    · intro d hd
      rcases List.mem_append.mp hd with hd | hd
      · exact hf d hd
      · rw [List.mem_singleton.mp hd]; exact hfd
    · intro p hp
      rcases List.mem_cons.mp hp with rfl | hp
      · show m' _ = _
        rw [hm, if_pos rfl, e3]
      · rw [List.mem_singleton.mp hp]
        show m' _ = _
        rw [hm, if_neg rest_other, if_pos rfl]
    · intro z hz _
      have h1 := hz _ (List.mem_cons_self ..)
      have h2 := hz _ (List.mem_cons_of_mem _ (List.mem_singleton.mpr rfl))
      rw [hm, if_neg h1, if_neg h2]
end
end
-- part W2
section
section
variable {prog : Program} {w : World} {A : Around} {E : Value → Shared → Prop} {s : Shared} {h₀ : Heap} {m : Str → Option Value} {news : List (Addr × Obj)}
def LTurn (r q : Nat) (x : Str) (h₀ : Heap) (L : Addr) (m : Str → Option Value) (news own : List (Addr × Obj)) (s : Shared) (fl : Flow) (s₃ : Shared) : Prop :=
  fl = .next ∧ ∃ (t1 t2 t3 : Tok) (h' : Heap) (tk' : Nat) (m' : Str → Option Value) (news' : List (Addr × Obj)), s₃ = { s with heap := h', toks := tk' } ∧ Fr h₀ L h' m' ∧
    (∀ z, z ≠ x → m' z = if z = Str.ofString "other" then some (.str (T (rep r q)) t3) else if z = Str.ofString "decimal" then some (.str (T (rep 10 q)) t2) else if z = Str.ofString "number" then some (.int (enc q) t1) else m z) ∧
    News h₀ L h' news' ∧ (∀ p ∈ news, p ∈ news') ∧ ∀ p ∈ own, p ∈ news'
theorem law_for {r n₀ N : Nat} {rg : Addr} {b₀ : Int} {t₀ u₀ v₀ t1 t2 t3 : Tok} {env : Env} {x : Str} {body : List Stmt} {Q : Flow → Shared → Prop} (hN : N ≤ 4)
    (hh : A.handled = none) (hr : IsRange s.heap rg 0 b₀ 1 t₀ u₀ v₀) (hb : b₀ = (N : Int)) (F : Fr h₀ env.locals s.heap m) (N' : News h₀ env.locals s.heap news)
    (k1 : m (Str.ofString "number") = some (.int (enc n₀) t1)) (k2 : m (Str.ofString "decimal") = some (.str (T (rep 10 n₀)) t2)) (k3 : m (Str.ofString "other") = some (.str (T (rep r n₀)) t3))
    (hx1 : Str.ofString "number" ≠ x) (hx2 : Str.ofString "decimal" ≠ x) (hx3 : Str.ofString "other" ≠ x)
    (turn : ∀ (k : Nat) (t t1 t2 t3 : Tok) (h : Heap) (tk : Nat) (own : List (Addr × Obj)), k < 4 → OwnOff own (news.map (·.1)) →
      Fr h₀ env.locals h (fun y => if y = x then some (.int k t) else if y = Str.ofString "other" then some (.str (T (rep r (n₀ + k))) t3) else if y = Str.ofString "decimal" then some (.str (T (rep 10 (n₀ + k))) t2) else if y = Str.ofString "number" then some (.int (enc (n₀ + k)) t1) else m y) → News h₀ env.locals h (news ++ own) →
      wpAny (model prog w) A (execs body env) (fun fl s₃ => LTurn r (n₀ + k + 1) x h₀ env.locals m news own { s with heap := h, toks := tk } fl s₃) E { s with heap := h, toks := tk })
    (go : ∀ (u : Str → Option Value) (t1 t2 t3 : Tok) (h : Heap) (tk : Nat),
      Fr h₀ env.locals h (fun y => if y = x then u y else if y = Str.ofString "other" then some (.str (T (rep r (n₀ + N))) t3) else if y = Str.ofString "decimal" then some (.str (T (rep 10 (n₀ + N))) t2) else if y = Str.ofString "number" then some (.int (enc (n₀ + N)) t1) else m y) → News h₀ env.locals h news → Q .next { s with heap := h, toks := tk }) :
    wpAny (model prog w) A (pyIter (.ref rg)) (fun it s₂ => LoopAtV prog w A h₀ env x body Q E it s₂) E s := by
  subst hb
  refine kst_range (n := N) (σ := Nat × Tok × Tok × Tok) (fun _ => news) (fun c => [(Str.ofString "other", .str (T (rep r (n₀ + c.1))) c.2.2.2), (Str.ofString "decimal", .str (T (rep 10 (n₀ + c.1))) c.2.2.1), (Str.ofString "number", .int (enc (n₀ + c.1)) c.2.1)]) (fun _ => True) [] (fun pre c => c.1 = pre.length) (0, t1, t2, t3) hh hr (small_one (by decide) (by decide) (by omega) (by omega)) (by rw [rangeSize_nat]; omega) F N' trivial ?_ rfl ?_ ?_
  · intro p hp
    rcases List.mem_cons.mp hp with rfl | hp
    · exact k3
    · rcases List.mem_cons.mp hp with rfl | hp
      · exact k2
      · rw [List.mem_singleton.mp hp]; exact k1
  · rintro ⟨k, t1, t2, t3⟩ pre kk t u h tk own hkk hlt hoff _ hp F' N'
    have hp : k = pre.length := hp
    subst hp
    have hkk : kk = (pre.length : Int) := by omega
    subst hkk
    refine wpAny_mono (turn pre.length t t1 t2 t3 h tk own (by omega) hoff F' N') (fun fl s₃ q => ?_) fun _ _ x => x
    obtain ⟨rfl, t1', t2', t3', h', tk', m', news', rfl, F'', hm, N'', hn1, hn2⟩ := q
    have key : ∀ z, z ≠ x → m' z = if z = Str.ofString "other" then some (.str (T (rep r (n₀ + (pre.length + 1)))) t3') else if z = Str.ofString "decimal" then some (.str (T (rep 10 (n₀ + (pre.length + 1)))) t2') else if z = Str.ofString "number" then some (.int (enc (n₀ + (pre.length + 1))) t1') else m z := hm
    refine kst_end (pre.length + 1, t1', t2', t3') F'' N'' hn1 hn2 rfl trivial ?_ ?_ ?_
    · intro p hp
      rcases List.mem_cons.mp hp with rfl | hp
      · show m' _ = _
        rw [key _ hx3, if_pos rfl]
      · rcases List.mem_cons.mp hp with rfl | hp
        · show m' _ = _
          rw [key _ hx2, if_neg (by decide), if_pos rfl]
        · rw [List.mem_singleton.mp hp]
          show m' _ = _
          rw [key _ hx1, if_neg (by decide), if_neg (by decide), if_pos rfl]
    · intro z hz hall _
      have h1 := hall _ (List.mem_cons_self ..)
      have h2 := hall _ (List.mem_cons_of_mem _ (List.mem_cons_self ..))
      have h3 := hall _ (List.mem_cons_of_mem _ (List.mem_cons_of_mem _ (List.mem_singleton.mpr rfl)))
      rw [key z hz, if_neg h1, if_neg h2, if_neg h3]
    · show pre.length + 1 = (pre ++ [_]).length
      rw [List.length_append]; rfl
  · rintro ⟨k, t1, t2, t3⟩ u h tk _ hp F' N'
    have hp : k = N := hp.trans (rangeKs_length _ _)
    subst hp
    exact go u t1 t2 t3 h tk F' N'
end
end
-- part W3
section
theorem Cl.mono {need need' : Nat} {f : Addr} {vs : List Value} {news : List (Addr × Obj)} {R : Ret} (C : Cl need f vs news R) (h : need ≤ need') : Cl need' f vs news R := by
  intro w mean mg mb dp un gd cn cs a ccd cl outer A₀ base h₀ L m s Q E k1 k2 k3 k4 k5 k6 k7 k8 r
  exact C w mean mg mb dp un gd cn cs a ccd cl outer A₀ base h₀ L m s Q E k1 k2 k3 k4 k5 k6 (by omega) (by omega) r
section
variable {q r : Nat} {x y : Int}
theorem l_show (hx : x = (enc q : Int)) (hq : q < 9007199254740992) (t : Tok) (news : List (Addr × Obj)) : Cl 5 313 [.int x t] news (RetS news (T (rep 10 q))) := by
  by_cases h0 : q = 0
  · subst h0; exact c_show0 (bits_of hx hq) t news
  · exact c_show (bits_of hx hq) h0 t news
theorem l_show_neg (h0 : q ≠ 0) (hx : x = ((9223372036854775808 + enc q : Nat) : Int)) (hq : q < 9007199254740992) (t : Tok) (news : List (Addr × Obj)) : Cl 5 313 [.int x t] news (RetS news (T ([45] ++ rep 10 q))) :=
  c_show (bits_neg hx hq) h0 t news
theorem l_radix (hx : x = (enc q : Int)) (hq : q < 9007199254740992) (hr : 2 ≤ r) (hr2 : r ≤ 36) (hy : y = (r : Int)) (t u : Tok) (news : List (Addr × Obj)) : Cl 13 131 [.int x t, .int y u] news (RetS news (T (rep r q))) := by
  subst hy
  by_cases h0 : q = 0
  · subst h0; exact c_radix0 (bits_of hx hq) t u news
  · exact c_radix (bits_of hx hq) h0 hr hr2 t u news
theorem l_radix_neg (h0 : q ≠ 0) (hx : x = ((9223372036854775808 + enc q : Nat) : Int)) (hq : q < 9007199254740992) (hr : 2 ≤ r) (hr2 : r ≤ 36) (hy : y = (r : Int)) (t u : Tok) (news : List (Addr × Obj)) : Cl 13 131 [.int x t, .int y u] news (RetS news (T ([45] ++ rep r q))) := by
  subst hy
  exact c_radix (bits_neg hx hq) h0 hr hr2 t u news
theorem l_parse (hq : q < 9007199254740992) (hr : 2 ≤ r) (hr2 : r ≤ 36) (hy : y = (r : Int)) (t u : Tok) (news : List (Addr × Obj)) : Cl 6 243 [.str (T (rep r q)) t, .int y u] news (RetI news (enc q)) := by
  subst hy
  obtain ⟨d, l, e, hd, _, _⟩ := rep_head (r := r) (q := q) hr hr2
  have g := fig_range (d := d) (by omega)
  have hl : (fig d :: l).length ≤ 100 := by rw [← e, rep_len]; have := digs_len hr hq; omega
  refine c_parse (pre := []) (b := false) hr hr2 hq (by decide) (fun t u news => ?_) (fun t u news => ?_) (fun t news => c_turned_no _ t news) t u news
  · show Cl 2 166 [.str (T (rep r q)) t, .int 0 u] news (RetI news 0)
    rw [e]; exact c_skip (by omega) (by omega) hl t u news
  · show Cl 1 208 [.str (T (rep r q)) t, .int 0 u] news (Ret2BI news false 0)
    rw [e]; exact c_sign_no (by simp; omega) hl t u news
theorem l_parse_neg (hq : q < 9007199254740992) (hr : 2 ≤ r) (hr2 : r ≤ 36) (hy : y = (r : Int)) (t u : Tok) (news : List (Addr × Obj)) : Cl 6 243 [.str (T ([45] ++ rep r q)) t, .int y u] news (RetI news (9223372036854775808 + enc q : Nat)) := by
  subst hy
  have hl : (45 :: rep r q).length ≤ 100 := by rw [List.length_cons, rep_len]; have := digs_len hr hq; omega
  exact c_parse (pre := [45]) (b := true) hr hr2 hq (by decide) (fun t u news => c_skip (by decide) (by decide) hl t u news) (fun t u news => c_sign_minus hl t u news) (fun t news => c_turned_yes (bits_of rfl hq) t news) t u news
theorem l_next (hq : q < 9007199254740992) (hr : 2 ≤ r) (hr2 : r ≤ 36) (hy : y = (r : Int)) (t u : Tok) (news : List (Addr × Obj)) : Cl 54 320 [.str (T (rep r q)) t, .int y u] news (RetS news (T (rep r (q + 1)))) := by
  subst hy
  have h1 := digs_len hr hq
  have := c_next hr hr2 (digs r q) (digs_lt hr) (by omega) t u news
  rw [inc_digs hr q] at this
  exact this.mono (by omega)
end
theorem l_neg {q : Nat} {x : Int} (hx : x = (enc q : Int)) (hq : q < 9007199254740992) (t : Tok) (news : List (Addr × Obj)) : Cl 2 138 [.int x t] news (RetI news (9223372036854775808 + enc q : Nat)) := c_neg (bits_of hx hq) t news
theorem l_add {q : Nat} {x : Int} (hx : x = (enc q : Int)) (h1 : q + 1 < 9007199254740992) (t u : Tok) (news : List (Addr × Obj)) : Cl 5 145 [.int x t, .int 4607182418800017408 u] news (RetI news (enc (q + 1))) := c_add (bits_of hx (by omega)) h1 t u news
section
variable {prog : Program} {w : World} {A : Around} {E : Value → Shared → Prop} {s : Shared} {t u : Tok} {a b : Int} {Q : Value → Shared → Prop}
theorem ne_F (h : a = b) (hq : Q (.bool false) s) : wpAny (model prog w) A (compareOp .NotEq (.int a t) (.int b u)) Q E s := PyProof.Rows.ne_int (by rw [h, bne_self_eq_false]; exact hq)
end
theorem p0_int (Z : Int) : 1 + Z.fmod 4 = ((1 + Z.fmod 4).toNat : Int) := by
  have : 0 ≤ Z.fmod 4 := Int.fmod_nonneg_of_pos Z (by decide)
  omega
theorem p0_hi (Z : Int) : (1 + Z.fmod 4).toNat ≤ 4 := by
  have : Z.fmod 4 < 4 := Int.fmod_lt_of_pos Z (by decide)
  omega
end
-- part L2
section
section
variable {prog : Program} {w : World} {A : Around} {E : Value → Shared → Prop} {s : Shared} {h₀ : Heap} {L a b : Addr} {m : Str → Option Value} {news : List (Addr × Obj)} {Q : Value → Shared → Prop}
theorem cells3 {ys : List Value} {ks : List Int} (hi : IntsAre ys ks) {k : Int} (hk : k = ks.length) (h3 : ks.length ≤ 3) (t1 t2 t3 : Tok) (x1 x2 x3 : Int) :
    ∃ (X Y Z : Int) (tx ty tz : Tok), ys ++ (slicePick #[.int x1 t1, .int x2 t2, .int x3 t3] (some k) none none).toList = [.int X tx, .int Y ty, .int Z tz] := by
  subst hk
  cases hi with
  | nil => exact ⟨x1, x2, x3, t1, t2, t3, by simp [kms_pick_eq, kms_pick, kms_lo, kms_hi]⟩
  | cons a u h =>
    cases h with
    | nil => exact ⟨a, x2, x3, u, t2, t3, by simp [kms_pick_eq, kms_pick, kms_lo, kms_hi]⟩
    | cons b v h =>
      cases h with
      | nil => exact ⟨a, b, x3, u, v, t3, by simp [kms_pick_eq, kms_pick, kms_lo, kms_hi]⟩
      | cons c w h =>
        cases h with
        | nil => exact ⟨a, b, c, u, v, w, by simp [kms_pick_eq, kms_pick, kms_lo, kms_hi]⟩
        | cons d z h => simp at h3
theorem cells_add {ys : List Value} {ks : List Int} {k : Int} {t1 t2 t3 : Tok} {x1 x2 x3 : Int} {c d : Nat} (F : Fr h₀ L s.heap m) (N : News h₀ L s.heap news) (ha : (a, { cls := .type "list", data := .seq ys.toArray c }) ∈ news) (hb : (b, listOf (slicePick #[.int x1 t1, .int x2 t2, .int x3 t3] (some k) none none) d) ∈ news)
    (hi : IntsAre ys ks) (hk : k = ks.length) (h3 : ks.length ≤ 3)
    (h : ∀ (X Y Z : Int) (tx ty tz : Tok) D h', Fr h₀ L h' m → News h₀ L h' ((D, listOf #[.int X tx, .int Y ty, .int Z tz] 0) :: news) → (∀ p ∈ news, p.1 < D) → Q (.ref D) { s with heap := h' }) :
    wpAny (model prog w) A (binaryOp .Add (.ref a) (.ref b)) Q E s := by
  obtain ⟨X, Y, Z, tx, ty, tz, e⟩ := cells3 hi hk h3 t1 t2 t3 x1 x2 x3
  have hlen := congrArg List.length e
  rw [List.length_append] at hlen
  have e' : ys.toArray.toList ++ (slicePick #[.int x1 t1, .int x2 t2, .int x3 t3] (some k) none none).toList = [.int X tx, .int Y ty, .int Z tz] := e
  refine kmk_add_lit F N ⟨_, N.get ha, rfl, c, rfl⟩ ⟨_, N.get hb, rfl, d, rfl⟩ e' (fun D h' F' N' l => h X Y Z tx ty tz D h' F' N' l) ?_
  rw [← List.length_append, e']
  exact Nat.le_of_ble_eq_true rfl
end
theorem take3 {ns : List Int} {f : Int → Int} : (List.map f (List.take 3 ns)).length ≤ 3 := by simp; omega
theorem pow52 {prog : Program} {w : World} {A : Around} {E : Value → Shared → Prop} {s : Shared} {t u : Tok} {Q : Value → Shared → Prop} (h : ∀ t' k, Q (.int 4503599627370496 t') { s with toks := k }) :
    wpAny (model prog w) A (binaryOp .Pow (.int 2 t) (.int 52 u)) Q E s := by
  refine pow_int_small (by decide) (by decide) (by decide) ?_
  have e : (2 : Int) ^ (52 : Int).toNat = 4503599627370496 := by decide

  first | (rw [e]; exact h _ _) | exact h _ _ | (intros; rw [e]; exact h _ _)
noncomputable def N0 (X : Int) : Nat := (X.fmod 4503599627370496).toNat
theorem n0_int (X : Int) : X.fmod 4503599627370496 = (N0 X : Int) := by
  have : 0 ≤ X.fmod 4503599627370496 := Int.fmod_nonneg_of_pos X (by decide)
  unfold N0; omega
theorem n0_lt (X : Int) : N0 X < 4503599627370496 := by
  have h1 := n0_int X
  have : X.fmod 4503599627370496 < 4503599627370496 := Int.fmod_lt_of_pos X (by decide)
  omega
theorem c_from_fmod (X : Int) (t : Tok) (news : List (Addr × Obj)) : Cl 4 105 [.int (X.fmod 4503599627370496) t] news (RetI news (enc (N0 X))) :=
  c_from_int (by have := n0_lt X; omega) (n0_int X) t news
theorem gd0 (X Y Z : Int) : [X, Y, Z].getD (Int.toNat 0) 0 = X := rfl
theorem gd1 (X Y Z : Int) : [X, Y, Z].getD (Int.toNat 1) 0 = Y := rfl
theorem gd2 (X Y Z : Int) : [X, Y, Z].getD (Int.toNat 2) 0 = Z := rfl
noncomputable def R0 (Y : Int) : Nat := (2 + Y.fmod 35).toNat
theorem r0_int (Y : Int) : 2 + Y.fmod 35 = (R0 Y : Int) := by
  have : 0 ≤ Y.fmod 35 := Int.fmod_nonneg_of_pos Y (by decide)
  unfold R0; omega
theorem r0_lo (Y : Int) : 2 ≤ R0 Y := by
  have h1 := r0_int Y
  have : 0 ≤ Y.fmod 35 := Int.fmod_nonneg_of_pos Y (by decide)
  omega
theorem r0_hi (Y : Int) : R0 Y ≤ 36 := by
  have h1 := r0_int Y
  have : Y.fmod 35 < 35 := Int.fmod_lt_of_pos Y (by decide)
  omega
theorem t_nil : PySem.Str.ofString "" = T [] := by decide +kernel
section
variable {prog : Program} {w : World} {A : Around} {E : Value → Shared → Prop} {s : Shared} {x y : Str} {t u : Tok} {ds : List Nat} {Q : Value → Shared → Prop}
theorem eq_nil (hx : x.cps.toList = ds.reverse.map fig) (hy : y.cps.toList = []) (h : Q (.bool (decide (ds = []))) s) : wpAny (model prog w) A (compareOp .Eq (.str x t) (.str y u)) Q E s := by
  refine t_eq hx hy ?_
  have e : decide (ds.reverse.map fig = []) = decide (ds = []) := by
    cases ds with
    | nil => rfl
    | cons d l => rw [decide_eq_false (by simp), decide_eq_false (by simp)]
  rw [e]; exact h
end
theorem l_end {r : Nat} {a : Int} {ds : List Nat} {h₀ h' : Heap} {L : Addr} {m : Str → Option Value} {news news' : List (Addr × Obj)} {s s₃ : Shared} {t1 t2 : Tok} {tk' : Nat} {w1 w2 : Option Value}
    (F : Fr h₀ L h' (fun y => if y = Str.ofString "other" then some (.str (T (fig (Int.fmod a r).toNat :: ds.reverse.map fig)) t2) else if y = Str.ofString "rest" then some (.int (Int.fdiv a r) t1) else if y = Str.ofString "other" then w1 else if y = Str.ofString "rest" then w2 else m y)) (N : News h₀ L h' news')
    (hm : ∀ p ∈ news, p ∈ news') (hs : s₃ = { s with heap := h', toks := tk' }) : LEnd r a ds h₀ L m news s .next s₃ :=
  ⟨rfl, t1, t2, h', tk', _, news', hs, F, fun z => by
    by_cases h1 : z = Str.ofString "other"
    · simp only [if_pos h1]
    · by_cases h2 : z = Str.ofString "rest"
      · simp only [if_pos h2, if_neg h1]
      · simp only [if_neg h1, if_neg h2], N, hm⟩
theorem rep_room {r q : Nat} (hr : 2 ≤ r) (hq : q < 9007199254740992) : ([45] : List Nat).length + (rep r q).length ≤ 100000 := by
  have := digs_len hr hq
  rw [rep_len]; simp only [List.length_cons, List.length_nil]; omega
theorem l_turn {r q : Nat} {h₀ h' : Heap} {L : Addr} {m : Str → Option Value} {news own : List (Addr × Obj)} {d : Addr × Obj} {s s₃ : Shared} {t1 t2 t3 : Tok} {tk' : Nat} {v w1 w2 w3 : Option Value}
    (F : Fr h₀ L h' (fun y => if y = Str.ofString "number" then some (.int (enc q) t1) else if y = Str.ofString "decimal" then some (.str (T (rep 10 q)) t2) else if y = Str.ofString "other" then some (.str (T (rep r q)) t3) else if y = Str.ofString "turn" then v else if y = Str.ofString "other" then w3 else if y = Str.ofString "decimal" then w2 else if y = Str.ofString "number" then w1 else m y))
    (N : News h₀ L h' (d :: (news ++ own))) (hs : s₃ = { s with heap := h', toks := tk' }) : LTurn r q (Str.ofString "turn") h₀ L m news own s .next s₃ :=
  ⟨rfl, t1, t2, t3, h', tk', _, _, hs, F, fun z hz => by
    have n1 : ¬ Str.ofString "other" = Str.ofString "number" := by decide
    have n2 : ¬ Str.ofString "other" = Str.ofString "decimal" := by decide
    have n3 : ¬ Str.ofString "decimal" = Str.ofString "number" := by decide
    by_cases h1 : z = Str.ofString "other"
    · subst h1
      rw [if_neg n1, if_neg n2, if_pos rfl, if_pos rfl]
    · by_cases h2 : z = Str.ofString "decimal"
      · subst h2
        rw [if_neg n3, if_pos rfl, if_neg h1, if_pos rfl]
      · by_cases h3 : z = Str.ofString "number"
        · subst h3
          rw [if_pos rfl, if_neg h1, if_neg h2, if_pos rfl]
        · simp only [if_neg h1, if_neg h2, if_neg h3, if_neg hz], N, fun p hp => List.Mem.tail _ (List.mem_append_left _ hp), fun p hp => List.Mem.tail _ (List.mem_append_right _ hp)⟩
theorem r0_sm (Y : Int) : Sm (R0 Y : Int) := sm_nat 6 (by have := r0_hi Y; omega) (by decide)
theorem hd.tw10111801491309104144 : True := trivial
theorem hd.tw1011335219593555734 : True := trivial
theorem hd.tw1013155817946168525 : True := trivial
theorem hd.tw10170382586518783626 : True := trivial
theorem hd.tw10246146449241189800 : True := trivial
theorem hd.tw10258999931320997221 : True := trivial
theorem hd.tw1031319831176447121 : True := trivial
theorem hd.tw10360471539772378328 : True := trivial
theorem hd.tw10403243965636340961 : True := trivial
theorem hd.tw10424393626065333798 : True := trivial
theorem hd.tw10458740792067480800 : True := trivial
theorem hd.tw10525666975642140466 : True := trivial
theorem hd.tw10583446816852156582 : True := trivial
theorem hd.tw10601615944963115059 : True := trivial
theorem hd.tw10603584201595350602 : True := trivial
theorem hd.tw10614716105012338702 : True := trivial
theorem hd.tw10727248033764811480 : True := trivial
theorem hd.tw10743916045514856203 : True := trivial
theorem hd.tw10784824025267889561 : True := trivial
theorem hd.tw10792051664901133789 : True := trivial
theorem hd.tw10949625832625181284 : True := trivial
theorem hd.tw1097998534492414930 : True := trivial
theorem hd.tw11054480109507316185 : True := trivial
theorem hd.tw11117797201346649052 : True := trivial
theorem hd.tw11128854368766332075 : True := trivial
theorem hd.tw11162318198679636149 : True := trivial
theorem hd.tw11210553801493137410 : True := trivial
theorem hd.tw11213053971927718326 : True := trivial
theorem hd.tw11232374478483605306 : True := trivial
theorem hd.tw1129884963351977449 : True := trivial
theorem hd.tw11319097763535126812 : True := trivial
theorem hd.tw11319892378374348655 : True := trivial
theorem hd.tw11389486352061984695 : True := trivial
theorem hd.tw11402939732021071671 : True := trivial
theorem hd.tw11465210709893060100 : True := trivial
theorem hd.tw11513968764499736323 : True := trivial
theorem hd.tw11631947586910100387 : True := trivial
theorem hd.tw11652457597714270106 : True := trivial
theorem hd.tw11660266114150955751 : True := trivial
theorem hd.tw11754176132448286083 : True := trivial
theorem hd.tw11893437276241958245 : True := trivial
theorem hd.tw11917015161858427179 : True := trivial
theorem hd.tw11953376511379268794 : True := trivial
theorem hd.tw12023040214023829324 : True := trivial
theorem hd.tw12070051907170230399 : True := trivial
theorem hd.tw12092154237167983948 : True := trivial
theorem hd.tw12112201142124510154 : True := trivial
theorem hd.tw12173100003817136821 : True := trivial
theorem hd.tw12213352325604421381 : True := trivial
theorem hd.tw1222794163293265305 : True := trivial
theorem hd.tw12271959270614036898 : True := trivial
theorem hd.tw12399718760709695909 : True := trivial
theorem hd.tw1241404454085649124 : True := trivial
theorem hd.tw12487502673411948298 : True := trivial
theorem hd.tw12588582704262371052 : True := trivial
theorem hd.tw12614811148066621264 : True := trivial
theorem hd.tw12631932088317031055 : True := trivial
theorem hd.tw12647368939536790636 : True := trivial
theorem hd.tw12901994302517312135 : True := trivial
theorem hd.tw12932263818655905577 : True := trivial
theorem hd.tw12936449754285732098 : True := trivial
theorem hd.tw12949589719889679912 : True := trivial
theorem hd.tw1309765945898418316 : True := trivial
theorem hd.tw13181700845877081190 : True := trivial
theorem hd.tw13225837485096350037 : True := trivial
theorem hd.tw13267510147771200024 : True := trivial
theorem hd.tw13330244855972007585 : True := trivial
theorem hd.tw13368278939475635651 : True := trivial
theorem hd.tw13372043803930879067 : True := trivial
theorem hd.tw13483081372092288885 : True := trivial
theorem hd.tw13518370688599389936 : True := trivial
theorem hd.tw1359830224848277088 : True := trivial
theorem hd.tw13609717118414637909 : True := trivial
theorem hd.tw13770079208771991547 : True := trivial
theorem hd.tw13790719812936386609 : True := trivial
theorem hd.tw13828106393651249627 : True := trivial
theorem hd.tw1382963296337349011 : True := trivial
theorem hd.tw13855881374063213867 : True := trivial
theorem hd.tw13866372431405929976 : True := trivial
theorem hd.tw13919464512627920130 : True := trivial
theorem hd.tw14103535550066685397 : True := trivial
theorem hd.tw1413172679324656950 : True := trivial
theorem hd.tw14168552714766633299 : True := trivial
theorem hd.tw14176624398918483544 : True := trivial
theorem hd.tw14246236162039180721 : True := trivial
theorem hd.tw14353793391729792155 : True := trivial
theorem hd.tw1439246655266547700 : True := trivial
theorem hd.tw14400467628812073631 : True := trivial
theorem hd.tw14457593812595234344 : True := trivial
theorem hd.tw14478148883734587675 : True := trivial
theorem hd.tw14560493823538711346 : True := trivial
theorem hd.tw14589601179579921912 : True := trivial
theorem hd.tw14620637471214046174 : True := trivial
theorem hd.tw14705683404202351889 : True := trivial
theorem hd.tw14727110085682223627 : True := trivial
theorem hd.tw14892549342360969540 : True := trivial
theorem hd.tw14955159897011116063 : True := trivial
theorem hd.tw14960593345356199642 : True := trivial
theorem hd.tw15042006015671813226 : True := trivial
theorem hd.tw1506431575118746342 : True := trivial
theorem hd.tw15089522573102190283 : True := trivial
theorem hd.tw15103106377680225435 : True := trivial
theorem hd.tw15166520500009309586 : True := trivial
theorem hd.tw15368132723985388332 : True := trivial
theorem hd.tw15411387601460861337 : True := trivial
theorem hd.tw15416985209724490359 : True := trivial
theorem hd.tw15527848837575444561 : True := trivial
theorem hd.tw15529170255622000948 : True := trivial
theorem hd.tw15595854959937240912 : True := trivial
theorem hd.tw15615537253650120727 : True := trivial
theorem hd.tw15616948245753086127 : True := trivial
theorem hd.tw15759970867653108152 : True := trivial
theorem hd.tw15790720579355451973 : True := trivial
theorem hd.tw1580110805410547442 : True := trivial
theorem hd.tw15833661619300960221 : True := trivial
theorem hd.tw15837987909243819085 : True := trivial
theorem hd.tw15967140613478806237 : True := trivial
theorem hd.tw1600037746751723098 : True := trivial
theorem hd.tw16007149819294483003 : True := trivial
theorem hd.tw16037735763661986305 : True := trivial
theorem hd.tw16056359734778111409 : True := trivial
theorem hd.tw16064382804478563927 : True := trivial
theorem hd.tw16091413853298234908 : True := trivial
theorem hd.tw16194383521188589630 : True := trivial
theorem hd.tw16211521421427940678 : True := trivial
theorem hd.tw16240987189780228909 : True := trivial
theorem hd.tw16259696140248634718 : True := trivial
theorem hd.tw16299908979028503884 : True := trivial
theorem hd.tw16339271979029011412 : True := trivial
theorem hd.tw16345102440705955213 : True := trivial
theorem hd.tw16412773359747925120 : True := trivial
theorem hd.tw16432713993328977331 : True := trivial
theorem hd.tw16477043939570097188 : True := trivial
theorem hd.tw16634568088961857937 : True := trivial
theorem hd.tw16722109127936396110 : True := trivial
theorem hd.tw16772102934027710169 : True := trivial
theorem hd.tw16828841361933241965 : True := trivial
theorem hd.tw16853341256802265648 : True := trivial
theorem hd.tw16868993833207775613 : True := trivial
theorem hd.tw16904818350239718627 : True := trivial
theorem hd.tw16920754564084929960 : True := trivial
theorem hd.tw16945582573551092051 : True := trivial
theorem hd.tw16970440968685349367 : True := trivial
theorem hd.tw17054507655720011243 : True := trivial
theorem hd.tw17062030032774818151 : True := trivial
theorem hd.tw17087091549796120035 : True := trivial
theorem hd.tw17177331786930743035 : True := trivial
theorem hd.tw17183224562656869120 : True := trivial
theorem hd.tw17213754286329925777 : True := trivial
theorem hd.tw17252143746492648416 : True := trivial
theorem hd.tw17258206423299326598 : True := trivial
theorem hd.tw17311223219408574766 : True := trivial
theorem hd.tw17447410573909459338 : True := trivial
theorem hd.tw17542962492245011380 : True := trivial
theorem hd.tw17574625026820762457 : True := trivial
theorem hd.tw17583777857740559676 : True := trivial
theorem hd.tw17599816209265215132 : True := trivial
theorem hd.tw1760603350576429475 : True := trivial
theorem hd.tw17606422857730326317 : True := trivial
theorem hd.tw17650839729002327288 : True := trivial
theorem hd.tw17672654358674132775 : True := trivial
theorem hd.tw17681399029576232318 : True := trivial
theorem hd.tw17711083657039698284 : True := trivial
theorem hd.tw17714235663813219645 : True := trivial
theorem hd.tw17744119286692617727 : True := trivial
theorem hd.tw17893044597097874663 : True := trivial
theorem hd.tw17901334829092211166 : True := trivial
theorem hd.tw17903497710992402801 : True := trivial
theorem hd.tw17909669534860728596 : True := trivial
theorem hd.tw17948085552500728524 : True := trivial
theorem hd.tw17950676927832955104 : True := trivial
theorem hd.tw17975533764899295144 : True := trivial
theorem hd.tw1800889605409440832 : True := trivial
theorem hd.tw18103342009636024947 : True := trivial
theorem hd.tw18166333605607142505 : True := trivial
theorem hd.tw18219297243305740317 : True := trivial
theorem hd.tw18245042118932799458 : True := trivial
theorem hd.tw18260173700876167925 : True := trivial
theorem hd.tw18264374347568628810 : True := trivial
theorem hd.tw18293732401869909652 : True := trivial
theorem hd.tw18293851220164018083 : True := trivial
theorem hd.tw18300207936620678264 : True := trivial
theorem hd.tw18302498484699191785 : True := trivial
theorem hd.tw18322514126500204803 : True := trivial
theorem hd.tw18343703819029505601 : True := trivial
theorem hd.tw1836080755315867724 : True := trivial
theorem hd.tw1865391376527767206 : True := trivial
theorem hd.tw189712035060473897 : True := trivial
theorem hd.tw1997569388931296116 : True := trivial
theorem hd.tw2068664650715991707 : True := trivial
theorem hd.tw2101469004524951375 : True := trivial
theorem hd.tw2114630138375439770 : True := trivial
theorem hd.tw2167537188350426706 : True := trivial
theorem hd.tw2195365466389143174 : True := trivial
theorem hd.tw2216850387143573719 : True := trivial
theorem hd.tw22551697357593593 : True := trivial
theorem hd.tw2274498078352570744 : True := trivial
theorem hd.tw2287590429203783052 : True := trivial
theorem hd.tw2327210489368252092 : True := trivial
theorem hd.tw2386827423013361158 : True := trivial
theorem hd.tw2391449824757734642 : True := trivial
theorem hd.tw2442259710966052079 : True := trivial
theorem hd.tw2603259988358896889 : True := trivial
theorem hd.tw2608437505485318709 : True := trivial
theorem hd.tw26425463804135960 : True := trivial
theorem hd.tw2708950531961675432 : True := trivial
theorem hd.tw2802487479954581227 : True := trivial
theorem hd.tw2867327485932766208 : True := trivial
theorem hd.tw2887051446865420828 : True := trivial
theorem hd.tw2930668341846507884 : True := trivial
theorem hd.tw307737655149646647 : True := trivial
theorem hd.tw3109861748172591687 : True := trivial
theorem hd.tw3182187488490625086 : True := trivial
theorem hd.tw3219085151875037572 : True := trivial
theorem hd.tw3229955645248102723 : True := trivial
theorem hd.tw3259873300814134281 : True := trivial
theorem hd.tw3350844169311001129 : True := trivial
theorem hd.tw3381375190539634487 : True := trivial
theorem hd.tw3451239065008710300 : True := trivial
theorem hd.tw3452082135128663414 : True := trivial
theorem hd.tw3493717111155160527 : True := trivial
theorem hd.tw3513179230801503054 : True := trivial
theorem hd.tw3530705653197291679 : True := trivial
theorem hd.tw3571134770919094901 : True := trivial
theorem hd.tw3646829019195819677 : True := trivial
theorem hd.tw3673089383077640791 : True := trivial
theorem hd.tw3759623122121258479 : True := trivial
theorem hd.tw3789350110615891812 : True := trivial
theorem hd.tw3828038474966422129 : True := trivial
theorem hd.tw3915529967508079626 : True := trivial
theorem hd.tw3919010098100093602 : True := trivial
theorem hd.tw395138700845864316 : True := trivial
theorem hd.tw4014540891139286612 : True := trivial
theorem hd.tw4015398097383911347 : True := trivial
theorem hd.tw402640490398009360 : True := trivial
theorem hd.tw4065347644161347641 : True := trivial
theorem hd.tw4086058157674990017 : True := trivial
theorem hd.tw4100683295437478502 : True := trivial
theorem hd.tw4115565904173853331 : True := trivial
theorem hd.tw4172343393113369950 : True := trivial
theorem hd.tw4225703048834024713 : True := trivial
theorem hd.tw4272726840584523970 : True := trivial
theorem hd.tw4297731678662094536 : True := trivial
theorem hd.tw4315991029959535628 : True := trivial
theorem hd.tw4360684699965382250 : True := trivial
theorem hd.tw4402725079659364252 : True := trivial
theorem hd.tw4478166936697009375 : True := trivial
theorem hd.tw4478964076566166474 : True := trivial
theorem hd.tw4494801613693538912 : True := trivial
theorem hd.tw4513884756475024261 : True := trivial
theorem hd.tw461538923250603899 : True := trivial
theorem hd.tw464777395874653626 : True := trivial
theorem hd.tw4702841417184801058 : True := trivial
theorem hd.tw4706079058837389440 : True := trivial
theorem hd.tw4851647983119433812 : True := trivial
theorem hd.tw4856431653887292112 : True := trivial
theorem hd.tw4971549296188076032 : True := trivial
theorem hd.tw4993660671451451078 : True := trivial
theorem hd.tw5036846961687405229 : True := trivial
theorem hd.tw5130813555471234732 : True := trivial
theorem hd.tw5148922909946612681 : True := trivial
theorem hd.tw5174551420813472067 : True := trivial
theorem hd.tw5190246844813560578 : True := trivial
theorem hd.tw5278057926702712004 : True := trivial
theorem hd.tw5343241284826551009 : True := trivial
theorem hd.tw5363564295841288755 : True := trivial
theorem hd.tw5373601922739893978 : True := trivial
theorem hd.tw5511420028821071320 : True := trivial
theorem hd.tw5567388512258382067 : True := trivial
theorem hd.tw5608270528595127837 : True := trivial
theorem hd.tw5657824000916062451 : True := trivial
theorem hd.tw5732804406350252772 : True := trivial
theorem hd.tw5781342201191254626 : True := trivial
theorem hd.tw5902613922787404954 : True := trivial
theorem hd.tw5961118342813265553 : True := trivial
theorem hd.tw5978321128707920903 : True := trivial
theorem hd.tw5987830557187376847 : True := trivial
theorem hd.tw6019021122589006684 : True := trivial
theorem hd.tw6054887891708285561 : True := trivial
theorem hd.tw6060742912462422084 : True := trivial
theorem hd.tw6082411064634330575 : True := trivial
theorem hd.tw6123773746684550334 : True := trivial
theorem hd.tw6164396464334811476 : True := trivial
theorem hd.tw6196171512934965099 : True := trivial
theorem hd.tw6264232113106981867 : True := trivial
theorem hd.tw6276725880618359904 : True := trivial
theorem hd.tw6291416237084387574 : True := trivial
theorem hd.tw6293948785866598258 : True := trivial
theorem hd.tw6305734824756694309 : True := trivial
theorem hd.tw6394381022753523788 : True := trivial
theorem hd.tw6407587892757256292 : True := trivial
theorem hd.tw6411954120941647267 : True := trivial
theorem hd.tw6442067068224118133 : True := trivial
theorem hd.tw6528754448969337418 : True := trivial
theorem hd.tw6545403380812914513 : True := trivial
theorem hd.tw6555240042291301478 : True := trivial
theorem hd.tw6767318904944593275 : True := trivial
theorem hd.tw6785817131721698500 : True := trivial
theorem hd.tw6819123309680001836 : True := trivial
theorem hd.tw6820862383352777685 : True := trivial
theorem hd.tw6830512106363814048 : True := trivial
theorem hd.tw6838551448383532254 : True := trivial
theorem hd.tw6982297934935202809 : True := trivial
theorem hd.tw701787995468756871 : True := trivial
theorem hd.tw7023726343779634624 : True := trivial
theorem hd.tw7028611270464810887 : True := trivial
theorem hd.tw7068711184596962023 : True := trivial
theorem hd.tw7120233287515763914 : True := trivial
theorem hd.tw728884934406724761 : True := trivial
theorem hd.tw7289634563603522867 : True := trivial
theorem hd.tw7296583596125217682 : True := trivial
theorem hd.tw7355570028127101125 : True := trivial
theorem hd.tw7366208706002141716 : True := trivial
theorem hd.tw7519716089354478335 : True := trivial
theorem hd.tw7540655947842036084 : True := trivial
theorem hd.tw758273949599710562 : True := trivial
theorem hd.tw7679216977031593725 : True := trivial
theorem hd.tw7751791981175770698 : True := trivial
theorem hd.tw7752216883906862206 : True := trivial
theorem hd.tw7752767780024739350 : True := trivial
theorem hd.tw7754304195085646258 : True := trivial
theorem hd.tw7914949630228597729 : True := trivial
theorem hd.tw8025032847418708242 : True := trivial
theorem hd.tw8047900516022102942 : True := trivial
theorem hd.tw8112040973832200146 : True := trivial
theorem hd.tw8117029840178788049 : True := trivial
theorem hd.tw8226494294326810461 : True := trivial
theorem hd.tw8228950375871286339 : True := trivial
theorem hd.tw8343274005884668182 : True := trivial
theorem hd.tw8457440626546761165 : True := trivial
theorem hd.tw8458067239894703972 : True := trivial
theorem hd.tw850559431314050405 : True := trivial
theorem hd.tw8545014587354053640 : True := trivial
theorem hd.tw8671608845466749128 : True := trivial
theorem hd.tw8716120427605611371 : True := trivial
theorem hd.tw8727321023445011275 : True := trivial
theorem hd.tw8735263284916673568 : True := trivial
theorem hd.tw8959176491354863721 : True := trivial
theorem hd.tw8960069828448710407 : True := trivial
theorem hd.tw8977307856219701671 : True := trivial
theorem hd.tw8990313861142287110 : True := trivial
theorem hd.tw9014375795449043846 : True := trivial
theorem hd.tw9170477692918782315 : True := trivial
theorem hd.tw922143313871775805 : True := trivial
theorem hd.tw9277588360372424766 : True := trivial
theorem hd.tw9345676750909349944 : True := trivial
theorem hd.tw9345929723534960622 : True := trivial
theorem hd.tw9386895884608548742 : True := trivial
theorem hd.tw9421340871869096474 : True := trivial
theorem hd.tw9427301549700849589 : True := trivial
theorem hd.tw9430268157657104642 : True := trivial
theorem hd.tw9499510787657705874 : True := trivial
theorem hd.tw9557236495431379559 : True := trivial
theorem hd.tw9566141503761928105 : True := trivial
theorem hd.tw9641152695372364146 : True := trivial
theorem hd.tw9657781627882305391 : True := trivial
theorem hd.tw9673543361469618366 : True := trivial
theorem hd.tw9719896912496429819 : True := trivial
theorem hd.tw9741134391959003819 : True := trivial
theorem hd.tw9748044761591592747 : True := trivial
theorem hd.tw9783614193127449063 : True := trivial
theorem hd.tw978945382295711627 : True := trivial
theorem hd.tw991583007596301734 : True := trivial
theorem hd.tw9960721518486171458 : True := trivial
set_option maxHeartbeats 40000000 in
set_option Elab.async true in
theorem hd : PySem.Challenge.rw_sz0079_01.Holds := by
  w_on
  o_law
  k_head
  (case hw => w_witness2)
  show WalkO hdA.view_1 _ (XL hdA.view_1 _) (Hook.says (kHook hdA.heap_1 _ _)) _ _ _ _
  w_on
  k_go0
  all_goals try k_fold
  k_with_none
  k_with "subscriptTail List" => ((k_dflt (refine kba_turn (value' := PySem.Expr.Name (PySem.Str.ofString "_") ⟨0, 0, 0, 0⟩) (fun _ => rfl) ?_)); (k_dflt (refine kmk_slice (by k_asm) (by k_asm) (by kmk_list) (by kmk_part) (by kmk_part) ?_ (by with_unfolding_all rfl) (by kmk_pure) (by kmk_size))); intro D' h' F' N' l1; (try k_lt l1); (try k_sweep))
  k_with "binaryOp Add ref ref" => ((k_dflt (refine cells_add (by k_asm) (by k_asm) (by k_mem) (by k_mem) (by assumption) (by simp only [List.length_map]) take3 ?_)); intro X Y Z tx ty tz D' h' F' N' l1; (have hX := n0_lt X); (have hZ := p0_hi Z); (have hsr := r0_sm Y); (have hr := r0_lo Y); (have hr2 := r0_hi Y); (try k_lt l1); (try k_sweep))
  k_with "binaryOp Pow int int" => ((k_dflt (refine pow52 ?_)); intro t0 k0; (try dsimp only); (try k_sweep); (try k_fold))
  k_with "exec While BoolOp" => (((rename Fr _ _ _ _ => lF'); simp only [gd0, gd1, gd2, n0_int, r0_int, str_nat, t_nil] at lF'; (k_dflt (refine law_while (r0_lo Y) (r0_hi Y) (Nat.lt_trans (n0_lt X) (by decide)) lF' (by k_asm) (by exact rfl) (by exact rfl) ?kt ?kg (by passes_own))); (case' kt => (intro a ta ds tb h tk ha hw hl hdd F' N'; clear lF'; (try k_sweep); (try k_fold))); (case' kg => (intro a ta tb h' tk' F' N'; clear lF'; (try k_sweep); (try k_fold)))))
  k_with "subscriptTail Constant" => (refine t_item lit_figs (w_pos (by assumption)) (w_item hr hr2 (by assumption)) (w_lt hr hr2 (by assumption)) ?_; intro _ _)
  k_with "subscriptTail Constant BinOp str int" => (refine t_item lit_figs (w_pos (by assumption)) (w_item hr hr2 (by assumption)) (w_lt hr hr2 (by assumption)) ?_; intro _ _)
  k_with "Or" => first | exact Or.inl (by assumption) | exact Or.inr (by assumption)
  k_with "LEnd" => (exact l_end (by assumption) (by assumption) (fun p hp => List.Mem.tail _ hp) rfl)
  k_with "LOut" => (exact ⟨by assumption, by assumption, _, _, rfl, by assumption, by assumption⟩)
  k_with "LTurn" => (exact l_turn (by assumption) (by assumption) rfl)
  k_with "pyIter ref" => ((with_reducible show wpAny _ _ (pyIter (Value.ref _)) (fun it s₂ => LoopAtV _ _ _ _ _ _ _ _ _ it s₂) _ _); (rename IsRange _ _ _ _ _ _ _ _ => rgX); ((k_dflt (refine law_for (r := R0 Y) (n₀ := N0 X) (N := (1 + Z.fmod 4).toNat) (p0_hi Z) (by rfl) rgX (p0_int Z) (by k_asm) (by k_asm) (by exact rfl) (by exact rfl) (by exact rfl) (by decide) (by decide) (by decide) ?ft ?fg)); (case' ft => (intro k t t1 t2 t3 h tk own hk hoff F' N'; (have hl0 : ([45] : List Nat).length + (rep (R0 Y) (N0 X + k)).length ≤ 100000 := rep_room hr (by omega)); (have hl1 : ([45] : List Nat).length + (rep (R0 Y) (N0 X + k + 1)).length ≤ 100000 := rep_room hr (by omega)); (have hl2 : ([45] : List Nat).length + (rep 10 (N0 X + k + 1)).length ≤ 100000 := rep_room (by decide) (by omega)); (try k_sweep); (try k_fold))); (case' fg => (intro u t1 t2 t3 h tk F' N'; (try k_sweep); (try k_fold)))))
  k_with "call ref" => ((k_dflt (refine Cl.on (l_show rfl (by omega) _ _) (by walk_at "MINE sides") ?_)); walk_at "MINE on")
  k_with "call ref" => ((k_dflt (refine Cl.on (l_show_neg (by omega) rfl (by omega) _ _) (by walk_at "MINE sides") ?_)); walk_at "MINE on")
  k_with "call ref" => ((k_dflt (refine Cl.on (l_radix (r := 10) rfl (by omega) (by decide) (by decide) rfl _ _ _) (by walk_at "MINE sides") ?_)); walk_at "MINE on")
  k_with "call ref" => ((k_dflt (refine Cl.on (l_radix (r := R0 Y) rfl (by omega) hr hr2 rfl _ _ _) (by walk_at "MINE sides") ?_)); walk_at "MINE on")
  k_with "call ref" => ((k_dflt (refine Cl.on (l_radix_neg (r := R0 Y) (by omega) rfl (by omega) hr hr2 rfl _ _ _) (by walk_at "MINE sides") ?_)); walk_at "MINE on")
  k_with "call ref" => ((k_dflt (refine Cl.on (c_to_number (by omega) _ _) (by walk_at "MINE sides") ?_)); walk_at "MINE on")
  k_with "call ref" => ((k_dflt (refine Cl.on (l_parse (r := R0 Y) (by omega) hr hr2 rfl _ _ _) (by walk_at "MINE sides") ?_)); walk_at "MINE on")
  k_with "call ref" => ((k_dflt (refine Cl.on (l_parse_neg (r := R0 Y) (by omega) hr hr2 rfl _ _ _) (by walk_at "MINE sides") ?_)); walk_at "MINE on")
  k_with "call ref" => ((k_dflt (refine Cl.on (l_neg rfl (by omega) _ _) (by walk_at "MINE sides") ?_)); walk_at "MINE on")
  k_with "call ref" => ((k_dflt (refine Cl.on (l_add rfl (by omega) _ _ _) (by walk_at "MINE sides") ?_)); walk_at "MINE on")
  k_with "call ref" => ((k_dflt (refine Cl.on (l_next (r := 10) (by omega) (by decide) (by decide) rfl _ _ _) (by walk_at "MINE sides") ?_)); walk_at "MINE on")
  k_with "call ref" => ((k_dflt (refine Cl.on (l_next (r := R0 Y) (by omega) hr hr2 rfl _ _ _) (by walk_at "MINE sides") ?_)); walk_at "MINE on")
  k_with "compareOp NotEq int int" => (k_dflt (refine ne_F rfl ?_))
  k_with "compareOp Eq str str" => (k_dflt (first | (refine t_eqT (codes_T _) (codes_T _) rfl ?_) | (refine eq_nil (codes_T _) lit_nil ?_)))
  k_with "call ref" => (k_dflt (refine Cl.on (c_from_fmod X _ _) (by walk_at "MINE sides") ?_); walk_at "MINE on")
  repeat' (first | (k_unfold; (try dsimp only)) | (k_end; wrow_close) | (walk1) | (dsimp only; walk1) | (leave1; walk_say "STEP leave1"; try dsimp only) | fail "no step")
end
end Mine
end
theorem PySem.Challenge.cw_sz0079_01_holds : PySem.Challenge.rw_sz0079_01.Holds := by
  exact Mine.hd
