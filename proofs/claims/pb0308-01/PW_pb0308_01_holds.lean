import PyProof.Rows.All
import Wide.All
import OpenK.AllK
import Wide.FinOn
import Lean
import PySem.Challenge.RW_pb0308_01
open PySem PySem.W PyProof.Rows
set_option Elab.async false
namespace Mine
set_option maxRecDepth 100000 in
set_option maxHeartbeats 8000000 in
open_top hd for PySem.Challenge.rw_pb0308_01
end Mine
open PySem PySem.W PyProof.Rows PySem.Calls
set_option Elab.async false
set_option maxRecDepth 100000
set_option maxHeartbeats 8000000
set_option rowWalk.seconds 0
set_option linter.unusedVariables false
set_option linter.unusedSimpArgs false
namespace Mine
/-! plain laws -/
theorem pow_add_nat (a b : Nat) : (2:Int) ^ (a + b) = 2 ^ a * 2 ^ b := Int.pow_add 2 a b
theorem pow32 (a : Int) (h : 0 ≤ a) : (2:Int) ^ (32 + a).toNat = 4294967296 * 2 ^ a.toNat := by
  have : (32 + a).toNat = 32 + a.toNat := by omega
  rw [this, pow_add_nat]; rfl
theorem pow31 (a : Int) (h : 0 ≤ a) : (2:Int) ^ (31 + a).toNat = 2147483648 * 2 ^ a.toNat := by
  have : (31 + a).toNat = 31 + a.toNat := by omega
  rw [this, pow_add_nat]; rfl
theorem pow_pos2 (k : Nat) : (1:Int) ≤ 2 ^ k := by have := kbt_pos k; omega

/-- the test of the loop fails at shift a -/
def Fails (d a : Int) : Prop := ¬ (((2 ^ (32 + a).toNat + d - 1) / d * d - 2 ^ (32 + a).toNat) * 2147483648 ≤ 2 ^ (32 + a).toNat)
def MagInv (d a : Int) : Prop := 0 ≤ a ∧ a ≤ 30 ∧ (a = 0 ∨ Fails d (a - 1))
theorem maginv_start (d : Int) : MagInv d 0 := ⟨by decide, by decide, .inl rfl⟩
theorem maginv_turn {d a P : Int} (hd1 : 2 ≤ d) (hd2 : d < 2147483648) (h : MagInv d a) (hP : P = 2 ^ (32 + a).toNat) (hf : ¬ ((P + d - 1) / d * d - P) * 2147483648 ≤ P) : MagInv d (a + 1) ∧ a < 30 := by
  obtain ⟨h0, h1, _⟩ := h
  have hlt : a < 30 := by
    by_cases h30 : a = 30
    · exfalso
      apply hf
      have hle : (P + d - 1) / d * d ≤ P + d - 1 := Int.ediv_mul_le _ (by omega)
      have hP' : P = 4611686018427387904 := by rw [hP, h30]; decide
      omega
    · omega
  refine ⟨⟨by omega, by omega, .inr ?_⟩, hlt⟩
  unfold Fails
  have : a + 1 - 1 = a := by omega
  rw [this, ← hP]
  exact hf

/-- what magic_of hands back -/
def MagicOk (d m : Int) (adds : Bool) (s : Int) : Prop :=
  ∃ M : Int, 0 ≤ s ∧ s ≤ 30 ∧ M = (2 ^ (32 + s).toNat + d - 1) / d ∧ 2 ^ (32 + s).toNat ≤ M * d ∧ (M * d - 2 ^ (32 + s).toNat) * 2147483648 ≤ 2 ^ (32 + s).toNat ∧ 0 < M ∧ M < 4294967296 ∧ adds = decide (2147483648 ≤ M)
    ∧ m = (if 2147483648 ≤ M then M - 2 * 2147483648 else M) ∧ (s = 0 ∨ Fails d (s - 1))
theorem ceil_ge {P d : Int} (hd : 0 < d) : P ≤ (P + d - 1) / d * d := by
  have h1 := Int.emod_lt_of_pos (P + d - 1) hd
  have h2 := Int.emod_def (P + d - 1) d
  rw [Int.mul_comm]
  omega
theorem magic_ok {d a P M : Int} (hd1 : 2 ≤ d) (hd2 : d < 2147483648) (h : MagInv d a) (hP : P = 2 ^ (32 + a).toNat) (hM : M = (P + d - 1) / d) (ht : (M * d - P) * 2147483648 ≤ P) :
    MagicOk d (if 2147483648 ≤ M then M - 2 * 2147483648 else M) (decide (2147483648 ≤ M)) a := by
  obtain ⟨h0, h1, h2⟩ := h
  have hpos : 1 ≤ P := by rw [hP]; exact pow_pos2 _
  have hge : P ≤ M * d := by rw [hM]; exact ceil_ge (by omega)
  have hle : M * d ≤ P + d - 1 := by rw [hM]; exact Int.ediv_mul_le _ (by omega)
  have hMp : 0 < M := by
    by_cases hm : 0 < M
    · exact hm
    · exfalso
      have : M * d ≤ 0 := Int.mul_nonpos_of_nonpos_of_nonneg (by omega) (by omega)
      omega
  have hP32 : P = 4294967296 * 2 ^ a.toNat := by rw [hP]; exact pow32 a h0
  have hMlt : M < 4294967296 := by
    by_cases hm : M < 4294967296
    · exact hm
    · exfalso
      have hmd : 4294967296 * d ≤ M * d := Int.mul_le_mul_of_nonneg_right (by omega) (by omega)
      rcases h2 with h2 | h2
      · subst h2
        have : P = 4294967296 := by rw [hP]; decide
        omega
      · unfold Fails at h2
        have e : (32 + (a - 1)) = 31 + a := by omega
        rw [e, pow31 a h0] at h2
        have hle' := Int.ediv_mul_le (2147483648 * 2 ^ a.toNat + d - 1) (show d ≠ 0 by omega)
        generalize (2147483648 * 2 ^ a.toNat + d - 1) / d * d = X at *
        generalize (2:Int) ^ a.toNat = R at *
        omega
  refine ⟨M, h0, h1, by rw [hM, hP], by rw [← hP]; exact hge, by rw [← hP]; exact ht, hMp, hMlt, rfl, rfl, h2⟩

/-- the quotient by the multiplier -/
theorem magic_quot {d M P u : Int} (hd : 0 < d) (hP : 0 < P) (hge : P ≤ M * d) (ht : (M * d - P) * 2147483648 ≤ P) (hu0 : 0 ≤ u) (hu1 : u < 2147483648) : u * M / P = u / d := by
  have hq := Int.emod_def u d
  have hr0 := Int.emod_nonneg u (show d ≠ 0 by omega)
  have hr1 := Int.emod_lt_of_pos u hd
  generalize hqq : u / d = q at *
  generalize u % d = r at *
  have hud : u = d * q + r := by omega
  -- q * P ≤ u * M < (q+1) * P
  have e0 : 0 ≤ M * d - P := by omega
  have h1 : u * (M * d - P) < P := by
    have : u * (M * d - P) ≤ 2147483647 * (M * d - P) := Int.mul_le_mul_of_nonneg_right (by omega) e0
    generalize M * d - P = e at *
    omega
  have h2 : 0 ≤ u * (M * d - P) := Int.mul_nonneg hu0 e0
  have h3 : u * (M * d - P) = u * M * d - u * P := by rw [Int.mul_sub, Int.mul_assoc]
  have lo : q * P ≤ u * M := by
    have : q * P * d ≤ u * M * d := by
      have a1 : q * P * d = (d * q) * P := by
        rw [Int.mul_right_comm, Int.mul_comm q d]
      have a2 : (d * q) * P ≤ u * P := Int.mul_le_mul_of_nonneg_right (by omega) (by omega)
      omega
    exact Int.le_of_mul_le_mul_right this hd
  have hi : u * M < (q + 1) * P := by
    have : u * M * d < (q + 1) * P * d := by
      have a1 : (q + 1) * P * d = (d * q + d) * P := by
        rw [Int.mul_right_comm, Int.add_mul, Int.one_mul, Int.mul_comm q d]
      have a2 : (u + 1) * P ≤ (d * q + d) * P := Int.mul_le_mul_of_nonneg_right (by omega) (by omega)
      have a3 : (u + 1) * P = u * P + P := by rw [Int.add_mul, Int.one_mul]
      omega
    exact Int.lt_of_mul_lt_mul_right this (by omega)
  have hlo := Int.le_ediv_of_mul_le hP lo
  have hhi := Int.ediv_lt_of_lt_mul hP hi
  omega

/-- the power of two that d is, or -1 -/
def PowOf (d p : Int) : Prop := (0 ≤ p ∧ p ≤ 30 ∧ d = 2 ^ p.toNat) ∨ (p = -1 ∧ ∀ k : Nat, d ≠ 2 ^ k)
def PowInv (d a : Int) : Prop := 0 ≤ a ∧ a ≤ 31 ∧ ∀ k : Nat, (k : Int) < a → (2:Int) ^ k < d
theorem powinv_start (d : Int) : PowInv d 0 := ⟨by decide, by decide, fun k h => by omega⟩
theorem pow_le {a b : Nat} (h : a ≤ b) : (2:Int) ^ a ≤ 2 ^ b := by
  rw [← kbt_cast, ← kbt_cast]; exact_mod_cast Nat.pow_le_pow_right (by decide) h
theorem powinv_turn {d a P : Int} (hd : d < 2147483648) (h : PowInv d a) (hP : P = 2 ^ a.toNat) (hlt : P < d) : PowInv d (a + 1) ∧ a < 31 := by
  obtain ⟨h0, h1, h2⟩ := h
  have h31 : a < 31 := by
    by_cases h31 : a = 31
    · subst h31
      have : P = 2147483648 := by rw [hP]; decide
      omega
    · omega
  refine ⟨⟨by omega, by omega, fun k hk => ?_⟩, h31⟩
  by_cases hka : (k : Int) < a
  · exact h2 k hka
  · have : k = a.toNat := by omega
    rw [this, ← hP]; exact hlt
theorem powof_yes {d a P : Int} (hd : d < 2147483648) (h : PowInv d a) (he : P = d) (hP : P = 2 ^ a.toNat) : PowOf d a := by
  obtain ⟨h0, h1, h2⟩ := h
  refine .inl ⟨h0, ?_, by rw [← he, hP]⟩
  by_cases h31 : a = 31
  · subst h31
    have : P = 2147483648 := by rw [hP]; decide
    omega
  · omega
theorem powof_no {d a P P' : Int} (h : PowInv d a) (hlt : ¬ P' < d) (hP' : P' = 2 ^ a.toNat) (he : P ≠ d) (hP : P = 2 ^ a.toNat) : PowOf d (-1) := by
  obtain ⟨h0, h1, h2⟩ := h
  rw [hP'] at hlt
  refine .inr ⟨rfl, fun k hk => ?_⟩
  by_cases hka : (k : Int) < a
  · have := h2 k hka; omega
  · have : (2:Int) ^ a.toNat ≤ 2 ^ k := pow_le (by omega)
    omega

theorem bitAnd_m1all (a : Int) : Builtin.bitAnd a (-1) = a := by
  by_cases h : 0 ≤ a
  · rw [bitAnd_pn h (by decide)]
    have : (Builtin.bitNot (-1)).toNat = 0 := by decide
    rw [this, Nat.and_zero]; omega
  · rw [bitAnd_nn h (by decide)]
    have : (Builtin.bitNot (-1)).toNat = 0 := by decide
    rw [this, Nat.or_zero]
    unfold Builtin.bitNot; omega
theorem xor_m1 (a : Int) : Builtin.bitXor a (-1) = -a - 1 := by
  rw [bitXor_and, bitAnd_m1all]; omega
theorem xor_ones {a : Int} (h0 : 0 ≤ a) (h1 : a < 4294967296) : Builtin.bitXor a 4294967295 = 4294967295 - a := by
  have h := kbt_mask a 32
  have e : (2:Int) ^ 32 - 1 = 4294967295 := by decide
  have e2 : (2:Int) ^ 32 = 4294967296 := by decide
  rw [e, e2] at h
  rw [bitXor_and, h, Int.emod_eq_of_lt h0 h1]; omega
theorem or_words {a b : Int} (ha : 0 ≤ a) (hb0 : 0 ≤ b) (hb1 : b < 65536) : Builtin.bitOr (a * 65536) b = a * 65536 + b := by
  rw [bitOr_and]
  have hz : Builtin.bitAnd (a * 65536) b = 0 := by
    rw [bitAnd_pp (by omega) hb0]
    have e : (a * 65536).toNat = 2 ^ 16 * a.toNat := by omega
    rw [e]
    have hor := Nat.two_pow_add_eq_or_of_lt (i := 16) (b := b.toNat) (by omega) a.toNat
    have : 2 ^ 16 * a.toNat &&& b.toNat = 0 := by
      apply Nat.eq_of_testBit_eq
      intro i
      simp only [Nat.testBit_and, Nat.testBit_two_pow_mul, Nat.zero_testBit]
      by_cases hi : i < 16
      · simp; intro h; omega
      · have : b.toNat.testBit i = false := Nat.testBit_lt_two_pow (Nat.lt_of_lt_of_le (show b.toNat < 2 ^ 16 by omega) (Nat.pow_le_pow_right (by decide) (by omega)))
        simp [this]
    rw [this]; rfl
  rw [hz]; omega
theorem floor_down (x d : Int) (hd : 0 < d) : -((-x - 1) / d) - 1 = x / d := by have := (kbt_below x hd).1; omega

theorem div_pow (a s : Int) : a / 4294967296 / 2 ^ s.toNat = a / (4294967296 * 2 ^ s.toNat) := by
  rw [Int.ediv_ediv_of_nonneg (by decide)]
theorem MagicOk.range {d m s : Int} {ad : Bool} (h : MagicOk d m ad s) : 0 ≤ s ∧ s ≤ 30 ∧ -2147483648 ≤ m ∧ m < 2147483648 ∧ (ad = true ↔ m < 0) := by
  obtain ⟨M, h0, h1, hM, hge, ht, hp, hl, had, hm, _⟩ := h
  subst had
  rw [hm]
  by_cases hb : 2147483648 ≤ M
  · simp only [if_pos hb, decide_eq_true hb]; refine ⟨h0, h1, by omega, by omega, ?_⟩; simp; omega
  · simp only [if_neg hb, decide_eq_false hb]; refine ⟨h0, h1, by omega, by omega, ?_⟩; simp; omega
theorem MagicOk.quot {d m s u : Int} {ad : Bool} (h : MagicOk d m ad s) (hd : 0 < d) (h0 : 0 ≤ u) (h1 : u < 2147483648) : (u * m / 4294967296 + (if ad = true then u else 0)) / 2 ^ s.toNat = u / d := by
  obtain ⟨M, hs0, hs1, hM, hge, ht, hp, hl, had, hm, _⟩ := h
  have e : u * m / 4294967296 + (if ad = true then u else 0) = u * M / 4294967296 := by
    subst had
    rw [hm]
    by_cases hb : 2147483648 ≤ M
    · simp only [if_pos hb, decide_eq_true hb, if_true]
      have e2 : u * (M - 2 * 2147483648) = u * M - 4294967296 * u := by rw [Int.mul_sub]; omega
      rw [e2]; omega
    · simp only [if_neg hb, decide_eq_false hb]; simp
  rw [e, div_pow, ← pow32 s hs0]
  exact magic_quot hd (by have := pow_pos2 (32 + s).toNat; omega) hge ht h0 h1
theorem MagicOk.quot_t {d m s u : Int} (h : MagicOk d m true s) (hd : 0 < d) (h0 : 0 ≤ u) (h1 : u < 2147483648) : (u * m / 4294967296 + u) / 2 ^ s.toNat = u / d := by
  have := h.quot hd h0 h1; simpa using this
theorem MagicOk.quot_f {d m s u : Int} (h : MagicOk d m false s) (hd : 0 < d) (h0 : 0 ≤ u) (h1 : u < 2147483648) : (u * m / 4294967296) / 2 ^ s.toNat = u / d := by
  have := h.quot hd h0 h1; simpa using this
theorem PowOf.range {d p : Int} (h : PowOf d p) : p ≤ 30 ∧ -1 ≤ p ∧ (0 ≤ p ∨ d ≠ 1) := by
  rcases h with ⟨h0, h1, h2⟩ | ⟨h0, h1⟩
  · omega
  · have := h1 0
    simp at this
    omega

/-- A call of the def at `f` with `vs`: it hands back some `v` and lays `new` on the ledger, as `Ret` says. -/
abbrev Does (w : World) (p : Program) (loose : List Str) (mean : ExcName → Option Value) (mg mb : Str → Option Value) (f : Addr) (dd uu : Nat) (led : List (Addr × Obj)) (vs : List Value) (Ret : Value → List (Addr × Obj) → Prop) : Prop :=
  ∀ (dp un : Nat) (gd : Option (List Code)) (cn : Str) (cs : Scope) (a : Addr) (ccd : Value) (cl : List (Str × Addr)) (outer : List Env) (A₀ : Around) (base h₀ : Heap) (L : Addr) (m : Str → Option Value) (s : Shared) (Q E : Value → Shared → Prop),
    Below A₀ base outer h₀ → Fr h₀ L s.heap m → (hd.heap_39 w.params).In h₀ → News h₀ L s.heap led → Top p loose mean mg mb h₀ → cs.kind = .function →
    dp + dd < recursionLimit → un + uu < cLine →
    (∀ (v : Value) (new : List (Addr × Obj)) (h' : Heap) (tk' : Nat), Ret v new → Fr h₀ L h' m → News h₀ L h' (new ++ led) → (∀ p ∈ new, AllLt p.1 led) → Q v { s with heap := h', toks := tk' }) →
      wpAny (model PySem.Challenge.rw_pb0308_01.row.prog w) (ktrTop dp un gd cn cs L a ccd cl outer) (call (.ref f) vs) Q E s

theorem natAbs_lt {a : Int} (h1 : -18446744073709551616 < a) (h2 : a < 18446744073709551616) : a.natAbs < 2 ^ 64 := by
  have : (2:Nat)^64 = 18446744073709551616 := by decide
  omega
theorem noPy {x y : Int} (h1 : -18446744073709551616 < y) (h2 : y < 18446744073709551616) : Builtin.divisionGoesByPylong x y = false := by
  refine PyProof.noPylong_of_log2 ?_
  by_cases h0 : y.natAbs = 0
  · rw [h0]; decide +kernel
  · have := (Nat.log2_lt h0).mpr (natAbs_lt h1 h2)
    omega
section
variable {prog : Program} {w : World} {A : Around} {E : Value → Shared → Prop} {s : Shared} {Q : Value → Shared → Prop} {a b n : Int} {t u : Tok}
theorem my_floordiv (hb : 0 < b) (h2 : b < 18446744073709551616) (h : Q (.int (a / b) s.toks) { s with toks := s.toks + 1 }) : wpAny (model prog w) A (binaryOp .FloorDiv (.int a t) (.int b u)) Q E s := by
  refine floordiv_int (by omega) ?_ (Or.inl (noPy (by omega) h2))
  rw [Int.fdiv_eq_ediv_of_nonneg _ (by omega)]; exact h
theorem my_mod (hb : 0 < b) (h : Q (.int (a % b) s.toks) { s with toks := s.toks + 1 }) : wpAny (model prog w) A (binaryOp .Mod (.int a t) (.int b u)) Q E s := by
  refine mod_int' (by omega) ?_
  rw [Int.fmod_eq_emod_of_nonneg _ (by omega)]; exact h
theorem bits_le {a : Int} (h1 : -18446744073709551616 < a) (h2 : a < 18446744073709551616) : Builtin.Int.intBits a ≤ 64 := by
  unfold Builtin.Int.intBits
  split
  · omega
  · rename_i h
    have := (Nat.log2_lt (n := a.natAbs) (k := 64) (by simpa using h)).mpr (natAbs_lt h1 h2)
    omega
theorem my_mul_r (h1 : -18446744073709551616 < b) (h2 : b < 18446744073709551616) (h : Q (.int (a * b) s.toks) { s with toks := s.toks + 1 }) : wpAny (model prog w) A (binaryOp .Mult (.int a t) (.int b u)) Q E s :=
  mul_int h (IntMulOk.of_right (bits_le h1 h2))
theorem my_mul_l (h1 : -18446744073709551616 < a) (h2 : a < 18446744073709551616) (h : Q (.int (a * b) s.toks) { s with toks := s.toks + 1 }) : wpAny (model prog w) A (binaryOp .Mult (.int a t) (.int b u)) Q E s :=
  mul_int h (IntMulOk.of_left (bits_le h1 h2))
theorem my_shl1 (hn : 0 ≤ n) (hn2 : n ≤ 62) (h : ∀ P : Int, P = 2 ^ n.toNat → 1 ≤ P → P ≤ 4611686018427387904 → Q (.int P s.toks) { s with toks := s.toks + 1 }) : wpAny (model prog w) A (binaryOp .LShift (.int 1 t) (.int n u)) Q E s := by
  refine lshift_int_small hn (by omega) (by decide) ?_
  rw [Int.one_mul]
  refine h _ rfl ?_ ?_
  · have := kbt_pos n.toNat; omega
  · have h1 : (2:Int) ^ n.toNat ≤ 2 ^ 62 := by
      rw [← kbt_cast, ← kbt_cast]
      exact_mod_cast Nat.pow_le_pow_right (by decide) (by omega)
    exact h1
theorem my_xor0 (h : Q (.int a s.toks) { s with toks := s.toks + 1 }) : wpAny (model prog w) A (binaryOp .BitXor (.int a t) (.int 0 u)) Q E s := by
  refine xor_int ?_
  rw [bitXor_zero]; exact h
theorem my_xorm (h : Q (.int (-a - 1) s.toks) { s with toks := s.toks + 1 }) : wpAny (model prog w) A (binaryOp .BitXor (.int a t) (.int (-1) u)) Q E s := by
  refine xor_int ?_
  rw [xor_m1]; exact h
theorem my_shr (hn : 0 ≤ n) (h : Q (.int (a / 2 ^ n.toNat) s.toks) { s with toks := s.toks + 1 }) : wpAny (model prog w) A (binaryOp .RShift (.int a t) (.int n u)) Q E s := by
  refine rshift_int hn ?_
  rw [Int.fdiv_eq_ediv_of_nonneg _ (by have := pow_pos2 n.toNat; omega)]; exact h
end
theorem Does.useP {w : World} {p : Program} {loose : List Str} {mean : ExcName → Option Value} {mg mb : Str → Option Value} {f : Addr} {dd uu : Nat} {led : List (Addr × Obj)} {vs : List Value} {Ret : Value → List (Addr × Obj) → Prop}
    {dp un : Nat} {gd : Option (List Code)} {cn : Str} {cs : Scope} {a : Addr} {ccd : Value} {cl : List (Str × Addr)} {outer : List Env} {A₀ : Around} {base h₀ : Heap} {L : Addr} {m : Str → Option Value} {s : Shared} {Q E : Value → Shared → Prop}
    (h : Below A₀ base outer h₀ ∧ Fr h₀ L s.heap m ∧ (hd.heap_39 w.params).In h₀ ∧ News h₀ L s.heap led ∧ Top p loose mean mg mb h₀ ∧ cs.kind = .function ∧ dp + dd < recursionLimit ∧ un + uu < cLine)
    (D : Does w p loose mean mg mb f dd uu led vs Ret)
    (ret : ∀ (v : Value) (new : List (Addr × Obj)) (h' : Heap) (tk' : Nat), Ret v new → Fr h₀ L h' m → News h₀ L h' (new ++ led) → (∀ p ∈ new, AllLt p.1 led) → Q v { s with heap := h', toks := tk' }) :
      wpAny (model PySem.Challenge.rw_pb0308_01.row.prog w) (ktrTop dp un gd cn cs L a ccd cl outer) (call (.ref f) vs) Q E s :=
  D _ _ _ _ _ _ _ _ _ _ _ _ _ _ _ _ _ h.1 h.2.1 h.2.2.1 h.2.2.2.1 h.2.2.2.2.1 h.2.2.2.2.2.1 h.2.2.2.2.2.2.1 h.2.2.2.2.2.2.2 ret
theorem new_lt0 {led : List (Addr × Obj)} : ∀ p ∈ ([] : List (Addr × Obj)), AllLt p.1 led := fun _ h => nomatch h
theorem new_lt1 {led : List (Addr × Obj)} {D : Addr} {o : Obj} (h : ∀ p ∈ led, p.1 < D) : ∀ p ∈ [(D, o)], AllLt p.1 led := by
  intro p hp
  rw [List.mem_singleton.mp hp]
  exact allLt_of h
theorem ret_int {h₀ h' : Heap} {L : Addr} {m : Str → Option Value} {led led' : List (Addr × Obj)} {s : Shared} {Q : Value → Shared → Prop} {x y : Int} {t : Tok} {tk' : Nat}
    (hret : ∀ (v : Value) (new : List (Addr × Obj)) (h' : Heap) (tk' : Nat), (∃ t, v = .int x t ∧ new = []) → Fr h₀ L h' m → News h₀ L h' (new ++ led) → (∀ p ∈ new, AllLt p.1 led) → Q v { s with heap := h', toks := tk' })
    (e : y = x) (F : Fr h₀ L h' m) (N : News h₀ L h' led') (hs : ∀ p ∈ led, p ∈ led') : Q (.int y t) { s with heap := h', toks := tk' } := by
  subst e
  exact hret _ [] _ _ ⟨_, rfl, rfl⟩ F (fun p hp => N p (hs p hp)) new_lt0
theorem ret_bool {h₀ h' : Heap} {L : Addr} {m : Str → Option Value} {led led' : List (Addr × Obj)} {s : Shared} {Q : Value → Shared → Prop} {x y : Bool} {tk' : Nat}
    (hret : ∀ (v : Value) (new : List (Addr × Obj)) (h' : Heap) (tk' : Nat), (v = .bool x ∧ new = []) → Fr h₀ L h' m → News h₀ L h' (new ++ led) → (∀ p ∈ new, AllLt p.1 led) → Q v { s with heap := h', toks := tk' })
    (e : y = x) (F : Fr h₀ L h' m) (N : News h₀ L h' led') (hs : ∀ p ∈ led, p ∈ led') : Q (.bool y) { s with heap := h', toks := tk' } := by
  subst e
  exact hret _ [] _ _ ⟨rfl, rfl⟩ F (fun p hp => N p (hs p hp)) new_lt0
section
variable {prog : Program} {w : World} {A : Around} {E : Value → Shared → Prop} {s : Shared} {Q : Value → Shared → Prop} {a b n : Int} {t u : Tok}
theorem pow_2_32 (h : Q (.int 4294967296 s.toks) { s with toks := s.toks + 1 }) : wpAny (model prog w) A (binaryOp .Pow (.int 2 t) (.int 32 u)) Q E s :=
  pow_int_small (by decide) (by decide) (by decide) h
theorem pow_2_31 (h : Q (.int 2147483648 s.toks) { s with toks := s.toks + 1 }) : wpAny (model prog w) A (binaryOp .Pow (.int 2 t) (.int 31 u)) Q E s :=
  pow_int_small (by decide) (by decide) (by decide) h
theorem pow_10_18 (h : Q (.int 1000000000000000000 s.toks) { s with toks := s.toks + 1 }) : wpAny (model prog w) A (binaryOp .Pow (.int 10 t) (.int 18 u)) Q E s :=
  pow_int_small (by decide) (by decide) (by decide) h
theorem pow_10_60 (h : Q (.int 1000000000000000000000000000000000000000000000000000000000000 s.toks) { s with toks := s.toks + 1 }) : wpAny (model prog w) A (binaryOp .Pow (.int 10 t) (.int 60 u)) Q E s :=
  pow_int_small (by decide) (by decide) (by decide) h
theorem my_pow2 (hn : 0 ≤ n) (hn2 : n ≤ 62) (h : ∀ P : Int, P = 2 ^ n.toNat → 1 ≤ P → P ≤ 4611686018427387904 → Q (.int P s.toks) { s with toks := s.toks + 1 }) : wpAny (model prog w) A (binaryOp .Pow (.int 2 t) (.int n u)) Q E s := by
  refine pow_int_small hn (by omega) (by decide) ?_
  refine h _ rfl ?_ ?_
  · have := kbt_pos n.toNat; omega
  · exact pow_le (b := 62) (by omega)
end

local macro_rules | `(tactic| walk_at "binaryOp FloorDiv int int") => `(tactic| (k_here; with_reducible refine my_floordiv (by omega) (by omega) ?_))
local macro_rules | `(tactic| walk_at "binaryOp Mod int int") => `(tactic| (k_here; with_reducible refine my_mod (by omega) ?_))
local macro_rules | `(tactic| walk_at "binaryOp Mult int int") => `(tactic| (k_here; with_reducible first | refine my_mul_r (by omega) (by omega) ?_ | refine my_mul_l (by omega) (by omega) ?_))
local macro_rules | `(tactic| walk_at "binaryOp LShift int int") => `(tactic| (k_here; (with_reducible refine my_shl1 (by omega) (by omega) ?_); intro P' hP1 hP2 hP3))
theorem magic_of_spec (w p loose mean mg mb) (led) (d : Int) (t : Tok) (hd1 : 2 ≤ d) (hd2 : d < 2147483648) : Does w p loose mean mg mb 21 1 8 led [.int d t] (fun v new => ∃ D m t1 ad s t2 c, v = .ref D ∧ new = [(D, ({ cls := .type "tuple", data := .seq #[.int m t1, .bool ad, .int s t2] c } : Obj))] ∧ MagicOk d m ad s) := by
  unfold Does
  k_fill
  intro dp un gd cn cs a ccd cl outer A₀ base h₀ L m s Q E B F X N T hk hdp hun hret
  refine wpAny_call ?_
  k_dflt cell_enter
  k_with_none
  w_top off
  k_with "exec While" => k_while (fun script a => MagInv d a ∧ 0 ≤ a ∧ a ≤ 30) (fun script a => (30 - a).toNat) "shift"
  k_with "state" => first | exact ⟨maginv_start d, by decide, by decide⟩ | exact ⟨(maginv_turn hd1 hd2 (by assumption) (by assumption) (by assumption)).1, by omega, by have := (maginv_turn hd1 hd2 (by assumption) (by assumption) (by assumption)).2; omega⟩
  k_with "measure" => (have := (maginv_turn hd1 hd2 (by assumption) (by assumption) (by assumption)).2; omega)
  k_steps
  · have hm := magic_ok hd1 hd2 (by assumption) (by assumption) rfl (by assumption)
    (with_reducible rename 2147483648 ≤ _ => hge)
    rw [if_pos hge, decide_eq_true hge] at hm
    exact hret _ [_] _ _ ⟨_, _, _, _, _, _, _, rfl, rfl, hm⟩ (by k_asm) (by k_asm) (new_lt1 (by assumption))
  · have hm := magic_ok hd1 hd2 (by assumption) (by assumption) rfl (by assumption)
    (with_reducible rename ¬ 2147483648 ≤ _ => hge)
    rw [if_neg hge, decide_eq_false hge] at hm
    exact hret _ [_] _ _ ⟨_, _, _, _, _, _, _, rfl, rfl, hm⟩ (by k_asm) (by k_asm) (new_lt1 (by assumption))
theorem power_of_spec (w p loose mean mg mb) (led) (d : Int) (t : Tok) (hd1 : 1 ≤ d) (hd2 : d < 2147483648) : Does w p loose mean mg mb 56 1 8 led [.int d t] (fun v new => ∃ p t, v = .int p t ∧ new = [] ∧ PowOf d p) := by
  unfold Does
  k_fill
  intro dp un gd cn cs a ccd cl outer A₀ base h₀ L m s Q E B F X N T hk hdp hun hret
  refine wpAny_call ?_
  k_dflt cell_enter
  k_with_none
  w_top off
  k_with "exec While" => k_while (fun script a => PowInv d a ∧ 0 ≤ a ∧ a ≤ 31) (fun script a => (31 - a).toNat) "power"
  k_with "state" => first | exact ⟨powinv_start d, by decide, by decide⟩ | exact ⟨(powinv_turn hd2 (by assumption) (by assumption) (by assumption)).1, by omega, by have := (powinv_turn hd2 (by assumption) (by assumption) (by assumption)).2; omega⟩
  k_with "measure" => (have := (powinv_turn hd2 (by assumption) (by assumption) (by assumption)).2; omega)
  k_steps
  · exact hret _ [] _ _ ⟨_, _, rfl, rfl, powof_yes hd2 (by assumption) (by assumption) (by assumption)⟩ (by k_asm) (by k_asm) new_lt0
  · exact hret _ [] _ _ ⟨_, _, rfl, rfl, powof_no (by assumption) (by assumption) (by assumption) (by assumption) (by assumption)⟩ (by k_asm) (by k_asm) new_lt0

local macro_rules | `(tactic| ktr_rel) => `(tactic| exact ⟨by k_asm, by k_asm, by k_asm, by k_asm, by k_asm, by first | exact rfl | assumption, by ktr_room, by ktr_units⟩)
local macro_rules | `(tactic| walk_at "binaryOp BitXor int int") => `(tactic| (k_here; first | with_reducible refine my_xor0 ?_ | with_reducible refine my_xorm ?_))
local macro_rules | `(tactic| walk_at "binaryOp RShift int int") => `(tactic| (k_here; with_reducible refine my_shr (by omega) ?_))
local macro_rules | `(tactic| walk_at "call ref") => `(tactic| (k_here; (with_reducible show wpAny _ _ (call (Value.ref 21) _) _ _ _); k_dflt (refine' Does.useP (by ktr_rel) (magic_of_spec _ _ _ _ _ _ _ _ _ (by omega) (by omega)) ?_; intro v9 new9 h9 tk9 R9 F9 N9 l9; obtain ⟨D9, m9, t9, ad9, s9, u9, c9, e9, f9, hM9⟩ := R9; subst e9; subst f9; (have hMr9 := hM9.range); (obtain ⟨hMr1, hMr2, hMr3, hMr4, hMr5⟩ := hMr9); (replace l9 := l9 _ (List.Mem.head _)); simp only [AllLt, and_true] at l9; simp only [List.cons_append, List.nil_append] at N9; (try dsimp only); (try k_fold))))

theorem high_half_spec (w p loose mean mg mb) (led) (x y : Int) (t u : Tok) (hx : -18446744073709551616 < x) (hx2 : x < 18446744073709551616) : Does w p loose mean mg mb 28 1 8 led [.int x t, .int y u] (fun v new => ∃ t, v = .int (x * y / 4294967296) t ∧ new = []) := by
  unfold Does
  k_fill
  intro dp un gd cn cs a ccd cl outer A₀ base h₀ L m s Q E B F X N T hk hdp hun hret
  refine wpAny_call ?_
  k_dflt cell_enter
  k_with_none
  w_top off
  k_steps
  exact hret _ [] _ _ ⟨_, rfl, rfl⟩ (by k_asm) (by k_asm) new_lt0

local macro_rules | `(tactic| walk_at "call ref") => `(tactic| (k_here; (with_reducible show wpAny _ _ (call (Value.ref 28) _) _ _ _); k_dflt (refine' Does.useP (by ktr_rel) (high_half_spec _ _ _ _ _ _ _ _ _ _ _ (by omega) (by omega)) ?_; intro v9 new9 h9 tk9 R9 F9 N9 l9; obtain ⟨t9, e9, f9⟩ := R9; subst e9; subst f9; clear l9; simp only [List.cons_append, List.nil_append] at N9; (try dsimp only); (try k_fold))))
theorem floor_by_magic_spec (w p loose mean mg mb) (led) (x d : Int) (t u : Tok) (hd1 : 2 ≤ d) (hd2 : d < 2147483648) (hx1 : -2147483648 ≤ x) (hx2 : x < 2147483648) : Does w p loose mean mg mb 35 2 16 led [.int x t, .int d u] (fun v new => ∃ t, v = .int (x / d) t ∧ new = []) := by
  unfold Does
  k_fill
  intro dp un gd cn cs a ccd cl outer A₀ base h₀ L m s Q E B F X N T hk hdp hun hret
  refine wpAny_call ?_
  k_dflt cell_enter
  k_with_none
  w_top off
  k_steps
  · (with_reducible rename _ = true => he); subst he; (with_reducible rename MagicOk _ _ _ _ => hM)
    exact ret_int hret (by rw [hM.quot_t (by omega) (by omega) (by omega), floor_down _ _ (by omega)]) (by k_asm) (by k_asm) (by intro p9 hp9; repeat (first | exact hp9 | refine List.Mem.tail _ ?_))
  · (with_reducible rename _ = false => he); subst he; (with_reducible rename MagicOk _ _ _ _ => hM)
    exact ret_int hret (by rw [hM.quot_f (by omega) (by omega) (by omega), floor_down _ _ (by omega)]) (by k_asm) (by k_asm) (by intro p9 hp9; repeat (first | exact hp9 | refine List.Mem.tail _ ?_))
  · (with_reducible rename _ = true => he); subst he; (with_reducible rename MagicOk _ _ _ _ => hM)
    exact ret_int hret (by rw [hM.quot_t (by omega) (by omega) (by omega)]) (by k_asm) (by k_asm) (by intro p9 hp9; repeat (first | exact hp9 | refine List.Mem.tail _ ?_))
  · (with_reducible rename _ = false => he); subst he; (with_reducible rename MagicOk _ _ _ _ => hM)
    exact ret_int hret (by rw [hM.quot_f (by omega) (by omega) (by omega)]) (by k_asm) (by k_asm) (by intro p9 hp9; repeat (first | exact hp9 | refine List.Mem.tail _ ?_))

local macro_rules | `(tactic| walk_at "call ref") => `(tactic| (k_here; (with_reducible show wpAny _ _ (call (Value.ref 35) _) _ _ _); k_dflt (refine' Does.useP (by ktr_rel) (floor_by_magic_spec _ _ _ _ _ _ _ _ _ _ _ (by omega) (by omega) (by omega) (by omega)) ?_; intro v9 new9 h9 tk9 R9 F9 N9 l9; obtain ⟨t9, e9, f9⟩ := R9; subst e9; subst f9; clear l9; simp only [List.cons_append, List.nil_append] at N9; (try dsimp only); (try k_fold))))
local macro_rules | `(tactic| walk_at "binaryOp Pow int int") => `(tactic| (k_here; first | with_reducible refine pow_2_32 ?_ | with_reducible refine pow_2_31 ?_ | with_reducible refine pow_10_18 ?_ | with_reducible refine pow_10_60 ?_ | ((with_reducible refine my_pow2 (by omega) (by omega) ?_); intro P' hP1 hP2 hP3)))
theorem rest_by_magic_spec (w p loose mean mg mb) (led) (x d : Int) (t u : Tok) (hd1 : 2 ≤ d) (hd2 : d < 2147483648) (hx1 : -2147483648 ≤ x) (hx2 : x < 2147483648) : Does w p loose mean mg mb 42 3 24 led [.int x t, .int d u] (fun v new => ∃ t, v = .int (x % d) t ∧ new = []) := by
  unfold Does
  k_fill
  intro dp un gd cn cs a ccd cl outer A₀ base h₀ L m s Q E B F X N T hk hdp hun hret
  refine wpAny_call ?_
  k_dflt cell_enter
  k_with_none
  w_top off
  k_steps
  exact ret_int hret (by rw [Int.emod_def, Int.mul_comm]) (by k_asm) (by k_asm) (by intro p9 hp9; repeat (first | exact hp9 | refine List.Mem.tail _ ?_))
def side (x : Int) : Int := if 2147483648 ≤ x then x - 4294967296 else x
theorem law_side_spec (w p loose mean mg mb) (led) (x : Int) (t : Tok) : Does w p loose mean mg mb 91 1 8 led [.int x t] (fun v new => ∃ t, v = .int (side x) t ∧ new = []) := by
  unfold Does
  k_fill
  intro dp un gd cn cs a ccd cl outer A₀ base h₀ L m s Q E B F X N T hk hdp hun hret
  refine wpAny_call ?_
  k_dflt cell_enter
  k_with_none
  w_top off
  k_steps
  · exact ret_int hret (by unfold side; rw [if_pos (by assumption)]) (by k_asm) (by k_asm) (by intro p9 hp9; repeat (first | exact hp9 | refine List.Mem.tail _ ?_))
  · exact ret_int hret (by unfold side; rw [if_neg (by assumption)]) (by k_asm) (by k_asm) (by intro p9 hp9; repeat (first | exact hp9 | refine List.Mem.tail _ ?_))
theorem law_least_spec (w p loose mean mg mb) (led) (d sh : Int) (t u : Tok) (hd1 : 2 ≤ d) (hd2 : d < 2147483648) (hs1 : 0 ≤ sh) (hs2 : sh ≤ 30) (hf : sh = 0 ∨ Fails d (sh - 1)) : Does w p loose mean mg mb 105 1 8 led [.int d t, .int sh u] (fun v new => v = .bool true ∧ new = []) := by
  unfold Does
  k_fill
  intro dp un gd cn cs a ccd cl outer A₀ base h₀ L m s Q E B F X N T hk hdp hun hret
  refine wpAny_call ?_
  k_dflt cell_enter
  k_with_none
  w_top off
  k_steps
  · exact ret_bool hret (by simp; assumption) (by k_asm) (by k_asm) (by intro p9 hp9; repeat (first | exact hp9 | refine List.Mem.tail _ ?_))
  · rcases hf with hf | hf
    · exact absurd hf (by assumption)
    · unfold Fails at hf
      have e : (32 + (sh - 1)) = 31 + sh := by omega
      (with_reducible rename _ = 2 ^ (31 + sh).toNat => hP)
      rw [e, ← hP] at hf
      exact ret_bool hret (by rw [decide_eq_true_eq]; omega) (by k_asm) (by k_asm) (by intro p9 hp9; repeat (first | exact hp9 | refine List.Mem.tail _ ?_))

/-! the machine's rows -/
set_option genInjectivity false
set_option genSizeOf false
set_option genSizeOfSpec false
structure St where
  x1 : Int
  x4 : Int
  x5 : Int
  x6 : Int
  hi : Int
inductive Row where
  | asri41 (c : Int) | asri51 | xor615 | movi4 (c : Int) | movh4 (c : Int) | iori4 (c : Int) | mul446 | geth4 | add446 | asri44 (c : Int) | xor445
  | andi41 (c : Int) | movi5 (c : Int) | movh5 (c : Int) | iori5 (c : Int) | mul445 | sub414
set_option genInjectivity true
set_option genSizeOf true
set_option genSizeOfSpec true
def rowDat (op : String) (a b c : Int) : Dat := Dat.tuple [.str (Str.ofString op), .int a, .int b, .int c]
def Row.dat : Row → Dat
  | .asri41 c => rowDat "ASRI" 4 1 c
  | .asri51 => rowDat "ASRI" 5 1 31
  | .xor615 => rowDat "XOR" 6 1 5
  | .movi4 c => rowDat "MOVI" 4 0 c
  | .movh4 c => rowDat "MOVH" 4 0 c
  | .iori4 c => rowDat "IORI" 4 4 c
  | .mul446 => rowDat "MUL" 4 4 6
  | .geth4 => rowDat "GETH" 4 0 0
  | .add446 => rowDat "ADD" 4 4 6
  | .asri44 c => rowDat "ASRI" 4 4 c
  | .xor445 => rowDat "XOR" 4 4 5
  | .andi41 c => rowDat "ANDI" 4 1 c
  | .movi5 c => rowDat "MOVI" 5 0 c
  | .movh5 c => rowDat "MOVH" 5 0 c
  | .iori5 c => rowDat "IORI" 5 5 c
  | .mul445 => rowDat "MUL" 4 4 5
  | .sub414 => rowDat "SUB" 4 1 4
def Row.exec : Row → St → St
  | .asri41 c, s => { s with x4 := side s.x1 / 2 ^ c.toNat % 4294967296 }
  | .asri51, s => { s with x5 := side s.x1 / 2147483648 % 4294967296 }
  | .xor615, s => { s with x6 := Builtin.bitXor s.x1 s.x5 }
  | .movi4 c, s => { s with x4 := c % 4294967296 }
  | .movh4 c, s => { s with x4 := c * 65536 }
  | .iori4 c, s => { s with x4 := Builtin.bitOr s.x4 c }
  | .mul446, s => { s with x4 := side s.x4 * side s.x6 % 4294967296, hi := side s.x4 * side s.x6 / 4294967296 % 4294967296 }
  | .geth4, s => { s with x4 := s.hi }
  | .add446, s => { s with x4 := (s.x4 + s.x6) % 4294967296 }
  | .asri44 c, s => { s with x4 := side s.x4 / 2 ^ c.toNat % 4294967296 }
  | .xor445, s => { s with x4 := Builtin.bitXor s.x4 s.x5 }
  | .andi41 c, s => { s with x4 := Builtin.bitAnd s.x1 (c % 4294967296) }
  | .movi5 c, s => { s with x5 := c % 4294967296 }
  | .movh5 c, s => { s with x5 := c * 65536 }
  | .iori5 c, s => { s with x5 := Builtin.bitOr s.x5 c }
  | .mul445, s => { s with x4 := side s.x4 * side s.x5 % 4294967296, hi := side s.x4 * side s.x5 / 4294967296 % 4294967296 }
  | .sub414, s => { s with x4 := (s.x1 - s.x4) % 4294967296 }
def Row.ok : Row → St → Prop
  | .asri41 c, _ => 0 ≤ c ∧ c ≤ 31
  | .asri44 c, _ => 0 ≤ c ∧ c ≤ 31
  | .mul446, s => -18446744073709551616 < side s.x6 ∧ side s.x6 < 18446744073709551616
  | .mul445, s => -18446744073709551616 < side s.x5 ∧ side s.x5 < 18446744073709551616
  | _, _ => True
def execAll : List Row → St → St
  | [], s => s
  | r :: rs, s => execAll rs (r.exec s)
def okAll : List Row → St → Prop
  | [], _ => True
  | r :: rs, s => r.ok s ∧ okAll rs (r.exec s)

section
variable (prog : Program) (w : World)
def RegsObj (o : Obj) (st : St) : Prop := ∃ t1 t4 t5 t6, o.IsDictOf (intKind prog w) [((1 : Int), Value.int st.x1 t1), (4, .int st.x4 t4), (5, .int st.x5 t5), (6, .int st.x6 t6)]
end
theorem st4 (a b c d v : Value) : stored [((1 : Int), a), (4, b), (5, c), (6, d)] 4 v = [((1 : Int), a), (4, v), (5, c), (6, d)] := rfl
theorem st5 (a b c d v : Value) : stored [((1 : Int), a), (4, b), (5, c), (6, d)] 5 v = [((1 : Int), a), (4, b), (5, v), (6, d)] := rfl
theorem st6 (a b c d v : Value) : stored [((1 : Int), a), (4, b), (5, c), (6, d)] 6 v = [((1 : Int), a), (4, b), (5, c), (6, v)] := rfl
section
variable {prog : Program} {w : World} {A : Around} {E : Value → Shared → Prop} {s : Shared} {h₀ : Heap} {L R : Addr} {m : Str → Option Value} {tl : List (Addr × Obj)} {o : Obj} {kvs : List (Int × Value)} {k : Int} {t : Tok} {v : Value}
theorem regs_get {value slice : PySem.Expr} {Q : Value → Shared → Prop} (N : News h₀ L s.heap ((R, o) :: tl)) (hd : o.IsDictOf (intKind prog w) kvs) (hv : valueAt kvs k = some v) (h : Q v { s with toks := s.toks + 1 })
    (hs : subscripted slice false (.ref R) (.int k t) = operate [.ref R, .int k t] (getItem (.ref R) (.int k t)) := by with_unfolding_all rfl) :
    wpAny (model prog w) A (subscriptTail value slice (.ref R) (.int k t)) Q E s :=
  have hD : s.heap.DictOf (intKind prog w) R kvs := Heap.dictOf_iff.mpr ⟨o, N.get (.head _), hd⟩
  tail_any hD.typeIs slot_dict_getitem.lookup (wpAny_getItem_of (intKind_is prog w k t) hD.mapOf hv h) hs
theorem regs_set {Q : Unit → Shared → Prop} (F : Fr h₀ L s.heap m) (N : News h₀ L s.heap ((R, o) :: tl)) (hne : ∀ p ∈ tl, p.1 ≠ R) (hd : o.IsDictOf (intKind prog w) kvs) (hl : kvs.length ≤ 16)
    (h : ∀ h' o', Fr h₀ L h' m → News h₀ L h' ((R, o') :: tl) → o'.IsDictOf (intKind prog w) (stored kvs k v) → Q () { s with heap := h', toks := s.toks + 1 }) :
    wpAny (model prog w) A (setItem (.ref R) (.int k t) v) Q E s := by
  refine wpAny_setItem_pairs (hsz := by rw [sizeLine_eq]; omega) (intKind_is prog w k t) (Heap.dictOf_iff.mpr ⟨o, N.get (.head _), hd⟩) fun h' hm hs => ?_
  obtain ⟨o', ho', hd'⟩ := Heap.dictOf_iff.mp hm
  exact h h' o' (F.change hs (N _ (.head _)).2.1 (N.fresh (.head _))) (N.setHead hne hs ho') hd'
end

def TurnEnd (prog : Program) (w : World) (h₀ : Heap) (L R : Addr) (tl : List (Addr × Obj)) (st : St) (s₁ : Shared) (f : Flow) (s₂ : Shared) : Prop :=
  f = .next ∧ ∃ h' tk m' o th, s₂ = { s₁ with heap := h', toks := tk } ∧ Fr h₀ L h' m' ∧ News h₀ L h' ((R, o) :: tl) ∧ RegsObj prog w o st ∧ m' (Str.ofString "regs") = some (.ref R) ∧ m' (Str.ofString "high") = some (.int st.hi th)
def regsMap (R : Addr) (hi : Int) (th : Tok) (u : Str → Option Value) : Str → Option Value := fun z => if z = Str.ofString "regs" then some (.ref R) else if z = Str.ofString "high" then some (.int hi th) else u z
theorem regsMap_eq {R : Addr} {hi : Int} {th : Tok} {u : Str → Option Value} (h1 : u (Str.ofString "regs") = some (.ref R)) (h2 : u (Str.ofString "high") = some (.int hi th)) : regsMap R hi th u = u := by
  funext z
  unfold regsMap
  by_cases e1 : z = Str.ofString "regs"
  · rw [if_pos e1, e1, h1]
  · rw [if_neg e1]
    by_cases e2 : z = Str.ofString "high"
    · rw [if_pos e2, e2, h2]
    · rw [if_neg e2]
theorem DatAll.at {news : List (Addr × Obj)} {vs : List Value} : ∀ {rows : List Row}, DatAll news vs (rows.map Row.dat) → ∀ {i : Nat} {v : Value}, vs[i]? = some v → ∃ r, rows[i]? = some r ∧ DatIn news v r.dat := by
  intro rows h i v hv
  have hl : vs.length = rows.length := by rw [h.length, List.length_map]
  have hi : i < rows.length := by rw [← hl]; exact (List.getElem?_eq_some_iff.mp hv).1
  obtain ⟨v', hv', hD⟩ := DatAll.get h (k := i) (by rw [List.length_map]; exact hi)
  rw [hv] at hv'
  cases hv'
  refine ⟨rows[i], List.getElem?_eq_getElem hi, ?_⟩
  simpa using hD
theorem execAll_append (a b : List Row) (st : St) : execAll (a ++ b) st = execAll b (execAll a st) := by
  induction a generalizing st with
  | nil => rfl
  | cons r a ih => exact ih _
theorem okAll_append {a b : List Row} {st : St} : okAll (a ++ b) st ↔ okAll a st ∧ okAll b (execAll a st) := by
  induction a generalizing st with
  | nil => simp [okAll, execAll]
  | cons r a ih => simp only [List.cons_append, okAll, execAll, ih, and_assoc]
theorem okAll_at {rows : List Row} {st : St} {i : Nat} {r : Row} (h : okAll rows st) (hr : rows[i]? = some r) : r.ok (execAll (rows.take i) st) := by
  induction rows generalizing st i with
  | nil => simp at hr
  | cons a rows ih =>
    cases i with
    | zero => simp at hr; subst hr; exact h.1
    | succ i => simp at hr; exact ih h.2 hr
theorem execAll_take {rows : List Row} {st : St} {i : Nat} {r : Row} (hr : rows[i]? = some r) : execAll (rows.take (i + 1)) st = r.exec (execAll (rows.take i) st) := by
  rw [List.take_add_one, hr, execAll_append]; rfl

section
variable {prog : Program} {w : World} {A : Around} {E : Value → Shared → Prop} {s : Shared} {env : Env} {h₀ : Heap} {target : PySem.Expr} {body : List Stmt} {Q : Flow → Shared → Prop}
theorem rows_loop {r R : Addr} {vs : List Value} {n : Nat} {rows : List Row} {led : List (Addr × Obj)} {o : Obj} {m : Str → Option Value} {st : St} {th : Tok}
    (hh : A.handled = none) (hl : (r, listOf vs.toArray n) ∈ led) (hd : DatAll led vs (rows.map Row.dat)) (hne : ∀ p ∈ led, p.1 ≠ R) (F : Fr h₀ env.locals s.heap m) (N : News h₀ env.locals s.heap ((R, o) :: led))
    (ho : RegsObj prog w o st) (h1 : m (Str.ofString "regs") = some (.ref R)) (h2 : m (Str.ofString "high") = some (.int st.hi th)) (hok : okAll rows st)
    (turn : ∀ (row : Row) (st : St) v (u : Str → Option Value) th (s₁ : Shared) tl o, row.ok st → DatIn tl v row.dat → (∀ p ∈ tl, p.1 ≠ R) → RegsObj prog w o st → Fr h₀ env.locals s₁.heap (regsMap R st.hi th u) → News h₀ env.locals s₁.heap ((R, o) :: tl) →
      wpAny (model prog w) A (assign target env v) (fun _ s₃ => wpAny (model prog w) A (execs body env) (TurnEnd prog w h₀ env.locals R tl (row.exec st) s₁) E s₃) E s₁)
    (done : ∀ (u : Str → Option Value) th h tk o, RegsObj prog w o (execAll rows st) → Fr h₀ env.locals h (regsMap R (execAll rows st).hi th u) → News h₀ env.locals h ((R, o) :: led) → Q .next { s with heap := h, toks := tk }) :
    wpAny (model prog w) A (pyIter (.ref r)) (fun it s₂ => LoopAtT prog w A h₀ env target body Q E it s₂) E s := by
  have hmem : (r, listOf vs.toArray n) ∈ (R, o) :: led := .tail _ hl
  have hor : s.heap.get? r = some (listOf vs.toArray n) := (N _ hmem).1
  have hls : s.heap.IsList r vs.toArray := ⟨_, hor, rfl, n, rfl⟩
  have hne' : r ≠ s.heap.objs.size := Nat.ne_of_lt (Heap.lt_size hor)
  have hrR : r ≠ R := hne _ hl
  refine wpAny_pyIter_list hls ?_
  have W := Walks.list (prog := prog) (w := w) hh s.heap.objs.size r hne' vs.toArray
  have hlen : vs.toArray.size = rows.length := by simp [hd.length]
  rw [hlen] at W
  refine ⟨_, _, _, rows.length, _, _, m, (R, o) :: led, (fun i m₁ nx => ∃ o₁ th₁, nx = (R, o₁) :: led ∧ RegsObj prog w o₁ (execAll (rows.take i) st) ∧ m₁ (Str.ofString "regs") = some (.ref R) ∧ m₁ (Str.ofString "high") = some (.int (execAll (rows.take i) st).hi th₁)), rfl, W, ?_, ?_, ?_,
    ⟨⟨_, Heap.get?_push_size _ rfl, rfl, rfl⟩, hls.at fun o e => Heap.get?_push_of_some _ e⟩, F.push _, (fun p hp => ⟨Heap.get?_push_of_some _ (N p hp).1, (N p hp).2⟩), (fun i s' v Q' st hQ' => letGo_listiter st.1 hQ'), ⟨o, th, rfl, ho, h1, h2⟩, ?_, ?_⟩
  · intro hm
    rcases List.mem_cons.mp hm with e | hm
    · exact absurd F.ns.lt (e ▸ Nat.lt_irrefl _)
    · exact (N _ hmem).2.1 ((List.mem_singleton.mp hm).symm)
  · intro b hb
    rw [List.mem_singleton.mp hb]
    exact next_is_new F
  · intro p hp hI
    exact absurd (Heap.lt_size (N p hp).1) ((List.mem_singleton.mp hI) ▸ Nat.lt_irrefl _)
  · rintro i v m₁ nx s₁ own hin hP ⟨o₁, th₁, rfl, ho₁, hm1, hm2⟩ hoff hown hget hfp hst F₁ N₁
    have hP' : vs[i]? = some v := by simpa using hP
    obtain ⟨row, hrow, hdat⟩ := DatAll.at hd hP'
    have hRI : ∀ p ∈ own, p.1 ≠ R := by
      intro p hp e
      rcases List.mem_cons.mp (hown p hp) with h3 | h3
      · exact hoff (R, o₁) (.head _) (List.mem_singleton.mpr (e ▸ h3))
      · exact hrR ((List.mem_singleton.mp h3).symm.trans e)
    have F₂ : Fr h₀ env.locals s₁.heap (regsMap R (execAll (rows.take i) st).hi th₁ m₁) := by rw [regsMap_eq hm1 hm2]; exact F₁
    have N₂ : News h₀ env.locals s₁.heap ((R, o₁) :: (own ++ led)) := fun p hp => N₁ p (by
      rcases List.mem_cons.mp hp with rfl | hp
      · exact List.mem_append.mpr (.inr (.head _))
      · rcases List.mem_append.mp hp with hp | hp
        · exact List.mem_append.mpr (.inl hp)
        · exact List.mem_append.mpr (.inr (.tail _ hp)))
    refine wpAny_mono (turn row _ v m₁ th₁ s₁ (own ++ led) o₁ (okAll_at hok hrow) (DatIn.mono (fun p hp => List.mem_append.mpr (.inr hp)) hdat) (fun p hp => (List.mem_append.mp hp).elim (hRI p) (hne p)) ho₁ F₂ N₂) (fun _ s₃ h₃ => ?_) fun _ _ e => e
    refine wpAny_mono h₃ (fun f s₂ p => ?_) fun _ _ e => e
    obtain ⟨rfl, h', tk, m', o', th', rfl, F', N', ho', e1, e2⟩ := p
    refine ⟨rfl, h', tk, m', (R, o') :: led, rfl, F', fun p hp => N' p ?_, fun p hp hI => ?_, o', th', rfl, ?_, e1, ?_⟩
    · rcases List.mem_append.mp hp with hp | hp
      · exact .tail _ (List.mem_append.mpr (.inl hp))
      · rcases List.mem_cons.mp hp with rfl | hp
        · exact .head _
        · exact .tail _ (List.mem_append.mpr (.inr hp))
    · rcases List.mem_cons.mp hp with rfl | hp
      · exact hoff (R, o₁) (.head _) hI
      · exact hoff p (.tail _ hp) hI
    · rw [execAll_take hrow]; exact ho'
    · rw [execAll_take hrow]; exact e2
  · rintro h' tk m' nx F' N' _ ⟨o₁, th₁, rfl, ho₁, hm1, hm2⟩
    rw [List.take_length] at ho₁ hm2
    exact done m' th₁ h' tk o₁ ho₁ (by rw [regsMap_eq hm1 hm2]; exact F') N'
end
section
variable {prog : Program} {w : World} {A : Around} {E : Value → Shared → Prop} {s : Shared} {h₀ : Heap} {L : Addr} {m : Str → Option Value} {led : List (Addr × Obj)}
theorem fillsIn_list : fillsInplaceSlot (.type "list") "add" (Operator.Add == .Add) = pure false := by
  unfold fillsInplaceSlot
  show (typeLookup (.type "list") (dunderI "add") >>= fun fi => pure (fi.isSome && !isSeqSlot fi)) = pure false
  rw [PySem.F.slot_list_iadd.lookup]
  have : isSeqSlot (some (.builtin "list.__iadd__")) = true := by decide +kernel
  simp only [pure_bind, this]; rfl
theorem seqIn_list : seqSlot? (.type "list") (dunderI "add") = pure (some (.builtin "list.__iadd__")) := PySem.seqSlot_of PySem.F.slot_list_iadd.lookup (by decide +kernel)
theorem list_iadd0 {a b : Addr} {Q : Value → Shared → Prop} (ha : s.TypeIs (.ref a) "list") (hb : s.TypeIs (.ref b) "list") (hc : wpAny (model prog w) A (call (.builtin "list.__iadd__") [.ref a, .ref b]) Q E s) :
    wpAny (model prog w) A (inplaceOp .Add (.ref a) (.ref b)) Q E s := by
  unfold inplaceOp
  refine wpAny_holding ?_
  refine wpAny_bind (wpAny_typeOf ha (wpAny_bind (wpAny_of_eq fillsIn_list ?_)))
  show wpAny _ A (if false = true then _ else _) Q E s
  rw [if_neg Bool.false_ne_true]
  refine wpAny_bind (wpAny_binaryOp1_none (nm := "add") ha hb noFill_list_add ?_)
  refine wpAny_bind (wpAny_of_eq seqIn_list ?_)
  exact wpAny_bind (wpAny_rule hc)
theorem list_iadd {a b : Addr} {xs ys : List Value} {n n2 : Nat} {g : Obj → List (Addr × Obj)} {Q : Value → Shared → Prop} (F : Fr h₀ L s.heap m) (N : News h₀ L s.heap led) (hb : (b, listOf ys.toArray n2) ∈ led) (U : UpdF a (listOf xs.toArray n) led g)
    (hsz : xs.length + ys.length ≤ 1000) (h : ∀ h' n', Fr h₀ L h' m → News h₀ L h' (g (listOf (xs ++ ys).toArray n')) → Q (.ref a) { s with heap := h' }) : wpAny (model prog w) A (inplaceOp .Add (.ref a) (.ref b)) Q E s := by
  obtain ⟨pre, post, rfl, hg, h1, h2⟩ := U.split
  have hm := N _ (List.mem_append_right pre (List.Mem.head post))
  have hbb := N _ hb
  have hsz' : xs.toArray.size + ys.toArray.size ≤ sizeLine := by rw [sizeLine_eq, List.size_toArray, List.size_toArray]; omega
  refine list_iadd0 ⟨_, hm.1, rfl⟩ ⟨_, hbb.1, rfl⟩ (call_meets PySem.F.slot_list_iadd ⟨_, hm.1, rfl⟩ PySem.F.entry_list_iadd (PySem.F.args_list_iadd_2 _ _)
    (PySem.AutoSeq1.list___iadd___list_list_0 a xs.toArray n b ys.toArray n2 (extend_door hsz') (by omega) (by omega)) ⟨hm.1, hbb.1, ?_⟩)
  have e : xs.toArray ++ ys.toArray = (xs ++ ys).toArray := by simp
  have ho' : (s.heap.update a (Obj.mapSeq fun x => x ++ ys.toArray)).get? a = some (listOf (xs ++ ys).toArray (if (xs.toArray ++ ys.toArray).size == xs.toArray.size then n else n + 1)) := by
    rw [Heap.get?_update_self _ hm.1 (by rw [mapSeq_app]; rfl), mapSeq_app, e]
  exact h _ _ (F.change (Heap.SameBut.update ..) hm.2.1 hm.2.2) (hg _ ▸ N.setIn h1 h2 (Heap.SameBut.update ..) ho')
end
/-! the rows of a quotient, of a rest -/
def const4 (m : Int) : List Row :=
  if -65536 ≤ m ∧ m ≤ 65535 then [.movi4 m] else if m % (2 * 2147483648) % 65536 ≠ 0 then [.movh4 (m % (2 * 2147483648) / 2 ^ (16 : Int).toNat), .iori4 (m % (2 * 2147483648) % 65536)] else [.movh4 (m % (2 * 2147483648) / 2 ^ (16 : Int).toNat)]
def const5 (m : Int) : List Row :=
  if -65536 ≤ m ∧ m ≤ 65535 then [.movi5 m] else if m % (2 * 2147483648) % 65536 ≠ 0 then [.movh5 (m % (2 * 2147483648) / 2 ^ (16 : Int).toNat), .iori5 (m % (2 * 2147483648) % 65536)] else [.movh5 (m % (2 * 2147483648) / 2 ^ (16 : Int).toNat)]
def magicRows (m : Int) (ad : Bool) (s : Int) : List Row :=
  Row.asri51 :: Row.xor615 :: (const4 m ++ (Row.mul446 :: Row.geth4 :: ((if ad = true then [Row.add446] else []) ++ ((if 0 < s then [Row.asri44 s] else []) ++ [Row.xor445]))))
def QRows (d : Int) (rows : List Row) : Prop :=
  (∃ p : Int, 0 ≤ p ∧ p ≤ 30 ∧ d = 2 ^ p.toNat ∧ rows = [Row.asri41 p]) ∨ ∃ m ad s, MagicOk d m ad s ∧ 2 ≤ d ∧ rows = magicRows m ad s
def RowsRet (Good : List Row → Prop) (v : Value) (new : List (Addr × Obj)) : Prop :=
  ∃ r items n tl rows, v = .ref r ∧ new = (r, listOf (List.toArray items) n) :: tl ∧ (∀ p ∈ tl, p.1 ≠ r) ∧ Good rows ∧ DatAll tl items (rows.map Row.dat)
theorem row_mk {tl : List (Addr × Obj)} {T : Addr} {op : String} {a b c : Int} {n : Nat} {t0 t1 t2 t3 : Tok} (h : (T, ({ cls := .type "tuple", data := .seq #[.str (Str.ofString op) t0, .int a t1, .int b t2, .int c t3] n } : Obj)) ∈ tl) : DatIn tl (.ref T) (rowDat op a b c) :=
  DatIn.tuple (vs := [.str (Str.ofString op) t0, .int a t1, .int b t2, .int c t3]) h (.cons (.str _ _) (.cons (.int _ _) (.cons (.int _ _) (.cons (.int _ _) .nil))))
theorem datAll_cons {tl : List (Addr × Obj)} {vs : List Value} {d : Dat} {ds : List Dat} (h : DatAll tl vs (d :: ds)) : ∃ v vs', vs = v :: vs' ∧ DatIn tl v d ∧ DatAll tl vs' ds := by
  cases h with
  | cons h1 h2 => exact ⟨_, _, rfl, h1, h2⟩
theorem datIn_int {tl : List (Addr × Obj)} {v : Value} {a : Int} (h : DatIn tl v (.int a)) : ∃ t, v = .int a t := by
  cases h
  exact ⟨_, rfl⟩
theorem datIn_str {tl : List (Addr × Obj)} {v : Value} {a : Str} (h : DatIn tl v (.str a)) : ∃ t, v = .str a t := by
  cases h
  exact ⟨_, rfl⟩
theorem datIn_tuple {tl : List (Addr × Obj)} {v : Value} {ds : List Dat} (h : DatIn tl v (.tuple ds)) : ∃ T vs n, v = .ref T ∧ (T, ({ cls := .type "tuple", data := .seq (List.toArray vs) n } : Obj)) ∈ tl ∧ DatAll tl vs ds := by
  cases h with
  | tuple hm hall => exact ⟨_, _, _, rfl, hm, hall⟩
theorem row_in2 {tl : List (Addr × Obj)} {v : Value} {nm : Str} {a b c : Int} (h : DatIn tl v (Dat.tuple [.str nm, .int a, .int b, .int c])) :
    ∃ T n t0 t1 t2 t3, v = .ref T ∧ (T, ({ cls := .type "tuple", data := .seq #[.str nm t0, .int a t1, .int b t2, .int c t3] n } : Obj)) ∈ tl := by
  obtain ⟨T, vs, n, rfl, hm, hall⟩ := datIn_tuple h
  obtain ⟨v0, vs0, rfl, h0, hall⟩ := datAll_cons hall
  obtain ⟨v1, vs1, rfl, h1, hall⟩ := datAll_cons hall
  obtain ⟨v2, vs2, rfl, h2, hall⟩ := datAll_cons hall
  obtain ⟨v3, vs3, rfl, h3, hall⟩ := datAll_cons hall
  obtain ⟨t0, rfl⟩ := datIn_str h0
  obtain ⟨t1, rfl⟩ := datIn_int h1
  obtain ⟨t2, rfl⟩ := datIn_int h2
  obtain ⟨t3, rfl⟩ := datIn_int h3
  have : vs3 = [] := by
    have := hall.length
    simpa using this
  subst this
  exact ⟨T, n, t0, t1, t2, t3, rfl, hm⟩
theorem row_in {tl : List (Addr × Obj)} {v : Value} {op : String} {a b c : Int} (h : DatIn tl v (rowDat op a b c)) :
    ∃ T n t0 t1 t2 t3, v = .ref T ∧ (T, ({ cls := .type "tuple", data := .seq #[.str (Str.ofString op) t0, .int a t1, .int b t2, .int c t3] n } : Obj)) ∈ tl := row_in2 h
theorem row_sub {l l' : List (Addr × Obj)} {r : Addr} {items : Array Value} {n : Nat} (hs : ∀ p ∈ l, p = (r, listOf items n) ∨ p ∈ l') {v : Value} (row : Row) (h : DatIn l v row.dat) : DatIn l' v row.dat := by
  have key : ∀ op a b c, DatIn l v (rowDat op a b c) → DatIn l' v (rowDat op a b c) := by
    intro op a b c h
    obtain ⟨T, k, t0, t1, t2, t3, rfl, hm⟩ := row_in h
    rcases hs _ hm with e | hm
    · have := congrArg (fun p : Addr × Obj => p.2.cls) e
      simp [W.listOf] at this
    · exact row_mk hm
  cases row <;> exact key _ _ _ _ h
theorem rows_sub {l l' : List (Addr × Obj)} {r : Addr} {items : Array Value} {n : Nat} (hs : ∀ p ∈ l, p = (r, listOf items n) ∨ p ∈ l') : ∀ {vs : List Value} {rows : List Row}, DatAll l vs (rows.map Row.dat) → DatAll l' vs (rows.map Row.dat)
  | [], [], _ => .nil
  | [], _ :: _, h => (nomatch h)
  | _ :: _, [], h => (nomatch h)
  | v :: vs, row :: rows, h => by
    cases h with
    | cons h1 h2 => exact .cons (row_sub hs row h1) (rows_sub hs h2)
theorem rows_end {h₀ h' : Heap} {L : Addr} {m : Str → Option Value} {led : List (Addr × Obj)} {s : Shared} {Q : Value → Shared → Prop} {Good : List Row → Prop} {tk' : Nat} {r : Addr} {items : List Value} {n : Nat} {rows : List Row}
    (hret : ∀ (v : Value) (new : List (Addr × Obj)) (h' : Heap) (tk' : Nat), RowsRet Good v new → Fr h₀ L h' m → News h₀ L h' (new ++ led) → (∀ p ∈ new, AllLt p.1 led) → Q v { s with heap := h', toks := tk' })
    (new : List (Addr × Obj)) (F : Fr h₀ L h' m) (N : News h₀ L h' (new ++ led)) (hm : (r, listOf items.toArray n) ∈ new) (hu : ∀ p ∈ new, p.1 = r → p = (r, listOf items.toArray n)) (hlt : ∀ p ∈ new, AllLt p.1 led)
    (hg : Good rows) (hd : DatAll new items (rows.map Row.dat)) : Q (.ref r) { s with heap := h', toks := tk' } := by
  refine hret _ ((r, listOf items.toArray n) :: new.filter fun p => decide (p.1 ≠ r)) _ _ ⟨r, items, n, _, rows, rfl, rfl, fun p hp => by simpa using (List.mem_filter.mp hp).2, hg, rows_sub (r := r) (items := items.toArray) (n := n) (fun p hp => ?_) hd⟩ F (fun p hp => N p ?_) fun p hp => ?_
  · by_cases e : p.1 = r
    · exact .inl (hu p hp e)
    · exact .inr (List.mem_filter.mpr ⟨hp, by simpa using e⟩)
  · rcases List.mem_append.mp hp with hp | hp
    · rcases List.mem_cons.mp hp with rfl | hp
      · exact List.mem_append.mpr (.inl hm)
      · exact List.mem_append.mpr (.inl (List.mem_filter.mp hp).1)
    · exact List.mem_append.mpr (.inr hp)
  · rcases List.mem_cons.mp hp with rfl | hp
    · exact hlt _ hm
    · exact hlt _ (List.mem_filter.mp hp).1
def RRows (d : Int) (rows : List Row) : Prop :=
  (∃ p : Int, 0 ≤ p ∧ p ≤ 16 ∧ d = 2 ^ p.toNat ∧ rows = [Row.andi41 (d - 1)]) ∨ ∃ q, QRows d q ∧ rows = q ++ const5 d ++ [Row.mul445, Row.sub414]
theorem rows_apart {tl led : List (Addr × Obj)} {r : Addr} (h : ∀ p ∈ tl, p.1 ≠ r) (k : AllLt r led) : ∀ p ∈ tl ++ led, p.1 ≠ r := fun p hp => by
  rcases List.mem_append.mp hp with hp | hp
  · exact h p hp
  · exact Nat.ne_of_lt (ktn_ltOf k p hp)

local macro_rules | `(tactic| walk_at "call ref") => `(tactic| (k_here; (with_reducible show wpAny _ _ (call (Value.ref 91) _) _ _ _); k_dflt (refine' Does.useP (by ktr_rel) (law_side_spec _ _ _ _ _ _ _ _ _) ?_; intro v9 new9 h9 tk9 R9 F9 N9 l9; obtain ⟨t9, e9, f9⟩ := R9; subst e9; subst f9; clear l9; simp only [List.nil_append] at N9; (try dsimp only); (try k_fold))))
local macro_rules | `(tactic| walk_at "subscriptTail") => `(tactic| (k_here; (with_reducible show wpAny _ _ (subscriptTail _ _ (Value.ref _) (Value.int _ _)) _ _ _); k_dflt (refine' regs_get ?N ?d ?v ?_; (case N => k_asm); (case d => with_reducible assumption); (case v => rfl); k_whole)))
local macro_rules | `(tactic| walk_at "setItem ref int") => `(tactic| (k_here; k_dflt (refine' regs_set ?F ?N ?n ?d ?l ?_; (case F => k_asm); (case N => k_asm); (case n => with_reducible assumption); (case d => with_reducible assumption); (case l => exact Nat.le_of_ble_eq_true rfl); k_whole); intro h' o' F' N' d'; simp only [st4, st5, st6] at d'; (try k_sweep)))
/-- the names of the rows' kinds, in the order in which they are asked for -/
def opName : Nat → Str
  | 0 => Str.ofString "MOVH"
  | 1 => Str.ofString "MOVI"
  | 2 => Str.ofString "GETH"
  | 3 => Str.ofString "IORI"
  | 4 => Str.ofString "ANDI"
  | 5 => Str.ofString "ASRI"
  | 6 => Str.ofString "XOR"
  | 7 => Str.ofString "ADD"
  | 8 => Str.ofString "SUB"
  | _ => Str.ofString "MUL"
/-- what a row of a kind does -/
def OpStep (a b c : Int) (st st' : St) : Nat → Prop
  | 0 => (a = 4 ∧ st' = { st with x4 := c * 65536 }) ∨ (a = 5 ∧ st' = { st with x5 := c * 65536 })
  | 1 => (a = 4 ∧ st' = { st with x4 := c % 4294967296 }) ∨ (a = 5 ∧ st' = { st with x5 := c % 4294967296 })
  | 2 => a = 4 ∧ st' = { st with x4 := st.hi }
  | 3 => (a = 4 ∧ b = 4 ∧ st' = { st with x4 := Builtin.bitOr st.x4 c }) ∨ (a = 5 ∧ b = 5 ∧ st' = { st with x5 := Builtin.bitOr st.x5 c })
  | 4 => a = 4 ∧ b = 1 ∧ st' = { st with x4 := Builtin.bitAnd st.x1 (c % 4294967296) }
  | 5 => (0 ≤ c ∧ c ≤ 31) ∧ ((a = 4 ∧ b = 1 ∧ st' = { st with x4 := side st.x1 / 2 ^ c.toNat % 4294967296 }) ∨ (a = 5 ∧ b = 1 ∧ st' = { st with x5 := side st.x1 / 2 ^ c.toNat % 4294967296 }) ∨ (a = 4 ∧ b = 4 ∧ st' = { st with x4 := side st.x4 / 2 ^ c.toNat % 4294967296 }))
  | 6 => (a = 6 ∧ b = 1 ∧ c = 5 ∧ st' = { st with x6 := Builtin.bitXor st.x1 st.x5 }) ∨ (a = 4 ∧ b = 4 ∧ c = 5 ∧ st' = { st with x4 := Builtin.bitXor st.x4 st.x5 })
  | 7 => a = 4 ∧ b = 4 ∧ c = 6 ∧ st' = { st with x4 := (st.x4 + st.x6) % 4294967296 }
  | 8 => a = 4 ∧ b = 1 ∧ c = 4 ∧ st' = { st with x4 := (st.x1 - st.x4) % 4294967296 }
  | _ => a = 4 ∧ b = 4 ∧ ((c = 6 ∧ (-18446744073709551616 < side st.x6 ∧ side st.x6 < 18446744073709551616) ∧ st' = { st with x4 := side st.x4 * side st.x6 % 4294967296, hi := side st.x4 * side st.x6 / 4294967296 % 4294967296 }) ∨ (c = 5 ∧ (-18446744073709551616 < side st.x5 ∧ side st.x5 < 18446744073709551616) ∧ st' = { st with x4 := side st.x4 * side st.x5 % 4294967296, hi := side st.x4 * side st.x5 / 4294967296 % 4294967296 }))
theorem row_step {row : Row} {st : St} (h : row.ok st) : ∃ k a b c, k < 10 ∧ row.dat = Dat.tuple [.str (opName k), .int a, .int b, .int c] ∧ OpStep a b c st (row.exec st) k := by
  cases row
  · exact ⟨5, _, _, _, by decide, rfl, h, .inl ⟨rfl, rfl, rfl⟩⟩
  · exact ⟨5, _, _, _, by decide, rfl, by decide, .inr (.inl ⟨rfl, rfl, rfl⟩)⟩
  · exact ⟨6, _, _, _, by decide, rfl, .inl ⟨rfl, rfl, rfl, rfl⟩⟩
  · exact ⟨1, _, _, _, by decide, rfl, .inl ⟨rfl, rfl⟩⟩
  · exact ⟨0, _, _, _, by decide, rfl, .inl ⟨rfl, rfl⟩⟩
  · exact ⟨3, _, _, _, by decide, rfl, .inl ⟨rfl, rfl, rfl⟩⟩
  · exact ⟨9, _, _, _, by decide, rfl, rfl, rfl, .inl ⟨rfl, h, rfl⟩⟩
  · exact ⟨2, _, _, _, by decide, rfl, rfl, rfl⟩
  · exact ⟨7, _, _, _, by decide, rfl, rfl, rfl, rfl, rfl⟩
  · exact ⟨5, _, _, _, by decide, rfl, h, .inr (.inr ⟨rfl, rfl, rfl⟩)⟩
  · exact ⟨6, _, _, _, by decide, rfl, .inr ⟨rfl, rfl, rfl, rfl⟩⟩
  · exact ⟨4, _, _, _, by decide, rfl, rfl, rfl, rfl⟩
  · exact ⟨1, _, _, _, by decide, rfl, .inr ⟨rfl, rfl⟩⟩
  · exact ⟨0, _, _, _, by decide, rfl, .inr ⟨rfl, rfl⟩⟩
  · exact ⟨3, _, _, _, by decide, rfl, .inr ⟨rfl, rfl, rfl⟩⟩
  · exact ⟨9, _, _, _, by decide, rfl, rfl, rfl, .inr ⟨rfl, h, rfl⟩⟩
  · exact ⟨8, _, _, _, by decide, rfl, rfl, rfl, rfl, rfl⟩
theorem opName_inj : ∀ k : Fin 10, ∀ j : Fin 10, (opName k.val == opName j.val) = true → k.val = j.val := by decide +kernel
theorem op_at {k : Nat} {nm : Str} {a b c : Int} {st st' : St} (hk : k < 10) (hn : opName k = nm) (h : OpStep a b c st st' k) (j : Nat) (hj : j < 10) (e : (nm == opName j) = true) : OpStep a b c st st' j := by
  have := opName_inj ⟨k, hk⟩ ⟨j, hj⟩ (hn ▸ e)
  simp only at this
  exact this ▸ h
theorem op_none {k : Nat} {nm : Str} (hk : k < 10) (hn : opName k = nm) (h : ∀ j : Fin 10, (nm == opName j.val) = false) : False := by
  have := h ⟨k, hk⟩
  rw [hn] at this
  simp at this
theorem law_stepped_spec (w p loose mean mg mb) (led) (r : Addr) (vs : List Value) (n : Nat) (rows : List Row) (src : Int) (t : Tok) (hl : (r, listOf vs.toArray n) ∈ led) (hd : DatAll led vs (rows.map Row.dat)) (hok : okAll rows ⟨src % 4294967296, 77, 88, 99, 0⟩) :
    Does w p loose mean mg mb 98 2 16 led [.ref r, .int src t] (fun v new => ∃ D t1 t2 c, v = .ref D ∧ new = [(D, ({ cls := .type "tuple", data := .seq #[.int (side (execAll rows ⟨src % 4294967296, 77, 88, 99, 0⟩).x4) t1, .int (execAll rows ⟨src % 4294967296, 77, 88, 99, 0⟩).x1 t2] c } : Obj))]) := by
  unfold Does
  k_fill
  intro dp un gd cn cs a ccd cl outer A₀ base h₀ L m s Q E B F X N T hk hdp hun hret
  refine wpAny_call ?_
  k_dflt cell_enter
  k_with_none
  w_top off
  k_steps
  (with_reducible rename Fr _ _ _ _ => F1)
  (with_reducible rename News _ _ _ _ => N1)
  refine For_invTF F1 ?_ (fun _ => rfl)
  k_steps
  (with_reducible rename Fr _ _ _ _ => F2)
  (with_reducible rename News _ _ _ _ => N2)
  (with_reducible rename Obj.IsDictOf _ _ _ => D2)
  (with_reducible rename PyProof.V.FlatPairs _ _ _ => fp)
  clear fp
  refine rows_loop (st := ⟨src % 4294967296, 77, 88, 99, 0⟩) rfl hl hd (by assumption) F2 N2 ⟨_, _, _, _, D2⟩ (by with_unfolding_all rfl) (by with_unfolding_all rfl) hok ?_ ?_
  · clear F2 N2 D2
    intro row st v u th s₁ tl o hrok hdat hne ho F1 N1
    obtain ⟨k, ra, rb, rc, hk, hg, hop⟩ := row_step hrok
    rw [hg] at hdat
    obtain ⟨T, n, u0, u1, u2, u3, rfl, hT⟩ := row_in2 hdat
    clear hdat hg hrok
    generalize row.exec st = st' at *
    generalize hnm : opName k = nm at *
    obtain ⟨t1, t4, t5, t6, hdict⟩ := ho
    have hIs := News.isTup N1 (List.Mem.tail _ hT)
    repeat' ((fail_if_success (with_reducible rename (_ == _) = true => h)); (first | (k_unfold; (try dsimp only)) | (k_end; wrow_close) | walk1 | (dsimp only; walk1) | (leave1; walk_say "STEP leave1"; try dsimp only) | fail "no step"))
    rotate_right
    · exact (op_none hk hnm (by intro j; match j with | 0 => assumption | 1 => assumption | 2 => assumption | 3 => assumption | 4 => assumption | 5 => assumption | 6 => assumption | 7 => assumption | 8 => assumption | 9 => assumption)).elim
    · (with_reducible rename (_ == _) = true => he)
      rcases op_at hk hnm hop 0 (by decide) he with ⟨rfl, hst⟩ | ⟨rfl, hst⟩
      all_goals (
        clear hk hnm hop he
        k_steps
        try ((with_reducible rename _ = 2 ^ Int.toNat _ => hPe); subst hPe)
        rw [hst]
        exact ⟨rfl, _, _, _, _, _, rfl, by k_asm, by k_asm, ⟨_, _, _, _, by assumption⟩, by with_unfolding_all rfl, by with_unfolding_all rfl⟩)
    · (with_reducible rename (_ == _) = true => he)
      rcases op_at hk hnm hop 1 (by decide) he with ⟨rfl, hst⟩ | ⟨rfl, hst⟩
      all_goals (
        clear hk hnm hop he
        k_steps
        try ((with_reducible rename _ = 2 ^ Int.toNat _ => hPe); subst hPe)
        rw [hst]
        exact ⟨rfl, _, _, _, _, _, rfl, by k_asm, by k_asm, ⟨_, _, _, _, by assumption⟩, by with_unfolding_all rfl, by with_unfolding_all rfl⟩)
    · (with_reducible rename (_ == _) = true => he)
      rcases op_at hk hnm hop 2 (by decide) he with ⟨rfl, hst⟩
      all_goals (
        clear hk hnm hop he
        k_steps
        try ((with_reducible rename _ = 2 ^ Int.toNat _ => hPe); subst hPe)
        rw [hst]
        exact ⟨rfl, _, _, _, _, _, rfl, by k_asm, by k_asm, ⟨_, _, _, _, by assumption⟩, by with_unfolding_all rfl, by with_unfolding_all rfl⟩)
    · (with_reducible rename (_ == _) = true => he)
      rcases op_at hk hnm hop 3 (by decide) he with ⟨rfl, rfl, hst⟩ | ⟨rfl, rfl, hst⟩
      all_goals (
        clear hk hnm hop he
        k_steps
        try ((with_reducible rename _ = 2 ^ Int.toNat _ => hPe); subst hPe)
        rw [hst]
        exact ⟨rfl, _, _, _, _, _, rfl, by k_asm, by k_asm, ⟨_, _, _, _, by assumption⟩, by with_unfolding_all rfl, by with_unfolding_all rfl⟩)
    · (with_reducible rename (_ == _) = true => he)
      rcases op_at hk hnm hop 4 (by decide) he with ⟨rfl, rfl, hst⟩
      all_goals (
        clear hk hnm hop he
        k_steps
        try ((with_reducible rename _ = 2 ^ Int.toNat _ => hPe); subst hPe)
        rw [hst]
        exact ⟨rfl, _, _, _, _, _, rfl, by k_asm, by k_asm, ⟨_, _, _, _, by assumption⟩, by with_unfolding_all rfl, by with_unfolding_all rfl⟩)
    · (with_reducible rename (_ == _) = true => he)
      rcases op_at hk hnm hop 5 (by decide) he with ⟨⟨hc1, hc2⟩, ⟨rfl, rfl, hst⟩ | ⟨rfl, rfl, hst⟩ | ⟨rfl, rfl, hst⟩⟩
      all_goals (
        clear hk hnm hop he
        k_steps
        try ((with_reducible rename _ = 2 ^ Int.toNat _ => hPe); subst hPe)
        rw [hst]
        exact ⟨rfl, _, _, _, _, _, rfl, by k_asm, by k_asm, ⟨_, _, _, _, by assumption⟩, by with_unfolding_all rfl, by with_unfolding_all rfl⟩)
    · (with_reducible rename (_ == _) = true => he)
      rcases op_at hk hnm hop 6 (by decide) he with ⟨rfl, rfl, rfl, hst⟩ | ⟨rfl, rfl, rfl, hst⟩
      all_goals (
        clear hk hnm hop he
        k_steps
        try ((with_reducible rename _ = 2 ^ Int.toNat _ => hPe); subst hPe)
        rw [hst]
        exact ⟨rfl, _, _, _, _, _, rfl, by k_asm, by k_asm, ⟨_, _, _, _, by assumption⟩, by with_unfolding_all rfl, by with_unfolding_all rfl⟩)
    · (with_reducible rename (_ == _) = true => he)
      rcases op_at hk hnm hop 7 (by decide) he with ⟨rfl, rfl, rfl, hst⟩
      all_goals (
        clear hk hnm hop he
        k_steps
        try ((with_reducible rename _ = 2 ^ Int.toNat _ => hPe); subst hPe)
        rw [hst]
        exact ⟨rfl, _, _, _, _, _, rfl, by k_asm, by k_asm, ⟨_, _, _, _, by assumption⟩, by with_unfolding_all rfl, by with_unfolding_all rfl⟩)
    · (with_reducible rename (_ == _) = true => he)
      rcases op_at hk hnm hop 8 (by decide) he with ⟨rfl, rfl, rfl, hst⟩
      all_goals (
        clear hk hnm hop he
        k_steps
        try ((with_reducible rename _ = 2 ^ Int.toNat _ => hPe); subst hPe)
        rw [hst]
        exact ⟨rfl, _, _, _, _, _, rfl, by k_asm, by k_asm, ⟨_, _, _, _, by assumption⟩, by with_unfolding_all rfl, by with_unfolding_all rfl⟩)
    · (with_reducible rename (_ == _) = true => he)
      rcases op_at hk hnm hop 9 (by decide) he with ⟨rfl, rfl, ⟨rfl, ⟨hc1, hc2⟩, hst⟩ | ⟨rfl, ⟨hc1, hc2⟩, hst⟩⟩
      all_goals (
        clear hk hnm hop he
        k_steps
        try ((with_reducible rename _ = 2 ^ Int.toNat _ => hPe); subst hPe)
        rw [hst]
        exact ⟨rfl, _, _, _, _, _, rfl, by k_asm, by k_asm, ⟨_, _, _, _, by assumption⟩, by with_unfolding_all rfl, by with_unfolding_all rfl⟩)
  · intro u th h tk o ho F3 N3
    obtain ⟨t1, t4, t5, t6, hdict⟩ := ho
    k_steps
    exact hret _ [_] _ _ ⟨_, _, _, _, rfl, rfl⟩ (by k_asm) (fun p hp => by
      (with_reducible rename News _ _ _ (_ :: _ :: _) => N4)
      rcases List.mem_cons.mp hp with rfl | hp
      · exact N4 _ (List.Mem.head _)
      · exact N4 _ (List.Mem.tail _ (List.Mem.tail _ hp))) (fun p hp => by
      (with_reducible rename _ ∧ AllLt _ led => l4)
      rw [List.mem_singleton.mp hp]; exact l4.2)

theorem allLt_right {D : Addr} {a b : List (Addr × Obj)} (h : AllLt D (a ++ b)) : AllLt D b := allLt_of fun p hp => ktn_ltOf h p (List.mem_append.mpr (.inr hp))
structure RKeep (tl led : List (Addr × Obj)) (r : Addr) : Prop where
  ne : ∀ p ∈ tl, p.1 ≠ r
  lt : ∀ p ∈ tl, AllLt p.1 led
def RowsPost (h₀ : Heap) (L r : Addr) (led : List (Addr × Obj)) (rows : List Row) (m : Str → Option Value) (s₁ : Shared) (f : Flow) (s₂ : Shared) : Prop :=
  f = .next ∧ ∃ h' tk items n tl, s₂ = { s₁ with heap := h', toks := tk } ∧ Fr h₀ L h' (fun y => if y = Str.ofString "rows" then some (.ref r) else m y) ∧ News h₀ L h' ((r, listOf (List.toArray items) n) :: (tl ++ led)) ∧ RKeep tl led r ∧ AllLt r led ∧ DatAll tl items (rows.map Row.dat)
theorem rows_post {h₀ h' : Heap} {L : Addr} {m : Str → Option Value} {led : List (Addr × Obj)} {s : Shared} {tk' : Nat} {r : Addr} {items : List Value} {n : Nat} {rows : List Row}
    (new : List (Addr × Obj)) (F : Fr h₀ L h' (fun y => if y = Str.ofString "rows" then some (.ref r) else m y)) (N : News h₀ L h' (new ++ led)) (hm : (r, listOf items.toArray n) ∈ new) (hu : ∀ p ∈ new, p.1 = r → p = (r, listOf items.toArray n)) (hlt : ∀ p ∈ new, AllLt p.1 led)
    (hd : DatAll new items (rows.map Row.dat)) : RowsPost h₀ L r led rows m s .next { s with heap := h', toks := tk' } := by
  refine ⟨rfl, h', tk', items, n, new.filter fun p => decide (p.1 ≠ r), rfl, F, fun p hp => N p ?_, ⟨fun p hp => by simpa using (List.mem_filter.mp hp).2, fun p hp => hlt _ (List.mem_filter.mp hp).1⟩, hlt _ hm, rows_sub (r := r) (items := items.toArray) (n := n) (fun p hp => ?_) hd⟩
  · rcases List.mem_cons.mp hp with rfl | hp
    · exact List.mem_append.mpr (.inl hm)
    · rcases List.mem_append.mp hp with hp | hp
      · exact List.mem_append.mpr (.inl (List.mem_filter.mp hp).1)
      · exact List.mem_append.mpr (.inr hp)
  · by_cases e : p.1 = r
    · exact .inl (hu p hp e)
    · exact .inr (List.mem_filter.mpr ⟨hp, by simpa using e⟩)
theorem rows_join {M : Model} {A : Around} {E : Value → Shared → Prop} {s : Shared} {t : Sem Flow} {Q : Flow → Shared → Prop} {h₀ : Heap} {L r : Addr} {led : List (Addr × Obj)} {rows : List Row} {m : Str → Option Value} {b : Nat}
    (hb : rows.length ≤ b) (h1 : wpAny M A t (RowsPost h₀ L r led rows m s) E s)
    (h2 : ∀ h' tk items n tl, Fr h₀ L h' (fun y => if y = Str.ofString "rows" then some (.ref r) else m y) → News h₀ L h' ((r, listOf (List.toArray items) n) :: (tl ++ led)) → (∀ p ∈ tl ++ led, p.1 ≠ r) → RKeep tl led r → AllLt r led → DatAll tl items (rows.map Row.dat) → items.length ≤ b → Q .next { s with heap := h', toks := tk }) :
    wpAny M A t Q E s := by
  refine wpAny_mono h1 (fun f s₂ hp => ?_) fun _ _ e => e
  obtain ⟨rfl, h', tk, items, n, tl, rfl, F', N', hK, hl, hd⟩ := hp
  exact h2 h' tk items n tl F' N' (rows_apart hK.ne hl) hK hl hd (by rw [hd.length, List.length_map]; exact hb)
theorem const4_len (m : Int) : (const4 m).length ≤ 2 := by unfold const4; (repeat' split) <;> simp
theorem const5_len (m : Int) : (const5 m).length ≤ 2 := by unfold const5; (repeat' split) <;> simp
theorem join45 {M : Model} {A : Around} {E : Value → Shared → Prop} {s : Shared} {t : Sem Flow} {Q : Flow → Shared → Prop} {h₀ : Heap} {L r : Addr} {led : List (Addr × Obj)} {o : Obj} {q1 q2 q3 : Addr × Obj} {m : Str → Option Value} {d mm sh : Int} {ad : Bool}
    (_F : Fr h₀ L s.heap m) (_N : News h₀ L s.heap ((r, o) :: q1 :: q2 :: q3 :: led)) (_hM : MagicOk d mm ad sh)
    (h2 : ∀ h' tk items n tl, Fr h₀ L h' (fun y => if y = Str.ofString "rows" then some (.ref r) else m y) → News h₀ L h' ((r, listOf (List.toArray items) n) :: (tl ++ led)) → (∀ p ∈ tl ++ led, p.1 ≠ r) → RKeep tl led r → AllLt r led → DatAll tl items ((Row.asri51 :: Row.xor615 :: const4 mm).map Row.dat) → items.length ≤ 4 → Q .next { s with heap := h', toks := tk })
    (h1 : wpAny M A t (RowsPost h₀ L r led (Row.asri51 :: Row.xor615 :: const4 mm) m s) E s) : wpAny M A t Q E s :=
  rows_join (b := 4) (by have := const4_len mm; simp only [List.length_cons]; omega) h1 h2
theorem magicRows_eq (m : Int) (ad : Bool) (s : Int) : magicRows m ad s = (Row.asri51 :: Row.xor615 :: const4 m) ++ (Row.mul446 :: Row.geth4 :: ((if ad = true then [Row.add446] else []) ++ ((if 0 < s then [Row.asri44 s] else []) ++ [Row.xor445]))) := rfl
local macro_rules | `(tactic| k_room) => `(tactic| ktr_room)
local macro_rules | `(tactic| walk_at "call ref") => `(tactic| (k_here; (with_reducible show wpAny _ _ (call (Value.ref 56) _) _ _ _); k_dflt (refine' Does.useP (by ktr_rel) (power_of_spec _ _ _ _ _ _ _ _ _ (by omega) (by omega)) ?_; intro v9 new9 h9 tk9 R9 F9 N9 l9; obtain ⟨p9, t9, e9, f9, hP9⟩ := R9; subst e9; subst f9; (have hPr9 := hP9.range); clear l9; simp only [List.nil_append] at N9; (try dsimp only); (try k_fold))))
local macro_rules | `(tactic| walk_at "inplaceOp Add ref") => `(tactic| (k_here; ((with_reducible rename News _ _ _ _ => nE9)); (try simp only [List.push_toArray, List.cons_append, List.nil_append] at nE9); k_dflt (refine' list_iadd ?F ?N ?b ?U ?z ?_; (case F => k_asm); (case N => k_asm); (case b => k_mem); (case U => k_updF); (case z => (simp only [List.length_append, List.length_cons, List.length_nil]; omega)); k_whole); intro h' n' F' N'; (try simp only [List.cons_append, List.nil_append] at N'); (try k_sweep)))
local macro_rules | `(tactic| k_all) => `(tactic| with_reducible assumption)
local macro_rules | `(tactic| walk_at "exec AugAssign") => `(tactic| (k_here; (with_reducible show wpAny _ _ (exec (Stmt.AugAssign _ _ _ (Pos.mk 45 4 _ _)) _) _ _ _); ((with_reducible rename Fr _ _ _ _ => kF9)); ((with_reducible rename News _ _ _ (_ :: _) => kN9)); ((with_reducible rename MagicOk _ _ _ _ => kM9)); refine' join45 kF9 kN9 kM9 ?_ ?_; (intro h9 tk9 items9 n9 tl9 F9 N9 hna9 hK9 hlr9 hD9 hz9; (try dsimp only); (try k_fold)); rotate_left; refine wpAny_AugAssign_Name ?_; (try dsimp only)))
theorem quotient_rows_spec (w p loose mean mg mb) (led) (d : Int) (t1 t4 t5 t6 t : Tok) (hd1 : 1 ≤ d) (hd2 : d < 2147483648) :
    Does w p loose mean mg mb 63 3 32 led [.int 1 t1, .int 4 t4, .int 5 t5, .int 6 t6, .int d t] (RowsRet (QRows d)) := by
  unfold Does
  k_fill
  intro dp un gd cn cs a ccd cl outer A₀ base h₀ L m s Q E B F X N T hk hdp hun hret
  refine wpAny_call ?_
  k_dflt cell_enter
  k_with_none
  w_top off
  repeat' (
    first
    | (k_unfold; (try dsimp only))
    | ((fail_if_success (with_reducible show RowsPost _ _ _ _ _ _ _ _ _)); first | (k_end; wrow_close) | walk1 | (dsimp only; walk1) | (leave1; walk_say "STEP leave1"; try dsimp only) | fail "no step"))
  · (with_reducible rename PowOf _ _ => hP)
    have hg : QRows d [Row.asri41 _] := .inl ⟨_, by assumption, by omega, (by rcases hP with hP | hP; exact hP.2.2; omega), rfl⟩
    (with_reducible rename News _ _ _ (_ :: _) => nE9)
    refine rows_end hret [_, _] (by k_asm) nE9 (by k_mem) ?_ ?_ hg ?_
    · repeat' (first | exact List.forall_mem_nil _ | refine List.forall_mem_cons.mpr ⟨fun e => (by first | rfl | exact absurd e (by refine neN ?_; dsimp only; omega)), ?_⟩)
    · repeat' ((with_reducible rename _ ∧ AllLt _ _ => hc9); obtain ⟨hc8, hc7⟩ := hc9)
      repeat' ((with_reducible rename _ ∧ _ ∧ _ => hc9); obtain ⟨hc8, hc7⟩ := hc9)
      repeat' ((with_reducible rename _ ∧ AllLt _ _ => hc9); obtain ⟨hc8, hc7⟩ := hc9)
      repeat' (first | exact List.forall_mem_nil _ | refine List.forall_mem_cons.mpr ⟨(by first | with_reducible assumption | assumption | exact allLt_of (by assumption)), ?_⟩)
    · exact DatAll.cons (row_mk (by k_mem)) DatAll.nil
  iterate 5 (
    rotate_left)
  · (with_reducible rename MagicOk _ _ _ _ => hM)
    have hg : QRows d (magicRows _ _ _) := .inr ⟨_, _, _, hM, by omega, rfl⟩
    (with_reducible rename News _ _ _ (_ :: _) => nE9)
    (try simp only [List.push_toArray, List.append_assoc, List.cons_append, List.nil_append] at nE9)
    (with_reducible rename RKeep _ _ _ => hK)
    (with_reducible rename DatAll _ _ _ => hD)
    refine rows_end hret ([_, _, _, _, _, _, _] ++ _) (by k_asm) nE9 (by k_mem) ?_ ?_ hg ?_
    · repeat' (first | exact List.forall_mem_nil _ | exact fun p hp e => absurd e (hK.ne p hp) | refine List.forall_mem_cons.mpr ⟨fun e => (by first | rfl | exact absurd e (by refine neN ?_; dsimp only; omega)), ?_⟩)
    · repeat' ((with_reducible rename _ ∧ AllLt _ _ => hc9); obtain ⟨hc8, hc7⟩ := hc9)
      repeat' ((with_reducible rename _ ∧ _ ∧ _ => hc9); obtain ⟨hc8, hc7⟩ := hc9)
      repeat' ((with_reducible rename _ ∧ AllLt _ _ => hc9); obtain ⟨hc8, hc7⟩ := hc9)
      repeat' (first | exact List.forall_mem_nil _ | exact hK.lt | refine List.forall_mem_cons.mpr ⟨(by first | with_reducible assumption | assumption | exact allLt_of (by assumption) | exact allLt_right (by assumption)), ?_⟩)
    · (try ((with_reducible rename _ = true => had); subst had))
      (try ((with_reducible rename _ = false => had); subst had))
      rw [magicRows_eq, List.map_append]
      refine DatAll.append (DatAll.mono (fun p hp => List.mem_append.mpr (.inr hp)) hD) ?_
      (repeat' split)
      all_goals first
        | (exfalso; omega)
        | (exfalso; contradiction)
        | (repeat' (first | exact DatAll.nil | refine DatAll.cons (row_mk (by k_mem)) ?_))
  · (with_reducible rename MagicOk _ _ _ _ => hM)
    have hg : QRows d (magicRows _ _ _) := .inr ⟨_, _, _, hM, by omega, rfl⟩
    (with_reducible rename News _ _ _ (_ :: _) => nE9)
    (try simp only [List.push_toArray, List.append_assoc, List.cons_append, List.nil_append] at nE9)
    (with_reducible rename RKeep _ _ _ => hK)
    (with_reducible rename DatAll _ _ _ => hD)
    refine rows_end hret ([_, _, _, _, _, _] ++ _) (by k_asm) nE9 (by k_mem) ?_ ?_ hg ?_
    · repeat' (first | exact List.forall_mem_nil _ | exact fun p hp e => absurd e (hK.ne p hp) | refine List.forall_mem_cons.mpr ⟨fun e => (by first | rfl | exact absurd e (by refine neN ?_; dsimp only; omega)), ?_⟩)
    · repeat' ((with_reducible rename _ ∧ AllLt _ _ => hc9); obtain ⟨hc8, hc7⟩ := hc9)
      repeat' ((with_reducible rename _ ∧ _ ∧ _ => hc9); obtain ⟨hc8, hc7⟩ := hc9)
      repeat' ((with_reducible rename _ ∧ AllLt _ _ => hc9); obtain ⟨hc8, hc7⟩ := hc9)
      repeat' (first | exact List.forall_mem_nil _ | exact hK.lt | refine List.forall_mem_cons.mpr ⟨(by first | with_reducible assumption | assumption | exact allLt_of (by assumption) | exact allLt_right (by assumption)), ?_⟩)
    · (try ((with_reducible rename _ = true => had); subst had))
      (try ((with_reducible rename _ = false => had); subst had))
      rw [magicRows_eq, List.map_append]
      refine DatAll.append (DatAll.mono (fun p hp => List.mem_append.mpr (.inr hp)) hD) ?_
      (repeat' split)
      all_goals first
        | (exfalso; omega)
        | (exfalso; contradiction)
        | (repeat' (first | exact DatAll.nil | refine DatAll.cons (row_mk (by k_mem)) ?_))
  · (with_reducible rename MagicOk _ _ _ _ => hM)
    have hg : QRows d (magicRows _ _ _) := .inr ⟨_, _, _, hM, by omega, rfl⟩
    (with_reducible rename News _ _ _ (_ :: _) => nE9)
    (try simp only [List.push_toArray, List.append_assoc, List.cons_append, List.nil_append] at nE9)
    (with_reducible rename RKeep _ _ _ => hK)
    (with_reducible rename DatAll _ _ _ => hD)
    refine rows_end hret ([_, _, _, _, _, _] ++ _) (by k_asm) nE9 (by k_mem) ?_ ?_ hg ?_
    · repeat' (first | exact List.forall_mem_nil _ | exact fun p hp e => absurd e (hK.ne p hp) | refine List.forall_mem_cons.mpr ⟨fun e => (by first | rfl | exact absurd e (by refine neN ?_; dsimp only; omega)), ?_⟩)
    · repeat' ((with_reducible rename _ ∧ AllLt _ _ => hc9); obtain ⟨hc8, hc7⟩ := hc9)
      repeat' ((with_reducible rename _ ∧ _ ∧ _ => hc9); obtain ⟨hc8, hc7⟩ := hc9)
      repeat' ((with_reducible rename _ ∧ AllLt _ _ => hc9); obtain ⟨hc8, hc7⟩ := hc9)
      repeat' (first | exact List.forall_mem_nil _ | exact hK.lt | refine List.forall_mem_cons.mpr ⟨(by first | with_reducible assumption | assumption | exact allLt_of (by assumption) | exact allLt_right (by assumption)), ?_⟩)
    · (try ((with_reducible rename _ = true => had); subst had))
      (try ((with_reducible rename _ = false => had); subst had))
      rw [magicRows_eq, List.map_append]
      refine DatAll.append (DatAll.mono (fun p hp => List.mem_append.mpr (.inr hp)) hD) ?_
      (repeat' split)
      all_goals first
        | (exfalso; omega)
        | (exfalso; contradiction)
        | (repeat' (first | exact DatAll.nil | refine DatAll.cons (row_mk (by k_mem)) ?_))
  · (with_reducible rename MagicOk _ _ _ _ => hM)
    have hg : QRows d (magicRows _ _ _) := .inr ⟨_, _, _, hM, by omega, rfl⟩
    (with_reducible rename News _ _ _ (_ :: _) => nE9)
    (try simp only [List.push_toArray, List.append_assoc, List.cons_append, List.nil_append] at nE9)
    (with_reducible rename RKeep _ _ _ => hK)
    (with_reducible rename DatAll _ _ _ => hD)
    refine rows_end hret ([_, _, _, _, _] ++ _) (by k_asm) nE9 (by k_mem) ?_ ?_ hg ?_
    · repeat' (first | exact List.forall_mem_nil _ | exact fun p hp e => absurd e (hK.ne p hp) | refine List.forall_mem_cons.mpr ⟨fun e => (by first | rfl | exact absurd e (by refine neN ?_; dsimp only; omega)), ?_⟩)
    · repeat' ((with_reducible rename _ ∧ AllLt _ _ => hc9); obtain ⟨hc8, hc7⟩ := hc9)
      repeat' ((with_reducible rename _ ∧ _ ∧ _ => hc9); obtain ⟨hc8, hc7⟩ := hc9)
      repeat' ((with_reducible rename _ ∧ AllLt _ _ => hc9); obtain ⟨hc8, hc7⟩ := hc9)
      repeat' (first | exact List.forall_mem_nil _ | exact hK.lt | refine List.forall_mem_cons.mpr ⟨(by first | with_reducible assumption | assumption | exact allLt_of (by assumption) | exact allLt_right (by assumption)), ?_⟩)
    · (try ((with_reducible rename _ = true => had); subst had))
      (try ((with_reducible rename _ = false => had); subst had))
      rw [magicRows_eq, List.map_append]
      refine DatAll.append (DatAll.mono (fun p hp => List.mem_append.mpr (.inr hp)) hD) ?_
      (repeat' split)
      all_goals first
        | (exfalso; omega)
        | (exfalso; contradiction)
        | (repeat' (first | exact DatAll.nil | refine DatAll.cons (row_mk (by k_mem)) ?_))
  all_goals (
    (with_reducible rename News _ _ _ (_ :: _) => nE9)
    (try simp only [List.push_toArray, List.cons_append, List.nil_append] at nE9)
    first | refine rows_post [_, _, _, _, _, _] (by k_asm) nE9 (by k_mem) ?_ ?_ ?_ | refine rows_post [_, _, _, _, _, _, _] (by k_asm) nE9 (by k_mem) ?_ ?_ ?_
    · repeat' (first | exact List.forall_mem_nil _ | refine List.forall_mem_cons.mpr ⟨fun e => (by first | rfl | exact absurd e (by refine neN ?_; dsimp only; omega)), ?_⟩)
    · repeat' ((with_reducible rename _ ∧ AllLt _ _ => hc9); obtain ⟨hc8, hc7⟩ := hc9)
      repeat' ((with_reducible rename _ ∧ _ ∧ _ => hc9); obtain ⟨hc8, hc7⟩ := hc9)
      repeat' ((with_reducible rename _ ∧ AllLt _ _ => hc9); obtain ⟨hc8, hc7⟩ := hc9)
      repeat' (first | exact List.forall_mem_nil _ | refine List.forall_mem_cons.mpr ⟨(by first | with_reducible assumption | assumption | exact allLt_of (by assumption)), ?_⟩)
    · unfold const4
      (repeat' split)
      all_goals first
        | (exfalso; omega)
        | (exfalso; contradiction)
        | (repeat' (first | exact DatAll.nil | refine DatAll.cons (row_mk (by k_mem)) ?_)))

theorem rows_len {l : List (Addr × Obj)} {d : Int} {items : List Value} {rows : List Row} (h : QRows d rows) (k : DatAll l items (rows.map Row.dat)) : items.length ≤ 20 := by
  rw [k.length, List.length_map]
  rcases h with ⟨p, _, _, _, rfl⟩ | ⟨m, ad, s, _, _, rfl⟩
  · simp
  · unfold magicRows const4
    (repeat' split) <;> simp
theorem const5_eq (d : Int) : const5 d = if -65536 ≤ d ∧ d ≤ 65535 then [Row.movi5 d] else if d % (2 * 2147483648) % 65536 ≠ 0 then [.movh5 (d % (2 * 2147483648) / 2 ^ (16 : Int).toNat), .iori5 (d % (2 * 2147483648) % 65536)] else [.movh5 (d % (2 * 2147483648) / 2 ^ (16 : Int).toNat)] := rfl
theorem qrows_len {d : Int} {rows : List Row} (h : QRows d rows) : rows.length ≤ 20 := by
  rcases h with ⟨p, _, _, _, rfl⟩ | ⟨m, ad, s, _, _, rfl⟩
  · simp
  · unfold magicRows const4
    (repeat' split) <;> simp
def IfPost (h₀ : Heap) (L : Addr) (m : Str → Option Value) (led : List (Addr × Obj)) (s₁ : Shared) (Q : Flow → Shared → Prop) (f : Flow) (s₂ : Shared) : Prop :=
  (f = .next ∧ ∃ h' tk, s₂ = { s₁ with heap := h', toks := tk } ∧ Fr h₀ L h' m ∧ News h₀ L h' led) ∨ Q f s₂
theorem join_if {M : Model} {A : Around} {E : Value → Shared → Prop} {s : Shared} {t : Sem Flow} {Q : Flow → Shared → Prop} {h₀ : Heap} {L : Addr} {led : List (Addr × Obj)} {m : Str → Option Value}
    (_F : Fr h₀ L s.heap m) (_N : News h₀ L s.heap led) (h2 : ∀ h' tk, Fr h₀ L h' m → News h₀ L h' led → Q .next { s with heap := h', toks := tk }) (h1 : wpAny M A t (IfPost h₀ L m led s Q) E s) : wpAny M A t Q E s := by
  refine wpAny_mono h1 (fun f s₂ hp => ?_) fun _ _ e => e
  rcases hp with ⟨rfl, h', tk, rfl, F, N⟩ | hp
  · exact h2 h' tk F N
  · exact hp
theorem join58 {M : Model} {A : Around} {E : Value → Shared → Prop} {s : Shared} {t : Sem Flow} {Q : Flow → Shared → Prop} {h₀ : Heap} {L r : Addr} {tl led : List (Addr × Obj)} {o : Obj} {m : Str → Option Value} {d : Int} {q : List Row}
    (_F : Fr h₀ L s.heap m) (_N : News h₀ L s.heap ((r, o) :: (tl ++ led))) (hQ : QRows d q)
    (h2 : ∀ h' tk items n tl, Fr h₀ L h' (fun y => if y = Str.ofString "rows" then some (.ref r) else m y) → News h₀ L h' ((r, listOf (List.toArray items) n) :: (tl ++ led)) → (∀ p ∈ tl ++ led, p.1 ≠ r) → RKeep tl led r → AllLt r led → DatAll tl items ((q ++ const5 d).map Row.dat) → items.length ≤ 22 → Q .next { s with heap := h', toks := tk })
    (h1 : wpAny M A t (RowsPost h₀ L r led (q ++ const5 d) m s) E s) : wpAny M A t Q E s :=
  rows_join (b := 22) (by have := const5_len d; have := qrows_len hQ; rw [List.length_append]; omega) h1 h2
local macro_rules | `(tactic| walk_at "call ref") => `(tactic| (k_here; (with_reducible show wpAny _ _ (call (Value.ref 63) _) _ _ _); k_dflt (refine' Does.useP (by ktr_rel) (quotient_rows_spec _ _ _ _ _ _ _ _ _ _ _ _ _ (by omega) (by omega)) ?_; intro v9 new9 h9 tk9 R9 F9 N9 l9; obtain ⟨r9, items9, n9, tl9, rows9, e9, f9, hne9, hQ9, hD9⟩ := R9; subst e9; subst f9; (have hna9 := rows_apart hne9 (l9 _ (List.Mem.head _))); (have hlr9 := l9 _ (List.Mem.head _)); (replace l9 := fun p hp => l9 p (List.Mem.tail _ hp)); (have hz9 := rows_len hQ9 hD9); (have hK9 := RKeep.mk hne9 l9); simp only [List.cons_append] at N9; (try dsimp only); (try k_fold))))
local macro_rules | `(tactic| walk_at "exec AugAssign") => `(tactic| (k_here; (with_reducible show wpAny _ _ (exec (Stmt.AugAssign _ _ _ (Pos.mk 58 4 _ _)) _) _ _ _); (with_reducible rename Fr _ _ _ _ => kF9); (with_reducible rename News _ _ _ (_ :: _) => kN9); (with_reducible rename QRows _ _ => kM9); refine' join58 kF9 kN9 kM9 ?_ ?_; (intro h9 tk9 items9 n9 tl9 F9 N9 hna9 hK9 hlr9 hD9 hz9; (try dsimp only); (try k_fold)); rotate_left; refine wpAny_AugAssign_Name ?_; (try dsimp only)))
local macro_rules | `(tactic| walk_at "exec If") => `(tactic| (k_here; (with_reducible show wpAny _ _ (exec (Stmt.If _ _ _ (Pos.mk 55 4 _ _)) _) _ _ _); (with_reducible rename Fr _ _ _ _ => kF9); (with_reducible rename News _ _ _ _ => kN9); refine' join_if kF9 kN9 ?_ ?_; (intro h9 tk9 F9 N9; (try dsimp only); (try k_fold)); rotate_left; refine wpAny_If ?_; (try dsimp only)))
theorem rest_rows_spec (w p loose mean mg mb) (led) (d : Int) (t1 t4 t5 t6 t : Tok) (hd1 : 1 ≤ d) (hd2 : d < 2147483648) :
    Does w p loose mean mg mb 70 4 40 led [.int 1 t1, .int 4 t4, .int 5 t5, .int 6 t6, .int d t] (RowsRet (RRows d)) := by
  unfold Does
  k_fill
  intro dp un gd cn cs a ccd cl outer A₀ base h₀ L m s Q E B F X N T hk hdp hun hret
  refine wpAny_call ?_
  k_dflt cell_enter
  k_with_none
  w_top off
  repeat' (
    first
    | (k_unfold; (try dsimp only))
    | ((with_reducible show IfPost _ _ _ _ _ _ Flow.next _); exact .inl ⟨rfl, _, _, rfl, by k_asm, by k_asm⟩)
    | ((with_reducible show IfPost _ _ _ _ _ _ (Flow.ret _) _); refine .inr ?_; (try dsimp only))
    | ((fail_if_success (with_reducible show RowsPost _ _ _ _ _ _ _ _ _)); first | (k_end; wrow_close) | walk1 | (dsimp only; walk1) | (leave1; walk_say "STEP leave1"; try dsimp only) | fail "no step"))
  · (with_reducible rename PowOf _ _ => hP)
    have hg : RRows d [Row.andi41 _] := .inl ⟨_, by assumption, by assumption, (by rcases hP with hP | hP; exact hP.2.2; omega), rfl⟩
    (with_reducible rename News _ _ _ (_ :: _) => nE9)
    refine rows_end hret [_, _] (by k_asm) nE9 (by k_mem) ?_ ?_ hg ?_
    · repeat' (first | exact List.forall_mem_nil _ | refine List.forall_mem_cons.mpr ⟨fun e => (by first | rfl | exact absurd e (by refine neN ?_; dsimp only; omega)), ?_⟩)
    · repeat' ((with_reducible rename _ ∧ AllLt _ _ => hc9); obtain ⟨hc8, hc7⟩ := hc9)
      repeat' ((with_reducible rename _ ∧ _ ∧ _ => hc9); obtain ⟨hc8, hc7⟩ := hc9)
      repeat' ((with_reducible rename _ ∧ AllLt _ _ => hc9); obtain ⟨hc8, hc7⟩ := hc9)
      repeat' (first | exact List.forall_mem_nil _ | refine List.forall_mem_cons.mpr ⟨(by first | with_reducible assumption | assumption | exact allLt_of (by assumption)), ?_⟩)
    · exact DatAll.cons (row_mk (by k_mem)) DatAll.nil
  all_goals (
    (with_reducible rename QRows _ _ => hQ)
    (with_reducible rename DatAll _ _ _ => hD)
    (with_reducible rename RKeep _ _ _ => hK)
    (with_reducible rename News _ _ _ (_ :: _) => nE9)
    (try simp only [List.push_toArray, List.append_assoc, List.cons_append, List.nil_append] at nE9)
    have hg : RRows d _ := .inr ⟨_, hQ, rfl⟩
    first
      | refine rows_post ([_, _, _] ++ _) (by k_asm) nE9 (by k_mem) ?_ ?_ ?_ | refine rows_post ([_, _, _, _] ++ _) (by k_asm) nE9 (by k_mem) ?_ ?_ ?_
      | refine rows_end hret ([_, _, _, _] ++ _) (by k_asm) nE9 (by k_mem) ?_ ?_ hg ?_)
  all_goals first
    | (with_reducible show DatAll _ _ _
       rw [List.map_append]
       refine DatAll.append (DatAll.mono (fun p hp => List.mem_append.mpr (.inr hp)) hD) ?_
       first
         | (unfold const5
            (repeat' split)
            all_goals first
              | (exfalso; omega)
              | (repeat' (first | exact DatAll.nil | refine DatAll.cons (row_mk (by k_mem)) ?_))
            done)
         | ((repeat' (first | exact DatAll.nil | refine DatAll.cons (row_mk (by k_mem)) ?_)); done))
    | ((repeat' (first | exact List.forall_mem_nil _ | exact fun p hp e => absurd e (hK.ne p hp) | refine List.forall_mem_cons.mpr ⟨fun e => (by first | rfl | exact absurd e (by refine neN ?_; dsimp only; omega)), ?_⟩)); done)
    | ((repeat' ((with_reducible rename _ ∧ AllLt _ _ => hc9); obtain ⟨hc8, hc7⟩ := hc9)); (repeat' ((with_reducible rename _ ∧ _ ∧ _ => hc9); obtain ⟨hc8, hc7⟩ := hc9)); (repeat' ((with_reducible rename _ ∧ AllLt _ _ => hc9); obtain ⟨hc8, hc7⟩ := hc9)); (repeat' (first | exact List.forall_mem_nil _ | exact hK.lt | refine List.forall_mem_cons.mpr ⟨(by first | with_reducible assumption | assumption | exact allLt_of (by assumption) | exact allLt_right (by assumption)), ?_⟩)); done)

/-! what the rows compute -/
theorem side_of {x : Int} (h1 : -2147483648 ≤ x) (h2 : x < 2147483648) : side (x % 4294967296) = x := by
  unfold side
  split <;> omega
theorem side_low {x : Int} (h : x < 2147483648) : side x = x := by
  unfold side
  rw [if_neg (by omega)]
theorem exec_const4 (m : Int) (s : St) : okAll (const4 m) s ∧ execAll (const4 m) s = { s with x4 := m % 4294967296 } := by
  have e16 : (2 : Int) ^ (16 : Int).toNat = 65536 := by decide
  unfold const4
  split
  · exact ⟨⟨trivial, trivial⟩, rfl⟩
  · split
    · refine ⟨⟨trivial, trivial, trivial⟩, ?_⟩
      simp only [execAll, Row.exec, e16]
      rw [or_words (by omega) (by omega) (by omega)]
      congr 1
      omega
    · refine ⟨⟨trivial, trivial⟩, ?_⟩
      simp only [execAll, Row.exec, e16]
      congr 1
      omega
theorem exec_const5 (m : Int) (s : St) : okAll (const5 m) s ∧ execAll (const5 m) s = { s with x5 := m % 4294967296 } := by
  have e16 : (2 : Int) ^ (16 : Int).toNat = 65536 := by decide
  unfold const5
  split
  · exact ⟨⟨trivial, trivial⟩, rfl⟩
  · split
    · refine ⟨⟨trivial, trivial, trivial⟩, ?_⟩
      simp only [execAll, Row.exec, e16]
      rw [or_words (by omega) (by omega) (by omega)]
      congr 1
      omega
    · refine ⟨⟨trivial, trivial⟩, ?_⟩
      simp only [execAll, Row.exec, e16]
      congr 1
      omega
theorem MagicOk.low {d m s u : Int} {ad : Bool} (h : MagicOk d m ad s) (h0 : 0 ≤ u) (h1 : u < 2147483648) : 0 ≤ u * m / 4294967296 + (if ad = true then u else 0) ∧ u * m / 4294967296 + (if ad = true then u else 0) < 2147483648 := by
  obtain ⟨M, hs0, hs1, hM, hge, ht, hp, hl, had, hm, _⟩ := h
  have e : u * m / 4294967296 + (if ad = true then u else 0) = u * M / 4294967296 := by
    subst had
    rw [hm]
    by_cases hb : 2147483648 ≤ M
    · simp only [if_pos hb, decide_eq_true hb, if_true]
      have e2 : u * (M - 2 * 2147483648) = u * M - 4294967296 * u := by rw [Int.mul_sub]; omega
      rw [e2]; omega
    · simp only [if_neg hb, decide_eq_false hb]; simp
  rw [e]
  have a1 : 0 ≤ u * M := Int.mul_nonneg h0 (by omega)
  have a2 : u * M ≤ u * 4294967296 := Int.mul_le_mul_of_nonneg_left (by omega) h0
  omega
/-- the state behind the rows of a quotient -/
def Quot (d x : Int) (s : St) : Prop := s.x1 = x % 4294967296 ∧ s.x4 = (x / d) % 4294967296
theorem ediv_range {x d : Int} (hd : 1 ≤ d) (h1 : -2147483648 ≤ x) (h2 : x < 2147483648) : -2147483648 ≤ x / d ∧ x / d < 2147483648 := by
  have hm := Int.emod_def x d
  have hm0 := Int.emod_nonneg x (show d ≠ 0 by omega)
  have hm1 := Int.emod_lt_of_pos x (show 0 < d by omega)
  have e := Int.mul_comm d (x / d)
  by_cases hx : 0 ≤ x
  · have := Int.ediv_nonneg hx (show 0 ≤ d by omega)
    have := Int.ediv_le_self d hx
    omega
  · have a := Int.ediv_neg_of_neg_of_pos (show x < 0 by omega) (show 0 < d by omega)
    have hle : x ≤ x / d := by
      have k := (kbt_below x (show 0 < d by omega)).1
      have := Int.ediv_le_self d (show 0 ≤ -x - 1 by omega)
      omega
    omega
theorem rows_head {x : Int} {s : St} (h1 : -2147483648 ≤ x) (h2 : x < 2147483648) (hs : s.x1 = x % 4294967296) :
    (if x < 0 then (Row.asri51.exec s).x5 = 4294967295 ∧ (Row.xor615.exec (Row.asri51.exec s)).x6 = -x - 1 else (Row.asri51.exec s).x5 = 0 ∧ (Row.xor615.exec (Row.asri51.exec s)).x6 = x) := by
  have e5 : (Row.asri51.exec s).x5 = x / 2147483648 % 4294967296 := by
    show side s.x1 / 2147483648 % 4294967296 = _
    rw [hs, side_of h1 h2]
  have e6 : (Row.xor615.exec (Row.asri51.exec s)).x6 = Builtin.bitXor (x % 4294967296) (x / 2147483648 % 4294967296) := by
    show Builtin.bitXor s.x1 (Row.asri51.exec s).x5 = _
    rw [hs, e5]
  split
  · have e : x / 2147483648 % 4294967296 = 4294967295 := by omega
    rw [e5, e6, e, xor_ones (by omega) (by omega)]
    exact ⟨rfl, by omega⟩
  · have e : x / 2147483648 % 4294967296 = 0 := by omega
    rw [e5, e6, e, bitXor_zero]
    exact ⟨rfl, by omega⟩
theorem magic_rows_law {d m s x : Int} {ad : Bool} (hM : MagicOk d m ad s) (hd1 : 2 ≤ d) (h1 : -2147483648 ≤ x) (h2 : x < 2147483648) (st : St) (hst : st.x1 = x % 4294967296) :
    okAll (magicRows m ad s) st ∧ Quot d x (execAll (magicRows m ad s) st) := by
  obtain ⟨hs0, hs1, hm0, hm1, hadm⟩ := hM.range
  have hh := rows_head h1 h2 hst
  -- u and the mask
  obtain ⟨u, k, hu0, hu1, hx6, hx5, hk⟩ : ∃ u k : Int, 0 ≤ u ∧ u < 2147483648 ∧ (Row.xor615.exec (Row.asri51.exec st)).x6 = u ∧ (Row.xor615.exec (Row.asri51.exec st)).x5 = k ∧ ((x < 0 ∧ k = 4294967295 ∧ u = -x - 1) ∨ (0 ≤ x ∧ k = 0 ∧ u = x)) := by
    by_cases hx : x < 0
    · rw [if_pos hx] at hh
      exact ⟨-x - 1, 4294967295, by omega, by omega, hh.2, hh.1, .inl ⟨hx, rfl, rfl⟩⟩
    · rw [if_neg hx] at hh
      exact ⟨x, 0, by omega, by omega, hh.2, hh.1, .inr ⟨by omega, rfl, rfl⟩⟩
  have hx1 : (Row.xor615.exec (Row.asri51.exec st)).x1 = x % 4294967296 := hst
  generalize hst2 : Row.xor615.exec (Row.asri51.exec st) = s2 at *
  -- the constant
  obtain ⟨c1, c2⟩ := exec_const4 m s2
  generalize hs3 : execAll (const4 m) s2 = s3 at *
  have h3x1 : s3.x1 = x % 4294967296 := by rw [c2]; exact hx1
  have h3x4 : s3.x4 = m % 4294967296 := by rw [c2]
  have h3x5 : s3.x5 = k := by rw [c2]; exact hx5
  have h3x6 : s3.x6 = u := by rw [c2]; exact hx6
  clear c2
  -- the product, its high half
  have hp : side s3.x4 * side s3.x6 = u * m := by rw [h3x4, h3x6, side_of hm0 hm1, side_low hu1, Int.mul_comm]
  have h5 : (Row.geth4.exec (Row.mul446.exec s3)).x4 = u * m / 4294967296 % 4294967296 ∧ (Row.geth4.exec (Row.mul446.exec s3)).x1 = x % 4294967296 ∧ (Row.geth4.exec (Row.mul446.exec s3)).x5 = k ∧ (Row.geth4.exec (Row.mul446.exec s3)).x6 = u := by
    refine ⟨?_, h3x1, h3x5, h3x6⟩
    show side s3.x4 * side s3.x6 / 4294967296 % 4294967296 = _
    rw [hp]
  have ok5 : Row.mul446.ok s3 := by
    show -18446744073709551616 < side s3.x6 ∧ side s3.x6 < 18446744073709551616
    rw [h3x6, side_low hu1]; omega
  obtain ⟨h5a, h5b, h5c, h5d⟩ := h5
  generalize hs5 : Row.geth4.exec (Row.mul446.exec s3) = s5 at *
  -- the addition
  obtain ⟨f0, f1⟩ := hM.low hu0 hu1
  have hq := hM.quot (by omega) hu0 hu1
  generalize hf : u * m / 4294967296 + (if ad = true then u else 0) = f at *
  have h6 : okAll (if ad = true then [Row.add446] else []) s5 ∧ (execAll (if ad = true then [Row.add446] else []) s5).x4 = f ∧ (execAll (if ad = true then [Row.add446] else []) s5).x1 = x % 4294967296 ∧ (execAll (if ad = true then [Row.add446] else []) s5).x5 = k := by
    by_cases had : ad = true
    · rw [if_pos had] at hf ⊢
      refine ⟨⟨trivial, trivial⟩, ?_, h5b, h5c⟩
      show (s5.x4 + s5.x6) % 4294967296 = f
      rw [h5a, h5d]; omega
    · rw [if_neg had] at hf ⊢
      refine ⟨trivial, ?_, h5b, h5c⟩
      show s5.x4 = f
      rw [h5a]; omega
  obtain ⟨ok6, h6a, h6b, h6c⟩ := h6
  generalize hs6 : execAll (if ad = true then [Row.add446] else []) s5 = s6 at *
  -- the shift
  have h7 : okAll (if 0 < s then [Row.asri44 s] else []) s6 ∧ (execAll (if 0 < s then [Row.asri44 s] else []) s6).x4 = u / d ∧ (execAll (if 0 < s then [Row.asri44 s] else []) s6).x1 = x % 4294967296 ∧ (execAll (if 0 < s then [Row.asri44 s] else []) s6).x5 = k := by
    have hud0 := Int.ediv_nonneg hu0 (show 0 ≤ d by omega)
    have hud1 := Int.ediv_le_self d hu0
    by_cases hs : 0 < s
    · rw [if_pos hs]
      refine ⟨⟨⟨by omega, by omega⟩, trivial⟩, ?_, h6b, h6c⟩
      show side s6.x4 / 2 ^ s.toNat % 4294967296 = u / d
      rw [h6a, side_low f1, hq]; omega
    · rw [if_neg hs]
      refine ⟨trivial, ?_, h6b, h6c⟩
      show s6.x4 = u / d
      have e0 : s = 0 := by omega
      rw [h6a, ← hq, e0]
      show f = f / 2 ^ 0
      rw [Int.pow_zero, Int.ediv_one]
  obtain ⟨ok7, h7a, h7b, h7c⟩ := h7
  have e1 : execAll (magicRows m ad s) st = Row.xor445.exec (execAll (if 0 < s then [Row.asri44 s] else []) s6) := by
    show execAll (const4 m ++ _) (Row.xor615.exec (Row.asri51.exec st)) = _
    rw [hst2, execAll_append, hs3]
    show execAll (_ ++ _) (Row.geth4.exec (Row.mul446.exec s3)) = _
    rw [hs5, execAll_append, hs6, execAll_append]
    rfl
  have e2 : okAll (magicRows m ad s) st := by
    refine ⟨trivial, trivial, ?_⟩
    rw [hst2, okAll_append, hs3]
    refine ⟨c1, ok5, trivial, ?_⟩
    rw [hs5, okAll_append, hs6, okAll_append]
    exact ⟨ok6, ok7, trivial, trivial⟩
  refine ⟨e2, ?_⟩
  rw [e1]
  refine ⟨h7b, ?_⟩
  show Builtin.bitXor _ _ = _
  rw [h7a, h7c]
  have hud0 := Int.ediv_nonneg hu0 (show 0 ≤ d by omega)
  have hud1 := Int.ediv_le_self d hu0
  rcases hk with ⟨hx, rfl, rfl⟩ | ⟨hx, rfl, rfl⟩
  · rw [xor_ones hud0 (by omega)]
    have := floor_down x d (by omega)
    omega
  · rw [bitXor_zero]
    omega
theorem q_rows_law {d x : Int} {rows : List Row} (hQ : QRows d rows) (h1 : -2147483648 ≤ x) (h2 : x < 2147483648) (st : St) (hst : st.x1 = x % 4294967296) :
    okAll rows st ∧ Quot d x (execAll rows st) := by
  rcases hQ with ⟨p, hp0, hp1, hd, rfl⟩ | ⟨m, ad, s, hM, hd, rfl⟩
  · refine ⟨⟨⟨hp0, by omega⟩, trivial⟩, hst, ?_⟩
    show side st.x1 / 2 ^ p.toNat % 4294967296 = _
    rw [hst, side_of h1 h2, hd]
  · exact magic_rows_law hM hd h1 h2 st hst
theorem mod_pow {x : Int} {p : Int} (h0 : 0 ≤ p) (h1 : p ≤ 16) : x % 4294967296 % 2 ^ p.toNat = x % 2 ^ p.toNat := by
  have e : (4294967296 : Int) = 2 ^ p.toNat * 2 ^ (32 - p.toNat) := by
    rw [← pow_add_nat]
    have : p.toNat + (32 - p.toNat) = 32 := by omega
    rw [this]; rfl
  rw [e, Int.emod_emod_of_dvd _ ⟨_, rfl⟩]
theorem r_rows_law {d x : Int} {rows : List Row} (hR : RRows d rows) (hd1 : 1 ≤ d) (hd2 : d < 2147483648) (h1 : -2147483648 ≤ x) (h2 : x < 2147483648) (st : St) (hst : st.x1 = x % 4294967296) :
    okAll rows st ∧ (execAll rows st).x1 = x % 4294967296 ∧ (execAll rows st).x4 = x % d := by
  rcases hR with ⟨p, hp0, hp1, hd, rfl⟩ | ⟨q, hQ, rfl⟩
  · refine ⟨⟨trivial, trivial⟩, hst, ?_⟩
    show Builtin.bitAnd st.x1 ((d - 1) % 4294967296) = _
    have e : (d - 1) % 4294967296 = 2 ^ p.toNat - 1 := by rw [← hd]; omega
    rw [hst, e, kbt_mask, mod_pow hp0 hp1, hd]
  · obtain ⟨o1, q1, q4⟩ := q_rows_law hQ h1 h2 st hst
    obtain ⟨o2, e2⟩ := exec_const5 d (execAll q st)
    simp only [okAll_append, execAll_append, e2]
    have ok3 : Row.mul445.ok { execAll q st with x5 := d % 4294967296 } := by
      show -18446744073709551616 < side (d % 4294967296) ∧ side (d % 4294967296) < 18446744073709551616
      rw [side_of (by omega) hd2]; omega
    refine ⟨⟨⟨o1, o2⟩, ok3, trivial, trivial⟩, q1, ?_⟩
    show ((execAll q st).x1 - side (execAll q st).x4 * side (d % 4294967296) % 4294967296) % 4294967296 = x % d
    obtain ⟨r1, r2⟩ := ediv_range hd1 h1 h2
    rw [q1, q4, side_of r1 r2, side_of (by omega) hd2]
    have hm := Int.emod_def x d
    have hm0 := Int.emod_nonneg x (show d ≠ 0 by omega)
    have hm1 := Int.emod_lt_of_pos x (show 0 < d by omega)
    rw [Int.mul_comm] at hm
    generalize x / d * d = y at *
    omega
theorem exact_quot {x d : Int} (hd : 1 ≤ d) : (x - x % d) / d = x / d := by
  have hm := Int.emod_def x d
  have e : x - x % d = d * (x / d) := by omega
  rw [e, Int.mul_ediv_cancel_left _ (by omega)]

theorem stepped_q (w p loose mean mg mb) (led) (r : Addr) (vs : List Value) (n : Nat) (rows : List Row) (d x : Int) (t : Tok) (hl : (r, listOf vs.toArray n) ∈ led) (hd : DatAll led vs (rows.map Row.dat)) (hQ : QRows d rows) (hd1 : 1 ≤ d) (h1 : -2147483648 ≤ x) (h2 : x < 2147483648) :
    Does w p loose mean mg mb 98 2 16 led [.ref r, .int x t] (fun v new => ∃ D t1 t2 c, v = .ref D ∧ new = [(D, ({ cls := .type "tuple", data := .seq #[.int (x / d) t1, .int (x % 4294967296) t2] c } : Obj))]) := by
  obtain ⟨o, e1, e4⟩ := q_rows_law hQ h1 h2 ⟨x % 4294967296, 77, 88, 99, 0⟩ rfl
  have h := law_stepped_spec w p loose mean mg mb led r vs n rows x t hl hd o
  obtain ⟨r1, r2⟩ := ediv_range hd1 h1 h2
  rw [e1, e4, side_of r1 r2] at h
  exact h
theorem stepped_r (w p loose mean mg mb) (led) (r : Addr) (vs : List Value) (n : Nat) (rows : List Row) (d x : Int) (t : Tok) (hl : (r, listOf vs.toArray n) ∈ led) (hd : DatAll led vs (rows.map Row.dat)) (hQ : RRows d rows) (hd1 : 1 ≤ d) (hd2 : d < 2147483648) (h1 : -2147483648 ≤ x) (h2 : x < 2147483648) :
    Does w p loose mean mg mb 98 2 16 led [.ref r, .int x t] (fun v new => ∃ D t1 t2 c, v = .ref D ∧ new = [(D, ({ cls := .type "tuple", data := .seq #[.int (x % d) t1, .int (x % 4294967296) t2] c } : Obj))]) := by
  obtain ⟨o, e1, e4⟩ := r_rows_law hQ hd1 hd2 h1 h2 ⟨x % 4294967296, 77, 88, 99, 0⟩ rfl
  have h := law_stepped_spec w p loose mean mg mb led r vs n rows x t hl hd o
  have hm1 := Int.emod_lt_of_pos x (show 0 < d by omega)
  rw [e1, e4, side_low (by omega)] at h
  exact h
section
variable {prog : Program} {w : World} {A : Around} {E : Value → Shared → Prop} {s : Shared} {Q : Value → Shared → Prop} {h₀ : Heap} {L a b : Addr} {led : List (Addr × Obj)} {a1 a2 b1 b2 : Int} {t1 t2 u1 u2 : Tok} {n k : Nat}
theorem tup_reads (N : News h₀ L s.heap led) (ha : (a, ({ cls := .type "tuple", data := .seq #[.int a1 t1, .int a2 t2] n } : Obj)) ∈ led) : ∃ as, Reads s.heap (.ref a) (.tuple [.int a1, .int a2]) as :=
  ⟨_, reads_tuple_at (N.get ha) rfl rfl (ReadsAll.cons (Reads.int _ _) (ReadsAll.cons (Reads.int _ _) ReadsAll.nil))⟩
theorem tup2_ne (N : News h₀ L s.heap led) (ha : (a, ({ cls := .type "tuple", data := .seq #[.int a1 t1, .int a2 t2] n } : Obj)) ∈ led) (hb : (b, ({ cls := .type "tuple", data := .seq #[.int b1 u1, .int b2 u2] k } : Obj)) ∈ led)
    (e1 : a1 = b1) (e2 : a2 = b2) (hu : A.units + 64 < cLine) (h : Q (.bool false) s) : wpAny (model prog w) A (compareOp .NotEq (.ref a) (.ref b)) Q E s := by
  subst e1; subst e2
  obtain ⟨as, ra⟩ := tup_reads N ha
  obtain ⟨bs, rb⟩ := tup_reads N hb
  refine ne_dataH ra rb rfl rfl hu ?_
  have : PyData.eqv (.tuple [.int a1, .int a2]) (.tuple [.int a1, .int a2]) = true := by simp [PyData.eqv, PyData.eqvAll]
  rw [this]; exact h
theorem tup2_eq (N : News h₀ L s.heap led) (ha : (a, ({ cls := .type "tuple", data := .seq #[.int a1 t1, .int a2 t2] n } : Obj)) ∈ led) (hb : (b, ({ cls := .type "tuple", data := .seq #[.int b1 u1, .int b2 u2] k } : Obj)) ∈ led)
    (e1 : a1 = b1) (e2 : a2 = b2) (hu : A.units + 64 < cLine) (h : Q (.bool true) s) : wpAny (model prog w) A (compareOp .Eq (.ref a) (.ref b)) Q E s := by
  subst e1; subst e2
  obtain ⟨as, ra⟩ := tup_reads N ha
  obtain ⟨bs, rb⟩ := tup_reads N hb
  refine eq_dataH ra rb rfl rfl hu ?_
  have : PyData.eqv (.tuple [.int a1, .int a2]) (.tuple [.int a1, .int a2]) = true := by simp [PyData.eqv, PyData.eqvAll]
  rw [this]; exact h
end
local macro_rules | `(tactic| walk_at "compareOp NotEq ref ref") => `(tactic| (k_here; k_dflt (refine' tup2_ne ?N ?a ?b ?e ?f ?u ?_; (case N => k_asm); (case a => k_mem); (case b => k_mem); (case e => first | rfl | omega); (case f => first | rfl | omega); (case u => ktr_units); k_whole)))
local macro_rules | `(tactic| walk_at "compareOp Eq ref ref") => `(tactic| (k_here; k_dflt (refine' tup2_eq ?N ?a ?b ?e ?f ?u ?_; (case N => k_asm); (case a => k_mem); (case b => k_mem); (case e => first | rfl | omega); (case f => first | rfl | omega); (case u => ktr_units); k_whole)))
local macro_rules | `(tactic| walk_at "call ref") => `(tactic| (k_here; (with_reducible show wpAny _ _ (call (Value.ref 42) _) _ _ _); k_dflt (refine' Does.useP (by ktr_rel) (rest_by_magic_spec _ _ _ _ _ _ _ _ _ _ _ (by omega) (by omega) (by omega) (by omega)) ?_; intro v9 new9 h9 tk9 R9 F9 N9 l9; obtain ⟨t9, e9, f9⟩ := R9; subst e9; subst f9; clear l9; simp only [List.nil_append] at N9; (try dsimp only); (try k_fold))))
local macro_rules | `(tactic| walk_at "call ref") => `(tactic| (k_here; (with_reducible show wpAny _ _ (call (Value.ref 70) _) _ _ _); k_dflt (refine' Does.useP (by ktr_rel) (rest_rows_spec _ _ _ _ _ _ _ _ _ _ _ _ _ (by omega) (by omega)) ?_; intro v9 new9 h9 tk9 R9 F9 N9 l9; obtain ⟨r9, items9, n9, tl9, rows9, e9, f9, hne9, hR9, hD9⟩ := R9; subst e9; subst f9; clear l9 hne9; simp only [List.cons_append] at N9; (try dsimp only); (try k_fold))))
local macro_rules | `(tactic| walk_at "call ref") => `(tactic| (k_here; (with_reducible show wpAny _ _ (call (Value.ref 98) _) _ _ _); k_dflt (first | refine' Does.useP (by ktr_rel) (stepped_q _ _ _ _ _ _ _ _ _ _ _ _ _ _ (by k_mem) (by exact DatAll.mono (fun p hp => by repeat (first | exact List.mem_append.mpr (.inl hp) | refine List.Mem.tail _ ?_)) (by with_reducible assumption)) (by with_reducible assumption) (by omega) (by omega) (by omega)) ?_; intro v9 new9 h9 tk9 R9 F9 N9 l9; obtain ⟨D9, u9, z9, c9, e9, f9⟩ := R9; subst e9; subst f9; clear l9; simp only [List.cons_append, List.nil_append] at N9; (try dsimp only); (try k_fold))))
local macro_rules | `(tactic| walk_at "call ref") => `(tactic| (k_here; (with_reducible show wpAny _ _ (call (Value.ref 98) _) _ _ _); k_dflt (first | refine' Does.useP (by ktr_rel) (stepped_r _ _ _ _ _ _ _ _ _ _ _ _ _ _ (by k_mem) (by exact DatAll.mono (fun p hp => by repeat (first | exact List.mem_append.mpr (.inl hp) | refine List.Mem.tail _ ?_)) (by with_reducible assumption)) (by with_reducible assumption) (by omega) (by omega) (by omega) (by omega)) ?_; intro v9 new9 h9 tk9 R9 F9 N9 l9; obtain ⟨D9, u9, z9, c9, e9, f9⟩ := R9; subst e9; subst f9; clear l9; simp only [List.cons_append, List.nil_append] at N9; (try dsimp only); (try k_fold))))
section
local macro_rules | `(tactic| walk_at "exec If") => `(tactic| (k_here; (with_reducible show wpAny _ _ (exec (Stmt.If _ _ _ (Pos.mk 118 4 _ _)) _) _ _ _); (with_reducible rename Fr _ _ _ _ => kF9); (with_reducible rename News _ _ _ _ => kN9); refine' join_if kF9 kN9 ?_ ?_; (intro h9 tk9 F9 N9; (try dsimp only); (try k_fold)); rotate_left; refine wpAny_If ?_; (try dsimp only)))
theorem law_agree_spec (w p loose mean mg mb) (led) (d x : Int) (t u : Tok) (hd1 : 1 ≤ d) (hd2 : d < 2147483648) (hx1 : -2147483648 ≤ x) (hx2 : x < 2147483648) :
    Does w p loose mean mg mb 112 6 160 led [.int d t, .int x u] (fun v new => v = .bool true ∧ new = []) := by
  unfold Does
  k_fill
  intro dp un gd cn cs a ccd cl outer A₀ base h₀ L m s Q E B F X N T hk hdp hun hret
  have hq := exact_quot (x := x) hd1
  refine wpAny_call ?_
  k_dflt cell_enter
  k_with_none
  w_top off
  repeat' (
    first
    | (k_unfold; (try dsimp only))
    | ((with_reducible show IfPost _ _ _ _ _ _ Flow.next _); exact .inl ⟨rfl, _, _, rfl, by k_asm, by k_asm⟩)
    | ((with_reducible show IfPost _ _ _ _ _ _ (Flow.ret _) _); refine .inr ?_; (try dsimp only))
    | (k_end; wrow_close) | walk1 | (dsimp only; walk1) | (leave1; walk_say "STEP leave1"; try dsimp only) | ((show (_ : Value → Shared → Prop) _ _); k_unfold; (try dsimp only)) | fail "no step")
  all_goals first
    | (exfalso; omega)
    | (exfalso; contradiction)
    | exact ret_bool hret rfl (by k_asm) (by k_asm) (by intro p9 hp9; repeat (first | exact hp9 | exact List.mem_append.mpr (.inr hp9) | refine List.mem_append.mpr (.inr ?_) | refine List.Mem.tail _ ?_))
end

abbrev PoolLed (P c : Addr) (spot v : Int) (t1 t2 : Tok) (n : Nat) (cs : List Value) (nc : Nat) (led : List (Addr × Obj)) : List (Addr × Obj) :=
  (P, listOf [Value.ref c, .int spot t1, .int v t2].toArray n) :: (c, listOf cs.toArray nc) :: led
/-- a call of a def that draws from the pool -/
abbrev Draws (w : World) (p : Program) (loose : List Str) (mean : ExcName → Option Value) (mg mb : Str → Option Value) (f : Addr) (dd uu : Nat) (k : Int) (most lid lim : Int) : Prop :=
  ∀ (dp un : Nat) (gd : Option (List Code)) (cn : Str) (cs : Scope) (a : Addr) (ccd : Value) (cl : List (Str × Addr)) (outer : List Env) (A₀ : Around) (base h₀ : Heap) (L : Addr) (m : Str → Option Value) (s : Shared) (Q E : Value → Shared → Prop)
    (P c : Addr) (spot v : Int) (t1 t2 tm : Tok) (n : Nat) (vs : List Value) (ns : List Int) (nc : Nat) (led : List (Addr × Obj)),
    Below A₀ base outer h₀ → Fr h₀ L s.heap m → (hd.heap_39 w.params).In h₀ → News h₀ L s.heap (PoolLed P c spot v t1 t2 n vs nc led) → Top p loose mean mg mb h₀ → cs.kind = .function →
    dp + dd < recursionLimit → un + uu < cLine →
    c ≠ P → (∀ p ∈ led, p.1 ≠ P) → IntsAre vs ns → 1 ≤ ns.length → ns.length ≤ 100 → 0 ≤ spot → spot ≤ lim → 0 ≤ v → v < 1000000000000000000000000000000000000000000000000000000000000 → 1 ≤ most → most ≤ lid →
    (∀ (r : Int) (t : Tok) (spot' v' : Int) (t1' t2' : Tok) (n' : Nat) (h' : Heap) (tk' : Nat), 0 ≤ r → r < most → spot ≤ spot' → spot' ≤ spot + k → 0 ≤ v' → v' < 1000000000000000000000000000000000000000000000000000000000000 →
      Fr h₀ L h' m → News h₀ L h' (PoolLed P c spot' v' t1' t2' n' vs nc led) → Q (.int r t) { s with heap := h', toks := tk' }) →
      wpAny (model PySem.Challenge.rw_pb0308_01.row.prog w) (ktrTop dp un gd cn cs L a ccd cl outer) (call (.ref f) [.ref P, .int most tm]) Q E s

section
variable {prog : Program} {w : World} {A : Around} {E : Value → Shared → Prop} {s : Shared} {h₀ : Heap} {L c : Addr} {led : List (Addr × Obj)} {vs : List Value} {ns : List Int} {nc : Nat} {a : Int} {u : Tok}
theorem cell_item {value slice : PySem.Expr} {Q : Value → Shared → Prop} (N : News h₀ L s.heap led) (hm : (c, listOf vs.toArray nc) ∈ led) (hi : IntsAre vs ns) (hl1 : 1 ≤ ns.length) (hl2 : ns.length ≤ 100) (h : ∀ x t, Q (.int x t) s)
    (hs : subscripted slice false (.ref c) (.int (a % (ns.length : Int)) u) = operate [.ref c, .int (a % (ns.length : Int)) u] (getItem (.ref c) (.int (a % (ns.length : Int)) u)) := by with_unfolding_all rfl) :
    wpAny (model prog w) A (subscriptTail value slice (.ref c) (.int (a % (ns.length : Int)) u)) Q E s := by
  have hl : s.heap.IsList c vs.toArray := ⟨_, N.get hm, rfl, nc, rfl⟩
  have h0 := Int.emod_nonneg a (show (ns.length : Int) ≠ 0 by omega)
  have h1 := Int.emod_lt_of_pos a (show (0 : Int) < (ns.length : Int) by omega)
  have hk : (a % (ns.length : Int)).toNat < ns.length := by omega
  obtain ⟨t, hx⟩ := hi.get _ _ (List.getElem?_eq_getElem hk)
  exact tail_any hl.typeIs slot_list_getitem.lookup (wpAny_getItem_list hl h0 (by omega) (by simpa using hx) (h _ t)) hs
end
local macro_rules | `(tactic| walk_at "subscriptTail Name BinOp ref int") => `(tactic| (k_here; k_dflt (refine' cell_item ?N ?m ?i ?l ?k ?_; (case N => k_asm); (case m => k_mem); (case i => with_reducible assumption); (case l => with_reducible assumption); (case k => with_reducible assumption); k_whole); intro x9 u9))
theorem ediv_keep {w most : Int} (h0 : 0 ≤ w) (h1 : w < 1000000000000000000000000000000000000000000000000000000000000) (hm : 1 ≤ most) : 0 ≤ w / most ∧ w / most < 1000000000000000000000000000000000000000000000000000000000000 :=
  ⟨Int.ediv_nonneg h0 (by omega), Int.lt_of_le_of_lt (Int.ediv_le_self _ h0) h1⟩
theorem News.tail1 {h₀ h : Heap} {L : Addr} {a : Addr × Obj} {l : List (Addr × Obj)} (N : News h₀ L h (a :: l)) : News h₀ L h l := fun p hp => N p (.tail _ hp)
def PoolPost (h₀ : Heap) (L P c : Addr) (vs : List Value) (nc : Nat) (led : List (Addr × Obj)) (most : Int) (tm : Tok) (a : Int) (s₁ : Shared) (f : Flow) (s₂ : Shared) : Prop :=
  f = .next ∧ ∃ h' tk m' spot v t1 t2 n, s₂ = { s₁ with heap := h', toks := tk } ∧ Fr h₀ L h' m' ∧ News h₀ L h' (PoolLed P c spot v t1 t2 n vs nc led) ∧ m' (Str.ofString "pool") = some (.ref P) ∧ m' (Str.ofString "most") = some (.int most tm) ∧ a ≤ spot ∧ spot ≤ a + 1 ∧ 0 ≤ v ∧ v < 1000000000000000000000000000000000000000000000000000000000000
def mostMap (most : Int) (tm : Tok) (P : Addr) (u : Str → Option Value) : Str → Option Value := fun y => if y = Str.ofString "most" then some (.int most tm) else if y = Str.ofString "pool" then some (.ref P) else u y
theorem join_pool {M : Model} {A : Around} {E : Value → Shared → Prop} {s : Shared} {t : Sem Flow} {Q : Flow → Shared → Prop} {h₀ : Heap} {L P c : Addr} {vs : List Value} {nc n : Nat} {led : List (Addr × Obj)} {m : Str → Option Value} {most a v : Int} {tm t1 t2 : Tok}
    (_F : Fr h₀ L s.heap m) (_N : News h₀ L s.heap (PoolLed P c a v t1 t2 n vs nc led)) (_hm : m (Str.ofString "most") = some (.int most tm))
    (h2 : ∀ h' tk (u : Str → Option Value) spot v t1 t2 n, Fr h₀ L h' (mostMap most tm P u) → News h₀ L h' (PoolLed P c spot v t1 t2 n vs nc led) → a ≤ spot → spot ≤ a + 1 → 0 ≤ v → v < 1000000000000000000000000000000000000000000000000000000000000 → Q .next { s with heap := h', toks := tk })
    (h1 : wpAny M A t (PoolPost h₀ L P c vs nc led most tm a s) E s) : wpAny M A t Q E s := by
  refine wpAny_mono h1 (fun f s₂ hp => ?_) fun _ _ e => e
  obtain ⟨rfl, h', tk, m', spot, v, t1, t2, n, rfl, F', N', e1, e2, a1, a2, a3, a4⟩ := hp
  refine h2 h' tk m' spot v t1 t2 n ?_ N' a1 a2 a3 a4
  have e : mostMap most tm P m' = m' := by
    funext y
    unfold mostMap
    by_cases h1 : y = Str.ofString "most"
    · rw [if_pos h1, h1, e2]
    · rw [if_neg h1]
      by_cases h2 : y = Str.ofString "pool"
      · rw [if_pos h2, h2, e1]
      · rw [if_neg h2]
  rw [e]; exact F'
section
local macro_rules | `(tactic| walk_at "exec If") => `(tactic| (k_here; (with_reducible show wpAny _ _ (exec (Stmt.If _ _ _ (Pos.mk 63 4 _ _)) _) _ _ _); (with_reducible rename Fr _ _ _ _ => kF9); (with_reducible rename News _ _ _ _ => kN9); k_dflt (refine' join_pool kF9 kN9 ?h ?_ ?_; (case h => with_unfolding_all rfl)); (intro h9 tk9 u9 sp9 v9 t9 z9 n9 F9 N9 hs9 hs8 hv9 hv8; (dsimp only [PoolLed] at N9); (try dsimp only); (try k_fold)); rotate_left; refine wpAny_If ?_; (try dsimp only)))
theorem law_digit_spec (w p loose mean mg mb) (most : Int) : Draws w p loose mean mg mb 77 1 8 1 most 1048576 1000 := by
  unfold Draws
  k_fill
  intro dp un gd cn cs a ccd cl outer A₀ base h₀ L m s Q E P c spot v t1 t2 tm n vs ns nc led B F X N T hk hdp hun hcP hne hi hl1 hl2 hs0 hs1 hv0 hv1 hm0 hm1 hret
  have hlen : vs.length = ns.length := hi.length
  refine wpAny_call ?_
  k_dflt cell_enter
  k_with_none
  w_top off
  repeat' (
    first
    | (k_unfold; (try dsimp only))
    | ((with_reducible show PoolPost _ _ _ _ _ _ _ _ _ _ _ _ _); exact ⟨rfl, _, _, _, _, _, _, _, _, rfl, by k_asm, (by first | k_asm | exact News.tail1 (by k_asm)), by with_unfolding_all rfl, by with_unfolding_all rfl, by omega, by omega, by omega, by omega⟩)
    | (k_end; wrow_close) | walk1 | (dsimp only; walk1) | (leave1; walk_say "STEP leave1"; try dsimp only) | fail "no step")
  (with_reducible rename News _ _ _ (_ :: _) => nE)
  exact hret _ _ _ _ _ _ _ _ _ (Int.emod_nonneg _ (by omega)) (Int.emod_lt_of_pos _ (by omega)) (by omega) (by omega) (ediv_keep (by omega) (by omega) hm0).1 (ediv_keep (by omega) (by omega) hm0).2 (by k_asm) nE
end

theorem Draws.useP {w : World} {p : Program} {loose : List Str} {mean : ExcName → Option Value} {mg mb : Str → Option Value} {f : Addr} {dd uu : Nat} {k most lid lim : Int}
    {dp un : Nat} {gd : Option (List Code)} {cn : Str} {cs : Scope} {a : Addr} {ccd : Value} {cl : List (Str × Addr)} {outer : List Env} {A₀ : Around} {base h₀ : Heap} {L : Addr} {m : Str → Option Value} {s : Shared} {Q E : Value → Shared → Prop}
    {P c : Addr} {spot v : Int} {t1 t2 tm : Tok} {n : Nat} {vs : List Value} {ns : List Int} {nc : Nat} {led : List (Addr × Obj)}
    (h : Below A₀ base outer h₀ ∧ Fr h₀ L s.heap m ∧ (hd.heap_39 w.params).In h₀ ∧ News h₀ L s.heap (PoolLed P c spot v t1 t2 n vs nc led) ∧ Top p loose mean mg mb h₀ ∧ cs.kind = .function ∧ dp + dd < recursionLimit ∧ un + uu < cLine)
    (h' : (c ≠ P ∧ (∀ p ∈ led, p.1 ≠ P) ∧ IntsAre vs ns ∧ 1 ≤ ns.length ∧ ns.length ≤ 100) ∧ 0 ≤ spot ∧ spot ≤ lim ∧ 0 ≤ v ∧ v < 1000000000000000000000000000000000000000000000000000000000000 ∧ 1 ≤ most ∧ most ≤ lid)
    (D : Draws w p loose mean mg mb f dd uu k most lid lim)
    (ret : ∀ (r : Int) (t : Tok) (spot' v' : Int) (t1' t2' : Tok) (n' : Nat) (h' : Heap) (tk' : Nat), 0 ≤ r → r < most → spot ≤ spot' → spot' ≤ spot + k → 0 ≤ v' → v' < 1000000000000000000000000000000000000000000000000000000000000 →
      Fr h₀ L h' m → News h₀ L h' (PoolLed P c spot' v' t1' t2' n' vs nc led) → Q (.int r t) { s with heap := h', toks := tk' }) :
      wpAny (model PySem.Challenge.rw_pb0308_01.row.prog w) (ktrTop dp un gd cn cs L a ccd cl outer) (call (.ref f) [.ref P, .int most tm]) Q E s :=
  D _ _ _ _ _ _ _ _ _ _ _ _ _ _ _ _ _ P c spot v t1 t2 tm n vs ns nc led h.1 h.2.1 h.2.2.1 h.2.2.2.1 h.2.2.2.2.1 h.2.2.2.2.2.1 h.2.2.2.2.2.2.1 h.2.2.2.2.2.2.2 h'.1.1 h'.1.2.1 h'.1.2.2.1 h'.1.2.2.2.1 h'.1.2.2.2.2 h'.2.1 h'.2.2.1 h'.2.2.2.1 h'.2.2.2.2.1 h'.2.2.2.2.2.1 h'.2.2.2.2.2.2 ret
theorem WhlIf.split {c : Prop} [Decidable c] {T F : Prop} (t : c → T) (f : ¬ c → F) : WhlIf (decide c) T F := by
  by_cases h : c
  · exact WhlIf.yes (decide_eq_true h) (t h)
  · exact WhlIf.no (decide_eq_false h) (f h)
local macro_rules | `(tactic| tb_rel) => `(tactic| exact ⟨by k_asm, by k_asm, by k_asm, by first | k_asm | exact News.tail1 (by k_asm) | exact News.tail1 (News.tail1 (by k_asm)), by k_asm, by first | exact rfl | assumption, by ktr_room, by ktr_units⟩)
local macro_rules | `(tactic| tb_start) => `(tactic| exact ⟨⟨by with_reducible assumption, by with_reducible assumption, by with_reducible assumption, by with_reducible assumption, by with_reducible assumption⟩, by omega, by omega, by omega, by omega, by omega, by omega⟩)
local macro_rules | `(tactic| walk_at "call ref") => `(tactic| (k_here; (with_reducible show wpAny _ _ (call (Value.ref 77) _) _ _ _); k_dflt (refine' Draws.useP (by tb_rel) (by tb_start) (law_digit_spec _ _ _ _ _ _ _) ?_; intro r9 t9 sp9 v9 u9 z9 n9 h9 tk9 hr9 hr8 hs9 hs8 hv9 hv8 F9 N9; (dsimp only [PoolLed] at N9); (try dsimp only); (try k_fold))))
section
local macro_rules | `(tactic| walk_at "exec While") => `(tactic| (k_here; k_dflt (refine whl_start 100 ?_)))
local macro_rules | `(tactic| walk_at "WhlIf") => `(tactic| first | refine WhlIf.yes (decide_eq_true (by omega)) ?_ | refine WhlIf.no (decide_eq_false (by omega)) ?_ | (refine WhlIf.split ?_ ?_ <;> intro hw9))
theorem law_wide_spec (w p loose mean mg mb) (most : Int) : Draws w p loose mean mg mb 84 2 16 2 most 4294967296 900 := by
  unfold Draws
  k_fill
  intro dp un gd cn cs a ccd cl outer A₀ base h₀ L m s Q E P c spot v t1 t2 tm n vs ns nc led B F X N T hk hdp hun hcP hne hi hl1 hl2 hs0 hs1 hv0 hv1 hm0 hm1 hret
  refine wpAny_call ?_
  k_dflt cell_enter
  k_with_none
  w_top off
  k_steps
  all_goals (
    (with_reducible rename News _ _ _ (_ :: _) => nE)
    first
    | exact hret _ _ _ _ _ _ _ _ _ (Int.emod_nonneg _ (by omega)) (Int.emod_lt_of_pos _ (by omega)) (by omega) (by omega) (by assumption) (by assumption) (by k_asm) nE
    | exact hret _ _ _ _ _ _ _ _ _ (Int.emod_nonneg _ (by omega)) (Int.emod_lt_of_pos _ (by omega)) (by omega) (by omega) (by assumption) (by assumption) (by k_asm) (News.tail1 nE))
end

/-! the law's own turns -/
abbrev big60 : Int := 1000000000000000000000000000000000000000000000000000000000000
def TurnPost (h₀ : Heap) (L P c : Addr) (vs : List Value) (nc : Nat) (own : List (Addr × Obj)) (b : Int) (s₁ : Shared) (f : Flow) (s₂ : Shared) : Prop :=
  f = .next ∧ ∃ h' tk m' spot v t1 t2 n, s₂ = { s₁ with heap := h', toks := tk } ∧ Fr h₀ L h' m' ∧ News h₀ L h' (PoolLed P c spot v t1 t2 n vs nc own) ∧ 0 ≤ spot ∧ spot ≤ b ∧ 0 ≤ v ∧ v < 1000000000000000000000000000000000000000000000000000000000000 ∧ m' (Str.ofString "pool") = some (.ref P)
def poolMap (x : Str) (k : Int) (t : Tok) (P : Addr) (u : Str → Option Value) : Str → Option Value := fun y => if y = x then some (.int k t) else if y = Str.ofString "pool" then some (.ref P) else u y
section
variable {prog : Program} {w : World} {A : Around} {E : Value → Shared → Prop} {s : Shared} {env : Env} {h₀ : Heap} {x : Str} {body : List Stmt} {Q : Flow → Shared → Prop}
theorem turns_loop {r P c : Addr} {vs : List Value} {nc : Nat} {m₀ : Str → Option Value} {led : List (Addr × Obj)} {t0 u0 v0 t1 t2 : Tok} {n : Nat}
    (hh : A.handled = none) (hr : IsRange s.heap r 0 5 1 t0 u0 v0) (F : Fr h₀ env.locals s.heap m₀) (N : News h₀ env.locals s.heap (PoolLed P c 0 0 t1 t2 n vs nc led)) (hm : m₀ (Str.ofString "pool") = some (.ref P))
    (turn : ∀ (i : Nat) t spot v t1 t2 n (u : Str → Option Value) (s₁ : Shared) own, i < 5 → (∀ p ∈ own, p.1 ≠ P) → 0 ≤ spot → spot ≤ 10 * (i : Int) → 0 ≤ v → v < 1000000000000000000000000000000000000000000000000000000000000 →
      Fr h₀ env.locals s₁.heap (poolMap x (i : Int) t P u) → News h₀ env.locals s₁.heap (PoolLed P c spot v t1 t2 n vs nc own) →
      wpAny (model prog w) A (execs body env) (TurnPost h₀ env.locals P c vs nc own (10 * (i : Int) + 10) s₁) E s₁)
    (done : ∀ m₁ nx h tk, Fr h₀ env.locals h m₁ → News h₀ env.locals h nx → Q .next { s with heap := h, toks := tk }) :
    wpAny (model prog w) A (pyIter (.ref r)) (fun it s₂ => LoopAtV prog w A h₀ env x body Q E it s₂) E s := by
  refine wpAny_pyIter_range hr (by decide) ?_
  have W : Walks prog w A s.heap.objs.size [s.heap.objs.size] [s.heap.objs.size] 5 (fun i v => i < 5 ∧ ∃ t, v = .int (0 + i * 1) t)
      (fun i h => IsRangeIter h s.heap.objs.size (0 + (i : Nat) * 1) (((5 : Nat) : Int) - (i : Nat)) 1) := (Walks.range hh _ 0 1 5).bound
  refine kdr_loop (fun i m nx => ∃ spot v t1 t2 n, nx = PoolLed P c spot v t1 t2 n vs nc [] ∧ 0 ≤ spot ∧ spot ≤ 10 * (i : Int) ∧ 0 ≤ v ∧ v < 1000000000000000000000000000000000000000000000000000000000000 ∧ m (Str.ofString "pool") = some (.ref P))
    (news := PoolLed P c 0 0 t1 t2 n vs nc []) W (fun _ h => h) (fun _ h => h) ?_ ?_ ?_ ?_ (by have e5 : Builtin.Range.rangeSize 0 5 1 = 5 := (by decide); rw [e5]; exact Heap.get?_push_size _ rfl) (F.push _) (fun p hp => ⟨Heap.get?_push_of_some _ (N p ?_).1, (N p ?_).2⟩) ⟨0, 0, t1, t2, n, rfl, by decide, by decide, by decide, by decide, hm⟩ ?_ ?_
  · intro i h hi b hb
    rw [List.mem_singleton.mp hb]
    exact ⟨_, hi⟩
  · intro hm
    exact absurd F.ns.lt ((List.mem_singleton.mp hm) ▸ Nat.lt_irrefl _)
  · intro b hb
    rw [List.mem_singleton.mp hb]
    exact next_is_new F
  · intro p hp hI
    have hp' : p ∈ PoolLed P c 0 0 t1 t2 n vs nc led := by
      rcases List.mem_cons.mp hp with rfl | hp
      · exact .head _
      · rw [List.mem_singleton.mp hp]; exact .tail _ (.head _)
    exact absurd (Heap.lt_size (N p hp').1) ((List.mem_singleton.mp hI) ▸ Nat.lt_irrefl _)
  · rcases List.mem_cons.mp hp with rfl | hp
    · exact .head _
    · rw [List.mem_singleton.mp hp]; exact .tail _ (.head _)
  · rcases List.mem_cons.mp hp with rfl | hp
    · exact .head _
    · rw [List.mem_singleton.mp hp]; exact .tail _ (.head _)
  · rintro i v m₁ nx h tk own hi ⟨_, t, rfl⟩ hoff ⟨spot, v, t1, t2, n, rfl, hs0, hs1, hv0, hv1, hmp⟩ F₁ N₁
    have e1 : (0 : Int) + (i : Int) * 1 = (i : Int) := by omega
    rw [e1] at F₁
    have hne : ∀ p ∈ own, p.1 ≠ P := fun p hp => hoff p hp P (.head _)
    have hnc : ∀ p ∈ own, p.1 ≠ c := fun p hp => hoff p hp c (.tail _ (.head _))
    have F₂ : Fr h₀ env.locals h (poolMap x (i : Int) t P m₁) := by
      have e : poolMap x (i : Int) t P m₁ = fun y => if y = x then some (.int (i : Int) t) else m₁ y := by
        funext y
        unfold poolMap
        by_cases h1 : y = x
        · rw [if_pos h1, if_pos h1]
        · rw [if_neg h1, if_neg h1]
          by_cases h2 : y = Str.ofString "pool"
          · rw [if_pos h2, h2, hmp]
          · rw [if_neg h2]
      rw [e]; exact F₁
    refine wpAny_mono (turn i t spot v t1 t2 n m₁ { s with heap := h, toks := tk } own hi hne hs0 hs1 hv0 hv1 F₂ N₁) (fun f s₂ p => ?_) fun _ _ e => e
    obtain ⟨rfl, h', tk', m', spot', v', t1', t2', n', rfl, F', N', a1, a2, a3, a4, a5⟩ := p
    refine ⟨h', tk', m', PoolLed P c spot' v' t1' t2' n' vs nc own, PoolLed P c spot' v' t1' t2' n' vs nc [], rfl, F', N', fun p hp => ?_, fun p hp => .tail _ (.tail _ hp), ?_, spot', v', t1', t2', n', rfl, a1, by omega, a3, a4, a5⟩
    · rcases List.mem_cons.mp hp with rfl | hp
      · exact .head _
      · rw [List.mem_singleton.mp hp]; exact .tail _ (.head _)
    · intro p hp b hb
      rcases List.mem_cons.mp hb with rfl | hb
      · exact hne p hp
      · rw [List.mem_singleton.mp hb]; exact hnc p hp
  · rintro m₁ nx h tk _ F₁ N₁
    exact done m₁ nx h tk F₁ N₁
end
/-- what stands behind the choice of a divisor -/
def DivAt (P c : Addr) (vs : List Value) (nc : Nat) (own : List (Addr × Obj)) (b : Int) (m : Str → Option Value) (led : List (Addr × Obj)) : Prop :=
  ∃ d td spot v t1 t2 n, led = PoolLed P c spot v t1 t2 n vs nc own ∧ m (Str.ofString "pool") = some (.ref P) ∧ m (Str.ofString "divisor") = some (.int d td) ∧ 1 ≤ d ∧ d < 2147483648 ∧ 0 ≤ spot ∧ spot ≤ b ∧ 0 ≤ v ∧ v < 1000000000000000000000000000000000000000000000000000000000000
structure TurnCtx (P c : Addr) (vs : List Value) (ns : List Int) (nc : Nat) (own : List (Addr × Obj)) (b : Int) : Prop where
  b50 : b ≤ 100
def JoinPost (h₀ : Heap) (L : Addr) (s₁ : Shared) (K : (Str → Option Value) → List (Addr × Obj) → Prop) (f : Flow) (s₂ : Shared) : Prop :=
  f = .next ∧ ∃ h' tk m' led', s₂ = { s₁ with heap := h', toks := tk } ∧ Fr h₀ L h' m' ∧ News h₀ L h' led' ∧ K m' led'
def divMap (d : Int) (td : Tok) (P : Addr) (u : Str → Option Value) : Str → Option Value := fun y => if y = Str.ofString "divisor" then some (.int d td) else if y = Str.ofString "pool" then some (.ref P) else u y
theorem join_div {M : Model} {A : Around} {E : Value → Shared → Prop} {s : Shared} {t : Sem Flow} {Q : Flow → Shared → Prop} {h₀ : Heap} {L P c : Addr} {vs : List Value} {ns : List Int} {nc : Nat} {own : List (Addr × Obj)} {b : Int} {m : Str → Option Value}
    (F : Fr h₀ L s.heap m) (_hT : TurnCtx P c vs ns nc own b) (h1 : wpAny M A t (JoinPost h₀ L s (DivAt P c vs nc own b)) E s)
    (h2 : ∀ h' tk (u : Str → Option Value) d td spot v t1 t2 n, Fr h₀ L h' (divMap d td P u) → News h₀ L h' (PoolLed P c spot v t1 t2 n vs nc own) → 1 ≤ d → d < 2147483648 → 0 ≤ spot → spot ≤ b → 0 ≤ v → v < 1000000000000000000000000000000000000000000000000000000000000 → Q .next { s with heap := h', toks := tk }) :
    wpAny M A t Q E s := by
  refine wpAny_mono h1 (fun f s₂ hp => ?_) fun _ _ e => e
  obtain ⟨rfl, h', tk, m', led', rfl, F', N', d, td, spot, v, t1, t2, n, rfl, e1, e2, a1, a2, a3, a4, a5, a6⟩ := hp
  refine h2 h' tk m' d td spot v t1 t2 n ?_ N' a1 a2 a3 a4 a5 a6
  have e : divMap d td P m' = m' := by
    funext y
    unfold divMap
    by_cases h1 : y = Str.ofString "divisor"
    · rw [if_pos h1, h1, e2]
    · rw [if_neg h1]
      by_cases h2 : y = Str.ofString "pool"
      · rw [if_pos h2, h2, e1]
      · rw [if_neg h2]
  rw [e]; exact F'
def ExPost (h₀ : Heap) (L P : Addr) (d : Int) (td : Tok) (led : List (Addr × Obj)) (s₁ : Shared) (f : Flow) (s₂ : Shared) : Prop :=
  f = .next ∧ ∃ h' tk m', s₂ = { s₁ with heap := h', toks := tk } ∧ Fr h₀ L h' m' ∧ News h₀ L h' led ∧ m' (Str.ofString "pool") = some (.ref P) ∧ m' (Str.ofString "divisor") = some (.int d td)
def exMap (x : Str) (k : Int) (t : Tok) (d : Int) (td : Tok) (P : Addr) (u : Str → Option Value) : Str → Option Value := fun y => if y = x then some (.int k t) else divMap d td P u y
theorem divMap_eq {d : Int} {td : Tok} {P : Addr} {u : Str → Option Value} (e1 : u (Str.ofString "pool") = some (.ref P)) (e2 : u (Str.ofString "divisor") = some (.int d td)) : divMap d td P u = u := by
  funext y
  unfold divMap
  by_cases h1 : y = Str.ofString "divisor"
  · rw [if_pos h1, h1, e2]
  · rw [if_neg h1]
    by_cases h2 : y = Str.ofString "pool"
    · rw [if_pos h2, h2, e1]
    · rw [if_neg h2]
section
variable {prog : Program} {w : World} {A : Around} {E : Value → Shared → Prop} {s : Shared} {env : Env} {h₀ : Heap} {x : Str} {body : List Stmt} {Q : Flow → Shared → Prop}
theorem tup_loop {T P : Addr} {items : List Value} {k : Nat} {led : List (Addr × Obj)} {m₀ : Str → Option Value} {d : Int} {td : Tok}
    (hh : A.handled = none) (hm : (T, ({ cls := .type "tuple", data := .seq items.toArray k } : Obj)) ∈ led) (hi : ∀ v ∈ items, ∃ x t, v = Value.int x t) (F : Fr h₀ env.locals s.heap m₀) (N : News h₀ env.locals s.heap led)
    (h1 : m₀ (Str.ofString "pool") = some (.ref P)) (h2 : m₀ (Str.ofString "divisor") = some (.int d td))
    (turn : ∀ y t (u : Str → Option Value) (s₁ : Shared) led', Fr h₀ env.locals s₁.heap (exMap x y t d td P u) → News h₀ env.locals s₁.heap led' → wpAny (model prog w) A (execs body env) (ExPost h₀ env.locals P d td led' s₁) E s₁)
    (done : ∀ (u : Str → Option Value) h tk, Fr h₀ env.locals h (divMap d td P u) → News h₀ env.locals h led → Q .next { s with heap := h, toks := tk }) :
    wpAny (model prog w) A (pyIter (.ref T)) (fun it s₂ => LoopAtV prog w A h₀ env x body Q E it s₂) E s := by
  have hoT := (N _ hm).1
  have ht : s.heap.IsTuple T items.toArray := ⟨_, hoT, rfl, k, rfl⟩
  have hne : T ≠ s.heap.objs.size := Nat.ne_of_lt (Heap.lt_size hoT)
  refine wpAny_pyIter_tuple ht ?_
  have W := Walks.tuple (prog := prog) (w := w) hh s.heap.objs.size T hne items.toArray
  refine ⟨_, _, _, items.toArray.size, _, _, m₀, led, (fun _ m₁ nx => nx = led ∧ m₁ (Str.ofString "pool") = some (.ref P) ∧ m₁ (Str.ofString "divisor") = some (.int d td)), rfl, W, ?_, ?_, ?_,
    ⟨⟨_, Heap.get?_push_size _ rfl, rfl, rfl⟩, ⟨_, Heap.get?_push_of_some _ hoT, rfl, k, rfl⟩⟩, F.push _, (fun p hp => ⟨Heap.get?_push_of_some _ (N p hp).1, (N p hp).2⟩), ⟨rfl, h1, h2⟩, ?_, ?_⟩
  · intro hq
    rcases List.mem_cons.mp hq with e | hq
    · exact absurd F.ns.lt (e ▸ Nat.lt_irrefl _)
    · exact (N _ hm).2.1 ((List.mem_singleton.mp hq).symm)
  · intro b hb
    rw [List.mem_singleton.mp hb]
    exact next_is_new F
  · intro p hp hI
    exact absurd (Heap.lt_size (N p hp).1) ((List.mem_singleton.mp hI) ▸ Nat.lt_irrefl _)
  · rintro i v m₁ nx s₁ own ⟨hh', tk', rfl⟩ hin hP ⟨rfl, e1, e2⟩ hoff hown hget hfp hst F₁ N₁
    have hv : v ∈ items := by
      have hP' : items[i]? = some v := by simpa using hP
      exact List.mem_of_getElem? hP'
    obtain ⟨y, t, rfl⟩ := hi v hv
    have e : (fun z => if z = x then some (Value.int y t) else m₁ z) = exMap x y t d td P m₁ := by
      funext z
      unfold exMap
      rw [divMap_eq e1 e2]
    rw [e] at F₁
    refine wpAny_mono (turn y t m₁ _ (own ++ nx) F₁ N₁) (fun f s₂ p => ?_) fun _ _ e => e
    obtain ⟨rfl, h', tk, m', rfl, F', N', a1, a2⟩ := p
    exact LoopStepV.next ⟨rfl, h', tk, m', nx, rfl, F', N', hoff, rfl, a1, a2⟩
  · rintro h' tk m' nx F' N' _ ⟨rfl, e1, e2⟩
    exact done m' h' tk (by rw [divMap_eq e1 e2]; exact F') N'
end

theorem MagicOk.least {d m s : Int} {ad : Bool} (h : MagicOk d m ad s) : s = 0 ∨ Fails d (s - 1) := by
  obtain ⟨M, _, _, _, _, _, _, _, _, _, h⟩ := h
  exact h
theorem MagicOk.sign {d m s : Int} {ad : Bool} (h : MagicOk d m ad s) : ad = decide (m < 0) := by
  have := h.range.2.2.2.2
  by_cases hm : m < 0
  · rw [decide_eq_true hm]; exact this.mpr hm
  · rw [decide_eq_false hm]
    cases ad
    · rfl
    · exact absurd (this.mp rfl) hm
theorem take_len {vs : List Value} {ns : List Int} (_h : IntsAre vs (List.take 40 (ns ++ [0]))) : 1 ≤ (List.take 40 (ns ++ [0])).length ∧ (List.take 40 (ns ++ [0])).length ≤ 100 := by
  rw [List.length_take, List.length_append, List.length_singleton]
  omega
theorem my_pow31 {prog : Program} {w : World} {A : Around} {E : Value → Shared → Prop} {s : Shared} {Q : Value → Shared → Prop} {n : Int} {t u : Tok} (hn : 0 ≤ n) (hn2 : n ≤ 31) (h : ∀ P : Int, P = 2 ^ n.toNat → 1 ≤ P → P ≤ 2147483648 → Q (.int P s.toks) { s with toks := s.toks + 1 }) : wpAny (model prog w) A (binaryOp .Pow (.int 2 t) (.int n u)) Q E s := by
  refine pow_int_small hn (by omega) (by decide) ?_
  refine h _ rfl ?_ ?_
  · have := kbt_pos n.toNat; omega
  · exact pow_le (b := 31) (by omega)
theorem my_ne_same {prog : Program} {w : World} {A : Around} {E : Value → Shared → Prop} {s : Shared} {Q : Value → Shared → Prop} {b : Bool} (h : Q (.bool false) s) : wpAny (model prog w) A (compareOp .NotEq (.bool b) (.bool b)) Q E s := by
  refine ne_bool ?_
  have : (b != b) = false := by simp
  rw [this]; exact h
theorem my_fd_nat {prog : Program} {w : World} {A : Around} {E : Value → Shared → Prop} {s : Shared} {Q : Value → Shared → Prop} {a b : Int} {t u : Tok} (ha : 0 ≤ a) (hb : 0 < b) (h2 : b < 18446744073709551616) (h : ∀ q, q = a / b → 0 ≤ q → q ≤ a → Q (.int q s.toks) { s with toks := s.toks + 1 }) : wpAny (model prog w) A (binaryOp .FloorDiv (.int a t) (.int b u)) Q E s :=
  my_floordiv hb h2 (h _ rfl (Int.ediv_nonneg ha (by omega)) (Int.ediv_le_self _ ha))
theorem TurnCtx.of {h₀ h : Heap} {L P c : Addr} {spot v : Int} {t1 t2 : Tok} {n nc : Nat} {vs : List Value} {ns : List Int} {own : List (Addr × Obj)} {b : Int} (_N : News h₀ L h (PoolLed P c spot v t1 t2 n vs nc own)) (_hi : IntsAre vs ns) (hb : b ≤ 100) : TurnCtx P c vs ns nc own b := ⟨hb⟩
local macro_rules | `(tactic| walk_at "binaryOp Pow int int") => `(tactic| (k_here; first | with_reducible refine pow_2_32 ?_ | with_reducible refine pow_2_31 ?_ | ((with_reducible refine my_pow31 (by omega) (by omega) ?_); intro P' hP1 hP2 hP3)))
local macro_rules | `(tactic| walk_at "compareOp NotEq bool bool") => `(tactic| (k_here; with_reducible refine my_ne_same ?_))
local macro_rules | `(tactic| walk_at "binaryOp FloorDiv int int") => `(tactic| (k_here; (with_reducible refine my_fd_nat (by omega) (by omega) (by omega) ?_); intro q9 hq9 hq8 hq7))
local macro_rules | `(tactic| walk_at "eval Call") => `(tactic| (k_here; k_dflt (refine Call_ ?_)))
local macro_rules | `(tactic| walk_at "exec For Name Tuple cons nil") => `(tactic| (k_here; ((with_reducible rename Fr _ _ _ _ => lF9)); (with_unfolding_all refine' For_invVF lF9 ?k1 ?k2 ?_; (case k1 => exact rfl); (case k2 => exact rfl); k_whole)))
local macro_rules | `(tactic| walk_at "pyIter ref") => `(tactic| (k_here; (with_reducible show wpAny _ _ (pyIter (Value.ref _)) (fun it s₂ => LoopAtV _ _ _ _ _ _ _ _ _ it s₂) _ _); ((with_reducible rename Fr _ _ _ _ => kF9)); ((with_reducible rename News _ _ _ _ => kN9)); k_dflt (refine' tup_loop ?h ?m ?i kF9 kN9 ?a ?b ?_ ?_; (case h => exact rfl); (case m => k_mem); (case i => repeat' (first | exact List.forall_mem_nil _ | refine List.forall_mem_cons.mpr ⟨⟨_, _, rfl⟩, ?_⟩)); (case a => with_unfolding_all rfl); (case b => with_unfolding_all rfl)); (clear kF9 kN9); rotate_left; (intro u9 h9 tk9 F9 N9; (try dsimp only); (try k_fold)); rotate_left; (intro x9 t9 u9 s9 led9 F9 N9); (try k_fold)))
local macro_rules | `(tactic| walk_at "exec If") => `(tactic| (k_here; (first | (with_reducible show wpAny _ _ (exec (Stmt.If _ _ _ (Pos.mk 127 8 _ _)) _) _ _ _) | (with_reducible show wpAny _ _ (exec (Stmt.If _ _ _ (Pos.mk 131 8 _ _)) _) _ _ _)); ((with_reducible rename Fr _ _ _ _ => kF9)); refine' join_div kF9 ?k1 ?_ ?_; (case k1 => with_reducible assumption); rotate_left; (intro h9 tk9 u9 d9 td9 sp9 v9 t9 z9 n9 F9 N9 hd9 hd8 hs9 hs8 hv9 hv8; (dsimp only [PoolLed] at N9); (try dsimp only); (try k_fold)); rotate_left; refine wpAny_If ?_; (try dsimp only)))
local macro_rules | `(tactic| walk_at "call ref") => `(tactic| (k_here; (with_reducible show wpAny _ _ (call (Value.ref 84) _) _ _ _); k_dflt (refine' Draws.useP (by tb_rel) (by tb_start) (law_wide_spec _ _ _ _ _ _ _) ?_; intro r9 t9 sp9 v9 u9 z9 n9 h9 tk9 hr9 hr8 hs9 hs8 hv9 hv8 F9 N9; (dsimp only [PoolLed] at N9); (try dsimp only); (try k_fold))))
local macro_rules | `(tactic| walk_at "call ref") => `(tactic| (k_here; (with_reducible show wpAny _ _ (call (Value.ref 112) _) _ _ _); k_dflt (refine' Does.useP (by ktr_rel) (law_agree_spec _ _ _ _ _ _ _ _ _ _ _ (by omega) (by omega) (by omega) (by omega)) ?_; intro v9 new9 h9 tk9 R9 F9 N9 l9; obtain ⟨e9, f9⟩ := R9; subst e9; subst f9; clear l9; simp only [List.nil_append] at N9; (try dsimp only); (try k_fold))))
local macro_rules | `(tactic| walk_at "call ref") => `(tactic| (k_here; (with_reducible show wpAny _ _ (call (Value.ref 105) _) _ _ _); k_dflt (refine' Does.useP (by ktr_rel) (law_least_spec _ _ _ _ _ _ _ _ _ _ _ (by omega) (by omega) (by omega) (by omega) (by with_reducible assumption)) ?_; intro v9 new9 h9 tk9 R9 F9 N9 l9; obtain ⟨e9, f9⟩ := R9; subst e9; subst f9; clear l9; simp only [List.nil_append] at N9; (try dsimp only); (try k_fold))))
local macro_rules | `(tactic| walk_at "call ref") => `(tactic| (k_here; (with_reducible show wpAny _ _ (call (Value.ref 21) _) _ _ _); k_dflt (refine' Does.useP (by ktr_rel) (magic_of_spec _ _ _ _ _ _ _ _ _ (by omega) (by omega)) ?_; intro v9 new9 h9 tk9 R9 F9 N9 l9; obtain ⟨D9, m9, t9, ad9, s9, u9, c9, e9, f9, hM9⟩ := R9; subst e9; subst f9; (have hMl9 := hM9.least); (have hMs9 := hM9.sign); (have hMr9 := hM9.range); (obtain ⟨hMr1, hMr2, hMr3, hMr4, hMr5⟩ := hMr9); clear hM9 hMr5; subst hMs9; (replace l9 := l9 _ (List.Mem.head _)); simp only [AllLt, and_true] at l9; simp only [List.cons_append, List.nil_append] at N9; (try dsimp only); (try k_fold))))
theorem law_holds : PySem.Challenge.rw_pb0308_01.Holds := hd (by
  k_go0
  all_goals (try k_fold)
  k_with_none
  repeat' (first | (k_unfold; (try dsimp only)) | (k_end; wrow_close) | ((fail_if_success (with_reducible show wpAny _ _ (exec (Stmt.For _ _ _ _ _) _) _ _ _)); walk1) | (dsimp only; walk1) | fail "no step")
  (with_reducible rename IntsAre _ (List.take 40 _) => hI9)
  obtain ⟨hl1, hl2⟩ := take_len hI9
  (with_reducible rename _ < _ ∧ _ < _ ∧ _ < _ => l9)
  have hcP : (_ : Addr) ≠ _ := Nat.ne_of_lt l9.1
  (with_reducible rename Fr _ _ _ _ => F1)
  (with_reducible rename News _ _ _ (_ :: _) => N1)
  refine For_invVF F1 (by rfl) (by rfl) ?_
  repeat' (first | ((fail_if_success (with_reducible show wpAny _ _ (pyIter _) _ _ _)); walk1))
  (with_reducible rename IsRange _ _ _ _ _ _ _ _ => hR)
  (with_reducible rename Fr _ _ _ _ => F2)
  (with_reducible rename News _ _ _ (_ :: _) => N2)
  refine turns_loop rfl hR F2 N2 (by with_unfolding_all rfl) ?_ ?_
  · clear F2 N2 hR
    intro i t spot v t1 t2 n u s₁ own hi hne hs0 hs1 hv0 hv1 F3 N3
    have hT := TurnCtx.of (b := 10 * (i : Int) + 6) N3 hI9 (by omega)
    dsimp only [PoolLed] at N3
    try ((with_reducible rename Ground _ _ _ _ _ _ _ _ _ => z9); clear z9)
    try ((with_reducible rename Glob _ _ _ _ _ _ _ _ => z9); clear z9)
    try ((with_reducible rename Flt.MathXP _ _ _ => z9); clear z9)
    try ((with_reducible rename LooseAre _ _ _ => z9); clear z9)
    try ((with_reducible rename Tables _ _ _ _ => z9); clear z9)
    try ((with_reducible rename TopE _ _ _ _ => z9); clear z9)
    try ((with_reducible rename TopW _ _ _ => z9); clear z9)
    try ((with_reducible rename BMod _ _ _ _ _ => z9); clear z9)
    try ((with_reducible rename Dflts _ _ _ _ _ _ => z9); clear z9)
    try ((with_reducible rename Spec.Shape.has _ _ = true => z9); clear z9)
    try ((with_reducible rename PyData.layable0 _ = true => z9); clear z9)
    try ((with_reducible rename WShape.hasAll _ _ _ = true => z9); clear z9)
    try ((with_reducible rename WData.layableAll _ = true => z9); clear z9)
    try ((with_reducible rename PyData.layableAll0 _ = true => z9); clear z9)
    try ((with_reducible rename ReadsAll _ _ _ _ => z9); clear z9)
    try ((with_reducible rename ReadsAllW _ _ _ _ _ _ => z9); clear z9)
    try ((with_reducible rename Well _ _ _ _ => z9); clear z9)
    try ((with_reducible rename Reads _ _ _ _ => z9); clear z9)
    try ((with_reducible rename ¬ _ < _ => z9); clear z9)
    try ((with_reducible rename IntsAre _ (_ ++ [0]) => z9); clear z9)
    try ((with_reducible rename _ = min 40 _ => z9); clear z9)
    try ((with_reducible rename _ ≤ List.length (_ ++ [0]) => z9); clear z9)
    clear l9
    repeat' (
      first
      | (k_unfold; (try dsimp only))
      | ((with_reducible show JoinPost _ _ _ _ _ _); first | exact ⟨rfl, _, _, _, _, rfl, by k_asm, (by first | k_asm | exact News.tail1 (by k_asm)), _, _, _, _, _, _, _, rfl, by with_unfolding_all rfl, by with_unfolding_all rfl, by omega, by omega, by omega, by omega, by omega, by omega⟩ | (exfalso; omega))
      | ((with_reducible show TurnPost _ _ _ _ _ _ _ _ _ _ _); exact ⟨rfl, _, _, _, _, _, _, _, _, rfl, by k_asm, (by first | k_asm | exact News.tail1 (by k_asm)), by omega, by omega, by omega, by omega, by with_unfolding_all rfl⟩)
      | ((with_reducible show ExPost _ _ _ _ _ _ _ _ _); exact ⟨rfl, _, _, _, rfl, by k_asm, by k_asm, by with_unfolding_all rfl, by with_unfolding_all rfl⟩)
      | (k_end; wrow_close) | walk1 | (dsimp only; walk1) | (leave1; walk_say "STEP leave1"; try dsimp only) | ((show (_ : Value → Shared → Prop) _ _); k_unfold; (try dsimp only)) | fail "no step")
  · intro m9 nx9 h9 tk9 F3 N3
    dsimp only
    k_steps)

end Mine
set_option maxRecDepth 100000 in
set_option maxHeartbeats 8000000 in
theorem PySem.Challenge.cw_pb0308_01_holds : PySem.Challenge.rw_pb0308_01.Holds :=
  Mine.law_holds

