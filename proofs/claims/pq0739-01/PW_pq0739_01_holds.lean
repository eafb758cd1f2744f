import PyProof.Rows.All
import Wide.All
import OpenK.AllK
import Wide.FinOn
import Lean
import PySem.Challenge.RW_pq0739_01
open PySem PySem.W PyProof.Rows
set_option Elab.async false
-- the head: the text's top
namespace Mine
open_top hd for PySem.Challenge.rw_pq0739_01
end Mine
-- the values and the plain laws
namespace Mine
@[irreducible] def movV (_ y : Int) : Int := y
theorem movV_def (x y : Int) : y = movV x y := by unfold movV; rfl
@[irreducible] def addV (x y : Int) : Int := Builtin.bitAnd (x + y) 4294967295
theorem addV_def (x y : Int) : Builtin.bitAnd (x + y) 4294967295 = addV x y := by unfold addV; rfl
@[irreducible] def subV (x y : Int) : Int := Builtin.bitAnd (x - y) 4294967295
theorem subV_def (x y : Int) : Builtin.bitAnd (x - y) 4294967295 = subV x y := by unfold subV; rfl
@[irreducible] def mulV (x y : Int) : Int := Builtin.bitAnd ((x - 2 * Builtin.bitAnd x 2147483648) * (y - 2 * Builtin.bitAnd y 2147483648)) 4294967295
theorem mulV_def (x y : Int) : Builtin.bitAnd ((x - 2 * Builtin.bitAnd x 2147483648) * (y - 2 * Builtin.bitAnd y 2147483648)) 4294967295 = mulV x y := by unfold mulV; rfl
@[irreducible] def lslV (x y : Int) : Int := Builtin.bitAnd (x * 2 ^ (Builtin.bitAnd y 31).toNat) 4294967295
theorem lslV_def (x y : Int) : Builtin.bitAnd (x * 2 ^ (Builtin.bitAnd y 31).toNat) 4294967295 = lslV x y := by unfold lslV; rfl
@[irreducible] def asrV (x y : Int) : Int := Builtin.bitAnd ((x - 2 * Builtin.bitAnd x 2147483648).fdiv (2 ^ (Builtin.bitAnd y 31).toNat)) 4294967295
theorem asrV_def (x y : Int) : Builtin.bitAnd ((x - 2 * Builtin.bitAnd x 2147483648).fdiv (2 ^ (Builtin.bitAnd y 31).toNat)) 4294967295 = asrV x y := by unfold asrV; rfl
@[irreducible] def rorV (x y : Int) : Int := Builtin.bitAnd (Builtin.bitOr (x.fdiv (2 ^ (Builtin.bitAnd y 31).toNat)) (x * 2 ^ (32 - Builtin.bitAnd y 31).toNat)) 4294967295
theorem rorV_def (x y : Int) : Builtin.bitAnd (Builtin.bitOr (x.fdiv (2 ^ (Builtin.bitAnd y 31).toNat)) (x * 2 ^ (32 - Builtin.bitAnd y 31).toNat)) 4294967295 = rorV x y := by unfold rorV; rfl
@[irreducible] def andV (x y : Int) : Int := Builtin.bitAnd x y
theorem andV_def (x y : Int) : Builtin.bitAnd x y = andV x y := by unfold andV; rfl
@[irreducible] def annV (x y : Int) : Int := Builtin.bitAnd x (Builtin.bitXor y 4294967295)
theorem annV_def (x y : Int) : Builtin.bitAnd x (Builtin.bitXor y 4294967295) = annV x y := by unfold annV; rfl
@[irreducible] def iorV (x y : Int) : Int := Builtin.bitOr x y
theorem iorV_def (x y : Int) : Builtin.bitOr x y = iorV x y := by unfold iorV; rfl
@[irreducible] def xorV (x y : Int) : Int := Builtin.bitXor x y
theorem xorV_def (x y : Int) : Builtin.bitXor x y = xorV x y := by unfold xorV; rfl

theorem bA (a b : Nat) : Builtin.bitAnd (a : Int) (b : Int) = ((a &&& b : Nat) : Int) := by
  rw [bitAnd_pp (Int.natCast_nonneg a) (Int.natCast_nonneg b), Int.toNat_natCast, Int.toNat_natCast]
theorem nat_xor_and (m : Nat) : ∀ n : Nat, (m ^^^ n) + 2 * (m &&& n) = m + n := by
  induction m using Nat.strongRecOn with
  | ind m ih =>
    intro n
    by_cases h0 : m = 0
    · subst h0; simp
    · have ih' := ih (m / 2) (by omega) (n / 2)
      rw [← Nat.xor_div_two, ← Nat.and_div_two] at ih'
      have o1 := @Nat.xor_mod_two_eq_one m n
      have a1 := @Nat.and_mod_two_eq_one m n
      omega
theorem bO (a b : Nat) : Builtin.bitOr (a : Int) (b : Int) = ((a ||| b : Nat) : Int) := by
  rw [bitOr_and, bA]
  have h := nat_or_add_and a b
  omega
theorem bX (a b : Nat) : Builtin.bitXor (a : Int) (b : Int) = ((a ^^^ b : Nat) : Int) := by
  rw [bitXor_and, bA]
  have h := nat_xor_and a b
  omega
theorem nat_of {x : Int} (h : 0 ≤ x ∧ x < 4294967296) : ∃ a : Nat, x = (a : Int) ∧ a < 2 ^ 32 := ⟨x.toNat, by omega, by omega⟩
theorem and_r {x y : Int} (_ : 0 ≤ x ∧ x < 4294967296) (hy : 0 ≤ y ∧ y < 4294967296) : 0 ≤ andV x y ∧ andV x y < 4294967296 := by
  rw [← andV_def]
  have h := bitAnd_range x hy.1
  omega
theorem ior_r {x y : Int} (hx : 0 ≤ x ∧ x < 4294967296) (hy : 0 ≤ y ∧ y < 4294967296) : 0 ≤ iorV x y ∧ iorV x y < 4294967296 := by
  obtain ⟨a, rfl, ha⟩ := nat_of hx
  obtain ⟨b, rfl, hb⟩ := nat_of hy
  rw [← iorV_def, bO]
  have h := Nat.or_lt_two_pow ha hb
  omega
theorem xor_r {x y : Int} (hx : 0 ≤ x ∧ x < 4294967296) (hy : 0 ≤ y ∧ y < 4294967296) : 0 ≤ xorV x y ∧ xorV x y < 4294967296 := by
  obtain ⟨a, rfl, ha⟩ := nat_of hx
  obtain ⟨b, rfl, hb⟩ := nat_of hy
  rw [← xorV_def, bX]
  have h := Nat.xor_lt_two_pow ha hb
  omega
theorem ann_val {x y : Int} (hy : 0 ≤ y ∧ y < 4294967296) : annV x y = Builtin.bitAnd x (4294967295 - y) := by
  rw [← annV_def, bitXor_and, bitAnd_m32]
  congr 1
  omega
theorem ann_r {x y : Int} (_ : 0 ≤ x ∧ x < 4294967296) (hy : 0 ≤ y ∧ y < 4294967296) : 0 ≤ annV x y ∧ annV x y < 4294967296 := by
  rw [ann_val hy]
  have h := bitAnd_range x (show 0 ≤ 4294967295 - y by omega)
  omega
theorem mov_r {x y : Int} (_ : 0 ≤ x ∧ x < 4294967296) (hy : 0 ≤ y ∧ y < 4294967296) : 0 ≤ movV x y ∧ movV x y < 4294967296 := by
  rw [← movV_def]
  exact hy
theorem add_r {x y : Int} (_ : 0 ≤ x ∧ x < 4294967296) (_ : 0 ≤ y ∧ y < 4294967296) : 0 ≤ addV x y ∧ addV x y < 4294967296 := by
  rw [← addV_def, bitAnd_m32]
  omega
theorem sub_r {x y : Int} (_ : 0 ≤ x ∧ x < 4294967296) (_ : 0 ≤ y ∧ y < 4294967296) : 0 ≤ subV x y ∧ subV x y < 4294967296 := by
  rw [← subV_def, bitAnd_m32]
  omega
theorem mul_r {x y : Int} (_ : 0 ≤ x ∧ x < 4294967296) (_ : 0 ≤ y ∧ y < 4294967296) : 0 ≤ mulV x y ∧ mulV x y < 4294967296 := by
  rw [← mulV_def, bitAnd_m32]
  omega
theorem lsl_r {x y : Int} (_ : 0 ≤ x ∧ x < 4294967296) (_ : 0 ≤ y ∧ y < 4294967296) : 0 ≤ lslV x y ∧ lslV x y < 4294967296 := by
  rw [← lslV_def, bitAnd_m32]
  omega
theorem asr_r {x y : Int} (_ : 0 ≤ x ∧ x < 4294967296) (_ : 0 ≤ y ∧ y < 4294967296) : 0 ≤ asrV x y ∧ asrV x y < 4294967296 := by
  rw [← asrV_def, bitAnd_m32]
  omega
theorem ror_r {x y : Int} (_ : 0 ≤ x ∧ x < 4294967296) (_ : 0 ≤ y ∧ y < 4294967296) : 0 ≤ rorV x y ∧ rorV x y < 4294967296 := by
  rw [← rorV_def, bitAnd_m32]
  omega
/-- a word out of the script -/
@[irreducible] def wordV (ns : List Int) (i : Int) : Int :=
  if (ns.getD i.toNat (1 - 3 * i)).fmod 5 = 4 then (2147483646 + ((ns.getD i.toNat (1 - 3 * i)).fdiv 5).fmod 4).fmod 4294967296 else (ns.getD i.toNat (1 - 3 * i)).fmod 4294967296
theorem word_r (ns : List Int) (i : Int) : 0 ≤ wordV ns i ∧ wordV ns i < 4294967296 := by
  unfold wordV
  generalize ns.getD i.toNat (1 - 3 * i) = v
  simp only [Int.fmod_eq_emod_of_nonneg _ (show (0 : Int) ≤ 4294967296 by decide)]
  split <;> omega
end Mine
namespace Mine
theorem wi (ns : List Int) {i : Int} (h0 : 0 ≤ i) (h : i < (ns.length : Int)) : ns.getD i.toNat (1 - 3 * i) = ns.getD i.toNat 0 := by
  have h' : i.toNat < ns.length := by omega
  simp [List.getD, h']
theorem wo (ns : List Int) {i : Int} (h0 : 0 ≤ i) (h : ¬ i < (ns.length : Int)) : ns.getD i.toNat (1 - 3 * i) = 1 - 3 * i := by
  have h' : ns.length ≤ i.toNat := by omega
  simp [List.getD, h']
theorem word1 {ns : List Int} {i : Int} (h0 : 0 ≤ i) (h : i < (ns.length : Int)) (c : (ns.getD i.toNat 0).fmod 5 = 4) : (2 ^ Int.toNat 31 - 2 + ((ns.getD i.toNat 0).fdiv 5).fmod 4).fmod (2 ^ Int.toNat 32) = wordV ns i := by
  unfold wordV; rw [wi ns h0 h, if_pos c]; rfl
theorem word2 {ns : List Int} {i : Int} (h0 : 0 ≤ i) (h : i < (ns.length : Int)) (c : (ns.getD i.toNat 0).fmod 5 ≠ 4) : (ns.getD i.toNat 0).fmod (2 ^ Int.toNat 32) = wordV ns i := by
  unfold wordV; rw [wi ns h0 h, if_neg c]; rfl
theorem word3 {ns : List Int} {i : Int} (h0 : 0 ≤ i) (h : ¬ i < (ns.length : Int)) (c : (1 - 3 * i).fmod 5 = 4) : (2 ^ Int.toNat 31 - 2 + ((1 - 3 * i).fdiv 5).fmod 4).fmod (2 ^ Int.toNat 32) = wordV ns i := by
  unfold wordV; rw [wo ns h0 h, if_pos c]; rfl
theorem word4 {ns : List Int} {i : Int} (h0 : 0 ≤ i) (h : ¬ i < (ns.length : Int)) (c : (1 - 3 * i).fmod 5 ≠ 4) : (1 - 3 * i).fmod (2 ^ Int.toNat 32) = wordV ns i := by
  unfold wordV; rw [wo ns h0 h, if_neg c]; rfl
end Mine
namespace Mine
@[irreducible] def quoV (x y : Int) : Int := Builtin.bitAnd ((x - 2 * Builtin.bitAnd x 2147483648).fdiv (y - 2 * Builtin.bitAnd y 2147483648)) 4294967295
theorem quoV_def (x y : Int) : Builtin.bitAnd ((x - 2 * Builtin.bitAnd x 2147483648).fdiv (y - 2 * Builtin.bitAnd y 2147483648)) 4294967295 = quoV x y := by unfold quoV; rfl
@[irreducible] def restV (x y : Int) : Int := (x - 2 * Builtin.bitAnd x 2147483648).fmod (y - 2 * Builtin.bitAnd y 2147483648)
theorem restV_def (x y : Int) : (x - 2 * Builtin.bitAnd x 2147483648).fmod (y - 2 * Builtin.bitAnd y 2147483648) = restV x y := by unfold restV; rfl
theorem top_bit (y : Int) : Builtin.bitAnd y 2147483648 = (y / 2147483648 % 2) * 2147483648 := kbt_bit y 31
theorem quo_r (x y : Int) : 0 ≤ quoV x y ∧ quoV x y < 4294967296 := by
  rw [← quoV_def, bitAnd_m32]
  omega
theorem rest_r {x y : Int} (h0 : 0 < y) (h1 : y < 2147483648) : 0 ≤ restV x y ∧ restV x y < y := by
  have e : y - 2 * Builtin.bitAnd y 2147483648 = y := by rw [top_bit]; omega
  rw [← restV_def, e, Int.fmod_eq_emod_of_nonneg _ (Int.le_of_lt h0)]
  exact ⟨Int.emod_nonneg _ (by omega), Int.emod_lt_of_pos _ h0⟩
end Mine
namespace Mine
/-- an item of the script, or a default -/
@[irreducible] def pickV (ns : List Int) (k d : Int) : Int := if k < (ns.length : Int) then ns.getD k.toNat 0 else d
theorem pick_in {ns : List Int} {k d : Int} (h : k < (ns.length : Int)) : pickV ns k d = ns.getD k.toNat 0 := by unfold pickV; rw [if_pos h]
theorem pick_out {ns : List Int} {k d : Int} (h : ¬ k < (ns.length : Int)) : pickV ns k d = d := by unfold pickV; rw [if_neg h]
theorem fmod32 (x : Int) : 0 ≤ x.fmod 32 ∧ x.fmod 32 < 32 := ⟨Int.fmod_nonneg_of_pos x (by decide), Int.fmod_lt_of_pos x (by decide)⟩
end Mine

namespace Mine
theorem big : (2 : Int) ^ Int.toNat 32 - 1 = 4294967295 := by decide
theorem nef {a b : Int} (h : a = b) : (a != b) = false := by simp [h]
theorem add_val (x y : Int) : addV x y = (x + y) % 4294967296 := by rw [← addV_def, bitAnd_m32]
theorem sub_val (x y : Int) : subV x y = (x - y) % 4294967296 := by rw [← subV_def, bitAnd_m32]
theorem sg_mod (x : Int) : (x - 2 * Builtin.bitAnd x 2147483648) % 4294967296 = x % 4294967296 := by
  rw [top_bit]
  omega
theorem mul_val (x y : Int) : mulV x y = (x * y) % 4294967296 := by
  rw [← mulV_def, bitAnd_m32, Int.mul_emod, sg_mod, sg_mod, ← Int.mul_emod]
theorem mmL (a b : Int) : (a % 4294967296 * b) % 4294967296 = (a * b) % 4294967296 := by
  rw [Int.mul_emod, Int.emod_emod, ← Int.mul_emod]
theorem mmR (a b : Int) : (a * (b % 4294967296)) % 4294967296 = (a * b) % 4294967296 := by
  rw [Int.mul_comm, mmL, Int.mul_comm]
theorem add_c (x y : Int) : addV x y = addV y x := by rw [add_val, add_val, Int.add_comm]
theorem add_a (x y z : Int) : addV (addV x y) z = addV x (addV y z) := by
  simp only [add_val]
  omega
theorem mul_c (x y : Int) : mulV x y = mulV y x := by rw [mul_val, mul_val, Int.mul_comm]
theorem mul_a (x y z : Int) : mulV (mulV x y) z = mulV x (mulV y z) := by
  simp only [mul_val]
  rw [mmL, mmR, Int.mul_assoc]
theorem mul_d (x y z : Int) : mulV x (addV y z) = addV (mulV x y) (mulV x z) := by
  simp only [mul_val, add_val]
  rw [mmR, Int.mul_add]
  omega
theorem and_c (x y : Int) : andV x y = andV y x := by rw [← andV_def, ← andV_def, bitAnd_comm]
theorem ior_c (x y : Int) : iorV x y = iorV y x := by rw [← iorV_def, ← iorV_def, bitOr_comm]
theorem xor_c (x y : Int) : xorV x y = xorV y x := by
  rw [← xorV_def, ← xorV_def, bitXor_and, bitXor_and, bitAnd_comm]
  omega
section
variable {x y z : Int} (hx : 0 ≤ x ∧ x < 4294967296) (hy : 0 ≤ y ∧ y < 4294967296) (hz : 0 ≤ z ∧ z < 4294967296)
include hx hy hz
theorem and_a : andV (andV x y) z = andV x (andV y z) := by
  obtain ⟨a, rfl, _⟩ := nat_of hx
  obtain ⟨b, rfl, _⟩ := nat_of hy
  obtain ⟨c, rfl, _⟩ := nat_of hz
  simp only [← andV_def, bA, Nat.and_assoc]
theorem ior_a : iorV (iorV x y) z = iorV x (iorV y z) := by
  obtain ⟨a, rfl, _⟩ := nat_of hx
  obtain ⟨b, rfl, _⟩ := nat_of hy
  obtain ⟨c, rfl, _⟩ := nat_of hz
  simp only [← iorV_def, bO, Nat.or_assoc]
theorem xor_a : xorV (xorV x y) z = xorV x (xorV y z) := by
  obtain ⟨a, rfl, _⟩ := nat_of hx
  obtain ⟨b, rfl, _⟩ := nat_of hy
  obtain ⟨c, rfl, _⟩ := nat_of hz
  simp only [← xorV_def, bX, Nat.xor_assoc]
end
theorem gap_add {x y : Int} (hx : 0 ≤ x ∧ x < 4294967296) : addV (subV x y) y = x := by
  simp only [add_val, sub_val]
  omega
theorem sub_neg (x y : Int) : subV 0 (subV x y) = subV y x := by
  simp only [sub_val]
  omega
theorem div_back {x y : Int} (hx : 0 ≤ x ∧ x < 4294967296) (hy : 0 < y ∧ y < 2147483648) : addV (mulV (quoV x y) y) (restV x y) = x := by
  have e : y - 2 * Builtin.bitAnd y 2147483648 = y := by rw [top_bit]; omega
  have hs := sg_mod x
  rw [add_val, mul_val, ← quoV_def, ← restV_def, bitAnd_m32, e, mmL]
  generalize x - 2 * Builtin.bitAnd x 2147483648 = s at *
  have h := (fdiv_fmod_facts s y).1
  omega
theorem dbl {x y : Int} : addV (xorV x y) (lslV (andV x y) 1) = addV x y := by
  have e : (Builtin.bitAnd 1 31).toNat = 1 := by decide
  rw [add_val, add_val, ← lslV_def, ← xorV_def, ← andV_def, e, bitXor_and, bitAnd_m32]
  omega
theorem ann_top {x B : Int} (hB : B = 4294967295) (hx : 0 ≤ x ∧ x < 4294967296) : annV B x = 4294967295 - x := by
  rw [ann_val hx, hB, bitAnd_comm, bitAnd_m32]
  omega
theorem top_nat {a : Nat} (ha : a < 2 ^ 32) : (4294967295 : Int) - (a : Int) = ((2 ^ 32 - (a + 1) : Nat) : Int) := by omega
theorem ann_dm {x y B : Int} (hB : B = 4294967295) (hx : 0 ≤ x ∧ x < 4294967296) (hy : 0 ≤ y ∧ y < 4294967296) : annV (annV B x) y = annV B (iorV x y) := by
  rw [ann_top hB hx, ann_top hB (ior_r hx hy), ann_val hy, ← iorV_def]
  obtain ⟨a, rfl, ha⟩ := nat_of hx
  obtain ⟨b, rfl, hb⟩ := nat_of hy
  have hc := Nat.or_lt_two_pow ha hb
  rw [bO, top_nat ha, top_nat hb, top_nat hc, bA]
  congr 1
  refine Nat.eq_of_testBit_eq fun i => ?_
  rw [Nat.testBit_and, Nat.testBit_two_pow_sub_succ ha, Nat.testBit_two_pow_sub_succ hb, Nat.testBit_two_pow_sub_succ hc, Nat.testBit_or]
  cases a.testBit i <;> cases b.testBit i <;> cases decide (i < 32) <;> rfl
theorem xor_top {x B : Int} (hB : B = 4294967295) (hx : 0 ≤ x ∧ x < 4294967296) : xorV (annV B x) x = B := by
  obtain ⟨a, rfl, ha⟩ := nat_of hx
  rw [ann_top hB hx, hB, ← xorV_def, bitXor_and, top_nat ha, bA]
  have hz : (2 ^ 32 - (a + 1)) &&& a = 0 := by
    refine Nat.eq_of_testBit_eq fun i => ?_
    rw [Nat.testBit_and, Nat.testBit_two_pow_sub_succ ha, Nat.zero_testBit]
    cases a.testBit i <;> cases decide (i < 32) <;> rfl
  rw [hz]
  omega
theorem cnt_val {c : Int} (hc : 0 ≤ c ∧ c < 32) : Builtin.bitAnd c 31 = c := by
  rw [bitAnd_m5]
  omega
theorem pw (k : Nat) : ((2 ^ k : Nat) : Int) = (2 : Int) ^ k := kbt_cast k
theorem lsl_val {x c : Int} (hc : 0 ≤ c ∧ c < 32) : lslV x c = (x * 2 ^ c.toNat) % 4294967296 := by rw [← lslV_def, cnt_val hc, bitAnd_m32]
theorem lsl_two {x c d : Int} (hc : 0 ≤ c ∧ c < 32) (hd : 0 ≤ d ∧ d < 32) (h : c + d < 32) : lslV (lslV x c) d = lslV x (c + d) := by
  rw [lsl_val hc, lsl_val hd, lsl_val (show 0 ≤ c + d ∧ c + d < 32 by omega), mmL, Int.mul_assoc, ← Int.pow_add]
  congr 3
  omega
theorem asr_val {x c : Int} (hc : 0 ≤ c ∧ c < 32) : asrV x c = ((x - 2 * Builtin.bitAnd x 2147483648) / 2 ^ c.toNat) % 4294967296 := by
  rw [← asrV_def, cnt_val hc, bitAnd_m32, Int.fdiv_eq_ediv_of_nonneg _ (Int.le_of_lt (kbt_pos _))]
theorem sg_of {v : Int} (h : -2147483648 ≤ v ∧ v < 2147483648) : (v % 4294967296) - 2 * Builtin.bitAnd (v % 4294967296) 2147483648 = v := by
  rw [top_bit]
  omega
theorem div_pow_range {v : Int} (h : -2147483648 ≤ v ∧ v < 2147483648) (k : Nat) : -2147483648 ≤ v / 2 ^ k ∧ v / 2 ^ k < 2147483648 := by
  have hp := kbt_pos k
  refine ⟨?_, ?_⟩
  · refine Int.le_ediv_of_mul_le hp ?_
    have h1 : (1 : Int) ≤ 2 ^ k := hp
    generalize (2 : Int) ^ k = p at h1
    have := Int.mul_le_mul_of_nonneg_left h1 (show (0 : Int) ≤ 2147483648 by decide)
    omega
  · refine Int.ediv_lt_of_lt_mul hp ?_
    have h1 : (1 : Int) ≤ 2 ^ k := hp
    generalize (2 : Int) ^ k = p at h1
    have := Int.mul_le_mul_of_nonneg_left h1 (show (0 : Int) ≤ 2147483648 by decide)
    omega
theorem asr_two {x c d : Int} (hx : 0 ≤ x ∧ x < 4294967296) (hc : 0 ≤ c ∧ c < 32) (hd : 0 ≤ d ∧ d < 32) (h : c + d < 32) : asrV (asrV x c) d = asrV x (c + d) := by
  rw [asr_val hc, asr_val hd, asr_val (show 0 ≤ c + d ∧ c + d < 32 by omega)]
  have hs : -2147483648 ≤ x - 2 * Builtin.bitAnd x 2147483648 ∧ x - 2 * Builtin.bitAnd x 2147483648 < 2147483648 := by
    rw [top_bit]
    omega
  rw [sg_of (div_pow_range hs _), Int.ediv_ediv_of_nonneg (Int.le_of_lt (kbt_pos _)), ← Int.pow_add]
  congr 3
  omega
/-- a word turned to the right by k places -/
def rorN (a k : Nat) : Nat := (a / 2 ^ k ||| a * 2 ^ (32 - k)) % 2 ^ 32
theorem ror_nat (a : Nat) {c : Int} (hc : 0 ≤ c ∧ c < 32) : rorV (a : Int) c = ((rorN a c.toNat : Nat) : Int) := by
  have e : (32 - c).toNat = 32 - c.toNat := by omega
  rw [← rorV_def, cnt_val hc, Int.fdiv_eq_ediv_of_nonneg _ (Int.le_of_lt (kbt_pos _)), e, ← pw, ← pw, ← Int.natCast_ediv, ← Int.natCast_mul, bO, bitAnd_m32]
  unfold rorN
  rw [Int.natCast_emod]
  rfl
theorem rorN_split {k h l : Nat} (hk : k ≤ 32) (hl : l < 2 ^ k) (hh : h < 2 ^ (32 - k)) : rorN (h * 2 ^ k + l) k = l * 2 ^ (32 - k) + h := by
  unfold rorN
  have e1 : (h * 2 ^ k + l) / 2 ^ k = h := by
    rw [Nat.add_comm, Nat.add_mul_div_right _ _ (Nat.two_pow_pos k), Nat.div_eq_of_lt hl, Nat.zero_add]
  have e2 : (h * 2 ^ k + l) * 2 ^ (32 - k) = h * 2 ^ 32 + l * 2 ^ (32 - k) := by
    rw [Nat.add_mul, Nat.mul_assoc, ← Nat.pow_add, show k + (32 - k) = 32 by omega]
  have hb : l * 2 ^ (32 - k) < 2 ^ 32 := by
    have h1 := Nat.mul_lt_mul_of_pos_right hl (Nat.two_pow_pos (32 - k))
    rw [← Nat.pow_add, show k + (32 - k) = 32 by omega] at h1
    exact h1
  have hh' : h < 2 ^ 32 := Nat.lt_of_lt_of_le hh (Nat.pow_le_pow_right (by decide) (by omega))
  rw [e1, e2, Nat.or_mod_two_pow, Nat.mod_eq_of_lt hh', Nat.add_comm (h * 2 ^ 32), Nat.add_mul_mod_self_right, Nat.mod_eq_of_lt hb, Nat.or_comm, Nat.mul_comm l, ← Nat.two_pow_add_eq_or_of_lt hh]
theorem rorN_two {a c d e : Nat} (ha : a < 2 ^ 32) (h : c + d + e = 32) : rorN (rorN a c) d = rorN a (c + d) := by
  -- a = A * 2 ^ (c + d) + B * 2 ^ c + C
  have hC : a % 2 ^ c < 2 ^ c := Nat.mod_lt _ (Nat.two_pow_pos c)
  have hB : a / 2 ^ c % 2 ^ d < 2 ^ d := Nat.mod_lt _ (Nat.two_pow_pos d)
  have hA : a / 2 ^ c / 2 ^ d < 2 ^ e := by
    rw [Nat.div_div_eq_div_mul, ← Nat.pow_add]
    refine Nat.div_lt_of_lt_mul ?_
    rw [← Nat.pow_add, h]
    exact ha
  have d1 := Nat.div_add_mod a (2 ^ c)
  have d2 := Nat.div_add_mod (a / 2 ^ c) (2 ^ d)
  generalize a / 2 ^ c % 2 ^ d = B at *
  generalize a / 2 ^ c / 2 ^ d = A at *
  generalize a % 2 ^ c = C at *
  generalize a / 2 ^ c = H at *
  subst d2
  subst d1
  have k1 : 32 - c = d + e := by omega
  have k2 : 32 - d = c + e := by omega
  have k3 : 32 - (c + d) = e := by omega
  have s1 : rorN (2 ^ c * (2 ^ d * A + B) + C) c = C * 2 ^ (d + e) + (2 ^ d * A + B) := by
    rw [Nat.mul_comm (2 ^ c), ← k1]
    refine rorN_split (by omega) hC ?_
    rw [k1, Nat.pow_add]
    calc 2 ^ d * A + B < 2 ^ d * A + 2 ^ d := by omega
      _ = 2 ^ d * (A + 1) := by rw [Nat.mul_succ]
      _ ≤ 2 ^ d * 2 ^ e := Nat.mul_le_mul_left _ hA
  have s2 : C * 2 ^ (d + e) + (2 ^ d * A + B) = (C * 2 ^ e + A) * 2 ^ d + B := by
    rw [Nat.pow_add]
    generalize 2 ^ d = R
    generalize 2 ^ e = S
    grind
  have s3 : rorN ((C * 2 ^ e + A) * 2 ^ d + B) d = B * 2 ^ (c + e) + (C * 2 ^ e + A) := by
    rw [← k2]
    refine rorN_split (by omega) hB ?_
    rw [k2, Nat.pow_add]
    calc C * 2 ^ e + A < C * 2 ^ e + 2 ^ e := by omega
      _ = (C + 1) * 2 ^ e := by rw [Nat.succ_mul]
      _ ≤ 2 ^ c * 2 ^ e := Nat.mul_le_mul_right _ hC
  have s4 : 2 ^ c * (2 ^ d * A + B) + C = A * 2 ^ (c + d) + (B * 2 ^ c + C) := by
    rw [Nat.pow_add]
    generalize 2 ^ d = R
    generalize 2 ^ c = S
    grind
  have s5 : rorN (A * 2 ^ (c + d) + (B * 2 ^ c + C)) (c + d) = (B * 2 ^ c + C) * 2 ^ e + A := by
    rw [← k3]
    refine rorN_split (by omega) ?_ (by rw [k3]; exact hA)
    rw [Nat.pow_add]
    calc B * 2 ^ c + C < B * 2 ^ c + 2 ^ c := by omega
      _ = (B + 1) * 2 ^ c := by rw [Nat.succ_mul]
      _ ≤ 2 ^ d * 2 ^ c := Nat.mul_le_mul_right _ hB
      _ = 2 ^ c * 2 ^ d := Nat.mul_comm _ _
  rw [s1, s2, s3, s4, s5, Nat.pow_add]
  generalize 2 ^ e = R
  generalize 2 ^ c = S
  grind
theorem rorN_lt (a k : Nat) : rorN a k < 2 ^ 32 := Nat.mod_lt _ (by decide)
theorem rorN_zero {a : Nat} (ha : a < 2 ^ 32) : rorN a 0 = a := by
  have h := rorN_split (k := 0) (h := a) (l := 0) (by omega) (by decide) ha
  simpa using h
theorem rorN_full {a : Nat} (ha : a < 2 ^ 32) : rorN a 32 = a := by
  have h := rorN_split (k := 32) (h := 0) (l := a) (by omega) ha (by decide)
  simpa using h
theorem ror_two {x c d : Int} (hx : 0 ≤ x ∧ x < 4294967296) (hc : 0 ≤ c ∧ c < 32) (hd : 0 ≤ d ∧ d < 32) (h : c + d < 32) : rorV (rorV x c) d = rorV x (c + d) := by
  obtain ⟨a, rfl, ha⟩ := nat_of hx
  rw [ror_nat a hc, ror_nat _ hd, ror_nat a (show 0 ≤ c + d ∧ c + d < 32 by omega), rorN_two ha (e := 32 - (c.toNat + d.toNat)) (by omega)]
  congr 2
  omega
theorem ror_back {x c : Int} (hx : 0 ≤ x ∧ x < 4294967296) (hc : 0 ≤ c ∧ c < 32) : rorV (rorV x c) ((32 - c).fmod 32) = x := by
  obtain ⟨a, rfl, ha⟩ := nat_of hx
  rw [Int.fmod_eq_emod_of_nonneg _ (by decide)]
  by_cases h0 : c = 0
  · subst h0
    rw [ror_nat a hc, show ((32 - 0 : Int) % 32) = 0 by decide, ror_nat _ hc]
    show ((rorN (rorN a 0) 0 : Nat) : Int) = a
    rw [rorN_zero ha, rorN_zero ha]
  · have e : (32 - c) % 32 = 32 - c := by omega
    rw [e, ror_nat a hc, ror_nat _ (show 0 ≤ 32 - c ∧ 32 - c < 32 by omega), rorN_two ha (e := 0) (by omega), show c.toNat + (32 - c).toNat = 32 by omega, rorN_full ha]
end Mine

open PySem.Spec PySem.Calls
open Mine
-- the contracts
namespace Mine
/-- where a call of the file's own stands: the caller's frame, the ledger, the text's own objects, room for the calls beneath -/
structure Spot (w : World) (mean : ExcName → Option Value) (mg mb : Str → Option Value) (news : CbLed) (dp un : Nat) (cs : Scope) (outer : List Env) (A₀ : Around) (base h₀ : Heap) (L : Addr) (m : Str → Option Value) (s : Shared) : Prop where
  own : (hd.heap_39 w.params).In h₀
  frame : Fr h₀ L s.heap m
  led : News h₀ L s.heap news
  below : Below A₀ base outer h₀
  top : Top hd.view_39 (looseW hd.view_39 [Str.ofString "flagged"]) mean mg mb h₀
  inDef : cs.kind = .function
  room : dp + 8 < recursionLimit
  units : un + 64 < cLine
theorem drop1 {h₀ h : Heap} {L : Addr} {news : List (Addr × Obj)} {p : Addr × Obj} (N : News h₀ L h (p :: news)) : News h₀ L h news := fun q hq => N q (List.mem_cons_of_mem _ hq)
theorem drop2 {h₀ h : Heap} {L : Addr} {news : List (Addr × Obj)} {p q : Addr × Obj} (N : News h₀ L h (p :: q :: news)) : News h₀ L h (p :: news) := fun r hr => N r (by
  rcases List.mem_cons.mp hr with h | h
  · exact h ▸ List.mem_cons_self
  · exact List.mem_cons_of_mem _ (List.mem_cons_of_mem _ h))
theorem divmod_K {prog : Program} {w : World} {A : Around} {E : Value → Shared → Prop} {s : Shared} {a b : Int} {t u : Tok} {Q : Value → Shared → Prop} {h₀ : Heap} {L : Addr} {m : Str → Option Value} {news : List (Addr × Obj)} (F : Fr h₀ L s.heap m) (N : News h₀ L s.heap news) (hb : b ≠ 0) (hz : b.natAbs < 4294967296)
    (h : ∀ (D : Addr) (h' : Heap), Fr h₀ L h' m → News h₀ L h' ((D, ({ cls := .type "tuple", data := .seq #[.int (a.fdiv b) s.toks, .int (a.fmod b) (s.toks + 1)] } : Obj)) :: news) → (∀ p ∈ news, p.1 < D) → Q (.ref D) { s with toks := s.toks + 1 + 1, heap := h' }) :
    wpAny (model prog w) A (call (.builtin "divmod") [.int a t, .int b u]) Q E s :=
  divmod_int hb (h _ _ (F.push _) (N.push F _) fun p hp => Heap.lt_size (N p hp).1) (Or.inl (PyProof.noPylong_of_log2 (by
    by_cases q : b.natAbs = 0
    · rw [q]; decide
    · exact Nat.lt_of_lt_of_le ((Nat.log2_lt q).mpr (show b.natAbs < 2 ^ 32 by omega)) (by decide))))
theorem meet {M : Model} {A : Around} {E : Value → Shared → Prop} {Q : Value → Shared → Prop} {s : Shared} {h₀ : Heap} {L : Addr} {m : Str → Option Value} {news : List (Addr × Obj)} {c : Sem Value} {vs : List Value} {ns : List Int} (k d : Int)
    (_I : IntsAre vs ns) (F : Fr h₀ L s.heap m) (N : News h₀ L s.heap news)
    (hc : wpAny M A c (fun v s₂ => KCj (fun (b : Int) (t : Tok) => Value.int b t) h₀ L m news s (pickV ns k d) v s₂) E s)
    (hk : ∀ (t : Tok) (h : Heap) (tk : Nat), Fr h₀ L h m → News h₀ L h news → 0 ≤ (pickV ns k d).fmod 32 ∧ (pickV ns k d).fmod 32 < 32 → 0 ≤ (32 - (pickV ns k d).fmod 32).fmod 32 ∧ (32 - (pickV ns k d).fmod 32).fmod 32 < 32 → Q (.int (pickV ns k d) t) { s with heap := h, toks := tk }) : wpAny M A c Q E s :=
  kcj (fun (b : Int) (t : Tok) => Value.int b t) (fun _ => pickV ns k d) F N (fun _ _ => hc) fun t h tk F' N' => hk t h tk F' N' (fmod32 _) (fmod32 _)
theorem meetLt {M : Model} {A : Around} {E : Value → Shared → Prop} {Q : Value → Shared → Prop} {s : Shared} {h₀ : Heap} {L : Addr} {m : Str → Option Value} {news : List (Addr × Obj)} {c : Sem Value} {vs : List Value} {ns : List Int}
    (_I : IntsAre vs ns) (F : Fr h₀ L s.heap m) (N : News h₀ L s.heap news)
    (hc : wpAny M A c (fun v s₂ => KCj (fun (b : Int) (t : Tok) => Value.int b t) h₀ L m news s (if wordV ns 0 < wordV ns 1 then 1 else 0) v s₂) E s)
    (hk : ∀ (t : Tok) (h : Heap) (tk : Nat), Fr h₀ L h m → News h₀ L h news → Q (.int (if wordV ns 0 < wordV ns 1 then 1 else 0) t) { s with heap := h, toks := tk }) : wpAny M A c Q E s :=
  kcj (fun (b : Int) (t : Tok) => Value.int b t) (fun _ => if wordV ns 0 < wordV ns 1 then 1 else 0) F N (fun _ _ => hc) hk
def CutP (x : Str) (h₀ : Heap) (L : Addr) (m : Str → Option Value) (news : List (Addr × Obj)) (s : Shared) (f : Flow) (s' : Shared) : Prop :=
  f = .next ∧ ∃ (v : Value) (h : Heap) (tk : Nat), s' = { s with heap := h, toks := tk } ∧ Fr h₀ L h (fun y => if y = x then some v else m y) ∧ News h₀ L h news
theorem cut_end {x : Str} {h₀ h : Heap} {L : Addr} {m m' : Str → Option Value} {news news' : List (Addr × Obj)} {s s' : Shared} {v : Value} {tk : Nat}
    (hs : s' = { s with heap := h, toks := tk }) (F : Fr h₀ L h m') (e : ∀ y, m' y = if y = x then some v else m y) (N : News h₀ L h news') (hn : ∀ p ∈ news, p ∈ news') : CutP x h₀ L m news s .next s' :=
  ⟨rfl, v, h, tk, hs, (funext e : m' = _) ▸ F, fun p hp => N p (hn p hp)⟩
theorem upd3 {x : Str} {a b c : Value} {m : Str → Option Value} : ∀ y, (if y = x then some a else if y = x then some b else if y = x then some c else m y) = if y = x then some a else m y := by
  intro y
  by_cases h : y = x
  · rw [if_pos h, if_pos h]
  · rw [if_neg h, if_neg h, if_neg h, if_neg h]
theorem upd0 {x : Str} {v : Value} {m : Str → Option Value} (hm : m x = some v) : ∀ y, m y = if y = x then some v else m y := by
  intro y
  by_cases h : y = x
  · rw [if_pos h, h, hm]
  · rw [if_neg h]
theorem execs_app {env : Env} (as bs : List Stmt) : execs (as ++ bs) env = (do match ← execs as env with | .next => execs bs env | f => pure f) := by
  induction as with
  | nil => rw [List.nil_append, execs_nil, pure_bind]
  | cons a as ih =>
    rw [List.cons_append, execs_cons, execs_cons, bind_assoc]
    refine congrArg _ (funext fun f => ?_)
    cases f <;> first | exact ih | (simp only [pure_bind])
theorem cutN (x : Str) {M : Model} {A : Around} {E : Value → Shared → Prop} {Q : Flow → Shared → Prop} {s : Shared} {env : Env} {h₀ : Heap} {L : Addr} {m : Str → Option Value} {news : List (Addr × Obj)} {as bs : List Stmt}
    (_F : Fr h₀ L s.heap m) (_N : News h₀ L s.heap news)
    (hc : wpAny M A (execs as env) (fun f s' => CutP x h₀ L m news s f s') E s)
    (hk : ∀ (v : Value) (h : Heap) (tk : Nat), Fr h₀ L h (fun y => if y = x then some v else m y) → News h₀ L h news → wpAny M A (execs bs env) Q E { s with heap := h, toks := tk }) :
    wpAny M A (execs (as ++ bs) env) Q E s := by
  rw [execs_app]
  refine wpAny_bind (wpAny_mono hc (fun f s' h' => ?_) fun _ _ h => h)
  obtain ⟨rfl, v, h, tk, rfl, F, N⟩ := h'
  exact hk v h tk F N
theorem cut1 (x : Str) {M : Model} {A : Around} {E : Value → Shared → Prop} {Q : Flow → Shared → Prop} {s : Shared} {env : Env} {h₀ : Heap} {L : Addr} {m : Str → Option Value} {news : List (Addr × Obj)} {a : Stmt} {bs : List Stmt}
    (F : Fr h₀ L s.heap m) (N : News h₀ L s.heap news)
    (hc : wpAny M A (execs [a] env) (fun f s' => CutP x h₀ L m news s f s') E s)
    (hk : ∀ (v : Value) (h : Heap) (tk : Nat), Fr h₀ L h (fun y => if y = x then some v else m y) → News h₀ L h news → wpAny M A (execs bs env) Q E { s with heap := h, toks := tk }) :
    wpAny M A (execs (a :: bs) env) Q E s := cutN x (as := [a]) F N hc hk
theorem cut3 (x : Str) {M : Model} {A : Around} {E : Value → Shared → Prop} {Q : Flow → Shared → Prop} {s : Shared} {env : Env} {h₀ : Heap} {L : Addr} {m : Str → Option Value} {news : List (Addr × Obj)} {a b c : Stmt} {bs : List Stmt}
    (F : Fr h₀ L s.heap m) (N : News h₀ L s.heap news)
    (hc : wpAny M A (execs [a, b, c] env) (fun f s' => CutP x h₀ L m news s f s') E s)
    (hk : ∀ (v : Value) (h : Heap) (tk : Nat), Fr h₀ L h (fun y => if y = x then some v else m y) → News h₀ L h news → wpAny M A (execs bs env) Q E { s with heap := h, toks := tk }) :
    wpAny M A (execs (a :: b :: c :: bs) env) Q E s := cutN x (as := [a, b, c]) F N hc hk
theorem mulOk {a b : Int} (ha : a.natAbs < 18446744073709551616) (hb : b.natAbs < 18446744073709551616) : IntMulOk a b :=
  IntMulOk.of_le (m := 64) (n := 64) (intBits_le_iff.mpr ha) (intBits_le_iff.mpr hb) (by decide)
theorem ite_yes {b : Bool} {p q : Prop} (h : b = true) (hp : p) : if b = true then p else q := by rw [h]; exact hp
theorem eqt {a b : Int} (h : a = b) : (a == b) = true := by simp [h]
theorem pr1 {y : Int} (h : y = 0) : (true != (y == 0)) = false := by simp [h]
theorem pr2 {y k : Int} (hk : k = 2147483648) (h : y = 0 ∨ 2147483648 ≤ y) (n : y ≠ 0) : (true != decide (k ≤ y)) = false := by
  subst hk; simp; omega
theorem pr3 {y : Int} (h : 0 < y ∧ y < 2147483648) : (y == 0) = false := by simp; omega
theorem pr4 {y k : Int} (hk : k = 2147483648) (h : 0 < y ∧ y < 2147483648) : (false != decide (k ≤ y)) = false := by
  subst hk; simp; omega
end Mine
open Mine
local macro_rules | `(tactic| k_room) => `(tactic| ktr_room)
set_option maxRecDepth 100000 in
set_option maxHeartbeats 8000000 in
theorem Mine.c_mov {w : World} {mean : ExcName → Option Value} {mg mb : Str → Option Value} {news : CbLed} {dp un : Nat} {gd : Option (List Code)} {cn : Str} {cs : Scope} {a : Addr} {ccd : Value} {cl : List (Str × Addr)} {outer : List Env} {A₀ : Around} {base h₀ : Heap} {L : Addr} {m : Str → Option Value} {s : Shared} {Q E : Value → Shared → Prop} {x y : Int} {t t0 t1 : Tok} (S : Spot w mean mg mb news dp un cs outer A₀ base h₀ L m s) (hpre : 0 ≤ x ∧ x < 4294967296 ∧ 0 ≤ y ∧ y < 4294967296)
    (hret0 : ∀ (t : Tok) (h' : Heap) (tk' : Nat), Fr h₀ L h' m → News h₀ L h' news → 0 ≤ y ∧ y < 4294967296 → Q (.int y t) { s with heap := h', toks := tk' }) : wpAny (model PySem.Challenge.rw_pq0739_01.row.prog w) (ktrTop dp un gd cn cs L a ccd cl outer) (call (.ref 106) [Value.str (Str.ofString "MOV") t, Value.int x t0, Value.int y t1]) Q E s := by
  k_with_none
  k_with "binaryOp Mult int int" => with_reducible refine PyProof.Rows.mul_int ?_ (mulOk (by omega) (by omega))
  obtain ⟨sO, sF, sN, sB, sT, sK, sR, sU⟩ := S
  revert sO
  k_fill
  intro sO
  have hret : ∀ (t : Tok) (h' : Heap) (tk' : Nat), Fr h₀ L h' m → News h₀ L h' news → Q (.int y t) { s with heap := h', toks := tk' } := fun t h' tk' F N => hret0 t h' tk' F N hpre.2.2
  clear hret0
  obtain ⟨hx0, hx1, hy0, hy1⟩ := hpre
  have hb31 := bitAnd_range y (show (0 : Int) ≤ 31 by decide)
  have hbx := bitAnd_range x (show (0 : Int) ≤ 2147483648 by decide)
  have hby := bitAnd_range y (show (0 : Int) ≤ 2147483648 by decide)
  refine wpAny_call ?_
  k_dflt cell_enter
  k_steps
  all_goals (refine' cb_retI (Q := Q) hret ?e1 ?e2 ?e3; (case e2 => k_asm); (case e3 => first | k_asm | exact drop1 (by assumption)); (case e1 => exact rfl))
set_option maxRecDepth 100000 in
set_option maxHeartbeats 8000000 in
theorem Mine.c_add {w : World} {mean : ExcName → Option Value} {mg mb : Str → Option Value} {news : CbLed} {dp un : Nat} {gd : Option (List Code)} {cn : Str} {cs : Scope} {a : Addr} {ccd : Value} {cl : List (Str × Addr)} {outer : List Env} {A₀ : Around} {base h₀ : Heap} {L : Addr} {m : Str → Option Value} {s : Shared} {Q E : Value → Shared → Prop} {x y : Int} {t t0 t1 : Tok} (S : Spot w mean mg mb news dp un cs outer A₀ base h₀ L m s) (hpre : 0 ≤ x ∧ x < 4294967296 ∧ 0 ≤ y ∧ y < 4294967296)
    (hret0 : ∀ (t : Tok) (h' : Heap) (tk' : Nat), Fr h₀ L h' m → News h₀ L h' news → 0 ≤ (addV x y) ∧ (addV x y) < 4294967296 → Q (.int (addV x y) t) { s with heap := h', toks := tk' }) : wpAny (model PySem.Challenge.rw_pq0739_01.row.prog w) (ktrTop dp un gd cn cs L a ccd cl outer) (call (.ref 106) [Value.str (Str.ofString "ADD") t, Value.int x t0, Value.int y t1]) Q E s := by
  k_with_none
  k_with "binaryOp Mult int int" => with_reducible refine PyProof.Rows.mul_int ?_ (mulOk (by omega) (by omega))
  obtain ⟨sO, sF, sN, sB, sT, sK, sR, sU⟩ := S
  revert sO
  k_fill
  intro sO
  have hret : ∀ (t : Tok) (h' : Heap) (tk' : Nat), Fr h₀ L h' m → News h₀ L h' news → Q (.int (addV x y) t) { s with heap := h', toks := tk' } := fun t h' tk' F N => hret0 t h' tk' F N (add_r ⟨hpre.1, hpre.2.1⟩ hpre.2.2)
  clear hret0
  obtain ⟨hx0, hx1, hy0, hy1⟩ := hpre
  have hb31 := bitAnd_range y (show (0 : Int) ≤ 31 by decide)
  have hbx := bitAnd_range x (show (0 : Int) ≤ 2147483648 by decide)
  have hby := bitAnd_range y (show (0 : Int) ≤ 2147483648 by decide)
  refine wpAny_call ?_
  k_dflt cell_enter
  k_steps
  all_goals (refine' cb_retI (Q := Q) hret ?e1 ?e2 ?e3; (case e2 => k_asm); (case e3 => first | k_asm | exact drop1 (by assumption)); (case e1 => exact addV_def x y))
set_option maxRecDepth 100000 in
set_option maxHeartbeats 8000000 in
theorem Mine.c_sub {w : World} {mean : ExcName → Option Value} {mg mb : Str → Option Value} {news : CbLed} {dp un : Nat} {gd : Option (List Code)} {cn : Str} {cs : Scope} {a : Addr} {ccd : Value} {cl : List (Str × Addr)} {outer : List Env} {A₀ : Around} {base h₀ : Heap} {L : Addr} {m : Str → Option Value} {s : Shared} {Q E : Value → Shared → Prop} {x y : Int} {t t0 t1 : Tok} (S : Spot w mean mg mb news dp un cs outer A₀ base h₀ L m s) (hpre : 0 ≤ x ∧ x < 4294967296 ∧ 0 ≤ y ∧ y < 4294967296)
    (hret0 : ∀ (t : Tok) (h' : Heap) (tk' : Nat), Fr h₀ L h' m → News h₀ L h' news → 0 ≤ (subV x y) ∧ (subV x y) < 4294967296 → Q (.int (subV x y) t) { s with heap := h', toks := tk' }) : wpAny (model PySem.Challenge.rw_pq0739_01.row.prog w) (ktrTop dp un gd cn cs L a ccd cl outer) (call (.ref 106) [Value.str (Str.ofString "SUB") t, Value.int x t0, Value.int y t1]) Q E s := by
  k_with_none
  k_with "binaryOp Mult int int" => with_reducible refine PyProof.Rows.mul_int ?_ (mulOk (by omega) (by omega))
  obtain ⟨sO, sF, sN, sB, sT, sK, sR, sU⟩ := S
  revert sO
  k_fill
  intro sO
  have hret : ∀ (t : Tok) (h' : Heap) (tk' : Nat), Fr h₀ L h' m → News h₀ L h' news → Q (.int (subV x y) t) { s with heap := h', toks := tk' } := fun t h' tk' F N => hret0 t h' tk' F N (sub_r ⟨hpre.1, hpre.2.1⟩ hpre.2.2)
  clear hret0
  obtain ⟨hx0, hx1, hy0, hy1⟩ := hpre
  have hb31 := bitAnd_range y (show (0 : Int) ≤ 31 by decide)
  have hbx := bitAnd_range x (show (0 : Int) ≤ 2147483648 by decide)
  have hby := bitAnd_range y (show (0 : Int) ≤ 2147483648 by decide)
  refine wpAny_call ?_
  k_dflt cell_enter
  k_steps
  all_goals (refine' cb_retI (Q := Q) hret ?e1 ?e2 ?e3; (case e2 => k_asm); (case e3 => first | k_asm | exact drop1 (by assumption)); (case e1 => exact subV_def x y))
set_option maxRecDepth 100000 in
set_option maxHeartbeats 8000000 in
theorem Mine.c_mul {w : World} {mean : ExcName → Option Value} {mg mb : Str → Option Value} {news : CbLed} {dp un : Nat} {gd : Option (List Code)} {cn : Str} {cs : Scope} {a : Addr} {ccd : Value} {cl : List (Str × Addr)} {outer : List Env} {A₀ : Around} {base h₀ : Heap} {L : Addr} {m : Str → Option Value} {s : Shared} {Q E : Value → Shared → Prop} {x y : Int} {t t0 t1 : Tok} (S : Spot w mean mg mb news dp un cs outer A₀ base h₀ L m s) (hpre : 0 ≤ x ∧ x < 4294967296 ∧ 0 ≤ y ∧ y < 4294967296)
    (hret0 : ∀ (t : Tok) (h' : Heap) (tk' : Nat), Fr h₀ L h' m → News h₀ L h' news → 0 ≤ (mulV x y) ∧ (mulV x y) < 4294967296 → Q (.int (mulV x y) t) { s with heap := h', toks := tk' }) : wpAny (model PySem.Challenge.rw_pq0739_01.row.prog w) (ktrTop dp un gd cn cs L a ccd cl outer) (call (.ref 106) [Value.str (Str.ofString "MUL") t, Value.int x t0, Value.int y t1]) Q E s := by
  k_with_none
  k_with "binaryOp Mult int int" => with_reducible refine PyProof.Rows.mul_int ?_ (mulOk (by omega) (by omega))
  obtain ⟨sO, sF, sN, sB, sT, sK, sR, sU⟩ := S
  revert sO
  k_fill
  intro sO
  have hret : ∀ (t : Tok) (h' : Heap) (tk' : Nat), Fr h₀ L h' m → News h₀ L h' news → Q (.int (mulV x y) t) { s with heap := h', toks := tk' } := fun t h' tk' F N => hret0 t h' tk' F N (mul_r ⟨hpre.1, hpre.2.1⟩ hpre.2.2)
  clear hret0
  obtain ⟨hx0, hx1, hy0, hy1⟩ := hpre
  have hb31 := bitAnd_range y (show (0 : Int) ≤ 31 by decide)
  have hbx := bitAnd_range x (show (0 : Int) ≤ 2147483648 by decide)
  have hby := bitAnd_range y (show (0 : Int) ≤ 2147483648 by decide)
  refine wpAny_call ?_
  k_dflt cell_enter
  k_steps
  all_goals (refine' cb_retI (Q := Q) hret ?e1 ?e2 ?e3; (case e2 => k_asm); (case e3 => first | k_asm | exact drop1 (by assumption)); (case e1 => exact mulV_def x y))
set_option maxRecDepth 100000 in
set_option maxHeartbeats 8000000 in
theorem Mine.c_lsl {w : World} {mean : ExcName → Option Value} {mg mb : Str → Option Value} {news : CbLed} {dp un : Nat} {gd : Option (List Code)} {cn : Str} {cs : Scope} {a : Addr} {ccd : Value} {cl : List (Str × Addr)} {outer : List Env} {A₀ : Around} {base h₀ : Heap} {L : Addr} {m : Str → Option Value} {s : Shared} {Q E : Value → Shared → Prop} {x y : Int} {t t0 t1 : Tok} (S : Spot w mean mg mb news dp un cs outer A₀ base h₀ L m s) (hpre : 0 ≤ x ∧ x < 4294967296 ∧ 0 ≤ y ∧ y < 4294967296)
    (hret0 : ∀ (t : Tok) (h' : Heap) (tk' : Nat), Fr h₀ L h' m → News h₀ L h' news → 0 ≤ (lslV x y) ∧ (lslV x y) < 4294967296 → Q (.int (lslV x y) t) { s with heap := h', toks := tk' }) : wpAny (model PySem.Challenge.rw_pq0739_01.row.prog w) (ktrTop dp un gd cn cs L a ccd cl outer) (call (.ref 106) [Value.str (Str.ofString "LSL") t, Value.int x t0, Value.int y t1]) Q E s := by
  k_with_none
  k_with "binaryOp Mult int int" => with_reducible refine PyProof.Rows.mul_int ?_ (mulOk (by omega) (by omega))
  obtain ⟨sO, sF, sN, sB, sT, sK, sR, sU⟩ := S
  revert sO
  k_fill
  intro sO
  have hret : ∀ (t : Tok) (h' : Heap) (tk' : Nat), Fr h₀ L h' m → News h₀ L h' news → Q (.int (lslV x y) t) { s with heap := h', toks := tk' } := fun t h' tk' F N => hret0 t h' tk' F N (lsl_r ⟨hpre.1, hpre.2.1⟩ hpre.2.2)
  clear hret0
  obtain ⟨hx0, hx1, hy0, hy1⟩ := hpre
  have hb31 := bitAnd_range y (show (0 : Int) ≤ 31 by decide)
  have hbx := bitAnd_range x (show (0 : Int) ≤ 2147483648 by decide)
  have hby := bitAnd_range y (show (0 : Int) ≤ 2147483648 by decide)
  refine wpAny_call ?_
  k_dflt cell_enter
  k_steps
  all_goals (refine' cb_retI (Q := Q) hret ?e1 ?e2 ?e3; (case e2 => k_asm); (case e3 => first | k_asm | exact drop1 (by assumption)); (case e1 => exact lslV_def x y))
set_option maxRecDepth 100000 in
set_option maxHeartbeats 8000000 in
theorem Mine.c_asr {w : World} {mean : ExcName → Option Value} {mg mb : Str → Option Value} {news : CbLed} {dp un : Nat} {gd : Option (List Code)} {cn : Str} {cs : Scope} {a : Addr} {ccd : Value} {cl : List (Str × Addr)} {outer : List Env} {A₀ : Around} {base h₀ : Heap} {L : Addr} {m : Str → Option Value} {s : Shared} {Q E : Value → Shared → Prop} {x y : Int} {t t0 t1 : Tok} (S : Spot w mean mg mb news dp un cs outer A₀ base h₀ L m s) (hpre : 0 ≤ x ∧ x < 4294967296 ∧ 0 ≤ y ∧ y < 4294967296)
    (hret0 : ∀ (t : Tok) (h' : Heap) (tk' : Nat), Fr h₀ L h' m → News h₀ L h' news → 0 ≤ (asrV x y) ∧ (asrV x y) < 4294967296 → Q (.int (asrV x y) t) { s with heap := h', toks := tk' }) : wpAny (model PySem.Challenge.rw_pq0739_01.row.prog w) (ktrTop dp un gd cn cs L a ccd cl outer) (call (.ref 106) [Value.str (Str.ofString "ASR") t, Value.int x t0, Value.int y t1]) Q E s := by
  k_with_none
  k_with "binaryOp Mult int int" => with_reducible refine PyProof.Rows.mul_int ?_ (mulOk (by omega) (by omega))
  obtain ⟨sO, sF, sN, sB, sT, sK, sR, sU⟩ := S
  revert sO
  k_fill
  intro sO
  have hret : ∀ (t : Tok) (h' : Heap) (tk' : Nat), Fr h₀ L h' m → News h₀ L h' news → Q (.int (asrV x y) t) { s with heap := h', toks := tk' } := fun t h' tk' F N => hret0 t h' tk' F N (asr_r ⟨hpre.1, hpre.2.1⟩ hpre.2.2)
  clear hret0
  obtain ⟨hx0, hx1, hy0, hy1⟩ := hpre
  have hb31 := bitAnd_range y (show (0 : Int) ≤ 31 by decide)
  have hbx := bitAnd_range x (show (0 : Int) ≤ 2147483648 by decide)
  have hby := bitAnd_range y (show (0 : Int) ≤ 2147483648 by decide)
  refine wpAny_call ?_
  k_dflt cell_enter
  k_steps
  all_goals (refine' cb_retI (Q := Q) hret ?e1 ?e2 ?e3; (case e2 => k_asm); (case e3 => first | k_asm | exact drop1 (by assumption)); (case e1 => exact asrV_def x y))
set_option maxRecDepth 100000 in
set_option maxHeartbeats 8000000 in
theorem Mine.c_ror {w : World} {mean : ExcName → Option Value} {mg mb : Str → Option Value} {news : CbLed} {dp un : Nat} {gd : Option (List Code)} {cn : Str} {cs : Scope} {a : Addr} {ccd : Value} {cl : List (Str × Addr)} {outer : List Env} {A₀ : Around} {base h₀ : Heap} {L : Addr} {m : Str → Option Value} {s : Shared} {Q E : Value → Shared → Prop} {x y : Int} {t t0 t1 : Tok} (S : Spot w mean mg mb news dp un cs outer A₀ base h₀ L m s) (hpre : 0 ≤ x ∧ x < 4294967296 ∧ 0 ≤ y ∧ y < 4294967296)
    (hret0 : ∀ (t : Tok) (h' : Heap) (tk' : Nat), Fr h₀ L h' m → News h₀ L h' news → 0 ≤ (rorV x y) ∧ (rorV x y) < 4294967296 → Q (.int (rorV x y) t) { s with heap := h', toks := tk' }) : wpAny (model PySem.Challenge.rw_pq0739_01.row.prog w) (ktrTop dp un gd cn cs L a ccd cl outer) (call (.ref 106) [Value.str (Str.ofString "ROR") t, Value.int x t0, Value.int y t1]) Q E s := by
  k_with_none
  k_with "binaryOp Mult int int" => with_reducible refine PyProof.Rows.mul_int ?_ (mulOk (by omega) (by omega))
  obtain ⟨sO, sF, sN, sB, sT, sK, sR, sU⟩ := S
  revert sO
  k_fill
  intro sO
  have hret : ∀ (t : Tok) (h' : Heap) (tk' : Nat), Fr h₀ L h' m → News h₀ L h' news → Q (.int (rorV x y) t) { s with heap := h', toks := tk' } := fun t h' tk' F N => hret0 t h' tk' F N (ror_r ⟨hpre.1, hpre.2.1⟩ hpre.2.2)
  clear hret0
  obtain ⟨hx0, hx1, hy0, hy1⟩ := hpre
  have hb31 := bitAnd_range y (show (0 : Int) ≤ 31 by decide)
  have hbx := bitAnd_range x (show (0 : Int) ≤ 2147483648 by decide)
  have hby := bitAnd_range y (show (0 : Int) ≤ 2147483648 by decide)
  refine wpAny_call ?_
  k_dflt cell_enter
  k_steps
  all_goals (refine' cb_retI (Q := Q) hret ?e1 ?e2 ?e3; (case e2 => k_asm); (case e3 => first | k_asm | exact drop1 (by assumption)); (case e1 => exact rorV_def x y))
set_option maxRecDepth 100000 in
set_option maxHeartbeats 8000000 in
theorem Mine.c_and {w : World} {mean : ExcName → Option Value} {mg mb : Str → Option Value} {news : CbLed} {dp un : Nat} {gd : Option (List Code)} {cn : Str} {cs : Scope} {a : Addr} {ccd : Value} {cl : List (Str × Addr)} {outer : List Env} {A₀ : Around} {base h₀ : Heap} {L : Addr} {m : Str → Option Value} {s : Shared} {Q E : Value → Shared → Prop} {x y : Int} {t t0 t1 : Tok} (S : Spot w mean mg mb news dp un cs outer A₀ base h₀ L m s) (hpre : 0 ≤ x ∧ x < 4294967296 ∧ 0 ≤ y ∧ y < 4294967296)
    (hret0 : ∀ (t : Tok) (h' : Heap) (tk' : Nat), Fr h₀ L h' m → News h₀ L h' news → 0 ≤ (andV x y) ∧ (andV x y) < 4294967296 → Q (.int (andV x y) t) { s with heap := h', toks := tk' }) : wpAny (model PySem.Challenge.rw_pq0739_01.row.prog w) (ktrTop dp un gd cn cs L a ccd cl outer) (call (.ref 106) [Value.str (Str.ofString "AND") t, Value.int x t0, Value.int y t1]) Q E s := by
  k_with_none
  k_with "binaryOp Mult int int" => with_reducible refine PyProof.Rows.mul_int ?_ (mulOk (by omega) (by omega))
  obtain ⟨sO, sF, sN, sB, sT, sK, sR, sU⟩ := S
  revert sO
  k_fill
  intro sO
  have hret : ∀ (t : Tok) (h' : Heap) (tk' : Nat), Fr h₀ L h' m → News h₀ L h' news → Q (.int (andV x y) t) { s with heap := h', toks := tk' } := fun t h' tk' F N => hret0 t h' tk' F N (and_r ⟨hpre.1, hpre.2.1⟩ hpre.2.2)
  clear hret0
  obtain ⟨hx0, hx1, hy0, hy1⟩ := hpre
  have hb31 := bitAnd_range y (show (0 : Int) ≤ 31 by decide)
  have hbx := bitAnd_range x (show (0 : Int) ≤ 2147483648 by decide)
  have hby := bitAnd_range y (show (0 : Int) ≤ 2147483648 by decide)
  refine wpAny_call ?_
  k_dflt cell_enter
  k_steps
  all_goals (refine' cb_retI (Q := Q) hret ?e1 ?e2 ?e3; (case e2 => k_asm); (case e3 => first | k_asm | exact drop1 (by assumption)); (case e1 => exact andV_def x y))
set_option maxRecDepth 100000 in
set_option maxHeartbeats 8000000 in
theorem Mine.c_ann {w : World} {mean : ExcName → Option Value} {mg mb : Str → Option Value} {news : CbLed} {dp un : Nat} {gd : Option (List Code)} {cn : Str} {cs : Scope} {a : Addr} {ccd : Value} {cl : List (Str × Addr)} {outer : List Env} {A₀ : Around} {base h₀ : Heap} {L : Addr} {m : Str → Option Value} {s : Shared} {Q E : Value → Shared → Prop} {x y : Int} {t t0 t1 : Tok} (S : Spot w mean mg mb news dp un cs outer A₀ base h₀ L m s) (hpre : 0 ≤ x ∧ x < 4294967296 ∧ 0 ≤ y ∧ y < 4294967296)
    (hret0 : ∀ (t : Tok) (h' : Heap) (tk' : Nat), Fr h₀ L h' m → News h₀ L h' news → 0 ≤ (annV x y) ∧ (annV x y) < 4294967296 → Q (.int (annV x y) t) { s with heap := h', toks := tk' }) : wpAny (model PySem.Challenge.rw_pq0739_01.row.prog w) (ktrTop dp un gd cn cs L a ccd cl outer) (call (.ref 106) [Value.str (Str.ofString "ANN") t, Value.int x t0, Value.int y t1]) Q E s := by
  k_with_none
  k_with "binaryOp Mult int int" => with_reducible refine PyProof.Rows.mul_int ?_ (mulOk (by omega) (by omega))
  obtain ⟨sO, sF, sN, sB, sT, sK, sR, sU⟩ := S
  revert sO
  k_fill
  intro sO
  have hret : ∀ (t : Tok) (h' : Heap) (tk' : Nat), Fr h₀ L h' m → News h₀ L h' news → Q (.int (annV x y) t) { s with heap := h', toks := tk' } := fun t h' tk' F N => hret0 t h' tk' F N (ann_r ⟨hpre.1, hpre.2.1⟩ hpre.2.2)
  clear hret0
  obtain ⟨hx0, hx1, hy0, hy1⟩ := hpre
  have hb31 := bitAnd_range y (show (0 : Int) ≤ 31 by decide)
  have hbx := bitAnd_range x (show (0 : Int) ≤ 2147483648 by decide)
  have hby := bitAnd_range y (show (0 : Int) ≤ 2147483648 by decide)
  refine wpAny_call ?_
  k_dflt cell_enter
  k_steps
  all_goals (refine' cb_retI (Q := Q) hret ?e1 ?e2 ?e3; (case e2 => k_asm); (case e3 => first | k_asm | exact drop1 (by assumption)); (case e1 => exact annV_def x y))
set_option maxRecDepth 100000 in
set_option maxHeartbeats 8000000 in
theorem Mine.c_ior {w : World} {mean : ExcName → Option Value} {mg mb : Str → Option Value} {news : CbLed} {dp un : Nat} {gd : Option (List Code)} {cn : Str} {cs : Scope} {a : Addr} {ccd : Value} {cl : List (Str × Addr)} {outer : List Env} {A₀ : Around} {base h₀ : Heap} {L : Addr} {m : Str → Option Value} {s : Shared} {Q E : Value → Shared → Prop} {x y : Int} {t t0 t1 : Tok} (S : Spot w mean mg mb news dp un cs outer A₀ base h₀ L m s) (hpre : 0 ≤ x ∧ x < 4294967296 ∧ 0 ≤ y ∧ y < 4294967296)
    (hret0 : ∀ (t : Tok) (h' : Heap) (tk' : Nat), Fr h₀ L h' m → News h₀ L h' news → 0 ≤ (iorV x y) ∧ (iorV x y) < 4294967296 → Q (.int (iorV x y) t) { s with heap := h', toks := tk' }) : wpAny (model PySem.Challenge.rw_pq0739_01.row.prog w) (ktrTop dp un gd cn cs L a ccd cl outer) (call (.ref 106) [Value.str (Str.ofString "IOR") t, Value.int x t0, Value.int y t1]) Q E s := by
  k_with_none
  k_with "binaryOp Mult int int" => with_reducible refine PyProof.Rows.mul_int ?_ (mulOk (by omega) (by omega))
  obtain ⟨sO, sF, sN, sB, sT, sK, sR, sU⟩ := S
  revert sO
  k_fill
  intro sO
  have hret : ∀ (t : Tok) (h' : Heap) (tk' : Nat), Fr h₀ L h' m → News h₀ L h' news → Q (.int (iorV x y) t) { s with heap := h', toks := tk' } := fun t h' tk' F N => hret0 t h' tk' F N (ior_r ⟨hpre.1, hpre.2.1⟩ hpre.2.2)
  clear hret0
  obtain ⟨hx0, hx1, hy0, hy1⟩ := hpre
  have hb31 := bitAnd_range y (show (0 : Int) ≤ 31 by decide)
  have hbx := bitAnd_range x (show (0 : Int) ≤ 2147483648 by decide)
  have hby := bitAnd_range y (show (0 : Int) ≤ 2147483648 by decide)
  refine wpAny_call ?_
  k_dflt cell_enter
  k_steps
  all_goals (refine' cb_retI (Q := Q) hret ?e1 ?e2 ?e3; (case e2 => k_asm); (case e3 => first | k_asm | exact drop1 (by assumption)); (case e1 => exact iorV_def x y))
set_option maxRecDepth 100000 in
set_option maxHeartbeats 8000000 in
theorem Mine.c_xor {w : World} {mean : ExcName → Option Value} {mg mb : Str → Option Value} {news : CbLed} {dp un : Nat} {gd : Option (List Code)} {cn : Str} {cs : Scope} {a : Addr} {ccd : Value} {cl : List (Str × Addr)} {outer : List Env} {A₀ : Around} {base h₀ : Heap} {L : Addr} {m : Str → Option Value} {s : Shared} {Q E : Value → Shared → Prop} {x y : Int} {t t0 t1 : Tok} (S : Spot w mean mg mb news dp un cs outer A₀ base h₀ L m s) (hpre : 0 ≤ x ∧ x < 4294967296 ∧ 0 ≤ y ∧ y < 4294967296)
    (hret0 : ∀ (t : Tok) (h' : Heap) (tk' : Nat), Fr h₀ L h' m → News h₀ L h' news → 0 ≤ (xorV x y) ∧ (xorV x y) < 4294967296 → Q (.int (xorV x y) t) { s with heap := h', toks := tk' }) : wpAny (model PySem.Challenge.rw_pq0739_01.row.prog w) (ktrTop dp un gd cn cs L a ccd cl outer) (call (.ref 106) [Value.str (Str.ofString "XOR") t, Value.int x t0, Value.int y t1]) Q E s := by
  k_with_none
  k_with "binaryOp Mult int int" => with_reducible refine PyProof.Rows.mul_int ?_ (mulOk (by omega) (by omega))
  obtain ⟨sO, sF, sN, sB, sT, sK, sR, sU⟩ := S
  revert sO
  k_fill
  intro sO
  have hret : ∀ (t : Tok) (h' : Heap) (tk' : Nat), Fr h₀ L h' m → News h₀ L h' news → Q (.int (xorV x y) t) { s with heap := h', toks := tk' } := fun t h' tk' F N => hret0 t h' tk' F N (xor_r ⟨hpre.1, hpre.2.1⟩ hpre.2.2)
  clear hret0
  obtain ⟨hx0, hx1, hy0, hy1⟩ := hpre
  have hb31 := bitAnd_range y (show (0 : Int) ≤ 31 by decide)
  have hbx := bitAnd_range x (show (0 : Int) ≤ 2147483648 by decide)
  have hby := bitAnd_range y (show (0 : Int) ≤ 2147483648 by decide)
  refine wpAny_call ?_
  k_dflt cell_enter
  k_steps
  all_goals (refine' cb_retI (Q := Q) hret ?e1 ?e2 ?e3; (case e2 => k_asm); (case e3 => first | k_asm | exact drop1 (by assumption)); (case e1 => exact xorV_def x y))
set_option maxRecDepth 100000 in
set_option maxHeartbeats 8000000 in
theorem Mine.c_word {w : World} {mean : ExcName → Option Value} {mg mb : Str → Option Value} {news : CbLed} {dp un : Nat} {gd : Option (List Code)} {cn : Str} {cs : Scope} {a : Addr} {ccd : Value} {cl : List (Str × Addr)} {outer : List Env} {A₀ : Around} {base h₀ : Heap} {L : Addr} {m : Str → Option Value} {s : Shared} {Q E : Value → Shared → Prop} {l : Addr} {vs : List Value} {ns : List Int} {i : Int} {t0 : Tok} (S : Spot w mean mg mb news dp un cs outer A₀ base h₀ L m s)
    (b1 : base.IsList l vs.toArray) (b2 : IntsAre vs ns) (b3 : ns.length < 2 ^ 62) (b4 : 0 ≤ i ∧ i ≤ 2)
    (hret0 : ∀ (t : Tok) (h' : Heap) (tk' : Nat), Fr h₀ L h' m → News h₀ L h' news → 0 ≤ wordV ns i ∧ wordV ns i < 4294967296 → Q (.int (wordV ns i) t) { s with heap := h', toks := tk' }) : wpAny (model PySem.Challenge.rw_pq0739_01.row.prog w) (ktrTop dp un gd cn cs L a ccd cl outer) (call (.ref 99) [.ref l, .int i t0]) Q E s := by
  k_with_none
  obtain ⟨sO, sF, sN, sB, sT, sK, sR, sU⟩ := S
  revert sO
  k_fill
  intro sO
  have hret : ∀ (t : Tok) (h' : Heap) (tk' : Nat), Fr h₀ L h' m → News h₀ L h' news → Q (.int (wordV ns i) t) { s with heap := h', toks := tk' } := fun t h' tk' F N => hret0 t h' tk' F N (word_r ns i)
  clear hret0
  obtain ⟨hi0, hi1⟩ := b4
  refine wpAny_call ?_
  k_dflt cell_enter
  k_steps
  all_goals (refine' cb_retI (Q := Q) hret ?e1 ?e2 ?e3; (case e2 => k_asm); (case e3 => k_asm); (case e1 => first | exact word1 (by omega) (by assumption) (by assumption) | exact word2 (by omega) (by assumption) (by assumption) | exact word3 (by omega) (by assumption) (by assumption) | exact word4 (by omega) (by assumption) (by assumption)))
set_option maxRecDepth 100000 in
set_option maxHeartbeats 8000000 in
theorem Mine.c_gap {w : World} {mean : ExcName → Option Value} {mg mb : Str → Option Value} {news : CbLed} {dp un : Nat} {gd : Option (List Code)} {cn : Str} {cs : Scope} {a : Addr} {ccd : Value} {cl : List (Str × Addr)} {outer : List Env} {A₀ : Around} {base h₀ : Heap} {L : Addr} {m : Str → Option Value} {s : Shared} {Q E : Value → Shared → Prop} {x y : Int} {t t0 t1 : Tok} (S : Spot w mean mg mb news dp un cs outer A₀ base h₀ L m s) (hpre : 0 ≤ x ∧ x < 4294967296 ∧ 0 ≤ y ∧ y < 4294967296)
    (hret0 : ∀ (t0 t3 : Tok) (v1 v2 v4 v5 : Value) (D : Addr) (h' : Heap) (tk' : Nat), Fr h₀ L h' m → News h₀ L h' ((D, { cls := .type "tuple", data := .seq #[.int (subV x y) t0, v1, v2, .int (if x < y then 1 else 0) t3, v4, v5] }) :: news) → 0 ≤ subV x y ∧ subV x y < 4294967296 → Q (.ref D) { s with heap := h', toks := tk' }) :
    wpAny (model PySem.Challenge.rw_pq0739_01.row.prog w) (ktrTop dp un gd cn cs L a ccd cl outer) (call (.ref 92) [Value.str (Str.ofString "SUB") t, Value.int x t0, Value.int y t1]) Q E s := by
  k_with_none
  obtain ⟨sO, sF, sN, sB, sT, sK, sR, sU⟩ := S
  revert sO
  k_fill
  intro sO
  have hret : ∀ (r c : Int) (t0 t3 : Tok) (v1 v2 v4 v5 : Value) (D : Addr) (h' : Heap) (tk' : Nat), Fr h₀ L h' m → News h₀ L h' ((D, { cls := .type "tuple", data := .seq #[.int r t0, v1, v2, .int c t3, v4, v5] }) :: news) → r = subV x y → c = (if x < y then 1 else 0) → Q (.ref D) { s with heap := h', toks := tk' } := by
    intro r c t0 t3 v1 v2 v4 v5 D h' tk' F N e1 e2
    subst e1; subst e2
    exact hret0 t0 t3 v1 v2 v4 v5 D h' tk' F N (sub_r ⟨hpre.1, hpre.2.1⟩ hpre.2.2)
  clear hret0
  obtain ⟨hx0, hx1, hy0, hy1⟩ := hpre
  have hbx := bitAnd_range x (show (0 : Int) ≤ 2147483648 by decide)
  have hby := bitAnd_range y (show (0 : Int) ≤ 2147483648 by decide)
  have hty := top_bit y
  refine wpAny_call ?_
  k_dflt cell_enter
  k_steps
  all_goals (refine' hret _ _ _ _ _ _ _ _ _ _ _ ?e2 ?e3 ?e1 ?e4; (case e2 => k_asm); (case e3 => k_asm); (case e1 => exact subV_def x y); (case e4 => split <;> omega))
set_option maxRecDepth 100000 in
set_option maxHeartbeats 8000000 in
theorem Mine.c_div {w : World} {mean : ExcName → Option Value} {mg mb : Str → Option Value} {news : CbLed} {dp un : Nat} {gd : Option (List Code)} {cn : Str} {cs : Scope} {a : Addr} {ccd : Value} {cl : List (Str × Addr)} {outer : List Env} {A₀ : Around} {base h₀ : Heap} {L : Addr} {m : Str → Option Value} {s : Shared} {Q E : Value → Shared → Prop} {x y : Int} {t t0 t1 : Tok} (S : Spot w mean mg mb news dp un cs outer A₀ base h₀ L m s) (hpre : 0 ≤ x ∧ x < 4294967296 ∧ 0 ≤ y ∧ y < 4294967296)
    (hret1 : ∀ (h' : Heap) (tk' : Nat), Fr h₀ L h' m → News h₀ L h' news → y = 0 ∨ 2147483648 ≤ y → Q (.none) { s with heap := h', toks := tk' })
    (hret0 : ∀ (t0 t5 : Tok) (v1 v2 v3 v4 : Value) (D : Addr) (h' : Heap) (tk' : Nat), Fr h₀ L h' m → News h₀ L h' ((D, { cls := .type "tuple", data := .seq #[.int (quoV x y) t0, v1, v2, v3, v4, .int (restV x y) t5] }) :: news) → 0 < y ∧ y < 2147483648 → 0 ≤ quoV x y ∧ quoV x y < 4294967296 → 0 ≤ restV x y ∧ restV x y < y → Q (.ref D) { s with heap := h', toks := tk' }) :
    wpAny (model PySem.Challenge.rw_pq0739_01.row.prog w) (ktrTop dp un gd cn cs L a ccd cl outer) (call (.ref 92) [Value.str (Str.ofString "DIV") t, Value.int x t0, Value.int y t1]) Q E s := by
  k_with_none
  k_with "call builtin:divmod" => ((k_dflt (refine' divmod_K ?F ?N ?b ?z ?_; (case F => k_asm); (case N => k_asm); (case b => omega); (case z => omega))); intro D' h' F' N' l1; (try k_lt l1); (try k_sweep))
  obtain ⟨sO, sF, sN, sB, sT, sK, sR, sU⟩ := S
  revert sO
  k_fill
  intro sO
  have hret : ∀ (r c : Int) (t0 t5 : Tok) (v1 v2 v3 v4 : Value) (D : Addr) (h' : Heap) (tk' : Nat), Fr h₀ L h' m → News h₀ L h' ((D, { cls := .type "tuple", data := .seq #[.int r t0, v1, v2, v3, v4, .int c t5] }) :: news) → r = quoV x y → c = restV x y → 0 < y ∧ y < 2147483648 → Q (.ref D) { s with heap := h', toks := tk' } := by
    intro r c t0 t5 v1 v2 v3 v4 D h' tk' F N e1 e2 hy
    subst e1; subst e2
    exact hret0 t0 t5 v1 v2 v3 v4 D h' tk' F N hy (quo_r x y) (rest_r hy.1 hy.2)
  clear hret0
  obtain ⟨hx0, hx1, hy0, hy1⟩ := hpre
  have hbx := bitAnd_range x (show (0 : Int) ≤ 2147483648 by decide)
  have hby := bitAnd_range y (show (0 : Int) ≤ 2147483648 by decide)
  have hty := top_bit y
  refine wpAny_call ?_
  k_dflt cell_enter
  k_steps
  all_goals first
    | (refine' hret1 _ _ ?e2 ?e3 ?e4; (case e2 => k_asm); (case e3 => first | k_asm | exact drop1 (by assumption)); (case e4 => omega))
    | (refine' hret _ _ _ _ _ _ _ _ _ _ _ ?e2 ?e3 ?e1 ?e4 ?e5; (case e2 => k_asm); (case e3 => first | k_asm | exact drop2 (by assumption)); (case e1 => exact quoV_def x y); (case e4 => exact restV_def x y); (case e5 => omega))
-- the law's walk
local macro_rules | `(tactic| walk_at "eval Call") => `(tactic| ((with_reducible show wpAny _ _ (eval (Expr.Call (Expr.Name _ _) _ [] _) _) _ _ _); k_dflt (refine Call_ ?_)))
local macro_rules | `(tactic| walk_at "eval IfExp") => `(tactic| ((with_reducible show wpAny _ _ (eval (Expr.IfExp (Expr.Compare (Expr.Call (Expr.Name (Str.ofString "len") _) _ _ _) _ [Expr.Constant (Const.int 3) _ _] _) _ _ _) _) _ _ _); (fail_if_success (with_reducible show wpAny _ _ _ (fun v s => KCj _ _ _ _ _ _ _ v s) _ _)); (rename Fr _ _ _ _ => cF'); (rename News _ _ _ _ => cN'); (rename IntsAre _ _ => cI'); k_dflt (refine' meet 3 7 cI' cF' cN' ?_ ?_); (all_goals (try (intro t9 h9 tk9 F9 N9 p9 p8)); (all_goals ((try dsimp only); (try k_fold))))))
local macro_rules | `(tactic| walk_at "eval IfExp") => `(tactic| ((with_reducible show wpAny _ _ (eval (Expr.IfExp (Expr.Compare (Expr.Call (Expr.Name (Str.ofString "len") _) _ _ _) _ [Expr.Constant (Const.int 4) _ _] _) _ _ _) _) _ _ _); (fail_if_success (with_reducible show wpAny _ _ _ (fun v s => KCj _ _ _ _ _ _ _ v s) _ _)); (rename Fr _ _ _ _ => cF'); (rename News _ _ _ _ => cN'); (rename IntsAre _ _ => cI'); k_dflt (refine' meet 4 9 cI' cF' cN' ?_ ?_); (all_goals (try (intro t9 h9 tk9 F9 N9 p9 p8)); (all_goals ((try dsimp only); (try k_fold))))))
local macro_rules | `(tactic| walk_at "eval IfExp") => `(tactic| ((with_reducible show wpAny _ _ (eval (Expr.IfExp (Expr.Compare (Expr.Name _ _) [CmpOp.Lt] [Expr.Name _ _] _) (Expr.Constant (Const.int 1) _ _) (Expr.Constant (Const.int 0) _ _) _) _) _ _ _); (fail_if_success (with_reducible show wpAny _ _ _ (fun v s => KCj _ _ _ _ _ _ _ v s) _ _)); (rename Fr _ _ _ _ => cF'); (rename News _ _ _ _ => cN'); (rename IntsAre _ _ => cI'); k_dflt (refine' meetLt cI' cF' cN' ?_ ?_); (all_goals (try (intro t9 h9 tk9 F9 N9)); (all_goals ((try dsimp only); (try k_fold))))))
local macro_rules | `(tactic| walk_at "execs cons") => `(tactic| ((with_reducible show wpAny _ _ (execs (Stmt.Assign [Expr.Name (Str.ofString "parted") _] _ _ :: _ :: _ :: _ :: _) _) _ _ _); (rename Fr _ _ _ _ => cF'); (rename News _ _ _ _ => cN'); k_dflt (refine' cut3 (Str.ofString "parted") cF' cN' ?_ ?_); (all_goals (try (intro v9 h9 tk9 F9 N9))); (all_goals ((try dsimp only); (try k_fold))); walk_say "CUT OF THREE"))
local macro_rules | `(tactic| walk_at "execs cons") => `(tactic| ((with_reducible show wpAny _ _ (execs (Stmt.If (Expr.Compare (Expr.Name (Str.ofString "both_counts") _) _ _ _) _ _ _ :: _ :: _) _) _ _ _); (rename Fr _ _ _ _ => cF'); (rename News _ _ _ _ => cN'); k_dflt (refine' cut1 (Str.ofString "name") cF' cN' ?_ ?_); (all_goals (try (intro v9 h9 tk9 F9 N9))); (all_goals ((try dsimp only); (try k_fold))); walk_say "CUT OF ONE"))
local macro_rules | `(tactic| kc_close) => `(tactic| first
  | ((with_reducible show CutP _ _ _ _ _ _ _ _); (k_dflt (refine' cut_end (v := _) rfl (by assumption) ?ce (by assumption) ?cn)); (case ce => first | with_reducible exact upd3 | (intro y; with_reducible exact rfl) | ((with_reducible refine' upd0 ?h); (case h => k_dflt exact rfl))); (case cn => first | exact fun _ hp => hp | exact fun _ hp => List.mem_cons_of_mem _ hp | exact fun _ hp => List.mem_cons_of_mem _ (List.mem_cons_of_mem _ hp)); walk_say "CUT'S END")
  | ((with_reducible show KCj _ _ _ _ _ _ _ _ _); (refine kcj_end ?kce (by with_unfolding_all rfl) rfl (by assumption) (by assumption) (fun _ hp => hp)); (case kce => first | exact pick_in (by omega) | exact pick_out (by omega) | exact if_pos (by omega) | exact if_neg (by omega))))
local macro_rules | `(tactic| walk_at "ite") => `(tactic| (k_here; (refine ite_isFalse (nef ?ne) ?_); (case ne => first
  | exact add_c _ _ | exact add_a _ _ _ | exact mul_c _ _ | exact mul_a _ _ _ | exact and_c _ _ | exact and_a (by assumption) (by assumption) (by assumption)
  | exact ior_c _ _ | exact ior_a (by assumption) (by assumption) (by assumption) | exact xor_c _ _ | exact xor_a (by assumption) (by assumption) (by assumption)
  | exact mul_d _ _ _ | exact gap_add (by assumption) | exact sub_neg _ _ | exact div_back (by assumption) (by assumption) | exact ror_back (by assumption) (by assumption)
  | exact lsl_two (by assumption) (by assumption) (by omega) | exact asr_two (by assumption) (by assumption) (by assumption) (by omega) | exact ror_two (by assumption) (by assumption) (by assumption) (by omega)
  | exact dbl | exact ann_dm (by decide) (by assumption) (by assumption) | with_reducible rfl); walk_say "PRUNED BY A LAW"))
local macro_rules | `(tactic| walk_at "ite") => `(tactic| (k_here; (refine ite_isFalse ?ne ?_); (case ne => first | exact pr1 (by assumption) | exact pr2 (by decide) (by assumption) (by omega) | exact pr3 (by assumption) | exact pr4 (by decide) (by assumption)); walk_say "PRUNED BY A FACT"))
local macro_rules | `(tactic| walk_at "ite") => `(tactic| (k_here; (refine ite_yes (eqt ?ne) ?_); (case ne => exact xor_top (by decide) (by assumption)); walk_say "PRUNED BY A LAW"))
set_option maxRecDepth 100000 in
set_option maxHeartbeats 0 in
theorem PySem.Challenge.cw_pq0739_01_holds : PySem.Challenge.rw_pq0739_01.Holds := by
  refine hd ?_
  k_with_none
  k_with "call ref" => first | (k_dflt ((with_reducible show wpAny _ _ (call (Value.ref _) [Value.str (Str.ofString "MOV") _, Value.int _ _, Value.int _ _]) _ _ _); (refine' Mine.c_mov (Spot.mk ?sO ?sF ?sN ?sB ?sT ?sK ?sR ?sU) ?kp ?_; (case sF => k_asm); (case sN => k_asm); (case sO => k_asm); (case sB => k_asm); (case sT => k_asm); (case sK => exact rfl); (case sR => ktr_room); (case sU => ktr_units); (case kp => first | omega | ((simp only [big]); omega)); intro t9 h9 tk9 F9 N9 p9; k_sweep; (try dsimp only); (try k_fold)))) | (k_dflt ((with_reducible show wpAny _ _ (call (Value.ref _) [Value.str (Str.ofString "ADD") _, Value.int _ _, Value.int _ _]) _ _ _); (refine' Mine.c_add (Spot.mk ?sO ?sF ?sN ?sB ?sT ?sK ?sR ?sU) ?kp ?_; (case sF => k_asm); (case sN => k_asm); (case sO => k_asm); (case sB => k_asm); (case sT => k_asm); (case sK => exact rfl); (case sR => ktr_room); (case sU => ktr_units); (case kp => first | omega | ((simp only [big]); omega)); intro t9 h9 tk9 F9 N9 p9; k_sweep; (try dsimp only); (try k_fold)))) | (k_dflt ((with_reducible show wpAny _ _ (call (Value.ref _) [Value.str (Str.ofString "SUB") _, Value.int _ _, Value.int _ _]) _ _ _); (refine' Mine.c_sub (Spot.mk ?sO ?sF ?sN ?sB ?sT ?sK ?sR ?sU) ?kp ?_; (case sF => k_asm); (case sN => k_asm); (case sO => k_asm); (case sB => k_asm); (case sT => k_asm); (case sK => exact rfl); (case sR => ktr_room); (case sU => ktr_units); (case kp => first | omega | ((simp only [big]); omega)); intro t9 h9 tk9 F9 N9 p9; k_sweep; (try dsimp only); (try k_fold)))) | (k_dflt ((with_reducible show wpAny _ _ (call (Value.ref _) [Value.str (Str.ofString "MUL") _, Value.int _ _, Value.int _ _]) _ _ _); (refine' Mine.c_mul (Spot.mk ?sO ?sF ?sN ?sB ?sT ?sK ?sR ?sU) ?kp ?_; (case sF => k_asm); (case sN => k_asm); (case sO => k_asm); (case sB => k_asm); (case sT => k_asm); (case sK => exact rfl); (case sR => ktr_room); (case sU => ktr_units); (case kp => first | omega | ((simp only [big]); omega)); intro t9 h9 tk9 F9 N9 p9; k_sweep; (try dsimp only); (try k_fold)))) | (k_dflt ((with_reducible show wpAny _ _ (call (Value.ref _) [Value.str (Str.ofString "LSL") _, Value.int _ _, Value.int _ _]) _ _ _); (refine' Mine.c_lsl (Spot.mk ?sO ?sF ?sN ?sB ?sT ?sK ?sR ?sU) ?kp ?_; (case sF => k_asm); (case sN => k_asm); (case sO => k_asm); (case sB => k_asm); (case sT => k_asm); (case sK => exact rfl); (case sR => ktr_room); (case sU => ktr_units); (case kp => first | omega | ((simp only [big]); omega)); intro t9 h9 tk9 F9 N9 p9; k_sweep; (try dsimp only); (try k_fold)))) | (k_dflt ((with_reducible show wpAny _ _ (call (Value.ref _) [Value.str (Str.ofString "ASR") _, Value.int _ _, Value.int _ _]) _ _ _); (refine' Mine.c_asr (Spot.mk ?sO ?sF ?sN ?sB ?sT ?sK ?sR ?sU) ?kp ?_; (case sF => k_asm); (case sN => k_asm); (case sO => k_asm); (case sB => k_asm); (case sT => k_asm); (case sK => exact rfl); (case sR => ktr_room); (case sU => ktr_units); (case kp => first | omega | ((simp only [big]); omega)); intro t9 h9 tk9 F9 N9 p9; k_sweep; (try dsimp only); (try k_fold)))) | (k_dflt ((with_reducible show wpAny _ _ (call (Value.ref _) [Value.str (Str.ofString "ROR") _, Value.int _ _, Value.int _ _]) _ _ _); (refine' Mine.c_ror (Spot.mk ?sO ?sF ?sN ?sB ?sT ?sK ?sR ?sU) ?kp ?_; (case sF => k_asm); (case sN => k_asm); (case sO => k_asm); (case sB => k_asm); (case sT => k_asm); (case sK => exact rfl); (case sR => ktr_room); (case sU => ktr_units); (case kp => first | omega | ((simp only [big]); omega)); intro t9 h9 tk9 F9 N9 p9; k_sweep; (try dsimp only); (try k_fold)))) | (k_dflt ((with_reducible show wpAny _ _ (call (Value.ref _) [Value.str (Str.ofString "AND") _, Value.int _ _, Value.int _ _]) _ _ _); (refine' Mine.c_and (Spot.mk ?sO ?sF ?sN ?sB ?sT ?sK ?sR ?sU) ?kp ?_; (case sF => k_asm); (case sN => k_asm); (case sO => k_asm); (case sB => k_asm); (case sT => k_asm); (case sK => exact rfl); (case sR => ktr_room); (case sU => ktr_units); (case kp => first | omega | ((simp only [big]); omega)); intro t9 h9 tk9 F9 N9 p9; k_sweep; (try dsimp only); (try k_fold)))) | (k_dflt ((with_reducible show wpAny _ _ (call (Value.ref _) [Value.str (Str.ofString "ANN") _, Value.int _ _, Value.int _ _]) _ _ _); (refine' Mine.c_ann (Spot.mk ?sO ?sF ?sN ?sB ?sT ?sK ?sR ?sU) ?kp ?_; (case sF => k_asm); (case sN => k_asm); (case sO => k_asm); (case sB => k_asm); (case sT => k_asm); (case sK => exact rfl); (case sR => ktr_room); (case sU => ktr_units); (case kp => first | omega | ((simp only [big]); omega)); intro t9 h9 tk9 F9 N9 p9; k_sweep; (try dsimp only); (try k_fold)))) | (k_dflt ((with_reducible show wpAny _ _ (call (Value.ref _) [Value.str (Str.ofString "IOR") _, Value.int _ _, Value.int _ _]) _ _ _); (refine' Mine.c_ior (Spot.mk ?sO ?sF ?sN ?sB ?sT ?sK ?sR ?sU) ?kp ?_; (case sF => k_asm); (case sN => k_asm); (case sO => k_asm); (case sB => k_asm); (case sT => k_asm); (case sK => exact rfl); (case sR => ktr_room); (case sU => ktr_units); (case kp => first | omega | ((simp only [big]); omega)); intro t9 h9 tk9 F9 N9 p9; k_sweep; (try dsimp only); (try k_fold)))) | (k_dflt ((with_reducible show wpAny _ _ (call (Value.ref _) [Value.str (Str.ofString "XOR") _, Value.int _ _, Value.int _ _]) _ _ _); (refine' Mine.c_xor (Spot.mk ?sO ?sF ?sN ?sB ?sT ?sK ?sR ?sU) ?kp ?_; (case sF => k_asm); (case sN => k_asm); (case sO => k_asm); (case sB => k_asm); (case sT => k_asm); (case sK => exact rfl); (case sR => ktr_room); (case sU => ktr_units); (case kp => first | omega | ((simp only [big]); omega)); intro t9 h9 tk9 F9 N9 p9; k_sweep; (try dsimp only); (try k_fold)))) | (k_dflt ((with_reducible show wpAny _ _ (call (Value.ref _) [Value.ref _, Value.int _ _]) _ _ _); (refine' Mine.c_word (Spot.mk ?sO ?sF ?sN ?sB ?sT ?sK ?sR ?sU) ?kl ?ki ?kt ?kp ?_; (case sF => k_asm); (case sN => k_asm); (case sO => k_asm); (case sB => k_asm); (case sT => k_asm); (case sK => exact rfl); (case sR => ktr_room); (case sU => ktr_units); (case kl => k_asm); (case ki => l_ints); (case kt => l_fit); (case kp => first | omega | ((simp only [big]); omega)); intro t9 h9 tk9 F9 N9 p9; k_sweep; (try dsimp only); (try k_fold)))) | (k_dflt ((with_reducible show wpAny _ _ (call (Value.ref _) [Value.str (Str.ofString "SUB") _, Value.int _ _, Value.int _ _]) _ _ _); (refine' Mine.c_gap (Spot.mk ?sO ?sF ?sN ?sB ?sT ?sK ?sR ?sU) ?kp ?_; (case sF => k_asm); (case sN => k_asm); (case sO => k_asm); (case sB => k_asm); (case sT => k_asm); (case sK => exact rfl); (case sR => ktr_room); (case sU => ktr_units); (case kp => first | omega | ((simp only [big]); omega)); intro t9 t8 v1 v2 v4 v5 D' h9 tk9 F9 N9 p9; k_sweep; (try dsimp only); (try k_fold)))) | (k_dflt ((with_reducible show wpAny _ _ (call (Value.ref _) [Value.str (Str.ofString "DIV") _, Value.int _ _, Value.int _ _]) _ _ _); (refine' Mine.c_div (Spot.mk ?sO ?sF ?sN ?sB ?sT ?sK ?sR ?sU) ?kp ?_ ?_; (case sF => k_asm); (case sN => k_asm); (case sO => k_asm); (case sB => k_asm); (case sT => k_asm); (case sK => exact rfl); (case sR => ktr_room); (case sU => ktr_units); (case kp => first | omega | ((simp only [big]); omega)); (all_goals (first | (intro t9 t8 v1 v2 v3 v4 D' h9 tk9 F9 N9 p9 p8 p7) | (intro h9 tk9 F9 N9 p9))); (all_goals (k_sweep; (try dsimp only); (try k_fold))))))
  k_go
