/- Part of a proof: the last of these texts says what is proved. -/
import Derived.Test.YtjmigoikklkfdaaGreatDoorCtA1
import Derived.Shelf.Strings.Builder1
import Derived.Shelf.Strings.Builder2
import Derived.Shelf.Strings.OnBuilder
import Derived.Shelf.Small.Strs
import Derived.Shelf.Strings.BuilderF
import Derived.Shelf.Strings.BuilderK
import Derived.Shelf.Strings.Builder2Cap
import Derived.Shelf.Strings.Search1
import Derived.Shelf.Strings.Prefix
import Derived.Shelf.Bits.Mul64
import Derived.Shelf.Strings.Repeat
import Derived.Shelf.Strings.BuilderCap
import Derived.Test.YtjmigoikklkfdaaGreatDoorProg
import Derived.Lib.IndexAny
namespace Go.Proofs.YtjmigoikklkfdaaGreatDoor
open Go
set_option linter.unusedVariables false
set_option linter.unusedSimpArgs false
set_option maxRecDepth 4000
def vrun : Nat → List UInt8 → Nat
  | 0, _ => 0
  | _ + 1, [] => 0
  | n + 1, c :: s => if 128 ≤ c.toNat then vrun n s + 1 else 0
def vval (s : List UInt8) : Nat → Nat
  | 0 => 0
  | n + 1 => vval s n + (s.getD n 0).toNat % 128 * 128 ^ n
def vget (s : List UInt8) : Option (Nat × Nat) :=
  if s.length ≤ vrun 10 s ∨ 10 ≤ vrun 10 s then none
  else if (vrun 10 s = 9 ∧ 1 < (s.getD 9 0).toNat) ∨ (0 < vrun 10 s ∧ (s.getD (vrun 10 s) 0).toNat = 0) then none
  else some (vval s (vrun 10 s + 1), vrun 10 s + 1)
theorem vrun_le : ∀ (n : Nat) (s : List UInt8), vrun n s ≤ n ∧ vrun n s ≤ s.length
  | 0, s => by simp [vrun]
  | n + 1, [] => by simp [vrun]
  | n + 1, c :: s => by
    have := vrun_le n s
    unfold vrun; split <;> simp <;> omega
theorem vrun_hi : ∀ (n : Nat) (s : List UInt8) (i : Nat), i < vrun n s → 128 ≤ (s.getD i 0).toNat
  | 0, s, i, h => by simp [vrun] at h
  | n + 1, [], i, h => by simp [vrun] at h
  | n + 1, c :: s, 0, h => by
    unfold vrun at h; split at h
    · simpa using ‹128 ≤ c.toNat›
    · omega
  | n + 1, c :: s, i + 1, h => by
    unfold vrun at h; split at h
    · simpa using vrun_hi n s i (by omega)
    · omega
theorem vrun_lo : ∀ (n : Nat) (s : List UInt8), vrun n s < n → vrun n s < s.length → (s.getD (vrun n s) 0).toNat < 128
  | 0, s, h, _ => by simp at h
  | n + 1, [], h, h2 => by simp at h2
  | n + 1, c :: s, h, h2 => by
    unfold vrun at h h2 ⊢; split
    · rename_i hc
      rw [if_pos hc] at h h2
      simpa using vrun_lo n s (by omega) (by simpa using h2)
    · rename_i hc; simp; omega
theorem vval_lt (s : List UInt8) : ∀ n, vval s n < 128 ^ n
  | 0 => by simp [vval]
  | n + 1 => by
    have := vval_lt s n
    have h2 : (s.getD n 0).toNat % 128 * 128 ^ n ≤ 127 * 128 ^ n := Nat.mul_le_mul_right _ (by omega)
    rw [vval, Nat.pow_succ]; omega
theorem vval10 (s : List UInt8) (h : (s.getD 9 0).toNat ≤ 1) : vval s 10 < 18446744073709551616 := by
  have := vval_lt s 9
  rw [vval]
  have h2 : (s.getD 9 0).toNat % 128 * 128 ^ 9 ≤ 1 * 128 ^ 9 := Nat.mul_le_mul_right _ (by omega)
  omega
theorem vget_bound {s : List UInt8} {n k : Nat} (h : vget s = some (n, k)) : n < 18446744073709551616 ∧ 0 < k ∧ k ≤ 10 ∧ k ≤ s.length := by
  unfold vget at h
  split at h
  · cases h
  · split at h
    · cases h
    · rename_i h1 h2
      simp only [Option.some.injEq, Prod.mk.injEq] at h
      obtain ⟨rfl, rfl⟩ := h
      refine ⟨?_, by omega, by omega, by omega⟩
      rcases Nat.lt_or_ge (vrun 10 s) 9 with h9 | h9
      · have := vval_lt s (vrun 10 s + 1)
        have : 128 ^ (vrun 10 s + 1) ≤ 128 ^ 9 := Nat.pow_le_pow_right (by decide) (by omega)
        omega
      · have : vrun 10 s = 9 := by omega
        rw [this] at h2 ⊢
        exact vval10 s (by omega)
def refGetV (s : List UInt8) : Value := match vget s with
  | some (n, k) => .tuple #[.int .u64 n, .int .i64 k]
  | none => .tuple #[.int .u64 0, .int .i64 0]
theorem ref_Get_spec (s : List UInt8) (hs : s.length < 4294967296) (S : Mem) : PureL Tryz.prog 109 [str s] S [] (refGetV s) := by
  have r1 := vrun_le 10 s
  have r2 := vrun_hi 10 s
  have r3 := vrun_lo 10 s
  refine enter Tryz.func109 rfl 64 rfl rfl (fun w0 => ?_)
  refine sq ?_
  refine rg ?_
  refine q (vAs rfl) rfl ?_
  refine q (vAs rfl) rfl ?_
  refine nil ?_
  refine thN ?_
  refine sq ?_
  refine rg ?_
  refine q (vAs rfl) rfl ?_
  refine nil ?_
  refine thN ?_
  refine sq ?_
  refine bk ?_
  refine loop (ι := Nat) (fun (k : Nat) => [(0, str s), (4, .int .i64 k)]) (fun (k : Nat) => []) (fun (k : Nat) => fun S' => k ≤ vrun 10 s) (fun (k : Nat) => 10 - k) 0 (Nat.zero_le _) (.cons rfl (by first | rfl | simp | (simp <;> omega)) (.cons rfl (by first | rfl | simp | (simp <;> omega)) .nil)) .nil ?_
  rintro k S1 hle hk
  refine sq ?_
  refine sq ?_
  refine rg ?_
  refine q (vMv rfl) rfl ?_
  refine q (vMv rfl) rfl ?_
  refine q (vLenS Tryz.underlying9 rfl) rfl ?_
  refine q (vLt rfl rfl) rfl ?_
  refine q (vMv rfl) rfl ?_
  apply gAnd 11 14 3
  · rfl
  · intro hb1 hX1
    have hc1 := hb1 ; try simp only [bls, beq_iff_eq, bne_iff_ne, Int.reduceToNat, List.length_map] at hc1
    refine qT ⟨_, rfl, rfl⟩ (vMv rfl) rfl ?_
    refine qT ⟨_, rfl, rfl⟩ (vLt rfl rfl) rfl ?_
    refine q (vPkT rfl rfl) rfl ?_
    exact gTT 3 11 rfl rfl rfl rfl hb1 hX1
  · intro hb1 hX1
    have hc1 := hb1 ; try simp only [bls, beq_iff_eq, bne_iff_ne, Int.reduceToNat, List.length_map] at hc1
    refine qF ⟨_, _, rfl, rfl, rfl⟩ rfl ?_
    refine qF ⟨_, _, rfl, rfl, rfl⟩ rfl ?_
    refine q (vPkF rfl rfl) rfl ?_
    exact gTF 3 11 rfl rfl rfl rfl hb1 hX1
  refine q (vMv rfl) rfl ?_
  apply gAnd 15 20 5
  · rfl
  · intro hb2 hX2
    have hc2 := hb2 ; try simp only [bls, beq_iff_eq, bne_iff_ne, Int.reduceToNat, List.length_map] at hc2
    refine qT ⟨_, rfl, rfl⟩ (vMv rfl) rfl ?_
    refine qT ⟨_, rfl, rfl⟩ (vMv rfl) rfl ?_
    refine qT ⟨_, rfl, rfl⟩ (vIxS Tryz.underlying9 rfl rfl (by first | omega | (simp only [Int.toNat_natCast, Int.reduceToNat, List.length_append, List.length_cons, List.length_nil, List.length_map, bid_len]; omega) | (simp <;> omega))) rfl ?_
    refine qT ⟨_, rfl, rfl⟩ (vGe rfl rfl) rfl ?_
    refine q (vPkT rfl rfl) rfl ?_
    exact gTT 5 15 rfl rfl rfl rfl hb2 hX2
  · intro hb2 hX2
    have hc2 := hb2 ; try simp only [bls, beq_iff_eq, bne_iff_ne, Int.reduceToNat, List.length_map] at hc2
    refine qF ⟨_, _, rfl, rfl, rfl⟩ rfl ?_
    refine qF ⟨_, _, rfl, rfl, rfl⟩ rfl ?_
    refine qF ⟨_, _, rfl, rfl, rfl⟩ rfl ?_
    refine qF ⟨_, _, rfl, rfl, rfl⟩ rfl ?_
    refine q (vPkF rfl rfl) rfl ?_
    exact gTF 5 15 rfl rfl rfl rfl hb2 hX2
  refine nil ?_
  refine thN ?_
  refine cd rfl (fun hc => ?_) (fun hc => ?_) <;> try simp only [bls, beq_iff_eq, bne_iff_ne, Int.reduceToNat, List.length_map] at hc
  · skip
    obtain ⟨⟨h1, h2⟩, h3⟩ := hc
    have hlt : k < vrun 10 s := by
      rcases Nat.lt_or_ge k (vrun 10 s) with h | h
      · exact h
      · obtain rfl : k = vrun 10 s := by omega
        have := r3 (by omega) (by omega)
        omega
    refine sk ?_
    refine thN ?_
    refine bk ?_
    refine rg ?_
    refine q (vMv rfl) rfl ?_
    refine q (vAdd rfl rfl (by first | omega | (simp only [Int.toNat_natCast, Int.reduceToNat, List.length_append, List.length_cons, List.length_nil, List.length_map, bid_len]; omega) | (simp <;> omega))) rfl ?_
    refine q (vAs rfl) rfl ?_
    refine nil ?_
    refine bkN ?_
    refine thN ?_
    refine back (k + 1) (Le.refl _) ⟨hlt, by omega⟩ (.cons rfl (by first | rfl | simp | (simp <;> omega)) (.cons rfl (by first | rfl | simp | (simp <;> omega)) .nil)) .nil
  · skip
    obtain rfl : k = vrun 10 s := by
      rcases Nat.lt_or_ge k (vrun 10 s) with h | h
      · have := r2 k h
        omega
      · omega
    refine xt ?_
    refine thX ?_
    refine thX ?_
    refine bkX ?_
    refine thN ?_
    refine sq ?_
    refine sq ?_
    refine rg ?_
    refine q (vMv rfl) rfl ?_
    refine q (vMv rfl) rfl ?_
    refine q (vLenS Tryz.underlying9 rfl) rfl ?_
    refine q (vGe rfl rfl) rfl ?_
    refine q (vMv rfl) rfl ?_
    apply gOr 27 30 3
    · rfl
    · intro hb3 hX3
      have hc3 := hb3 ; try simp only [bls, beq_iff_eq, bne_iff_ne, Int.reduceToNat, List.length_map] at hc3
      refine qF ⟨_, _, rfl, rfl, rfl⟩ rfl ?_
      refine qF ⟨_, _, rfl, rfl, rfl⟩ rfl ?_
      refine q (vPkT rfl rfl) rfl ?_
      exact gOT 3 27 rfl rfl rfl rfl hb3 hX3
    · intro hb3 hX3
      have hc3 := hb3 ; try simp only [bls, beq_iff_eq, bne_iff_ne, Int.reduceToNat, List.length_map] at hc3
      refine qT ⟨_, rfl, rfl⟩ (vMv rfl) rfl ?_
      refine qT ⟨_, rfl, rfl⟩ (vGe rfl rfl) rfl ?_
      refine q (vPkF rfl rfl) rfl ?_
      exact gOF 3 27 rfl rfl rfl rfl hb3 hX3
    refine nil ?_
    refine thN ?_
    refine cd rfl (fun hd => ?_) (fun hd => ?_) <;> try simp only [bls, beq_iff_eq, bne_iff_ne, Int.reduceToNat, List.length_map] at hd
    · skip
      refine sq ?_
      refine rg ?_
      refine q (vAs rfl) rfl ?_
      refine q (vAs rfl) rfl ?_
      refine nil ?_
      refine thN ?_
      refine rt ?_
      refine thR ?_
      refine retP rfl (.t rfl (.t rfl .nil)) .nil ⟨by simp [pack, refGetV, vget, show s.length ≤ vrun 10 s ∨ 10 ≤ vrun 10 s by omega], rfl, rfl⟩
    · skip
      refine sk ?_
      refine thN ?_
      refine sq ?_
      refine sq ?_
      refine rg ?_
      refine q (vMv rfl) rfl ?_
      refine q (vEq rfl rfl) rfl ?_
      refine q (vMv rfl) rfl ?_
      apply gAnd 33 37 4
      · rfl
      · intro hb4 hX4
        have hc4 := hb4 ; try simp only [bls, beq_iff_eq, bne_iff_ne, Int.reduceToNat, List.length_map] at hc4
        refine qT ⟨_, rfl, rfl⟩ (vMv rfl) rfl ?_
        refine qT ⟨_, rfl, rfl⟩ (vIxS Tryz.underlying9 rfl rfl (by first | omega | (simp only [Int.toNat_natCast, Int.reduceToNat, List.length_append, List.length_cons, List.length_nil, List.length_map, bid_len]; omega) | (simp <;> omega))) rfl ?_
        refine qT ⟨_, rfl, rfl⟩ (vGt rfl rfl) rfl ?_
        refine q (vPkT rfl rfl) rfl ?_
        exact gTT 4 33 rfl rfl rfl rfl hb4 hX4
      · intro hb4 hX4
        have hc4 := hb4 ; try simp only [bls, beq_iff_eq, bne_iff_ne, Int.reduceToNat, List.length_map] at hc4
        refine qF ⟨_, _, rfl, rfl, rfl⟩ rfl ?_
        refine qF ⟨_, _, rfl, rfl, rfl⟩ rfl ?_
        refine qF ⟨_, _, rfl, rfl, rfl⟩ rfl ?_
        refine q (vPkF rfl rfl) rfl ?_
        exact gTF 4 33 rfl rfl rfl rfl hb4 hX4
      refine q (vMv rfl) rfl ?_
      apply gOr 38 47 9
      · rfl
      · intro hb5 hX5
        have hc5 := hb5 ; try simp only [bls, beq_iff_eq, bne_iff_ne, Int.reduceToNat, List.length_map] at hc5
        refine qF ⟨_, _, rfl, rfl, rfl⟩ rfl ?_
        refine qF ⟨_, _, rfl, rfl, rfl⟩ rfl ?_
        refine qF ⟨_, _, rfl, rfl, rfl⟩ rfl ?_
        refine qF ⟨_, _, rfl, rfl, rfl⟩ rfl ?_
        refine qF ⟨_, _, rfl, rfl, rfl⟩ rfl ?_
        refine qF ⟨_, _, rfl, rfl, rfl⟩ rfl ?_
        refine qF ⟨_, _, rfl, rfl, rfl⟩ rfl ?_
        refine qF ⟨_, _, rfl, rfl, rfl⟩ rfl ?_
        refine q (vPkT rfl rfl) rfl ?_
        exact gOT 9 38 rfl rfl rfl rfl hb5 hX5
      · intro hb5 hX5
        have hc5 := hb5 ; try simp only [bls, beq_iff_eq, bne_iff_ne, Int.reduceToNat, List.length_map] at hc5
        refine qT ⟨_, rfl, rfl⟩ (vMv rfl) rfl ?_
        refine qT ⟨_, rfl, rfl⟩ (vGt rfl rfl) rfl ?_
        refine qT ⟨_, rfl, rfl⟩ (vMv rfl) rfl ?_
        apply gAnd 41 46 5
        · rfl
        · intro hb6 hX6
          have hc6 := hb6 ; try simp only [bls, beq_iff_eq, bne_iff_ne, Int.reduceToNat, List.length_map] at hc6
          refine qT ⟨_, rfl, rfl⟩ (vMv rfl) rfl ?_
          refine qT ⟨_, rfl, rfl⟩ (vMv rfl) rfl ?_
          refine qT ⟨_, rfl, rfl⟩ (vIxS Tryz.underlying9 rfl rfl (by first | omega | (simp only [Int.toNat_natCast, Int.reduceToNat, List.length_append, List.length_cons, List.length_nil, List.length_map, bid_len]; omega) | (simp <;> omega))) rfl ?_
          refine qT ⟨_, rfl, rfl⟩ (vEq rfl rfl) rfl ?_
          refine qT ⟨_, rfl, rfl⟩ (vPkT rfl rfl) rfl ?_
          exact gTT 5 41 rfl rfl rfl rfl hb6 hX6
        · intro hb6 hX6
          have hc6 := hb6 ; try simp only [bls, beq_iff_eq, bne_iff_ne, Int.reduceToNat, List.length_map] at hc6
          refine qF ⟨_, _, rfl, rfl, rfl⟩ rfl ?_
          refine qF ⟨_, _, rfl, rfl, rfl⟩ rfl ?_
          refine qF ⟨_, _, rfl, rfl, rfl⟩ rfl ?_
          refine qF ⟨_, _, rfl, rfl, rfl⟩ rfl ?_
          refine qT ⟨_, rfl, rfl⟩ (vPkF rfl rfl) rfl ?_
          exact gTF 5 41 rfl rfl rfl rfl hb6 hX6
        refine q (vPkF rfl rfl) rfl ?_
        exact gOF 5 38 rfl rfl rfl rfl hb5 hX5
      refine nil ?_
      refine thN ?_
      refine cd rfl (fun he => ?_) (fun he => ?_) <;> try simp only [bls, beq_iff_eq, bne_iff_ne, Int.reduceToNat, List.length_map] at he
      · skip
        refine sq ?_
        refine rg ?_
        refine q (vAs rfl) rfl ?_
        refine q (vAs rfl) rfl ?_
        refine nil ?_
        refine thN ?_
        refine rt ?_
        refine thR ?_
        refine retP rfl (.t rfl (.t rfl .nil)) .nil ⟨?_, rfl, rfl⟩
        have h1 : ¬ (s.length ≤ vrun 10 s ∨ 10 ≤ vrun 10 s) := by omega
        have h2 : (vrun 10 s = 9 ∧ 1 < (s.getD 9 0).toNat) ∨ (0 < vrun 10 s ∧ (s.getD (vrun 10 s) 0).toNat = 0) := by omega
        simp only [pack, refGetV, vget, if_neg h1, if_pos h2]
        try rfl
      · skip
        have h1 : ¬ (s.length ≤ vrun 10 s ∨ 10 ≤ vrun 10 s) := by omega
        have h2 : ¬ ((vrun 10 s = 9 ∧ 1 < (s.getD 9 0).toNat) ∨ (0 < vrun 10 s ∧ (s.getD (vrun 10 s) 0).toNat = 0)) := by omega
        have hg : vget s = some (vval s (vrun 10 s + 1), vrun 10 s + 1) := by simp only [vget, if_neg h1, if_neg h2]
        have hb := vget_bound hg
        refine sk ?_
        refine thN ?_
        refine sq ?_
        refine rg ?_
        refine q (vAs rfl) rfl ?_
        refine nil ?_
        refine thN ?_
        refine sq ?_
        refine sq ?_
        refine rg ?_
        refine q (vMv rfl) rfl ?_
        refine q (vAs rfl) rfl ?_
        refine nil ?_
        refine thN ?_
        refine bk ?_
        refine loop (ι := Nat × Nat) (fun (p : Nat × Nat) => [(0, str s), (4, .int .i64 (vrun 10 s : Nat)), (5, .int .u64 (p.2 : Int)), (6, .int .i64 ((p.1 : Int) - 1))]) (fun (p : Nat × Nat) => []) (fun (p : Nat × Nat) => fun S' => p.1 ≤ vrun 10 s + 1 ∧ p.2 * 128 ^ p.1 + vval s p.1 = vval s (vrun 10 s + 1)) (fun (p : Nat × Nat) => p.1) (vrun 10 s + 1, 0) ⟨Nat.le_refl _, by simp⟩ (.cons rfl (by first | rfl | simp | (simp <;> omega)) (.cons rfl (by first | rfl | simp | (simp <;> omega)) (.cons rfl (by first | rfl | simp | (simp <;> omega)) (.cons rfl (by first | rfl | simp | (simp <;> omega)) .nil)))) .nil ?_
        rintro ⟨j, n⟩ S2 hle2 ⟨h3, h4⟩
        dsimp only at h3 h4
        refine sq ?_
        refine sq ?_
        refine rg ?_
        refine q (vMv rfl) rfl ?_
        refine q (vGe rfl rfl) rfl ?_
        refine nil ?_
        refine thN ?_
        refine cd rfl (fun hf => ?_) (fun hf => ?_) <;> try simp only [bls, beq_iff_eq, bne_iff_ne, Int.reduceToNat, List.length_map] at hf
        · skip
          obtain ⟨i, rfl⟩ : ∃ i, j = i + 1 := ⟨j - 1, by omega⟩
          have e1 : (((i + 1 : Nat) : Int) - 1) = (i : Int) := by omega
          have h5 : (128 * n + (s.getD i 0).toNat % 128) * 128 ^ i + vval s i = vval s (vrun 10 s + 1) := by
            rw [← h4, vval, Nat.pow_succ, Nat.add_mul]
            have : n * (128 ^ i * 128) = 128 * n * 128 ^ i := by rw [Nat.mul_comm (128 ^ i), ← Nat.mul_assoc, Nat.mul_comm n]
            omega
          have h6 : 128 * n + (s.getD i 0).toNat % 128 ≤ (128 * n + (s.getD i 0).toNat % 128) * 128 ^ i := Nat.le_mul_of_pos_right _ (Nat.pow_pos (by decide))
          simp only [e1]
          refine sk ?_
          refine thN ?_
          refine sq ?_
          refine bk ?_
          refine rg ?_
          refine q (vMv rfl) rfl ?_
          refine q (vMulN rfl rfl (by first | omega | (simp only [Int.toNat_natCast, Int.reduceToNat, List.length_append, List.length_cons, List.length_nil, List.length_map, bid_len]; omega) | (simp <;> omega))) rfl ?_
          refine q (vMv rfl) rfl ?_
          refine q (vMv rfl) rfl ?_
          refine q (vIxS Tryz.underlying9 rfl rfl (by first | omega | (simp only [Int.toNat_natCast, Int.reduceToNat, List.length_append, List.length_cons, List.length_nil, List.length_map, bid_len]; omega) | (simp <;> omega))) rfl ?_
          refine q (vRemU8 rfl rfl (by first | omega | (simp only [Int.toNat_natCast, Int.reduceToNat, List.length_append, List.length_cons, List.length_nil, List.length_map, bid_len]; omega) | (simp <;> omega))) rfl ?_
          refine q (vCvN Tryz.underlying179 Tryz.underlying5 rfl (by first | omega | (simp only [Int.toNat_natCast, Int.reduceToNat, List.length_append, List.length_cons, List.length_nil, List.length_map, bid_len]; omega) | (simp <;> omega))) rfl ?_
          refine q (vAddN rfl rfl (by first | omega | (simp only [Int.toNat_natCast, Int.reduceToNat, List.length_append, List.length_cons, List.length_nil, List.length_map, bid_len]; omega) | (simp <;> omega))) rfl ?_
          refine q (vAs rfl) rfl ?_
          refine nil ?_
          refine bkN ?_
          refine thN ?_
          refine rg ?_
          refine q (vMv rfl) rfl ?_
          refine q (vSub rfl rfl (by first | omega | (simp only [Int.toNat_natCast, Int.reduceToNat, List.length_append, List.length_cons, List.length_nil, List.length_map, bid_len]; omega) | (simp <;> omega))) rfl ?_
          refine q (vAs rfl) rfl ?_
          refine nil ?_
          refine thN ?_
          refine back ((i, 128 * n + (s.getD i 0).toNat % 128)) (Le.refl _) ⟨⟨by dsimp only; omega, h5⟩, by dsimp only; omega⟩ (.cons rfl (by first | rfl | simp | (simp <;> omega)) (.cons rfl (by first | rfl | simp | (simp <;> omega)) (.cons rfl (by first | rfl | simp | (simp <;> omega)) (.cons rfl (by first | rfl | simp | (simp <;> omega)) .nil)))) .nil
        · skip
          obtain rfl : j = 0 := by omega
          have h7 : n = vval s (vrun 10 s + 1) := by simpa [vval] using h4
          refine xt ?_
          refine thX ?_
          refine thX ?_
          refine bkX ?_
          refine thN ?_
          refine sq ?_
          refine rg ?_
          refine q (vMv rfl) rfl ?_
          refine q (vMv rfl) rfl ?_
          refine q (vAdd rfl rfl (by first | omega | (simp only [Int.toNat_natCast, Int.reduceToNat, List.length_append, List.length_cons, List.length_nil, List.length_map, bid_len]; omega) | (simp <;> omega))) rfl ?_
          refine q (vAs rfl) rfl ?_
          refine q (vAs rfl) rfl ?_
          refine nil ?_
          refine thN ?_
          refine rt ?_
          refine retP rfl (.t rfl (.t rfl .nil)) .nil ⟨by simp [pack, refGetV, hg, h7], rfl, rfl⟩
theorem ref_Get_some {s : List UInt8} (hs : s.length < 4294967296) {n k : Nat} (h : vget s = some (n, k)) (S : Mem) : PureL Tryz.prog 109 [str s] S [] (.tuple [.int .u64 n, .int .i64 k].toArray) := by
  have := ref_Get_spec s hs S; rwa [refGetV, h] at this
theorem ref_Get_none {s : List UInt8} (hs : s.length < 4294967296) (h : vget s = none) (S : Mem) : PureL Tryz.prog 109 [str s] S [] (.tuple [.int .u64 0, .int .i64 0].toArray) := by
  have := ref_Get_spec s hs S; rwa [refGetV, h] at this
def vtake (s : List UInt8) : Option (List UInt8 × Nat) := match vget s with
  | none => none
  | some (n, k) => if s.length - k < n then none else some ((s.drop k).take n, k + n)
def refTakeV (s : List UInt8) : Value := match vtake s with
  | some (t, k) => .tuple #[str t, .int .i64 k]
  | none => .tuple #[str [], .int .i64 0]
theorem ref_Take_spec (s : List UInt8) (hs : s.length < 4294967296) (S : Mem) : PureL Tryz.prog 147 [str s] S [] (refTakeV s) := by
  rcases hg : vget s with _ | ⟨n, k⟩
  · refine enter Tryz.func147 rfl 33 rfl rfl (fun w0 => ?_)
    refine sq ?_
    refine rg ?_
    refine q (vAs rfl) rfl ?_
    refine q (vAs rfl) rfl ?_
    refine nil ?_
    refine thN ?_
    refine sq ?_
    refine rg ?_
    refine q (vMv rfl) rfl ?_
    refine l rfl (callP cf109 (ref_Get_none hs hg _) rfl .nil rfl ?_)
    refine q (vMv rfl) rfl ?_
    refine q (vEx rfl rfl) rfl ?_
    refine q (vEx rfl rfl) rfl ?_
    refine q (vAs rfl) rfl ?_
    refine q (vAs rfl) rfl ?_
    refine nil ?_
    refine thN ?_
    refine sq ?_
    refine sq ?_
    refine rg ?_
    refine q (vMv rfl) rfl ?_
    refine q (vEq rfl rfl) rfl ?_
    refine q (vMv rfl) rfl ?_
    apply gOr 13 21 8
    · rfl
    · intro hb1 hX1
      have hc1 := hb1 ; try simp only [bls, beq_iff_eq, bne_iff_ne, Int.reduceToNat, List.length_map] at hc1
      refine qF ⟨_, _, rfl, rfl, rfl⟩ rfl ?_
      refine qF ⟨_, _, rfl, rfl, rfl⟩ rfl ?_
      refine qF ⟨_, _, rfl, rfl, rfl⟩ rfl ?_
      refine qF ⟨_, _, rfl, rfl, rfl⟩ rfl ?_
      refine qF ⟨_, _, rfl, rfl, rfl⟩ rfl ?_
      refine qF ⟨_, _, rfl, rfl, rfl⟩ rfl ?_
      refine qF ⟨_, _, rfl, rfl, rfl⟩ rfl ?_
      refine q (vPkT rfl rfl) rfl ?_
      exact gOT 8 13 rfl rfl rfl rfl hb1 hX1
    · intro hb1 hX1
      have hc1 := hb1 ; try simp only [bls, beq_iff_eq, bne_iff_ne, Int.reduceToNat, List.length_map] at hc1
      refine qT ⟨_, rfl, rfl⟩ (vMv rfl) rfl ?_
      refine qT ⟨_, rfl, rfl⟩ (vMv rfl) rfl ?_
      refine qT ⟨_, rfl, rfl⟩ (vLenS Tryz.underlying9 rfl) rfl ?_
      refine qT ⟨_, rfl, rfl⟩ (vMv rfl) rfl ?_
      refine qT ⟨_, rfl, rfl⟩ (vSub rfl rfl (by first | omega | (simp only [Int.toNat_natCast, Int.reduceToNat, List.length_append, List.length_cons, List.length_nil, List.length_map, bid_len]; omega) | (simp <;> omega))) rfl ?_
      refine qT ⟨_, rfl, rfl⟩ (vCvN Tryz.underlying179 Tryz.underlying3 rfl (by first | omega | (simp only [Int.toNat_natCast, Int.reduceToNat, List.length_append, List.length_cons, List.length_nil, List.length_map, bid_len]; omega) | (simp <;> omega))) rfl ?_
      refine qT ⟨_, rfl, rfl⟩ (vGt rfl rfl) rfl ?_
      refine q (vPkF rfl rfl) rfl ?_
      exact gOF 8 13 rfl rfl rfl rfl hb1 hX1
    refine nil ?_
    refine thN ?_
    refine cd rfl (fun hc => ?_) (fun hc => ?_) <;> try simp only [bls, beq_iff_eq, bne_iff_ne, Int.reduceToNat, List.length_map] at hc
    · skip
      refine sq ?_
      refine rg ?_
      refine q (vAs rfl) rfl ?_
      refine q (vAs rfl) rfl ?_
      refine nil ?_
      refine thN ?_
      refine rt ?_
      refine thR ?_
      refine retP rfl (.t rfl (.t rfl .nil)) .nil ⟨by simp [pack, refTakeV, vtake, hg], rfl, rfl⟩
    · skip
      simp at hc
  · have hb := vget_bound hg
    refine enter Tryz.func147 rfl 33 rfl rfl (fun w0 => ?_)
    refine sq ?_
    refine rg ?_
    refine q (vAs rfl) rfl ?_
    refine q (vAs rfl) rfl ?_
    refine nil ?_
    refine thN ?_
    refine sq ?_
    refine rg ?_
    refine q (vMv rfl) rfl ?_
    refine l rfl (callP cf109 (ref_Get_some hs hg _) rfl .nil rfl ?_)
    refine q (vMv rfl) rfl ?_
    refine q (vEx rfl rfl) rfl ?_
    refine q (vEx rfl rfl) rfl ?_
    refine q (vAs rfl) rfl ?_
    refine q (vAs rfl) rfl ?_
    refine nil ?_
    refine thN ?_
    refine sq ?_
    refine sq ?_
    refine rg ?_
    refine q (vMv rfl) rfl ?_
    refine q (vEq rfl rfl) rfl ?_
    refine q (vMv rfl) rfl ?_
    apply gOr 13 21 8
    · rfl
    · intro hb1 hX1
      have hc1 := hb1 ; try simp only [bls, beq_iff_eq, bne_iff_ne, Int.reduceToNat, List.length_map] at hc1
      refine qF ⟨_, _, rfl, rfl, rfl⟩ rfl ?_
      refine qF ⟨_, _, rfl, rfl, rfl⟩ rfl ?_
      refine qF ⟨_, _, rfl, rfl, rfl⟩ rfl ?_
      refine qF ⟨_, _, rfl, rfl, rfl⟩ rfl ?_
      refine qF ⟨_, _, rfl, rfl, rfl⟩ rfl ?_
      refine qF ⟨_, _, rfl, rfl, rfl⟩ rfl ?_
      refine qF ⟨_, _, rfl, rfl, rfl⟩ rfl ?_
      refine q (vPkT rfl rfl) rfl ?_
      exact gOT 8 13 rfl rfl rfl rfl hb1 hX1
    · intro hb1 hX1
      have hc1 := hb1 ; try simp only [bls, beq_iff_eq, bne_iff_ne, Int.reduceToNat, List.length_map] at hc1
      refine qT ⟨_, rfl, rfl⟩ (vMv rfl) rfl ?_
      refine qT ⟨_, rfl, rfl⟩ (vMv rfl) rfl ?_
      refine qT ⟨_, rfl, rfl⟩ (vLenS Tryz.underlying9 rfl) rfl ?_
      refine qT ⟨_, rfl, rfl⟩ (vMv rfl) rfl ?_
      refine qT ⟨_, rfl, rfl⟩ (vSub rfl rfl (by first | omega | (simp only [Int.toNat_natCast, Int.reduceToNat, List.length_append, List.length_cons, List.length_nil, List.length_map, bid_len]; omega) | (simp <;> omega))) rfl ?_
      refine qT ⟨_, rfl, rfl⟩ (vCvN Tryz.underlying179 Tryz.underlying3 rfl (by first | omega | (simp only [Int.toNat_natCast, Int.reduceToNat, List.length_append, List.length_cons, List.length_nil, List.length_map, bid_len]; omega) | (simp <;> omega))) rfl ?_
      refine qT ⟨_, rfl, rfl⟩ (vGt rfl rfl) rfl ?_
      refine q (vPkF rfl rfl) rfl ?_
      exact gOF 8 13 rfl rfl rfl rfl hb1 hX1
    refine nil ?_
    refine thN ?_
    refine cd rfl (fun hc => ?_) (fun hc => ?_) <;> try simp only [bls, beq_iff_eq, bne_iff_ne, Int.reduceToNat, List.length_map] at hc
    · skip
      refine sq ?_
      refine rg ?_
      refine q (vAs rfl) rfl ?_
      refine q (vAs rfl) rfl ?_
      refine nil ?_
      refine thN ?_
      refine rt ?_
      refine thR ?_
      refine retP rfl (.t rfl (.t rfl .nil)) .nil ⟨by simp [pack, refTakeV, vtake, hg, show s.length - k < n by omega], rfl, rfl⟩
    · skip
      refine sk ?_
      refine thN ?_
      refine sq ?_
      refine rg ?_
      refine q (vMv rfl) rfl ?_
      refine q (vMv rfl) rfl ?_
      refine q (vMv rfl) rfl ?_
      refine q (vMv rfl) rfl ?_
      refine q (vCvI Tryz.underlying3 Tryz.underlying179 rfl (by first | omega | (simp only [Int.toNat_natCast, Int.reduceToNat, List.length_append, List.length_cons, List.length_nil, List.length_map, bid_len]; omega) | (simp <;> omega))) rfl ?_
      refine q (vAdd rfl rfl (by first | omega | (simp only [Int.toNat_natCast, Int.reduceToNat, List.length_append, List.length_cons, List.length_nil, List.length_map, bid_len]; omega) | (simp <;> omega))) rfl ?_
      refine q (vSlS Tryz.underlying9 rfl rfl rfl (by first | omega | (simp only [Int.toNat_natCast, Int.reduceToNat, List.length_append, List.length_cons, List.length_nil, List.length_map, bid_len]; omega) | (simp <;> omega))) rfl ?_
      refine q (vMv rfl) rfl ?_
      refine q (vMv rfl) rfl ?_
      refine q (vCvI Tryz.underlying3 Tryz.underlying179 rfl (by first | omega | (simp only [Int.toNat_natCast, Int.reduceToNat, List.length_append, List.length_cons, List.length_nil, List.length_map, bid_len]; omega) | (simp <;> omega))) rfl ?_
      refine q (vAdd rfl rfl (by first | omega | (simp only [Int.toNat_natCast, Int.reduceToNat, List.length_append, List.length_cons, List.length_nil, List.length_map, bid_len]; omega) | (simp <;> omega))) rfl ?_
      refine q (vAs rfl) rfl ?_
      refine q (vAs rfl) rfl ?_
      refine nil ?_
      refine thN ?_
      refine rt ?_
      have e5 : ((k : Int) + (n : Int)).toNat - k = n := by omega
      refine retP rfl (.t rfl (.t rfl .nil)) .nil ⟨by simp [pack, refTakeV, vtake, hg, show ¬ s.length - k < n by omega, e5], rfl, rfl⟩
def getV (s : List UInt8) : Value := match vget s with
  | some (n, k) => .tuple [.int .u64 n, str (s.drop k), .int .i64 0].toArray
  | none => .tuple [.int .u64 0, str [], .int .i64 2].toArray
theorem or_digit (n d i : Nat) (h : n < 128 ^ i) (hd : d * 128 ^ i < 18446744073709551616) : n ||| (d * 2 ^ (7 * i)) % 18446744073709551616 = n + d * 128 ^ i := by
  have e1 : 2 ^ (7 * i) = 128 ^ i := by rw [Nat.pow_mul]
  rw [e1, Nat.mod_eq_of_lt hd]
  have h2 : n < 2 ^ (7 * i) := by rw [e1]; exact h
  have := Nat.shiftLeft_add_eq_or_of_lt h2 d
  rw [Nat.shiftLeft_eq, e1] at this
  rw [Nat.or_comm, ← this, Nat.add_comm]
theorem get_spec (s : List UInt8) (hs : s.length < 4294967296) (S : Mem) : PureL Tryz.prog 184 [str s] S [] (getV s) := by
  have r1 := vrun_le 10 s
  have r2 := vrun_hi 10 s
  have r3 := vrun_lo 10 s
  refine enter Tryz.func184 rfl 45 rfl rfl (fun w0 => ?_)
  refine sq ?_
  refine rg ?_
  refine q (vAs rfl) rfl ?_
  refine q (vAs rfl) rfl ?_
  refine q (vAs rfl) rfl ?_
  refine nil ?_
  refine thN ?_
  refine sq ?_
  refine rg ?_
  refine q (vAs rfl) rfl ?_
  refine nil ?_
  refine thN ?_
  refine sq ?_
  refine sq ?_
  refine rg ?_
  refine q (vMv rfl) rfl ?_
  refine q (vLenS Tryz.underlying9 rfl) rfl ?_
  refine q (vMin rfl rfl) rfl ?_
  refine q (vMv rfl) rfl ?_
  refine nil ?_
  refine thN ?_
  refine bk ?_
  refine loop (ι := Nat) (fun (k : Nat) => [(0, str s), (5, .int .u64 (vval s k : Nat)), (11, .int .i64 k), (10, .int .i64 (min (s.length : Int) 10))]) (fun (k : Nat) => []) (fun (k : Nat) => fun S' => k ≤ vrun 10 s) (fun (k : Nat) => 10 - k) 0 (Nat.zero_le _) (.cons rfl (by first | rfl | simp | (simp <;> omega)) (.cons rfl (by first | rfl | simp | (simp <;> omega)) (.cons rfl (by first | rfl | simp | (simp <;> omega)) (.cons rfl (by first | rfl | simp | (simp <;> omega)) .nil)))) .nil ?_
  rintro k S1 hle hk
  refine sq ?_
  refine rg ?_
  refine q (vLt rfl rfl) rfl ?_
  refine nil ?_
  refine thN ?_
  refine sq ?_
  refine cd rfl (fun hc => ?_) (fun hc => ?_) <;> try simp only [bls, beq_iff_eq, bne_iff_ne, Int.reduceToNat, List.length_map] at hc
  · skip
    have hv1 := vval_lt s k
    have hp9 : 128 ^ k ≤ 128 ^ 9 := Nat.pow_le_pow_right (by decide) (by omega)
    have hx := (s.getD k 0).toNat_lt
    have hx2 := (s.getD k 0 &&& 127).toNat_lt
    have hv2 : vval s k < 18446744073709551616 := by omega
    refine sk ?_
    refine thN ?_
    refine sq ?_
    refine bk ?_
    refine sq ?_
    refine rg ?_
    refine q (vMv rfl) rfl ?_
    refine q (vAs rfl) rfl ?_
    refine nil ?_
    refine thN ?_
    refine sq ?_
    refine rg ?_
    refine q (vMv rfl) rfl ?_
    refine q (vMv rfl) rfl ?_
    refine q (vIxS Tryz.underlying9 rfl rfl (by first | omega | (simp only [Int.toNat_natCast, Int.reduceToNat, List.length_append, List.length_cons, List.length_nil, List.length_map, bid_len]; omega) | (simp <;> omega))) rfl ?_
    refine q (vAs rfl) rfl ?_
    refine nil ?_
    refine thN ?_
    refine sq ?_
    refine sq ?_
    refine rg ?_
    refine q (vMv rfl) rfl ?_
    refine q (vEq rfl rfl) rfl ?_
    refine q (vMv rfl) rfl ?_
    apply gAnd 19 22 3
    · rfl
    · intro hb1 hX1
      have hc1 := hb1 ; try simp only [bls, beq_iff_eq, bne_iff_ne, Int.reduceToNat, List.length_map] at hc1
      refine qT ⟨_, rfl, rfl⟩ (vMv rfl) rfl ?_
      refine qT ⟨_, rfl, rfl⟩ (vGt rfl rfl) rfl ?_
      refine q (vPkT rfl rfl) rfl ?_
      exact gTT 3 19 rfl rfl rfl rfl hb1 hX1
    · intro hb1 hX1
      have hc1 := hb1 ; try simp only [bls, beq_iff_eq, bne_iff_ne, Int.reduceToNat, List.length_map] at hc1
      refine qF ⟨_, _, rfl, rfl, rfl⟩ rfl ?_
      refine qF ⟨_, _, rfl, rfl, rfl⟩ rfl ?_
      refine q (vPkF rfl rfl) rfl ?_
      exact gTF 3 19 rfl rfl rfl rfl hb1 hX1
    refine nil ?_
    refine thN ?_
    refine cd rfl (fun hd => ?_) (fun hd => ?_) <;> try simp only [bls, beq_iff_eq, bne_iff_ne, Int.reduceToNat, List.length_map] at hd
    · skip
      obtain ⟨h9, h1⟩ := hd
      obtain rfl : k = 9 := by omega
      have hn : vget s = none := by
        unfold vget
        by_cases h10 : vrun 10 s = 10
        · rw [if_pos (by omega)]
        · have : vrun 10 s = 9 := by omega
          rw [if_neg (by omega), if_pos (by omega)]
      refine xt ?_
      refine thX ?_
      refine bkY rfl ?_
      refine thX ?_
      refine thX ?_
      refine bkX ?_
      refine thN ?_
      refine sq ?_
      refine rg ?_
      refine q (vAs rfl) rfl ?_
      refine q (vAs rfl) rfl ?_
      refine q (vAs rfl) rfl ?_
      refine nil ?_
      refine thN ?_
      refine rt ?_
      refine retP rfl (.t rfl (.t rfl (.t rfl .nil))) .nil ⟨by simp [pack, getV, hn], rfl, rfl⟩
    · skip
      have hdig : (s.getD k 0).toNat % 128 * 128 ^ k < 18446744073709551616 := by
        rcases Nat.lt_or_ge k 9 with h9 | h9
        · have h1 : 128 ^ k ≤ 128 ^ 8 := Nat.pow_le_pow_right (by decide) (by omega)
          have h2 : (s.getD k 0).toNat % 128 * 128 ^ k ≤ 127 * 128 ^ 8 := Nat.mul_le_mul (by omega) h1
          omega
        · obtain rfl : k = 9 := by omega
          have h2 : (s.getD 9 0).toNat % 128 * 128 ^ 9 ≤ 1 * 128 ^ 9 := Nat.mul_le_mul (by omega) (Nat.le_refl _)
          omega
      have hand : (s.getD k 0 &&& 127).toNat = (s.getD k 0).toNat % 128 := by
        rw [UInt8.toNat_and]; exact Nat.and_two_pow_sub_one_eq_mod _ 7
      have hor := or_digit (vval s k) ((s.getD k 0).toNat % 128) k hv1 hdig
      have hx3 : ((s.getD k 0 &&& 127).toNat * 2 ^ (7 * k)) % 18446744073709551616 < 18446744073709551616 := Nat.mod_lt _ (by decide)
      refine sk ?_
      refine thN ?_
      refine sq ?_
      refine rg ?_
      refine q (vMv rfl) rfl ?_
      refine q (vMv rfl) rfl ?_
      refine q (tAndU8 (y := 127) rfl rfl) rfl ?_
      refine q (tCvN8 Tryz.underlying179 Tryz.underlying5 rfl) rfl ?_
      refine q (vMv rfl) rfl ?_
      refine q (vMul rfl rfl (by first | omega | (simp only [Int.toNat_natCast, Int.reduceToNat, List.length_append, List.length_cons, List.length_nil, List.length_map, bid_len]; omega) | (simp <;> omega))) rfl ?_
      refine q (vShlU64 rfl rfl (by first | omega | (simp only [Int.toNat_natCast, Int.reduceToNat, List.length_append, List.length_cons, List.length_nil, List.length_map, bid_len]; omega) | (simp <;> omega))) rfl ?_
      refine q (vOrU64 rfl rfl (by first | omega | (simp only [Int.toNat_natCast, Int.reduceToNat, List.length_append, List.length_cons, List.length_nil, List.length_map, bid_len]; omega) | (simp <;> omega))) rfl ?_
      refine q (vAs rfl) rfl ?_
      refine nil ?_
      refine thN ?_
      refine sq ?_
      refine sq ?_
      refine rg ?_
      refine q (vMv rfl) rfl ?_
      refine q (vGe rfl rfl) rfl ?_
      refine nil ?_
      refine thN ?_
      refine cd rfl (fun he => ?_) (fun he => ?_) <;> try simp only [bls, beq_iff_eq, bne_iff_ne, Int.reduceToNat, List.length_map] at he
      · skip
        have hlt : k < vrun 10 s := by
          rcases Nat.lt_or_ge k (vrun 10 s) with h | h
          · exact h
          · obtain rfl : k = vrun 10 s := by omega
            have := r3 (by omega) (by omega)
            omega
        have e1 : vval s k ||| ((s.getD k 0 &&& 127).toNat * 2 ^ (7 * k)) % 18446744073709551616 = vval s (k + 1) := by rw [hand, hor, vval]
        refine xt ?_
        refine thX ?_
        refine bkX ?_
        refine thN ?_
        refine rg ?_
        refine q (vAdd rfl rfl (by first | omega | (simp only [Int.toNat_natCast, Int.reduceToNat, List.length_append, List.length_cons, List.length_nil, List.length_map, bid_len]; omega) | (simp <;> omega))) rfl ?_
        refine q (vMv rfl) rfl ?_
        refine nil ?_
        refine thN ?_
        simp only [Int.toNat_natCast, e1]
        refine back (k + 1) (Le.refl _) ⟨hlt, by omega⟩ (.cons rfl (by first | rfl | simp | (simp <;> omega)) (.cons rfl (by first | rfl | simp | (simp <;> omega)) (.cons rfl (by first | rfl | simp | (simp <;> omega)) (.cons rfl (by first | rfl | simp | (simp <;> omega)) .nil)))) .nil
      · skip
        obtain rfl : k = vrun 10 s := by
          rcases Nat.lt_or_ge k (vrun 10 s) with h | h
          · have := r2 k h; omega
          · omega
        have h1 : ¬ (s.length ≤ vrun 10 s ∨ 10 ≤ vrun 10 s) := by omega
        refine sk ?_
        refine thN ?_
        refine sq ?_
        refine sq ?_
        refine rg ?_
        refine q (vMv rfl) rfl ?_
        refine q (vEq rfl rfl) rfl ?_
        refine q (vMv rfl) rfl ?_
        apply gAnd 35 38 3
        · rfl
        · intro hb2 hX2
          have hc2 := hb2 ; try simp only [bls, beq_iff_eq, bne_iff_ne, Int.reduceToNat, List.length_map] at hc2
          refine qT ⟨_, rfl, rfl⟩ (vMv rfl) rfl ?_
          refine qT ⟨_, rfl, rfl⟩ (vGt rfl rfl) rfl ?_
          refine q (vPkT rfl rfl) rfl ?_
          exact gTT 3 35 rfl rfl rfl rfl hb2 hX2
        · intro hb2 hX2
          have hc2 := hb2 ; try simp only [bls, beq_iff_eq, bne_iff_ne, Int.reduceToNat, List.length_map] at hc2
          refine qF ⟨_, _, rfl, rfl, rfl⟩ rfl ?_
          refine qF ⟨_, _, rfl, rfl, rfl⟩ rfl ?_
          refine q (vPkF rfl rfl) rfl ?_
          exact gTF 3 35 rfl rfl rfl rfl hb2 hX2
        refine nil ?_
        refine thN ?_
        refine cd rfl (fun hf => ?_) (fun hf => ?_) <;> try simp only [bls, beq_iff_eq, bne_iff_ne, Int.reduceToNat, List.length_map] at hf
        · skip
          have h2 : (vrun 10 s = 9 ∧ 1 < (s.getD 9 0).toNat) ∨ (0 < vrun 10 s ∧ (s.getD (vrun 10 s) 0).toNat = 0) := by omega
          have hn : vget s = none := by simp only [vget, if_neg h1, if_pos h2]
          refine xt ?_
          refine thX ?_
          refine bkY rfl ?_
          refine thX ?_
          refine thX ?_
          refine bkX ?_
          refine thN ?_
          refine sq ?_
          refine rg ?_
          refine q (vAs rfl) rfl ?_
          refine q (vAs rfl) rfl ?_
          refine q (vAs rfl) rfl ?_
          refine nil ?_
          refine thN ?_
          refine rt ?_
          refine retP rfl (.t rfl (.t rfl (.t rfl .nil))) .nil ⟨by simp [pack, getV, hn], rfl, rfl⟩
        · skip
          have h2 : ¬ ((vrun 10 s = 9 ∧ 1 < (s.getD 9 0).toNat) ∨ (0 < vrun 10 s ∧ (s.getD (vrun 10 s) 0).toNat = 0)) := by
            rintro (⟨h3, h4⟩ | h3)
            · rw [h3] at hd; omega
            · omega
          have hn : vget s = some (vval s (vrun 10 s + 1), vrun 10 s + 1) := by simp only [vget, if_neg h1, if_neg h2]
          refine sk ?_
          refine thN ?_
          refine sq ?_
          refine dr (.take 0 (.take 1 (.take 2 (.take 3 (.take 4 (.take 5 (.take 6 (.take 7 .done)))))))) wide (by decide +kernel) _ _ .nil ?_
          refine pT rfl (vMv rfl) rfl ?_
          refine pT rfl (vMv rfl) rfl ?_
          refine pT rfl (vMv rfl) rfl ?_
          refine pT rfl (vAdd rfl rfl (by first | omega | (simp only [Int.toNat_natCast, Int.reduceToNat, List.length_append, List.length_cons, List.length_nil, List.length_map, bid_len]; omega) | (simp <;> omega))) rfl ?_
          refine pT rfl (vSlSl Tryz.underlying9 rfl rfl (by first | omega | (simp only [Int.toNat_natCast, Int.reduceToNat, List.length_append, List.length_cons, List.length_nil, List.length_map, bid_len]; omega) | (simp <;> omega))) rfl ?_
          refine pT rfl (vAs rfl) rfl ?_
          refine pT rfl (vAs rfl) rfl ?_
          refine pT rfl (vAs rfl) rfl ?_
          refine pDone ?_
          refine thN ?_
          refine rt ?_
          refine bkR ?_
          refine thR ?_
          refine thR ?_
          refine bkR ?_
          refine thR ?_
          refine retP rfl (.t rfl (.t rfl (.t rfl .nil))) .nil ⟨?_, rfl, rfl⟩
          simp only [Int.toNat_natCast, hand, hor]
          simp [pack, getV, hn, vval]
  · skip
    have hn : vget s = none := by
      unfold vget
      rw [if_pos (by omega)]
    refine xt ?_
    refine thX ?_
    refine thX ?_
    refine bkX ?_
    refine thN ?_
    refine sq ?_
    refine rg ?_
    refine q (vAs rfl) rfl ?_
    refine q (vAs rfl) rfl ?_
    refine q (vAs rfl) rfl ?_
    refine nil ?_
    refine thN ?_
    refine rt ?_
    refine retP rfl (.t rfl (.t rfl (.t rfl .nil))) .nil ⟨by simp [pack, getV, hn], rfl, rfl⟩
theorem get_some {s : List UInt8} (hs : s.length < 4294967296) {n k : Nat} (h : vget s = some (n, k)) (S : Mem) : PureL Tryz.prog 184 [str s] S [] (.tuple [.int .u64 n, str (s.drop k), .int .i64 0].toArray) := by
  have := get_spec s hs S; rwa [getV, h] at this
theorem get_none {s : List UInt8} (hs : s.length < 4294967296) (h : vget s = none) (S : Mem) : PureL Tryz.prog 184 [str s] S [] (.tuple [.int .u64 0, str [], .int .i64 2].toArray) := by
  have := get_spec s hs S; rwa [getV, h] at this
def takeV (s : List UInt8) : Value := match vtake s with
  | some (t, k) => .tuple [str t, str (s.drop k), .int .i64 0].toArray
  | none => .tuple [str [], str [], .int .i64 2].toArray
theorem take_spec (s : List UInt8) (hs : s.length < 4294967296) (S : Mem) : PureL Tryz.prog 157 [str s] S [] (takeV s) := by
  rcases hg : vget s with _ | ⟨n, k⟩
  · refine enter Tryz.func157 rfl 29 rfl rfl (fun w0 => ?_)
    refine sq ?_
    refine rg ?_
    refine q (vAs rfl) rfl ?_
    refine q (vAs rfl) rfl ?_
    refine q (vAs rfl) rfl ?_
    refine nil ?_
    refine thN ?_
    refine sq ?_
    refine rg ?_
    refine q (vMv rfl) rfl ?_
    refine l rfl (callP cf184 (get_none hs hg _) rfl .nil rfl ?_)
    refine q (vMv rfl) rfl ?_
    refine q (vEx rfl rfl) rfl ?_
    refine q (vEx rfl rfl) rfl ?_
    refine q (vEx rfl rfl) rfl ?_
    refine q (vAs rfl) rfl ?_
    refine q (vAs rfl) rfl ?_
    refine q (vAs rfl) rfl ?_
    refine nil ?_
    refine thN ?_
    refine sq ?_
    refine sq ?_
    refine rg ?_
    refine q (vMv rfl) rfl ?_
    refine q (vNe rfl rfl) rfl ?_
    refine q (vMv rfl) rfl ?_
    apply gOr 16 22 6
    · rfl
    · intro hb1 hX1
      have hc1 := hb1 ; try simp only [bls, beq_iff_eq, bne_iff_ne, Int.reduceToNat, List.length_map] at hc1
      refine qF ⟨_, _, rfl, rfl, rfl⟩ rfl ?_
      refine qF ⟨_, _, rfl, rfl, rfl⟩ rfl ?_
      refine qF ⟨_, _, rfl, rfl, rfl⟩ rfl ?_
      refine qF ⟨_, _, rfl, rfl, rfl⟩ rfl ?_
      refine qF ⟨_, _, rfl, rfl, rfl⟩ rfl ?_
      refine q (vPkT rfl rfl) rfl ?_
      exact gOT 6 16 rfl rfl rfl rfl hb1 hX1
    · intro hb1 hX1
      have hc1 := hb1 ; try simp only [bls, beq_iff_eq, bne_iff_ne, Int.reduceToNat, List.length_map] at hc1
      refine qT ⟨_, rfl, rfl⟩ (vMv rfl) rfl ?_
      refine qT ⟨_, rfl, rfl⟩ (vMv rfl) rfl ?_
      refine qT ⟨_, rfl, rfl⟩ (vLenS Tryz.underlying9 rfl) rfl ?_
      refine qT ⟨_, rfl, rfl⟩ (vCvN Tryz.underlying179 Tryz.underlying3 rfl (by first | omega | (simp only [Int.toNat_natCast, Int.reduceToNat, List.length_append, List.length_cons, List.length_nil, List.length_map, bid_len]; omega) | (simp <;> omega))) rfl ?_
      refine qT ⟨_, rfl, rfl⟩ (vGt rfl rfl) rfl ?_
      refine q (vPkF rfl rfl) rfl ?_
      exact gOF 6 16 rfl rfl rfl rfl hb1 hX1
    refine nil ?_
    refine thN ?_
    refine cd rfl (fun hc => ?_) (fun hc => ?_) <;> try simp only [bls, beq_iff_eq, bne_iff_ne, Int.reduceToNat, List.length_map] at hc
    · skip
      refine sq ?_
      refine rg ?_
      refine q (vAs rfl) rfl ?_
      refine q (vAs rfl) rfl ?_
      refine q (vAs rfl) rfl ?_
      refine nil ?_
      refine thN ?_
      refine rt ?_
      refine thR ?_
      refine retP rfl (.t rfl (.t rfl (.t rfl .nil))) .nil ⟨by simp [pack, takeV, vtake, hg], rfl, rfl⟩
    · skip
      simp at hc
  · have hb := vget_bound hg
    refine enter Tryz.func157 rfl 29 rfl rfl (fun w0 => ?_)
    refine sq ?_
    refine rg ?_
    refine q (vAs rfl) rfl ?_
    refine q (vAs rfl) rfl ?_
    refine q (vAs rfl) rfl ?_
    refine nil ?_
    refine thN ?_
    refine sq ?_
    refine rg ?_
    refine q (vMv rfl) rfl ?_
    refine l rfl (callP cf184 (get_some hs hg _) rfl .nil rfl ?_)
    refine q (vMv rfl) rfl ?_
    refine q (vEx rfl rfl) rfl ?_
    refine q (vEx rfl rfl) rfl ?_
    refine q (vEx rfl rfl) rfl ?_
    refine q (vAs rfl) rfl ?_
    refine q (vAs rfl) rfl ?_
    refine q (vAs rfl) rfl ?_
    refine nil ?_
    refine thN ?_
    refine sq ?_
    refine sq ?_
    refine rg ?_
    refine q (vMv rfl) rfl ?_
    refine q (vNe rfl rfl) rfl ?_
    refine q (vMv rfl) rfl ?_
    apply gOr 16 22 6
    · rfl
    · intro hb1 hX1
      have hc1 := hb1 ; try simp only [bls, beq_iff_eq, bne_iff_ne, Int.reduceToNat, List.length_map] at hc1
      refine qF ⟨_, _, rfl, rfl, rfl⟩ rfl ?_
      refine qF ⟨_, _, rfl, rfl, rfl⟩ rfl ?_
      refine qF ⟨_, _, rfl, rfl, rfl⟩ rfl ?_
      refine qF ⟨_, _, rfl, rfl, rfl⟩ rfl ?_
      refine qF ⟨_, _, rfl, rfl, rfl⟩ rfl ?_
      refine q (vPkT rfl rfl) rfl ?_
      exact gOT 6 16 rfl rfl rfl rfl hb1 hX1
    · intro hb1 hX1
      have hc1 := hb1 ; try simp only [bls, beq_iff_eq, bne_iff_ne, Int.reduceToNat, List.length_map] at hc1
      refine qT ⟨_, rfl, rfl⟩ (vMv rfl) rfl ?_
      refine qT ⟨_, rfl, rfl⟩ (vMv rfl) rfl ?_
      refine qT ⟨_, rfl, rfl⟩ (vLenS Tryz.underlying9 rfl) rfl ?_
      refine qT ⟨_, rfl, rfl⟩ (vCvN Tryz.underlying179 Tryz.underlying3 rfl (by first | omega | (simp only [Int.toNat_natCast, Int.reduceToNat, List.length_append, List.length_cons, List.length_nil, List.length_map, bid_len]; omega) | (simp <;> omega))) rfl ?_
      refine qT ⟨_, rfl, rfl⟩ (vGt rfl rfl) rfl ?_
      refine q (vPkF rfl rfl) rfl ?_
      exact gOF 6 16 rfl rfl rfl rfl hb1 hX1
    refine nil ?_
    refine thN ?_
    refine cd rfl (fun hc => ?_) (fun hc => ?_) <;> try simp only [bls, beq_iff_eq, bne_iff_ne, Int.reduceToNat, List.length_map] at hc
    · skip
      simp at hc
      refine sq ?_
      refine rg ?_
      refine q (vAs rfl) rfl ?_
      refine q (vAs rfl) rfl ?_
      refine q (vAs rfl) rfl ?_
      refine nil ?_
      refine thN ?_
      refine rt ?_
      refine thR ?_
      refine retP rfl (.t rfl (.t rfl (.t rfl .nil))) .nil ⟨by simp [pack, takeV, vtake, hg, show s.length - k < n by omega], rfl, rfl⟩
    · skip
      simp at hc
      refine sk ?_
      refine thN ?_
      refine sq ?_
      refine dr (.take 0 (.take 1 (.take 2 (.take 3 (.take 4 (.take 5 (.take 6 (.take 7 (.take 8 .done))))))))) wide (by decide +kernel) _ _ .nil ?_
      refine pT rfl (vMv rfl) rfl ?_
      refine pT rfl (vMv rfl) rfl ?_
      refine pT rfl (vSlSh Tryz.underlying9 rfl rfl (by first | omega | (simp only [Int.toNat_natCast, Int.reduceToNat, List.length_append, List.length_cons, List.length_nil, List.length_map, bid_len]; omega) | (simp <;> omega))) rfl ?_
      refine pT rfl (vMv rfl) rfl ?_
      refine pT rfl (vMv rfl) rfl ?_
      refine pT rfl (vSlSl Tryz.underlying9 rfl rfl (by first | omega | (simp only [Int.toNat_natCast, Int.reduceToNat, List.length_append, List.length_cons, List.length_nil, List.length_map, bid_len]; omega) | (simp <;> omega))) rfl ?_
      refine pT rfl (vAs rfl) rfl ?_
      refine pT rfl (vAs rfl) rfl ?_
      refine pT rfl (vAs rfl) rfl ?_
      refine pDone ?_
      refine thN ?_
      refine rt ?_
      refine retP rfl (.t rfl (.t rfl (.t rfl .nil))) .nil ⟨by simp [pack, takeV, vtake, hg, show ¬ s.length - k < n by omega, List.drop_drop, Nat.add_comm], rfl, rfl⟩
theorem take_some {s : List UInt8} (hs : s.length < 4294967296) {t : List UInt8} {k : Nat} (h : vtake s = some (t, k)) (S : Mem) : PureL Tryz.prog 157 [str s] S [] (.tuple [str t, str (s.drop k), .int .i64 0].toArray) := by
  have := take_spec s hs S; rwa [takeV, h] at this
theorem take_none {s : List UInt8} (hs : s.length < 4294967296) (h : vtake s = none) (S : Mem) : PureL Tryz.prog 157 [str s] S [] (.tuple [str [], str [], .int .i64 2].toArray) := by
  have := take_spec s hs S; rwa [takeV, h] at this
end Go.Proofs.YtjmigoikklkfdaaGreatDoor
namespace Go.Proofs
open Go.Shelf
def Tryz.lays156_ren : Go.Shelf.Ren := ⟨fun | 156 => 179 | 165 => 202 | 166 => 203 | 169 => 204 | 240 => 218 | 241 => 219 | 276 => 224 | 277 => 225 | n => n, fun | 31 => 59 | 9 => 9 | 3 => 3 | 4 => 4 | 0 => 0 | 20 => 20 | 72 => 301 | 76 => 305 | 70 => 299 | 37 => 23 | 75 => 304 | 127 => 321 | 164 => 330 | 5 => 5 | 80 => 289 | n => n, fun | n => n⟩
theorem Tryz.lays156 : Go.Proofs.Lays.n156 Tryz.prog Tryz.lays156_ren := {
  mixed := by kernel_rfl
  f156 := Tryz.func179.trans (congrArg some (by kernel_rfl))
  f165 := Tryz.func202.trans (congrArg some (by kernel_rfl))
  f166 := Tryz.func203.trans (congrArg some (by kernel_rfl))
  f169 := Tryz.func204.trans (congrArg some (by kernel_rfl))
  f240 := Tryz.func218.trans (congrArg some (by kernel_rfl))
  f241 := Tryz.func219.trans (congrArg some (by kernel_rfl))
  f276 := Tryz.func224.trans (congrArg some (by kernel_rfl))
  f277 := Tryz.func225.trans (congrArg some (by kernel_rfl))
  t0 := Tryz.underlying0
  a0 := Tryz.isAgg0
  z0 := Tryz.sizeOf0
  v0 := Tryz.zeroValue0
  t3 := Tryz.underlying3
  a3 := Tryz.isAgg3
  z3 := Tryz.sizeOf3
  v3 := Tryz.zeroValue3
  t4 := Tryz.underlying4
  a4 := Tryz.isAgg4
  z4 := Tryz.sizeOf4
  v4 := Tryz.zeroValue4
  t9 := Tryz.underlying9
  a9 := Tryz.isAgg9
  z9 := Tryz.sizeOf9
  v9 := Tryz.zeroValue9
  t20 := Tryz.underlying20
  a20 := Tryz.isAgg20
  z20 := Tryz.sizeOf20
  v20 := Tryz.zeroValue20
  t31 := Tryz.underlying59
  a31 := Tryz.isAgg59
  z31 := Tryz.sizeOf59
  v31 := Tryz.zeroValue59
  t37 := Tryz.underlying23
  a37 := Tryz.isAgg23
  z37 := Tryz.sizeOf23
  v37 := Tryz.zeroValue23
  t70 := Tryz.underlying299
  a70 := Tryz.isAgg299
  z70 := Tryz.sizeOf299
  v70 := Tryz.zeroValue299
  t72 := Tryz.underlying301
  a72 := Tryz.isAgg301
  z72 := Tryz.sizeOf301
  v72 := Tryz.zeroValue301
  t75 := Tryz.underlying304
  a75 := Tryz.isAgg304
  z75 := Tryz.sizeOf304
  v75 := Tryz.zeroValue304
  t76 := Tryz.underlying305
  a76 := Tryz.isAgg305
  z76 := Tryz.sizeOf305
  v76 := Tryz.zeroValue305
  t127 := Tryz.underlying321
  a127 := Tryz.isAgg321
  z127 := Tryz.sizeOf321
  v127 := Tryz.zeroValue321
  t164 := Tryz.underlying330
  a164 := Tryz.isAgg330
  z164 := Tryz.sizeOf330
  v164 := Tryz.zeroValue330 }
theorem Tryz.Builder_Extra_156 : Builder.Extra Tryz.prog Tryz.lays156_ren := {
  sizeBuilder := by kernel_rfl
  liesBuilder := by kernel_rfl
  t5 := Tryz.underlying5
  a5 := Tryz.isAgg5
  z5 := Tryz.sizeOf5
  v5 := Tryz.zeroValue5
  infoByte := by kernel_rfl
  cellsByte := by kernel_rfl
  sizeByte := by kernel_rfl
  neB5 := by decide }
open Go.RowKit in
theorem Tryz.strings_Join (bk o c : Nat) (xs : List ByteArray) (sep : ByteArray) (w : World) (hcells : ∀ (j : Nat) x, xs[j]? = some x → w.cell? ⟨bk, o + j, none⟩ = some (.string x)) (hbk : bk < w.heap.size) (hN : xs.length ≤ 140737488355328) (hcap : xs.length ≤ c) (hlen : (Lib.join (xs.map (·.data.toList)) sep.data.toList).length ≤ 140737488355328) :
    Calls Tryz.prog 179 #[.slice (some ⟨bk, o, none⟩) xs.length c, .string sep] w fun e w' => e = .returned (.string ⟨(Lib.join (xs.map (·.data.toList)) sep.data.toList).toArray⟩) ∧ Below w.heap.size w w' := Any.strings_Join Tryz.lays156 Tryz.Builder_Extra_156 bk o c xs sep w hcells hbk hN hcap hlen
def Tryz.lays137_ren : Go.Shelf.Ren := ⟨fun | 137 => 211 | 217 => 222 | 266 => 226 | n => n, fun | 9 => 9 | 5 => 5 | 3 => 3 | n => n, fun | n => n⟩
theorem Tryz.lays137 : Go.Proofs.Lays.n137 Tryz.prog Tryz.lays137_ren := {
  mixed := by kernel_rfl
  f137 := Tryz.func211.trans (congrArg some (by kernel_rfl))
  f217 := Tryz.func222.trans (congrArg some (by kernel_rfl))
  f266 := Tryz.func226.trans (congrArg some (by kernel_rfl))
  t3 := Tryz.underlying3
  a3 := Tryz.isAgg3
  z3 := Tryz.sizeOf3
  v3 := Tryz.zeroValue3
  t5 := Tryz.underlying5
  a5 := Tryz.isAgg5
  z5 := Tryz.sizeOf5
  v5 := Tryz.zeroValue5
  t9 := Tryz.underlying9
  a9 := Tryz.isAgg9
  z9 := Tryz.sizeOf9
  v9 := Tryz.zeroValue9 }
open Go.RowKit in
theorem Tryz.strings_IndexByte (s : ByteArray) (c : Int) (w : World) :
    Calls Tryz.prog 211 #[.string s, .int .u8 c] w fun e w' => e = .returned (.int .i64 (Lib.indexByte s.data.toList c.toNat.toUInt8)) ∧ w' = w := Any.strings_IndexByte Tryz.lays137 s c w
def Tryz.lays105_ren : Go.Shelf.Ren := ⟨fun | 105 => 180 | 212 => 205 | 99 => 199 | 165 => 202 | 166 => 203 | 170 => 206 | 169 => 204 | 263 => 220 | 264 => 221 | 206 => 216 | 240 => 218 | 241 => 219 | 276 => 224 | 277 => 225 | n => n, fun | 9 => 9 | 3 => 3 | 4 => 4 | 20 => 20 | 0 => 0 | 46 => 192 | 109 => 307 | 5 => 5 | 72 => 301 | 76 => 305 | 51 => 75 | 146 => 322 | 53 => 179 | 148 => 324 | 70 => 299 | 37 => 23 | 75 => 304 | 127 => 321 | 164 => 330 | 80 => 289 | n => n, fun | n => n⟩
theorem Tryz.lays105 : Go.Proofs.Lays.n105 Tryz.prog Tryz.lays105_ren := {
  mixed := by kernel_rfl
  f99 := Tryz.func199.trans (congrArg some (by kernel_rfl))
  f105 := Tryz.func180.trans (congrArg some (by kernel_rfl))
  f165 := Tryz.func202.trans (congrArg some (by kernel_rfl))
  f166 := Tryz.func203.trans (congrArg some (by kernel_rfl))
  f169 := Tryz.func204.trans (congrArg some (by kernel_rfl))
  f170 := Tryz.func206.trans (congrArg some (by kernel_rfl))
  f206 := Tryz.func216.trans (congrArg some (by kernel_rfl))
  f212 := Tryz.func205.trans (congrArg some (by kernel_rfl))
  f240 := Tryz.func218.trans (congrArg some (by kernel_rfl))
  f241 := Tryz.func219.trans (congrArg some (by kernel_rfl))
  f263 := Tryz.func220.trans (congrArg some (by kernel_rfl))
  f264 := Tryz.func221.trans (congrArg some (by kernel_rfl))
  f276 := Tryz.func224.trans (congrArg some (by kernel_rfl))
  f277 := Tryz.func225.trans (congrArg some (by kernel_rfl))
  t0 := Tryz.underlying0
  a0 := Tryz.isAgg0
  z0 := Tryz.sizeOf0
  v0 := Tryz.zeroValue0
  t3 := Tryz.underlying3
  a3 := Tryz.isAgg3
  z3 := Tryz.sizeOf3
  v3 := Tryz.zeroValue3
  t4 := Tryz.underlying4
  a4 := Tryz.isAgg4
  z4 := Tryz.sizeOf4
  v4 := Tryz.zeroValue4
  t5 := Tryz.underlying5
  a5 := Tryz.isAgg5
  z5 := Tryz.sizeOf5
  v5 := Tryz.zeroValue5
  t9 := Tryz.underlying9
  a9 := Tryz.isAgg9
  z9 := Tryz.sizeOf9
  v9 := Tryz.zeroValue9
  t20 := Tryz.underlying20
  a20 := Tryz.isAgg20
  z20 := Tryz.sizeOf20
  v20 := Tryz.zeroValue20
  t37 := Tryz.underlying23
  a37 := Tryz.isAgg23
  z37 := Tryz.sizeOf23
  v37 := Tryz.zeroValue23
  t46 := Tryz.underlying192
  a46 := Tryz.isAgg192
  z46 := Tryz.sizeOf192
  v46 := Tryz.zeroValue192
  t51 := Tryz.underlying75
  a51 := Tryz.isAgg75
  z51 := Tryz.sizeOf75
  v51 := Tryz.zeroValue75
  t53 := Tryz.underlying179
  a53 := Tryz.isAgg179
  z53 := Tryz.sizeOf179
  v53 := Tryz.zeroValue179
  t70 := Tryz.underlying299
  a70 := Tryz.isAgg299
  z70 := Tryz.sizeOf299
  v70 := Tryz.zeroValue299
  t72 := Tryz.underlying301
  a72 := Tryz.isAgg301
  z72 := Tryz.sizeOf301
  v72 := Tryz.zeroValue301
  t75 := Tryz.underlying304
  a75 := Tryz.isAgg304
  z75 := Tryz.sizeOf304
  v75 := Tryz.zeroValue304
  t76 := Tryz.underlying305
  a76 := Tryz.isAgg305
  z76 := Tryz.sizeOf305
  v76 := Tryz.zeroValue305
  t109 := Tryz.underlying307
  a109 := Tryz.isAgg307
  z109 := Tryz.sizeOf307
  v109 := Tryz.zeroValue307
  t127 := Tryz.underlying321
  a127 := Tryz.isAgg321
  z127 := Tryz.sizeOf321
  v127 := Tryz.zeroValue321
  t146 := Tryz.underlying322
  a146 := Tryz.isAgg322
  z146 := Tryz.sizeOf322
  v146 := Tryz.zeroValue322
  t148 := Tryz.underlying324
  a148 := Tryz.isAgg324
  z148 := Tryz.sizeOf324
  v148 := Tryz.zeroValue324
  t164 := Tryz.underlying330
  a164 := Tryz.isAgg330
  z164 := Tryz.sizeOf330
  v164 := Tryz.zeroValue330 }
theorem Tryz.Builder_Extra_105 : Builder.Extra Tryz.prog Tryz.lays105_ren := {
  sizeBuilder := by kernel_rfl
  liesBuilder := by kernel_rfl
  t5 := Tryz.underlying5
  a5 := Tryz.isAgg5
  z5 := Tryz.sizeOf5
  v5 := Tryz.zeroValue5
  infoByte := by kernel_rfl
  cellsByte := by kernel_rfl
  sizeByte := by kernel_rfl
  neB5 := by decide }
open Go.RowKit Go.Lib in
theorem Tryz.strings_Repeat (s : ByteArray) (c : Nat) (w : World) (hc : c ≤ 9223372036854775807) (hlen : s.size * c ≤ 140737488355328) :
    Calls Tryz.prog 180 #[.string s, .int .i64 c] w fun e w' => e = .returned (.string ⟨(Lib.repeatL s.data.toList c).toArray⟩) ∧ Below w.heap.size w w' := Any.strings_Repeat Tryz.lays105 Tryz.Builder_Extra_105 s c w hc hlen
end Go.Proofs
namespace Go.Proofs.YtjmigoikklkfdaaGreatDoor
open Go
set_option linter.unusedVariables false
set_option linter.unusedSimpArgs false
set_option maxRecDepth 4000
structure DEnt where
  name : List UInt8
  kind : Nat
  id : BId
structure DObj where
  kind : Nat
  data : List UInt8
  entries : List DEnt
  tree : BId
  parents : List BId
  time : UInt32
  text : List UInt8
  target : BId
  of : Nat
  name : List UInt8
instance : Inhabited BId := ⟨zid⟩
instance : Inhabited DEnt := ⟨⟨[], 0, zid⟩⟩
abbrev encE (x : DEnt) : List Value := [[str x.name], [.int .i64 (x.kind : Int)], encId x.id].flatten
abbrev segsO (o : DObj) (ve vp : Value) : List (List Value) := [[.int .i64 (o.kind : Int)], [str o.data], [ve], encId o.tree, [vp], [u32v o.time], [str o.text], encId o.target, [.int .i64 (o.of : Int)], [str o.name]]
abbrev objv (o : DObj) (ve vp : Value) : Value := ag (segsO o ve vp)
def zobj : DObj := ⟨0, [], [], zid, [], 0, [], zid, 0, []⟩
structure ObjIn (S : Mem) (o : DObj) (ve vp : Value) : Prop where
  e : PSl S ve 34 (o.entries.map encE)
  p : PSl S vp 32 (o.parents.map encId)
theorem ObjIn.mono {S S' o ve vp} (h : ObjIn S o ve vp) (l : Le S S') : ObjIn S' o ve vp := ⟨h.e.mono l, h.p.mono l⟩
def NameOk (s : List UInt8) : Prop := (∀ c, c ∈ s → c.toNat ≠ 0 ∧ c.toNat ≠ 47) ∧ 1 ≤ s.length ∧ s.length ≤ 40
instance (s : List UInt8) : Decidable (NameOk s) := by unfold NameOk; infer_instance
theorem all_ix {p : UInt8 → Prop} {s : List UInt8} : (∀ c, c ∈ s → p c) ↔ ∀ i, i < s.length → p (s.getD i 0) := by
  constructor
  · intro h i hi
    have : s.getD i 0 = s[i] := by simp [List.getD, hi]
    rw [this]; exact h _ (List.getElem_mem hi)
  · intro h c hc
    obtain ⟨i, hi, rfl⟩ := List.getElem_of_mem hc
    have : s.getD i 0 = s[i] := by simp [List.getD, hi]
    rw [← this]; exact h i hi
theorem ref_Name_spec (s : List UInt8) (hs : s.length < 4294967296) (S : Mem) : PureL Tryz.prog 155 [str s] S [] (.bool (decide (NameOk s))) := by
  refine enter Tryz.func155 rfl 28 rfl rfl (fun w0 => ?_)
  refine sq ?_
  refine rg ?_
  refine q (vAs rfl) rfl ?_
  refine nil ?_
  refine thN ?_
  refine sq ?_
  refine sq ?_
  refine rg ?_
  refine q (vAs rfl) rfl ?_
  refine nil ?_
  refine thN ?_
  refine bk ?_
  refine loop (ι := Nat) (fun (i : Nat) => [(0, str s), (3, .int .i64 (i : Int))]) (fun (i : Nat) => []) (fun (i : Nat) => fun S' => i ≤ s.length ∧ ∀ j, j < i → (s.getD j 0).toNat ≠ 0 ∧ (s.getD j 0).toNat ≠ 47) (fun (i : Nat) => s.length - i) 0 ⟨Nat.zero_le _, fun j h => absurd h (Nat.not_lt_zero _)⟩ (.cons rfl (by first | rfl | simp | (simp <;> omega)) (.cons rfl (by first | rfl | simp | (simp <;> omega)) .nil)) .nil ?_
  rintro i S1 hle ⟨h1, h2⟩
  refine sq ?_
  refine sq ?_
  refine rg ?_
  refine q (vMv rfl) rfl ?_
  refine q (vMv rfl) rfl ?_
  refine q (vLenS Tryz.underlying9 rfl) rfl ?_
  refine q (vLt rfl rfl) rfl ?_
  refine nil ?_
  refine thN ?_
  refine cd rfl (fun hc => ?_) (fun hc => ?_) <;> try simp only [bls, beq_iff_eq, bne_iff_ne, Int.reduceToNat, List.length_map] at hc
  · skip
    refine sk ?_
    refine thN ?_
    refine sq ?_
    refine bk ?_
    refine sq ?_
    refine rg ?_
    refine q (vMv rfl) rfl ?_
    refine q (vMv rfl) rfl ?_
    refine q (vIxS Tryz.underlying9 rfl rfl (by first | omega | (simp only [Int.toNat_natCast, Int.reduceToNat, List.length_append, List.length_cons, List.length_nil, List.length_map, bid_len]; omega) | (simp <;> omega))) rfl ?_
    refine q (vEq rfl rfl) rfl ?_
    refine q (vMv rfl) rfl ?_
    apply gOr 14 19 5
    · rfl
    · intro hb1 hX1
      have hc1 := hb1 ; try simp only [bls, beq_iff_eq, bne_iff_ne, Int.reduceToNat, List.length_map] at hc1
      refine qF ⟨_, _, rfl, rfl, rfl⟩ rfl ?_
      refine qF ⟨_, _, rfl, rfl, rfl⟩ rfl ?_
      refine qF ⟨_, _, rfl, rfl, rfl⟩ rfl ?_
      refine qF ⟨_, _, rfl, rfl, rfl⟩ rfl ?_
      refine q (vPkT rfl rfl) rfl ?_
      exact gOT 5 14 rfl rfl rfl rfl hb1 hX1
    · intro hb1 hX1
      have hc1 := hb1 ; try simp only [bls, beq_iff_eq, bne_iff_ne, Int.reduceToNat, List.length_map] at hc1
      refine qT ⟨_, rfl, rfl⟩ (vMv rfl) rfl ?_
      refine qT ⟨_, rfl, rfl⟩ (vMv rfl) rfl ?_
      refine qT ⟨_, rfl, rfl⟩ (vIxS Tryz.underlying9 rfl rfl (by first | omega | (simp only [Int.toNat_natCast, Int.reduceToNat, List.length_append, List.length_cons, List.length_nil, List.length_map, bid_len]; omega) | (simp <;> omega))) rfl ?_
      refine qT ⟨_, rfl, rfl⟩ (vEq rfl rfl) rfl ?_
      refine q (vPkF rfl rfl) rfl ?_
      exact gOF 5 14 rfl rfl rfl rfl hb1 hX1
    refine nil ?_
    refine thN ?_
    refine cd rfl (fun hd => ?_) (fun hd => ?_) <;> try simp only [bls, beq_iff_eq, bne_iff_ne, Int.reduceToNat, List.length_map] at hd
    · skip
      refine sq ?_
      refine rg ?_
      refine q (vAs rfl) rfl ?_
      refine nil ?_
      refine thN ?_
      refine rt ?_
      refine bkR ?_
      refine thR ?_
      refine thR ?_
      refine bkR ?_
      refine thR ?_
      refine retP rfl (.t rfl .nil) .nil ⟨?_, rfl, rfl⟩
      have : ¬ NameOk s := fun h => by
        have := (all_ix.1 h.1) i (by omega)
        omega
      simp [pack, this]
    · skip
      have h3 : ∀ j, j < i + 1 → (s.getD j 0).toNat ≠ 0 ∧ (s.getD j 0).toNat ≠ 47 := fun j hj => by
        rcases Nat.lt_or_ge j i with h | h
        · exact h2 j h
        · obtain rfl : j = i := by omega
          omega
      refine sk ?_
      refine bkN ?_
      refine thN ?_
      refine rg ?_
      refine q (vMv rfl) rfl ?_
      refine q (vAdd rfl rfl (by first | omega | (simp only [Int.toNat_natCast, Int.reduceToNat, List.length_append, List.length_cons, List.length_nil, List.length_map, bid_len]; omega) | (simp <;> omega))) rfl ?_
      refine q (vAs rfl) rfl ?_
      refine nil ?_
      refine thN ?_
      refine back (i + 1) (Le.refl _) ⟨⟨by omega, h3⟩, by omega⟩ (.cons rfl (by first | rfl | simp | (simp <;> omega)) (.cons rfl (by first | rfl | simp | (simp <;> omega)) .nil)) .nil
  · skip
    refine xt ?_
    refine thX ?_
    refine thX ?_
    refine bkX ?_
    refine thN ?_
    refine sq ?_
    refine rg ?_
    refine q (vMv rfl) rfl ?_
    refine q (vLenS Tryz.underlying9 rfl) rfl ?_
    refine q (vGe rfl rfl) rfl ?_
    refine q (vMv rfl) rfl ?_
    apply gAnd 23 27 4
    · rfl
    · intro hb2 hX2
      have hc2 := hb2 ; try simp only [bls, beq_iff_eq, bne_iff_ne, Int.reduceToNat, List.length_map] at hc2
      refine qT ⟨_, rfl, rfl⟩ (vMv rfl) rfl ?_
      refine qT ⟨_, rfl, rfl⟩ (vLenS Tryz.underlying9 rfl) rfl ?_
      refine qT ⟨_, rfl, rfl⟩ (vLe rfl rfl) rfl ?_
      refine q (vPkT rfl rfl) rfl ?_
      exact gTT 4 23 rfl rfl rfl rfl hb2 hX2
    · intro hb2 hX2
      have hc2 := hb2 ; try simp only [bls, beq_iff_eq, bne_iff_ne, Int.reduceToNat, List.length_map] at hc2
      refine qF ⟨_, _, rfl, rfl, rfl⟩ rfl ?_
      refine qF ⟨_, _, rfl, rfl, rfl⟩ rfl ?_
      refine qF ⟨_, _, rfl, rfl, rfl⟩ rfl ?_
      refine q (vPkF rfl rfl) rfl ?_
      exact gTF 4 23 rfl rfl rfl rfl hb2 hX2
    refine q (vAs rfl) rfl ?_
    refine nil ?_
    refine thN ?_
    refine rt ?_
    refine retP rfl (.t rfl .nil) .nil ⟨?_, rfl, rfl⟩
    have e1 : (∀ c, c ∈ s → c.toNat ≠ 0 ∧ c.toNat ≠ 47) := all_ix.2 fun j hj => h2 j (by omega)
    have e2 : NameOk s ↔ (1 ≤ s.length ∧ s.length ≤ 40) := ⟨fun h => h.2, fun h => ⟨e1, h⟩⟩
    simp only [pack, e2]
    congr 1
    rw [Bool.eq_iff_iff]; simp; omega
theorem indexByte_neg (s : List UInt8) (c : UInt8) : Lib.indexByte s c < 0 ↔ ∀ x, x ∈ s → x ≠ c := by
  have h := Lib.contains_iff_indexByte s c
  constructor
  · intro h1 x hx hxc
    subst hxc
    have : s.contains x = true := by simpa using hx
    rw [h] at this
    have := of_decide_eq_true this
    omega
  · intro h1
    rcases Int.lt_or_le (Lib.indexByte s c) 0 with h2 | h2
    · exact h2
    · have : s.contains c = true := by rw [h]; exact decide_eq_true h2
      exact absurd rfl (h1 c (by simpa using this))
theorem IndexByte_spec (s : List UInt8) (c : Int) (S : Mem) : PureL Tryz.prog 211 [str s, .int .u8 c] S [] (.int .i64 (Lib.indexByte s c.toNat.toUInt8)) :=
  PureL.same (fun w => by
    have h := Tryz.strings_IndexByte ⟨s.toArray⟩ c w
    simpa using h) S []
theorem Name_spec (s : List UInt8) (S : Mem) : PureL Tryz.prog 193 [str s] S [] (.bool (decide (NameOk s))) := by
  have i0 := indexByte_neg s 0
  have i1 := indexByte_neg s 47
  refine enter Tryz.func193 rfl 20 rfl rfl (fun w0 => ?_)
  refine sq ?_
  refine rg ?_
  refine q (vAs rfl) rfl ?_
  refine nil ?_
  refine thN ?_
  refine sq ?_
  refine rg ?_
  refine q (vMv rfl) rfl ?_
  refine q (vNeS rfl rfl) rfl ?_
  refine q (vMv rfl) rfl ?_
  apply gAnd 5 9 4
  · rfl
  · intro hb1 hX1
    have hc1 := hb1 ; try simp only [bls, beq_iff_eq, bne_iff_ne, Int.reduceToNat, List.length_map] at hc1
    refine qT ⟨_, rfl, rfl⟩ (vMv rfl) rfl ?_
    refine qT ⟨_, rfl, rfl⟩ (vLenS Tryz.underlying9 rfl) rfl ?_
    refine qT ⟨_, rfl, rfl⟩ (vLe rfl rfl) rfl ?_
    refine q (vPkT rfl rfl) rfl ?_
    exact gTT 4 5 rfl rfl rfl rfl hb1 hX1
  · intro hb1 hX1
    have hc1 := hb1 ; try simp only [bls, beq_iff_eq, bne_iff_ne, Int.reduceToNat, List.length_map] at hc1
    refine qF ⟨_, _, rfl, rfl, rfl⟩ rfl ?_
    refine qF ⟨_, _, rfl, rfl, rfl⟩ rfl ?_
    refine qF ⟨_, _, rfl, rfl, rfl⟩ rfl ?_
    refine q (vPkF rfl rfl) rfl ?_
    exact gTF 4 5 rfl rfl rfl rfl hb1 hX1
  refine q (vMv rfl) rfl ?_
  apply gAnd 10 14 4
  · rfl
  · intro hb2 hX2
    have hc2 := hb2 ; try simp only [bls, beq_iff_eq, bne_iff_ne, Int.reduceToNat, List.length_map] at hc2
    refine qT ⟨_, rfl, rfl⟩ (vMv rfl) rfl ?_
    refine lT rfl ⟨_, rfl, rfl⟩ (callP cf211 (IndexByte_spec _ _ _) rfl .nil rfl ?_)
    refine qT ⟨_, rfl, rfl⟩ (vLt rfl rfl) rfl ?_
    refine q (vPkT rfl rfl) rfl ?_
    exact gTT 4 10 rfl rfl rfl rfl hb2 hX2
  · intro hb2 hX2
    have hc2 := hb2 ; try simp only [bls, beq_iff_eq, bne_iff_ne, Int.reduceToNat, List.length_map] at hc2
    refine qF ⟨_, _, rfl, rfl, rfl⟩ rfl ?_
    refine qF ⟨_, _, rfl, rfl, rfl⟩ rfl ?_
    refine qF ⟨_, _, rfl, rfl, rfl⟩ rfl ?_
    refine q (vPkF rfl rfl) rfl ?_
    exact gTF 4 10 rfl rfl rfl rfl hb2 hX2
  refine q (vMv rfl) rfl ?_
  apply gAnd 15 19 4
  · rfl
  · intro hb3 hX3
    have hc3 := hb3 ; try simp only [bls, beq_iff_eq, bne_iff_ne, Int.reduceToNat, List.length_map] at hc3
    refine qT ⟨_, rfl, rfl⟩ (vMv rfl) rfl ?_
    refine lT rfl ⟨_, rfl, rfl⟩ (callP cf211 (IndexByte_spec _ _ _) rfl .nil rfl ?_)
    refine qT ⟨_, rfl, rfl⟩ (vLt rfl rfl) rfl ?_
    refine q (vPkT rfl rfl) rfl ?_
    exact gTT 4 15 rfl rfl rfl rfl hb3 hX3
  · intro hb3 hX3
    have hc3 := hb3 ; try simp only [bls, beq_iff_eq, bne_iff_ne, Int.reduceToNat, List.length_map] at hc3
    refine qF ⟨_, _, rfl, rfl, rfl⟩ rfl ?_
    refine qF ⟨_, _, rfl, rfl, rfl⟩ rfl ?_
    refine qF ⟨_, _, rfl, rfl, rfl⟩ rfl ?_
    refine q (vPkF rfl rfl) rfl ?_
    exact gTF 4 15 rfl rfl rfl rfl hb3 hX3
  refine q (vAs rfl) rfl ?_
  refine nil ?_
  refine thN ?_
  refine rt ?_
  refine retP rfl (.t rfl .nil) .nil ⟨?_, rfl, rfl⟩
  have e0 : (Lib.indexByte s (Int.toNat 0).toUInt8 < 0) = (∀ x, x ∈ s → x ≠ 0) := propext i0
  have e1 : (Lib.indexByte s (Int.toNat 47).toUInt8 < 0) = (∀ x, x ∈ s → x ≠ 47) := propext i1
  simp only [pack, e0, e1]
  congr 1
  have hne : ∀ x : UInt8, (x.toNat ≠ 0 ↔ x ≠ 0) ∧ (x.toNat ≠ 47 ↔ x ≠ 47) := fun x => ⟨⟨fun h h2 => h (by rw [h2]; rfl), fun h h2 => h (UInt8.toNat_inj.1 h2)⟩, ⟨fun h h2 => h (by rw [h2]; rfl), fun h h2 => h (UInt8.toNat_inj.1 h2)⟩⟩
  rw [Bool.eq_iff_iff]
  simp only [NameOk, Bool.and_eq_true, decide_eq_true_eq, Bool.not_eq_true', decide_eq_false_iff_not, hne]
  constructor
  · rintro ⟨⟨⟨h1, h2⟩, h3⟩, h4⟩
    exact ⟨fun c hc => ⟨h3 c hc, h4 c hc⟩, List.length_pos_iff.2 h1, by omega⟩
  · rintro ⟨h1, h2, h3⟩
    exact ⟨⟨⟨by rintro rfl; simp at h2, by omega⟩, fun c hc => (h1 c hc).1⟩, fun c hc => (h1 c hc).2⟩
end Go.Proofs.YtjmigoikklkfdaaGreatDoor
namespace Go.Proofs.YtjmigoikklkfdaaGreatDoor
open Go
set_option linter.unusedVariables false
set_option linter.unusedSimpArgs false
set_option maxRecDepth 4000
structure Small (o : DObj) : Prop where
  data : o.data.length < 1073741824
  text : o.text.length < 1073741824
  name : o.name.length < 1073741824
  parents : o.parents.length < 1073741824
  entries : o.entries.length < 1073741824
  names : ∀ i, (o.entries.getD i default).name.length < 1073741824
def EntOk (l : List DEnt) (i : Nat) : Prop := NameOk (l.getD i default).name ∧ 1 ≤ (l.getD i default).kind ∧ (l.getD i default).kind ≤ 2 ∧ (0 < i → Op.bytesLess (l.getD (i - 1) default).name (l.getD i default).name = true)
def EntsOk (l : List DEnt) : Prop := ∀ i, i < l.length → EntOk l i
def MayT (o : DObj) : Prop := o.tree = zid ∧ o.parents = [] ∧ o.time.toNat = 0 ∧ o.text = []
def MayG (o : DObj) : Prop := o.target = zid ∧ o.of = 0 ∧ o.name = []
structure May (o : DObj) : Prop where
  k1 : 1 ≤ o.kind
  k4 : o.kind ≤ 4
  blob : o.kind ≠ 1 → o.data = []
  tree : o.kind ≠ 2 → o.entries = []
  com : o.kind ≠ 3 → MayT o
  tag : o.kind ≠ 4 → MayG o
  tag4 : o.kind = 4 → 1 ≤ o.of ∧ o.of ≤ 4 ∧ NameOk o.name
  ne : o.entries.length ≤ 64
  np : o.parents.length ≤ 8
  ents : EntsOk o.entries
noncomputable def mayB (o : DObj) : Bool := @decide (May o) (Classical.propDecidable _)
theorem mayB_true {o : DObj} (h : May o) : mayB o = true := by simp [mayB, h]
theorem mayB_false {o : DObj} (h : ¬ May o) : mayB o = false := by simp [mayB, h]
theorem mayB_iff {o : DObj} : mayB o = true ↔ May o := by simp [mayB]
theorem ref_May_spec {o : DObj} {ve vp : Value} {S : Mem} (hz : Small o) (hi : ObjIn S o ve vp) : PureL Tryz.prog 121 [objv o ve vp] S [] (.bool (mayB o)) := by
  have he := hi.e
  have hp := hi.p
  have hs0 := he.sc
  have hs1 := hp.sc
  obtain ⟨z1, z2, z3, z4, z5, z6⟩ := hz
  refine enter Tryz.func121 rfl 144 rfl rfl (fun w0 => ?_)
  refine sq ?_
  refine rg ?_
  refine l rfl (box rfl rfl ?_)
  intro B1
  refine q (vAs rfl) rfl ?_
  refine nil ?_
  refine thN ?_
  refine sq ?_
  refine sq ?_
  refine rg ?_
  refine q (vFa fa77_0 rfl) rfl ?_
  refine q (vLd sc3 rfl (rB1 T0 (.z (.c .n)))) rfl ?_
  refine q (vLt rfl rfl) rfl ?_
  refine q (vMv rfl) rfl ?_
  apply gOr 11 15 4
  · rfl
  · intro hb1 hX1
    have hc1 := hb1 ; try simp only [bls, beq_iff_eq, bne_iff_ne, Int.reduceToNat, List.length_map] at hc1
    refine qF ⟨_, _, rfl, rfl, rfl⟩ rfl ?_
    refine qF ⟨_, _, rfl, rfl, rfl⟩ rfl ?_
    refine qF ⟨_, _, rfl, rfl, rfl⟩ rfl ?_
    refine q (vPkT rfl rfl) rfl ?_
    exact gOT 4 11 rfl rfl rfl rfl hb1 hX1
  · intro hb1 hX1
    have hc1 := hb1 ; try simp only [bls, beq_iff_eq, bne_iff_ne, Int.reduceToNat, List.length_map] at hc1
    refine qT ⟨_, rfl, rfl⟩ (vFa fa77_0 rfl) rfl ?_
    refine qT ⟨_, rfl, rfl⟩ (vLd sc3 rfl (rB1 T0 (.z (.c .n)))) rfl ?_
    refine qT ⟨_, rfl, rfl⟩ (vGt rfl rfl) rfl ?_
    refine q (vPkF rfl rfl) rfl ?_
    exact gOF 4 11 rfl rfl rfl rfl hb1 hX1
  refine nil ?_
  refine thN ?_
  refine cd rfl (fun hc => ?_) (fun hc => ?_) <;> try simp only [bls, beq_iff_eq, bne_iff_ne, Int.reduceToNat, List.length_map] at hc
  · skip
    refine sq ?_
    refine rg ?_
    refine q (vAs rfl) rfl ?_
    refine nil ?_
    refine thN ?_
    refine rt ?_
    refine thR ?_
    refine retP rfl (.t rfl .nil) .nil ⟨by rw [mayB_false (fun h => by have := h.k1; have := h.k4; omega)]; rfl, rfl, rfl⟩
  · skip
    refine sk ?_
    refine thN ?_
    refine sq ?_
    refine rg ?_
    refine q (vBuildA0 ze35 ar35) rfl ?_
    refine l rfl (alloc ze35 rfl ?_)
    intro B3
    refine l rfl (store sz35 rfl rfl T0 (by simp) (.z (.c inferInstance inferInstance .n)) ?_)
    refine nil ?_
    refine thN ?_
    refine sq ?_
    refine sq ?_
    refine rg ?_
    refine q (vFa fa77_0 rfl) rfl ?_
    refine q (vLd sc3 rfl (rB1 T1 (.z (.c .n)))) rfl ?_
    refine q (vNe rfl rfl) rfl ?_
    refine q (vMv rfl) rfl ?_
    apply gAnd 20 24 4
    · rfl
    · intro hb2 hX2
      have hc2 := hb2 ; try simp only [bls, beq_iff_eq, bne_iff_ne, Int.reduceToNat, List.length_map] at hc2
      refine qT ⟨_, rfl, rfl⟩ (vFa fa77_1 rfl) rfl ?_
      refine qT ⟨_, rfl, rfl⟩ (vLd sc9 rfl (rB1 T1 (.s (.z (.c .n))))) rfl ?_
      refine qT ⟨_, rfl, rfl⟩ (vNeS rfl rfl) rfl ?_
      refine q (vPkT rfl rfl) rfl ?_
      exact gTT 4 20 rfl rfl rfl rfl hb2 hX2
    · intro hb2 hX2
      have hc2 := hb2 ; try simp only [bls, beq_iff_eq, bne_iff_ne, Int.reduceToNat, List.length_map] at hc2
      refine qF ⟨_, _, rfl, rfl, rfl⟩ rfl ?_
      refine qF ⟨_, _, rfl, rfl, rfl⟩ rfl ?_
      refine qF ⟨_, _, rfl, rfl, rfl⟩ rfl ?_
      refine q (vPkF rfl rfl) rfl ?_
      exact gTF 4 20 rfl rfl rfl rfl hb2 hX2
    refine q (vMv rfl) rfl ?_
    apply gOr 25 35 10
    · rfl
    · intro hb3 hX3
      have hc3 := hb3 ; try simp only [bls, beq_iff_eq, bne_iff_ne, Int.reduceToNat, List.length_map] at hc3
      refine qF ⟨_, _, rfl, rfl, rfl⟩ rfl ?_
      refine qF ⟨_, _, rfl, rfl, rfl⟩ rfl ?_
      refine qF ⟨_, _, rfl, rfl, rfl⟩ rfl ?_
      refine qF ⟨_, _, rfl, rfl, rfl⟩ rfl ?_
      refine qF ⟨_, _, rfl, rfl, rfl⟩ rfl ?_
      refine qF ⟨_, _, rfl, rfl, rfl⟩ rfl ?_
      refine qF ⟨_, _, rfl, rfl, rfl⟩ rfl ?_
      refine qF ⟨_, _, rfl, rfl, rfl⟩ rfl ?_
      refine qF ⟨_, _, rfl, rfl, rfl⟩ rfl ?_
      refine q (vPkT rfl rfl) rfl ?_
      exact gOT 10 25 rfl rfl rfl rfl hb3 hX3
    · intro hb3 hX3
      have hc3 := hb3 ; try simp only [bls, beq_iff_eq, bne_iff_ne, Int.reduceToNat, List.length_map] at hc3
      refine qT ⟨_, rfl, rfl⟩ (vFa fa77_0 rfl) rfl ?_
      refine qT ⟨_, rfl, rfl⟩ (vLd sc3 rfl (rB1 T1 (.z (.c .n)))) rfl ?_
      refine qT ⟨_, rfl, rfl⟩ (vNe rfl rfl) rfl ?_
      refine qT ⟨_, rfl, rfl⟩ (vMv rfl) rfl ?_
      apply gAnd 29 34 5
      · rfl
      · intro hb4 hX4
        have hc4 := hb4 ; try simp only [bls, beq_iff_eq, bne_iff_ne, Int.reduceToNat, List.length_map] at hc4
        refine qT ⟨_, rfl, rfl⟩ (vFa fa77_2 rfl) rfl ?_
        refine qT ⟨_, rfl, rfl⟩ (vLd sc74 rfl (rB1 T1 (.s (.s (.z (.c .n)))))) rfl ?_
        refine qT ⟨_, rfl, rfl⟩ (SrcOk.len (srcP he) Tryz.underlying74 rfl) rfl ?_
        refine qT ⟨_, rfl, rfl⟩ (vGt rfl rfl) rfl ?_
        refine qT ⟨_, rfl, rfl⟩ (vPkT rfl rfl) rfl ?_
        exact gTT 5 29 rfl rfl rfl rfl hb4 hX4
      · intro hb4 hX4
        have hc4 := hb4 ; try simp only [bls, beq_iff_eq, bne_iff_ne, Int.reduceToNat, List.length_map] at hc4
        refine qF ⟨_, _, rfl, rfl, rfl⟩ rfl ?_
        refine qF ⟨_, _, rfl, rfl, rfl⟩ rfl ?_
        refine qF ⟨_, _, rfl, rfl, rfl⟩ rfl ?_
        refine qF ⟨_, _, rfl, rfl, rfl⟩ rfl ?_
        refine qT ⟨_, rfl, rfl⟩ (vPkF rfl rfl) rfl ?_
        exact gTF 5 29 rfl rfl rfl rfl hb4 hX4
      refine q (vPkF rfl rfl) rfl ?_
      exact gOF 6 25 rfl rfl rfl rfl hb3 hX3
    refine nil ?_
    refine thN ?_
    refine cd rfl (fun hd => ?_) (fun hd => ?_) <;> try simp only [bls, beq_iff_eq, bne_iff_ne, Int.reduceToNat, List.length_map] at hd
    · skip
      refine sq ?_
      refine rg ?_
      refine q (vAs rfl) rfl ?_
      refine nil ?_
      refine thN ?_
      refine rt ?_
      refine thR ?_
      refine retP rfl (.t rfl .nil) .nil ⟨?_, rfl, rfl⟩
      rw [mayB_false]
      · rfl
      · intro h
        rcases hd with ⟨h1, h2⟩ | ⟨h1, h2⟩
        · exact h2 (h.blob (by omega))
        · have := h.tree (by omega)
          simp [this] at h2
    · skip
      refine sk ?_
      refine thN ?_
      refine sq ?_
      refine sq ?_
      refine rg ?_
      refine q (vFa fa77_0 rfl) rfl ?_
      refine q (vLd sc3 rfl (rB1 T1 (.z (.c .n)))) rfl ?_
      refine q (vNe rfl rfl) rfl ?_
      refine q (vMv rfl) rfl ?_
      apply gAnd 39 60 21
      · rfl
      · intro hb5 hX5
        have hc5 := hb5 ; try simp only [bls, beq_iff_eq, bne_iff_ne, Int.reduceToNat, List.length_map] at hc5
        refine qT ⟨_, rfl, rfl⟩ (vFa fa77_3 rfl) rfl ?_
        refine qT ⟨_, rfl, rfl⟩ (vLdA ag35 rfl (rB T1 (.s (.s (.s (.z (.c .n)))))) (by simp)) rfl ?_
        refine qT ⟨_, rfl, rfl⟩ (vLdA ag35 rfl (rB T0 (.z (.c .n))) (by simp)) rfl ?_
        refine qT ⟨_, rfl, rfl⟩ (vNeA id35 rfl rfl) rfl ?_
        refine qT ⟨_, rfl, rfl⟩ (vMv rfl) rfl ?_
        apply gOr 44 49 5
        · rfl
        · intro hb6 hX6
          have hc6 := hb6 ; try simp only [bls, beq_iff_eq, bne_iff_ne, Int.reduceToNat, List.length_map] at hc6
          refine qF ⟨_, _, rfl, rfl, rfl⟩ rfl ?_
          refine qF ⟨_, _, rfl, rfl, rfl⟩ rfl ?_
          refine qF ⟨_, _, rfl, rfl, rfl⟩ rfl ?_
          refine qF ⟨_, _, rfl, rfl, rfl⟩ rfl ?_
          refine qT ⟨_, rfl, rfl⟩ (vPkT rfl rfl) rfl ?_
          exact gOT 5 44 rfl rfl rfl rfl hb6 hX6
        · intro hb6 hX6
          have hc6 := hb6 ; try simp only [bls, beq_iff_eq, bne_iff_ne, Int.reduceToNat, List.length_map] at hc6
          refine qT ⟨_, rfl, rfl⟩ (vFa fa77_4 rfl) rfl ?_
          refine qT ⟨_, rfl, rfl⟩ (vLd sc27 rfl (rB1 T1 (.s (.s (.s (.n (n := 32) inferInstance (.z (.c .n)))))))) rfl ?_
          refine qT ⟨_, rfl, rfl⟩ (SrcOk.len (srcP hp) Tryz.underlying27 rfl) rfl ?_
          refine qT ⟨_, rfl, rfl⟩ (vGt rfl rfl) rfl ?_
          refine qT ⟨_, rfl, rfl⟩ (vPkF rfl rfl) rfl ?_
          exact gOF 5 44 rfl rfl rfl rfl hb6 hX6
        refine qT ⟨_, rfl, rfl⟩ (vMv rfl) rfl ?_
        apply gOr 50 54 4
        · rfl
        · intro hb7 hX7
          have hc7 := hb7 ; try simp only [bls, beq_iff_eq, bne_iff_ne, Int.reduceToNat, List.length_map] at hc7
          refine qF ⟨_, _, rfl, rfl, rfl⟩ rfl ?_
          refine qF ⟨_, _, rfl, rfl, rfl⟩ rfl ?_
          refine qF ⟨_, _, rfl, rfl, rfl⟩ rfl ?_
          refine qT ⟨_, rfl, rfl⟩ (vPkT rfl rfl) rfl ?_
          exact gOT 4 50 rfl rfl rfl rfl hb7 hX7
        · intro hb7 hX7
          have hc7 := hb7 ; try simp only [bls, beq_iff_eq, bne_iff_ne, Int.reduceToNat, List.length_map] at hc7
          refine qT ⟨_, rfl, rfl⟩ (vFa fa77_5 rfl) rfl ?_
          refine qT ⟨_, rfl, rfl⟩ (vLd sc75 rfl (rB1 T1 (.s (.s (.s (.n (n := 32) inferInstance (.s (.z (.c .n))))))))) rfl ?_
          refine qT ⟨_, rfl, rfl⟩ (vNe rfl rfl) rfl ?_
          refine qT ⟨_, rfl, rfl⟩ (vPkF rfl rfl) rfl ?_
          exact gOF 4 50 rfl rfl rfl rfl hb7 hX7
        refine qT ⟨_, rfl, rfl⟩ (vMv rfl) rfl ?_
        apply gOr 55 59 4
        · rfl
        · intro hb8 hX8
          have hc8 := hb8 ; try simp only [bls, beq_iff_eq, bne_iff_ne, Int.reduceToNat, List.length_map] at hc8
          refine qF ⟨_, _, rfl, rfl, rfl⟩ rfl ?_
          refine qF ⟨_, _, rfl, rfl, rfl⟩ rfl ?_
          refine qF ⟨_, _, rfl, rfl, rfl⟩ rfl ?_
          refine qT ⟨_, rfl, rfl⟩ (vPkT rfl rfl) rfl ?_
          exact gOT 4 55 rfl rfl rfl rfl hb8 hX8
        · intro hb8 hX8
          have hc8 := hb8 ; try simp only [bls, beq_iff_eq, bne_iff_ne, Int.reduceToNat, List.length_map] at hc8
          refine qT ⟨_, rfl, rfl⟩ (vFa fa77_6 rfl) rfl ?_
          refine qT ⟨_, rfl, rfl⟩ (vLd sc9 rfl (rB1 T1 (.s (.s (.s (.n (n := 32) inferInstance (.s (.s (.z (.c .n)))))))))) rfl ?_
          refine qT ⟨_, rfl, rfl⟩ (vNeS rfl rfl) rfl ?_
          refine qT ⟨_, rfl, rfl⟩ (vPkF rfl rfl) rfl ?_
          exact gOF 4 55 rfl rfl rfl rfl hb8 hX8
        refine q (vPkT rfl rfl) rfl ?_
        exact gTT 11 39 rfl rfl rfl rfl hb5 hX5
      · intro hb5 hX5
        have hc5 := hb5 ; try simp only [bls, beq_iff_eq, bne_iff_ne, Int.reduceToNat, List.length_map] at hc5
        refine qF ⟨_, _, rfl, rfl, rfl⟩ rfl ?_
        refine qF ⟨_, _, rfl, rfl, rfl⟩ rfl ?_
        refine qF ⟨_, _, rfl, rfl, rfl⟩ rfl ?_
        refine qF ⟨_, _, rfl, rfl, rfl⟩ rfl ?_
        refine qF ⟨_, _, rfl, rfl, rfl⟩ rfl ?_
        refine qF ⟨_, _, rfl, rfl, rfl⟩ rfl ?_
        refine qF ⟨_, _, rfl, rfl, rfl⟩ rfl ?_
        refine qF ⟨_, _, rfl, rfl, rfl⟩ rfl ?_
        refine qF ⟨_, _, rfl, rfl, rfl⟩ rfl ?_
        refine qF ⟨_, _, rfl, rfl, rfl⟩ rfl ?_
        refine qF ⟨_, _, rfl, rfl, rfl⟩ rfl ?_
        refine qF ⟨_, _, rfl, rfl, rfl⟩ rfl ?_
        refine qF ⟨_, _, rfl, rfl, rfl⟩ rfl ?_
        refine qF ⟨_, _, rfl, rfl, rfl⟩ rfl ?_
        refine qF ⟨_, _, rfl, rfl, rfl⟩ rfl ?_
        refine qF ⟨_, _, rfl, rfl, rfl⟩ rfl ?_
        refine qF ⟨_, _, rfl, rfl, rfl⟩ rfl ?_
        refine qF ⟨_, _, rfl, rfl, rfl⟩ rfl ?_
        refine qF ⟨_, _, rfl, rfl, rfl⟩ rfl ?_
        refine qF ⟨_, _, rfl, rfl, rfl⟩ rfl ?_
        refine q (vPkF rfl rfl) rfl ?_
        exact gTF 21 39 rfl rfl rfl rfl hb5 hX5
      refine nil ?_
      refine thN ?_
      refine cd rfl (fun he1 => ?_) (fun he1 => ?_) <;> try simp only [bls, beq_iff_eq, bne_iff_ne, Int.reduceToNat, List.length_map] at he1
      · skip
        refine sq ?_
        refine rg ?_
        refine q (vAs rfl) rfl ?_
        refine nil ?_
        refine thN ?_
        refine rt ?_
        refine thR ?_
        refine retP rfl (.t rfl .nil) .nil ⟨?_, rfl, rfl⟩
        rw [mayB_false]
        · rfl
        · intro h
          obtain ⟨h1, h2⟩ := he1
          obtain ⟨a, b, c, d⟩ := h.com (by omega)
          simp [a, b, c, d] at h2
      · skip
        refine sk ?_
        refine thN ?_
        refine join (ι := Unit) (fun (u : Unit) => [(1, .pointer (some ⟨B1, 0, none⟩))]) (fun (u : Unit) => [blk B1 77 (segsO o ve vp)]) (fun (u : Unit) => fun S' => (o.kind ≠ 4 → MayG o) ∧ (o.kind = 4 → 1 ≤ o.of ∧ o.of ≤ 4 ∧ NameOk o.name)) ?_ ?_
        · skip
          refine sq ?_
          refine rg ?_
          refine q (vFa fa77_0 rfl) rfl ?_
          refine q (vLd sc3 rfl (rB1 T1 (.z (.c .n)))) rfl ?_
          refine q (vNe rfl rfl) rfl ?_
          refine nil ?_
          refine thN ?_
          refine cd rfl (fun hg => ?_) (fun hg => ?_) <;> try simp only [bls, beq_iff_eq, bne_iff_ne, Int.reduceToNat, List.length_map] at hg
          · skip
            refine sq ?_
            refine rg ?_
            refine q (vFa fa77_7 rfl) rfl ?_
            refine q (vLdA ag35 rfl (rB T1 (.s (.s (.s (.n (n := 32) inferInstance (.s (.s (.s (.z (.c .n)))))))))) (by simp)) rfl ?_
            refine q (vLdA ag35 rfl (rB T0 (.z (.c .n))) (by simp)) rfl ?_
            refine q (vNeA id35 rfl rfl) rfl ?_
            refine q (vMv rfl) rfl ?_
            apply gOr 68 72 4
            · rfl
            · intro hb9 hX9
              have hc9 := hb9 ; try simp only [bls, beq_iff_eq, bne_iff_ne, Int.reduceToNat, List.length_map] at hc9
              refine qF ⟨_, _, rfl, rfl, rfl⟩ rfl ?_
              refine qF ⟨_, _, rfl, rfl, rfl⟩ rfl ?_
              refine qF ⟨_, _, rfl, rfl, rfl⟩ rfl ?_
              refine q (vPkT rfl rfl) rfl ?_
              exact gOT 4 68 rfl rfl rfl rfl hb9 hX9
            · intro hb9 hX9
              have hc9 := hb9 ; try simp only [bls, beq_iff_eq, bne_iff_ne, Int.reduceToNat, List.length_map] at hc9
              refine qT ⟨_, rfl, rfl⟩ (vFa fa77_8 rfl) rfl ?_
              refine qT ⟨_, rfl, rfl⟩ (vLd sc3 rfl (rB1 T1 (.s (.s (.s (.n (n := 32) inferInstance (.s (.s (.s (.n (n := 32) inferInstance (.z (.c .n)))))))))))) rfl ?_
              refine qT ⟨_, rfl, rfl⟩ (vNe rfl rfl) rfl ?_
              refine q (vPkF rfl rfl) rfl ?_
              exact gOF 4 68 rfl rfl rfl rfl hb9 hX9
            refine q (vMv rfl) rfl ?_
            apply gOr 73 77 4
            · rfl
            · intro hb10 hX10
              have hc10 := hb10 ; try simp only [bls, beq_iff_eq, bne_iff_ne, Int.reduceToNat, List.length_map] at hc10
              refine qF ⟨_, _, rfl, rfl, rfl⟩ rfl ?_
              refine qF ⟨_, _, rfl, rfl, rfl⟩ rfl ?_
              refine qF ⟨_, _, rfl, rfl, rfl⟩ rfl ?_
              refine q (vPkT rfl rfl) rfl ?_
              exact gOT 4 73 rfl rfl rfl rfl hb10 hX10
            · intro hb10 hX10
              have hc10 := hb10 ; try simp only [bls, beq_iff_eq, bne_iff_ne, Int.reduceToNat, List.length_map] at hc10
              refine qT ⟨_, rfl, rfl⟩ (vFa fa77_9 rfl) rfl ?_
              refine qT ⟨_, rfl, rfl⟩ (vLd sc9 rfl (rB1 T1 (.s (.s (.s (.n (n := 32) inferInstance (.s (.s (.s (.n (n := 32) inferInstance (.s (.z (.c .n))))))))))))) rfl ?_
              refine qT ⟨_, rfl, rfl⟩ (vNeS rfl rfl) rfl ?_
              refine q (vPkF rfl rfl) rfl ?_
              exact gOF 4 73 rfl rfl rfl rfl hb10 hX10
            refine nil ?_
            refine thN ?_
            refine cd rfl (fun hh => ?_) (fun hh => ?_) <;> try simp only [bls, beq_iff_eq, bne_iff_ne, Int.reduceToNat, List.length_map] at hh
            · skip
              refine sq ?_
              refine rg ?_
              refine q (vAs rfl) rfl ?_
              refine nil ?_
              refine thN ?_
              refine rt ?_
              refine thR ?_
              refine retP rfl (.t rfl .nil) .nil ⟨?_, rfl, rfl⟩
              rw [mayB_false]
              · rfl
              · intro h
                obtain ⟨a, b, c⟩ := h.tag (by omega)
                simp [a, b, c] at hh
            · skip
              refine sk ?_
              refine thN ?_
              refine back (()) (Le.refl _) ⟨fun _ => ⟨hh.1.1, by have := hh.1.2; omega, hh.2⟩, fun h => absurd h (by omega)⟩ (.cons rfl (by first | rfl | simp | (simp <;> omega)) .nil) (.cons T1 (Ent.Le.of (by first | rfl | simp | (simp <;> omega))) .nil)
          · skip
            refine sq ?_
            refine rg ?_
            refine q (vFa fa77_9 rfl) rfl ?_
            refine q (vLd sc9 rfl (rB1 T1 (.s (.s (.s (.n (n := 32) inferInstance (.s (.s (.s (.n (n := 32) inferInstance (.s (.z (.c .n))))))))))))) rfl ?_
            refine l rfl (callP cf155 (ref_Name_spec _ (by first | omega | (simp only [Int.toNat_natCast, Int.reduceToNat, List.length_append, List.length_cons, List.length_nil, List.length_map, bid_len]; omega) | (simp <;> omega)) _) rfl .nil rfl ?_)
            refine q (vAs rfl) rfl ?_
            refine nil ?_
            refine thN ?_
            refine sq ?_
            refine rg ?_
            refine q (vFa fa77_8 rfl) rfl ?_
            refine q (vLd sc3 rfl (rB1 T1 (.s (.s (.s (.n (n := 32) inferInstance (.s (.s (.s (.n (n := 32) inferInstance (.z (.c .n)))))))))))) rfl ?_
            refine q (vLt rfl rfl) rfl ?_
            refine q (vMv rfl) rfl ?_
            apply gOr 84 88 4
            · rfl
            · intro hb11 hX11
              have hc11 := hb11 ; try simp only [bls, beq_iff_eq, bne_iff_ne, Int.reduceToNat, List.length_map] at hc11
              refine qF ⟨_, _, rfl, rfl, rfl⟩ rfl ?_
              refine qF ⟨_, _, rfl, rfl, rfl⟩ rfl ?_
              refine qF ⟨_, _, rfl, rfl, rfl⟩ rfl ?_
              refine q (vPkT rfl rfl) rfl ?_
              exact gOT 4 84 rfl rfl rfl rfl hb11 hX11
            · intro hb11 hX11
              have hc11 := hb11 ; try simp only [bls, beq_iff_eq, bne_iff_ne, Int.reduceToNat, List.length_map] at hc11
              refine qT ⟨_, rfl, rfl⟩ (vFa fa77_8 rfl) rfl ?_
              refine qT ⟨_, rfl, rfl⟩ (vLd sc3 rfl (rB1 T1 (.s (.s (.s (.n (n := 32) inferInstance (.s (.s (.s (.n (n := 32) inferInstance (.z (.c .n)))))))))))) rfl ?_
              refine qT ⟨_, rfl, rfl⟩ (vGt rfl rfl) rfl ?_
              refine q (vPkF rfl rfl) rfl ?_
              exact gOF 4 84 rfl rfl rfl rfl hb11 hX11
            refine q (vMv rfl) rfl ?_
            apply gOr 89 92 3
            · rfl
            · intro hb12 hX12
              have hc12 := hb12 ; try simp only [bls, beq_iff_eq, bne_iff_ne, Int.reduceToNat, List.length_map] at hc12
              refine qF ⟨_, _, rfl, rfl, rfl⟩ rfl ?_
              refine qF ⟨_, _, rfl, rfl, rfl⟩ rfl ?_
              refine q (vPkT rfl rfl) rfl ?_
              exact gOT 3 89 rfl rfl rfl rfl hb12 hX12
            · intro hb12 hX12
              have hc12 := hb12 ; try simp only [bls, beq_iff_eq, bne_iff_ne, Int.reduceToNat, List.length_map] at hc12
              refine qT ⟨_, rfl, rfl⟩ (vMv rfl) rfl ?_
              refine qT ⟨_, rfl, rfl⟩ (vNot rfl) rfl ?_
              refine q (vPkF rfl rfl) rfl ?_
              exact gOF 3 89 rfl rfl rfl rfl hb12 hX12
            refine nil ?_
            refine thN ?_
            refine cd rfl (fun hh => ?_) (fun hh => ?_) <;> try simp only [bls, beq_iff_eq, bne_iff_ne, Int.reduceToNat, List.length_map] at hh
            · skip
              refine sq ?_
              refine rg ?_
              refine q (vAs rfl) rfl ?_
              refine nil ?_
              refine thN ?_
              refine rt ?_
              refine thR ?_
              refine retP rfl (.t rfl .nil) .nil ⟨?_, rfl, rfl⟩
              rw [mayB_false]
              · rfl
              · intro h
                obtain ⟨a, b, c⟩ := h.tag4 (by omega)
                simp [c] at hh
                omega
            · skip
              refine sk ?_
              refine thN ?_
              refine back (()) (Le.refl _) ⟨fun h => absurd (by omega) h, fun _ => ⟨by omega, by omega, hh.2⟩⟩ (.cons rfl (by first | rfl | simp | (simp <;> omega)) .nil) (.cons T1 (Ent.Le.of (by first | rfl | simp | (simp <;> omega))) .nil)
        · rintro u S1 hle ⟨h4, h44⟩
          replace he := he.mono hle
          replace hp := hp.mono hle
          refine sq ?_
          refine sq ?_
          refine rg ?_
          refine q (vFa fa77_2 rfl) rfl ?_
          refine q (vLd sc74 rfl (rB1 T0 (.s (.s (.z (.c .n)))))) rfl ?_
          refine q (SrcOk.len (srcP he) Tryz.underlying74 rfl) rfl ?_
          refine q (vGt rfl rfl) rfl ?_
          refine q (vMv rfl) rfl ?_
          apply gOr 97 102 5
          · rfl
          · intro hb13 hX13
            have hc13 := hb13 ; try simp only [bls, beq_iff_eq, bne_iff_ne, Int.reduceToNat, List.length_map] at hc13
            refine qF ⟨_, _, rfl, rfl, rfl⟩ rfl ?_
            refine qF ⟨_, _, rfl, rfl, rfl⟩ rfl ?_
            refine qF ⟨_, _, rfl, rfl, rfl⟩ rfl ?_
            refine qF ⟨_, _, rfl, rfl, rfl⟩ rfl ?_
            refine q (vPkT rfl rfl) rfl ?_
            exact gOT 5 97 rfl rfl rfl rfl hb13 hX13
          · intro hb13 hX13
            have hc13 := hb13 ; try simp only [bls, beq_iff_eq, bne_iff_ne, Int.reduceToNat, List.length_map] at hc13
            refine qT ⟨_, rfl, rfl⟩ (vFa fa77_4 rfl) rfl ?_
            refine qT ⟨_, rfl, rfl⟩ (vLd sc27 rfl (rB1 T0 (.s (.s (.s (.n (n := 32) inferInstance (.z (.c .n)))))))) rfl ?_
            refine qT ⟨_, rfl, rfl⟩ (SrcOk.len (srcP hp) Tryz.underlying27 rfl) rfl ?_
            refine qT ⟨_, rfl, rfl⟩ (vGt rfl rfl) rfl ?_
            refine q (vPkF rfl rfl) rfl ?_
            exact gOF 5 97 rfl rfl rfl rfl hb13 hX13
          refine nil ?_
          refine thN ?_
          refine cd rfl (fun hg => ?_) (fun hg => ?_) <;> try simp only [bls, beq_iff_eq, bne_iff_ne, Int.reduceToNat, List.length_map] at hg
          · skip
            refine sq ?_
            refine rg ?_
            refine q (vAs rfl) rfl ?_
            refine nil ?_
            refine thN ?_
            refine rt ?_
            refine thR ?_
            refine retP rfl (.t rfl .nil) .nil ⟨?_, rfl, rfl⟩
            rw [mayB_false]
            · rfl
            · intro h
              have h8 := h.ne
              have h9 := h.np
              omega
          · skip
            refine sk ?_
            refine thN ?_
            refine sq ?_
            refine sq ?_
            refine rg ?_
            refine q (vAs rfl) rfl ?_
            refine nil ?_
            refine thN ?_
            refine bk ?_
            refine loop (ι := Nat) (fun (i : Nat) => [(1, .pointer (some ⟨B1, 0, none⟩)), (5, .int .i64 (i : Int))]) (fun (i : Nat) => [blk B1 77 (segsO o ve vp)]) (fun (i : Nat) => fun S' => i ≤ o.entries.length ∧ ∀ j, j < i → EntOk o.entries j) (fun (i : Nat) => o.entries.length - i) 0 ⟨Nat.zero_le _, fun j h => absurd h (Nat.not_lt_zero _)⟩ (.cons rfl (by first | rfl | simp | (simp <;> omega)) (.cons rfl (by first | rfl | simp | (simp <;> omega)) .nil)) (.cons T0 (Ent.Le.of (by first | rfl | simp | (simp <;> omega))) .nil) ?_
            rintro i S2 hle2 ⟨h5, h6⟩
            replace he := he.mono hle2
            replace hp := hp.mono hle2
            refine sq ?_
            refine sq ?_
            refine rg ?_
            refine q (vMv rfl) rfl ?_
            refine q (vFa fa77_2 rfl) rfl ?_
            refine q (vLd sc74 rfl (rB1 T0 (.s (.s (.z (.c .n)))))) rfl ?_
            refine q (SrcOk.len (srcP he) Tryz.underlying74 rfl) rfl ?_
            refine q (vLt rfl rfl) rfl ?_
            refine nil ?_
            refine thN ?_
            refine cd rfl (fun hj => ?_) (fun hj => ?_) <;> try simp only [bls, beq_iff_eq, bne_iff_ne, Int.reduceToNat, List.length_map] at hj
            · skip
              have z7 := z6 i
              refine sk ?_
              refine thN ?_
              refine sq ?_
              refine bk ?_
              refine sq ?_
              refine rg ?_
              refine q (vFa fa77_2 rfl) rfl ?_
              refine q (vLd sc74 rfl (rB1 T0 (.s (.s (.z (.c .n)))))) rfl ?_
              refine q (vMv rfl) rfl ?_
              refine q (vIxP sl74 rfl rfl he (by first | omega | (simp only [Int.toNat_natCast, Int.reduceToNat, List.length_append, List.length_cons, List.length_nil, List.length_map, bid_len]; omega) | (simp <;> omega))) rfl ?_
              refine q (vLdA ag247 rfl (rP he (gm (by first | omega | (simp only [Int.toNat_natCast, Int.reduceToNat, List.length_append, List.length_cons, List.length_nil, List.length_map, bid_len]; omega) | (simp <;> omega)))) (by simp)) rfl ?_
              refine l rfl (alloc ze247 rfl ?_)
              intro B6
              refine l rfl (store sz247 rfl rfl T0 (by simp) (.z (.c inferInstance inferInstance (.c inferInstance inferInstance (.c inferInstance inferInstance .n)))) ?_)
              refine nil ?_
              refine thN ?_
              refine sq ?_
              refine rg ?_
              refine q (vFa fa247_0 rfl) rfl ?_
              refine q (vLd sc9 rfl (rB1 T0 (.z (.c .n)))) rfl ?_
              refine l rfl (callP cf155 (ref_Name_spec _ (by first | omega | (simp only [Int.toNat_natCast, Int.reduceToNat, List.length_append, List.length_cons, List.length_nil, List.length_map, bid_len]; omega) | (simp <;> omega)) _) rfl .nil rfl ?_)
              refine q (vAs rfl) rfl ?_
              refine nil ?_
              refine thN ?_
              refine sq ?_
              refine sq ?_
              refine rg ?_
              refine q (vMv rfl) rfl ?_
              refine q (vNot rfl) rfl ?_
              refine q (vMv rfl) rfl ?_
              apply gOr 120 124 4
              · rfl
              · intro hb14 hX14
                have hc14 := hb14 ; try simp only [bls, beq_iff_eq, bne_iff_ne, Int.reduceToNat, List.length_map] at hc14
                refine qF ⟨_, _, rfl, rfl, rfl⟩ rfl ?_
                refine qF ⟨_, _, rfl, rfl, rfl⟩ rfl ?_
                refine qF ⟨_, _, rfl, rfl, rfl⟩ rfl ?_
                refine q (vPkT rfl rfl) rfl ?_
                exact gOT 4 120 rfl rfl rfl rfl hb14 hX14
              · intro hb14 hX14
                have hc14 := hb14 ; try simp only [bls, beq_iff_eq, bne_iff_ne, Int.reduceToNat, List.length_map] at hc14
                refine qT ⟨_, rfl, rfl⟩ (vFa fa247_1 rfl) rfl ?_
                refine qT ⟨_, rfl, rfl⟩ (vLd sc3 rfl (rB1 T0 (.s (.z (.c .n))))) rfl ?_
                refine qT ⟨_, rfl, rfl⟩ (vLt rfl rfl) rfl ?_
                refine q (vPkF rfl rfl) rfl ?_
                exact gOF 4 120 rfl rfl rfl rfl hb14 hX14
              refine q (vMv rfl) rfl ?_
              apply gOr 125 129 4
              · rfl
              · intro hb15 hX15
                have hc15 := hb15 ; try simp only [bls, beq_iff_eq, bne_iff_ne, Int.reduceToNat, List.length_map] at hc15
                refine qF ⟨_, _, rfl, rfl, rfl⟩ rfl ?_
                refine qF ⟨_, _, rfl, rfl, rfl⟩ rfl ?_
                refine qF ⟨_, _, rfl, rfl, rfl⟩ rfl ?_
                refine q (vPkT rfl rfl) rfl ?_
                exact gOT 4 125 rfl rfl rfl rfl hb15 hX15
              · intro hb15 hX15
                have hc15 := hb15 ; try simp only [bls, beq_iff_eq, bne_iff_ne, Int.reduceToNat, List.length_map] at hc15
                refine qT ⟨_, rfl, rfl⟩ (vFa fa247_1 rfl) rfl ?_
                refine qT ⟨_, rfl, rfl⟩ (vLd sc3 rfl (rB1 T0 (.s (.z (.c .n))))) rfl ?_
                refine qT ⟨_, rfl, rfl⟩ (vGt rfl rfl) rfl ?_
                refine q (vPkF rfl rfl) rfl ?_
                exact gOF 4 125 rfl rfl rfl rfl hb15 hX15
              refine nil ?_
              refine thN ?_
              refine cd rfl (fun hk => ?_) (fun hk => ?_) <;> try simp only [bls, beq_iff_eq, bne_iff_ne, Int.reduceToNat, List.length_map] at hk
              · skip
                refine sq ?_
                refine rg ?_
                refine q (vAs rfl) rfl ?_
                refine nil ?_
                refine thN ?_
                refine rt ?_
                refine thR ?_
                refine bkR ?_
                refine thR ?_
                refine thR ?_
                refine bkR ?_
                refine thR ?_
                refine retP rfl (.t rfl .nil) .nil ⟨?_, rfl, rfl⟩
                rw [mayB_false]
                · rfl
                · intro h
                  obtain ⟨a, b, c, d⟩ := h.ents i (by omega)
                  rcases hk with (hk | hk) | hk
                  · exact hk a
                  · omega
                  · omega
              · skip
                refine sk ?_
                refine thN ?_
                refine sq ?_
                refine dr (.take 0 (.take 1 (.take 2 (.take 3 (.take 4 (.take 5 (.take 6 (.take 7 (.take 8 (.take 9 (.take 10 (.take 11 (.take 12 (.take 13 .done)))))))))))))) wide (by decide +kernel) _ _ (.cons T0 (.cons T0 .nil)) ?_
                refine pT rfl (vMv rfl) rfl ?_
                refine pT rfl (vGt rfl rfl) rfl ?_
                refine pT rfl (vMv rfl) rfl ?_
                apply pAnd 132 143 11
                · rfl
                · intro hb16 hX16
                  have hc16 := hb16 ; try simp only [bls, beq_iff_eq, bne_iff_ne, Int.reduceToNat, List.length_map] at hc16
                  refine pTT rfl ⟨_, rfl, rfl⟩ (vFa fa77_2 rfl) rfl ?_
                  refine pTT rfl ⟨_, rfl, rfl⟩ (vLd sc74 rfl (rB1 T1 (.s (.s (.z (.c .n)))))) rfl ?_
                  refine pTT rfl ⟨_, rfl, rfl⟩ (vMv rfl) rfl ?_
                  refine pTT rfl ⟨_, rfl, rfl⟩ (vSub rfl rfl (by first | omega | (simp only [Int.toNat_natCast, Int.reduceToNat, List.length_append, List.length_cons, List.length_nil, List.length_map, bid_len]; omega) | (simp <;> omega))) rfl ?_
                  refine pTT rfl ⟨_, rfl, rfl⟩ (vIxP sl74 rfl rfl he (by first | omega | (simp only [Int.toNat_natCast, Int.reduceToNat, List.length_append, List.length_cons, List.length_nil, List.length_map, bid_len]; omega) | (simp <;> omega))) rfl ?_
                  refine pTT rfl ⟨_, rfl, rfl⟩ (vFp fa247_0 rfl (rP he (gm (by first | omega | (simp only [Int.toNat_natCast, Int.reduceToNat, List.length_append, List.length_cons, List.length_nil, List.length_map, bid_len]; omega) | (simp <;> omega))))) rfl ?_
                  refine pTT rfl ⟨_, rfl, rfl⟩ (vLd sc9 rfl (Rd.at1 (rP he (gm (by first | omega | (simp only [Int.toNat_natCast, Int.reduceToNat, List.length_append, List.length_cons, List.length_nil, List.length_map, bid_len]; omega) | (simp <;> omega)))) (.z (.c .n)))) rfl ?_
                  refine pTT rfl ⟨_, rfl, rfl⟩ (vFa fa247_0 rfl) rfl ?_
                  refine pTT rfl ⟨_, rfl, rfl⟩ (vLd sc9 rfl (rB1 T0 (.z (.c .n)))) rfl ?_
                  refine pTT rfl ⟨_, rfl, rfl⟩ (vGeS rfl rfl) rfl ?_
                  refine pT rfl (vPkT rfl rfl) rfl ?_
                  exact gTT 11 132 rfl rfl rfl rfl hb16 hX16
                · intro hb16 hX16
                  have hc16 := hb16 ; try simp only [bls, beq_iff_eq, bne_iff_ne, Int.reduceToNat, List.length_map] at hc16
                  refine pTF rfl ⟨_, _, rfl, rfl, rfl⟩ rfl ?_
                  refine pTF rfl ⟨_, _, rfl, rfl, rfl⟩ rfl ?_
                  refine pTF rfl ⟨_, _, rfl, rfl, rfl⟩ rfl ?_
                  refine pTF rfl ⟨_, _, rfl, rfl, rfl⟩ rfl ?_
                  refine pTF rfl ⟨_, _, rfl, rfl, rfl⟩ rfl ?_
                  refine pTF rfl ⟨_, _, rfl, rfl, rfl⟩ rfl ?_
                  refine pTF rfl ⟨_, _, rfl, rfl, rfl⟩ rfl ?_
                  refine pTF rfl ⟨_, _, rfl, rfl, rfl⟩ rfl ?_
                  refine pTF rfl ⟨_, _, rfl, rfl, rfl⟩ rfl ?_
                  refine pTF rfl ⟨_, _, rfl, rfl, rfl⟩ rfl ?_
                  refine pT rfl (vPkF rfl rfl) rfl ?_
                  exact gTF 11 132 rfl rfl rfl rfl hb16 hX16
                refine pDone ?_
                refine thN ?_
                refine cd rfl (fun hl => ?_) (fun hl => ?_) <;> try simp only [bls, beq_iff_eq, bne_iff_ne, Int.reduceToNat, List.length_map] at hl
                · skip
                  refine sq ?_
                  refine rg ?_
                  refine q (vAs rfl) rfl ?_
                  refine nil ?_
                  refine thN ?_
                  refine rt ?_
                  refine bkR ?_
                  refine thR ?_
                  refine thR ?_
                  refine bkR ?_
                  refine thR ?_
                  refine retP rfl (.t rfl .nil) .nil ⟨?_, rfl, rfl⟩
                  rw [mayB_false]
                  · rfl
                  · intro h
                    obtain ⟨a, b, c, d⟩ := h.ents i (by omega)
                    have d := d (by omega)
                    have e1 : ((i : Int) - 1).toNat = i - 1 := by omega
                    simp [e1] at hl d
                    simp [d] at hl
                · skip
                  have h7 : ∀ j, j < i + 1 → EntOk o.entries j := fun j hj => by
                    rcases Nat.lt_or_ge j i with h | h
                    · exact h6 j h
                    · obtain rfl : j = i := by omega
                      refine ⟨hk.1.1, by omega, by omega, fun h0 => ?_⟩
                      have e1 : ((j : Int) - 1).toNat = j - 1 := by omega
                      simp [e1] at hl ⊢
                      exact hl.resolve_left (by omega)
                  refine sk ?_
                  refine bkN ?_
                  refine thN ?_
                  refine rg ?_
                  refine q (vMv rfl) rfl ?_
                  refine q (vAdd rfl rfl (by first | omega | (simp only [Int.toNat_natCast, Int.reduceToNat, List.length_append, List.length_cons, List.length_nil, List.length_map, bid_len]; omega) | (simp <;> omega))) rfl ?_
                  refine q (vAs rfl) rfl ?_
                  refine nil ?_
                  refine thN ?_
                  refine back (i + 1) (Le.refl _) ⟨⟨by omega, h7⟩, by omega⟩ (.cons rfl (by first | rfl | simp | (simp <;> omega)) (.cons rfl (by first | rfl | simp | (simp <;> omega)) .nil)) (.cons T1 (Ent.Le.of (by first | rfl | simp | (simp <;> omega))) .nil)
            · skip
              refine xt ?_
              refine thX ?_
              refine thX ?_
              refine bkX ?_
              refine thN ?_
              refine sq ?_
              refine rg ?_
              refine q (vAs rfl) rfl ?_
              refine nil ?_
              refine thN ?_
              refine rt ?_
              refine retP rfl (.t rfl .nil) .nil ⟨?_, rfl, rfl⟩
              rw [mayB_true]
              · rfl
              · obtain ⟨k1, k4⟩ := hc
                refine ⟨by omega, by omega, fun h => ?_, fun h => ?_, fun h => ?_, h4, h44, by omega, by omega, fun j hj => h6 j (by omega)⟩
                · exact hd.1.resolve_left (by omega)
                · exact List.eq_nil_of_length_eq_zero (by have := hd.2.resolve_left (by omega); omega)
                · have := he1.resolve_left (by omega)
                  exact ⟨this.1.1.1, List.eq_nil_of_length_eq_zero (by have := this.1.1.2; omega), by omega, this.2⟩
theorem kind_spec (n : Nat) (S : Mem) : PureL Tryz.prog 192 [.int .i64 n] S [] (.bool (decide (1 ≤ n ∧ n ≤ 4))) := by
  refine enter Tryz.func192 rfl 9 rfl rfl (fun w0 => ?_)
  refine sq ?_
  refine rg ?_
  refine q (vAs rfl) rfl ?_
  refine nil ?_
  refine thN ?_
  refine sq ?_
  refine rg ?_
  refine q (vMv rfl) rfl ?_
  refine q (vGe rfl rfl) rfl ?_
  refine q (vMv rfl) rfl ?_
  apply gAnd 5 8 3
  · rfl
  · intro hb1 hX1
    have hc1 := hb1 ; try simp only [bls, beq_iff_eq, bne_iff_ne, Int.reduceToNat, List.length_map] at hc1
    refine qT ⟨_, rfl, rfl⟩ (vMv rfl) rfl ?_
    refine qT ⟨_, rfl, rfl⟩ (vLe rfl rfl) rfl ?_
    refine q (vPkT rfl rfl) rfl ?_
    exact gTT 3 5 rfl rfl rfl rfl hb1 hX1
  · intro hb1 hX1
    have hc1 := hb1 ; try simp only [bls, beq_iff_eq, bne_iff_ne, Int.reduceToNat, List.length_map] at hc1
    refine qF ⟨_, _, rfl, rfl, rfl⟩ rfl ?_
    refine qF ⟨_, _, rfl, rfl, rfl⟩ rfl ?_
    refine q (vPkF rfl rfl) rfl ?_
    exact gTF 3 5 rfl rfl rfl rfl hb1 hX1
  refine q (vAs rfl) rfl ?_
  refine nil ?_
  refine thN ?_
  refine rt ?_
  refine retP rfl (.t rfl .nil) .nil ⟨by simp only [pack]; congr 1; rw [Bool.eq_iff_iff]; simp; omega, rfl, rfl⟩
def Alone (o : DObj) : Prop := (o.kind ≠ 1 → o.data = []) ∧ (o.kind ≠ 2 → o.entries = []) ∧ (o.kind ≠ 3 → MayT o) ∧ ((1 ≤ o.kind ∧ o.kind ≤ 3) → MayG o)
noncomputable def aloneB (o : DObj) : Bool := @decide (Alone o) (Classical.propDecidable _)
theorem alone_spec {o : DObj} {ve vp : Value} {S : Mem} (hi : ObjIn S o ve vp) : PureL Tryz.prog 190 [objv o ve vp] S [] (.bool (aloneB o)) := by
  have he := hi.e
  have hp := hi.p
  have hs0 := he.sc
  have hs1 := hp.sc
  have key : ∀ b : Bool, (b = true ↔ Alone o) → Value.bool b = .bool (aloneB o) := fun b h => by
    congr 1; rw [Bool.eq_iff_iff, h]; simp [aloneB]
  have hl0 : o.entries.length = 0 ↔ o.entries = [] := List.length_eq_zero_iff
  have hl1 : o.parents.length = 0 ↔ o.parents = [] := List.length_eq_zero_iff
  refine enter Tryz.func190 rfl 84 rfl rfl (fun w0 => ?_)
  refine sq ?_
  refine rg ?_
  refine l rfl (box rfl rfl ?_)
  intro B1
  refine q (vAs rfl) rfl ?_
  refine nil ?_
  refine thN ?_
  refine sq ?_
  refine rg ?_
  refine q (vFa fa77_1 rfl) rfl ?_
  refine q (vLd sc9 rfl (rB1 T0 (.s (.z (.c .n))))) rfl ?_
  refine q (vEqS rfl rfl) rfl ?_
  refine q (vAs rfl) rfl ?_
  refine nil ?_
  refine thN ?_
  refine sq ?_
  refine rg ?_
  refine q (vFa fa77_2 rfl) rfl ?_
  refine q (vLd sc74 rfl (rB1 T0 (.s (.s (.z (.c .n)))))) rfl ?_
  refine q (SrcOk.len (srcP he) Tryz.underlying74 rfl) rfl ?_
  refine q (vEq rfl rfl) rfl ?_
  refine q (vAs rfl) rfl ?_
  refine nil ?_
  refine thN ?_
  refine sq ?_
  refine rg ?_
  refine q (vFa fa77_3 rfl) rfl ?_
  refine q (vLdA ag35 rfl (rB T0 (.s (.s (.s (.z (.c .n)))))) (by simp)) rfl ?_
  refine q (vBuildA0 ze35 ar35) rfl ?_
  refine q (vEqA id35 rfl rfl) rfl ?_
  refine q (vMv rfl) rfl ?_
  apply gAnd 18 23 5
  · rfl
  · intro hb1 hX1
    have hc1 := hb1 ; try simp only [bls, beq_iff_eq, bne_iff_ne, Int.reduceToNat, List.length_map] at hc1
    refine qT ⟨_, rfl, rfl⟩ (vFa fa77_4 rfl) rfl ?_
    refine qT ⟨_, rfl, rfl⟩ (vLd sc27 rfl (rB1 T0 (.s (.s (.s (.n (n := 32) inferInstance (.z (.c .n)))))))) rfl ?_
    refine qT ⟨_, rfl, rfl⟩ (SrcOk.len (srcP hp) Tryz.underlying27 rfl) rfl ?_
    refine qT ⟨_, rfl, rfl⟩ (vEq rfl rfl) rfl ?_
    refine q (vPkT rfl rfl) rfl ?_
    exact gTT 5 18 rfl rfl rfl rfl hb1 hX1
  · intro hb1 hX1
    have hc1 := hb1 ; try simp only [bls, beq_iff_eq, bne_iff_ne, Int.reduceToNat, List.length_map] at hc1
    refine qF ⟨_, _, rfl, rfl, rfl⟩ rfl ?_
    refine qF ⟨_, _, rfl, rfl, rfl⟩ rfl ?_
    refine qF ⟨_, _, rfl, rfl, rfl⟩ rfl ?_
    refine qF ⟨_, _, rfl, rfl, rfl⟩ rfl ?_
    refine q (vPkF rfl rfl) rfl ?_
    exact gTF 5 18 rfl rfl rfl rfl hb1 hX1
  refine q (vMv rfl) rfl ?_
  apply gAnd 24 28 4
  · rfl
  · intro hb2 hX2
    have hc2 := hb2 ; try simp only [bls, beq_iff_eq, bne_iff_ne, Int.reduceToNat, List.length_map] at hc2
    refine qT ⟨_, rfl, rfl⟩ (vFa fa77_5 rfl) rfl ?_
    refine qT ⟨_, rfl, rfl⟩ (vLd sc75 rfl (rB1 T0 (.s (.s (.s (.n (n := 32) inferInstance (.s (.z (.c .n))))))))) rfl ?_
    refine qT ⟨_, rfl, rfl⟩ (vEq rfl rfl) rfl ?_
    refine q (vPkT rfl rfl) rfl ?_
    exact gTT 4 24 rfl rfl rfl rfl hb2 hX2
  · intro hb2 hX2
    have hc2 := hb2 ; try simp only [bls, beq_iff_eq, bne_iff_ne, Int.reduceToNat, List.length_map] at hc2
    refine qF ⟨_, _, rfl, rfl, rfl⟩ rfl ?_
    refine qF ⟨_, _, rfl, rfl, rfl⟩ rfl ?_
    refine qF ⟨_, _, rfl, rfl, rfl⟩ rfl ?_
    refine q (vPkF rfl rfl) rfl ?_
    exact gTF 4 24 rfl rfl rfl rfl hb2 hX2
  refine q (vMv rfl) rfl ?_
  apply gAnd 29 33 4
  · rfl
  · intro hb3 hX3
    have hc3 := hb3 ; try simp only [bls, beq_iff_eq, bne_iff_ne, Int.reduceToNat, List.length_map] at hc3
    refine qT ⟨_, rfl, rfl⟩ (vFa fa77_6 rfl) rfl ?_
    refine qT ⟨_, rfl, rfl⟩ (vLd sc9 rfl (rB1 T0 (.s (.s (.s (.n (n := 32) inferInstance (.s (.s (.z (.c .n)))))))))) rfl ?_
    refine qT ⟨_, rfl, rfl⟩ (vEqS rfl rfl) rfl ?_
    refine q (vPkT rfl rfl) rfl ?_
    exact gTT 4 29 rfl rfl rfl rfl hb3 hX3
  · intro hb3 hX3
    have hc3 := hb3 ; try simp only [bls, beq_iff_eq, bne_iff_ne, Int.reduceToNat, List.length_map] at hc3
    refine qF ⟨_, _, rfl, rfl, rfl⟩ rfl ?_
    refine qF ⟨_, _, rfl, rfl, rfl⟩ rfl ?_
    refine qF ⟨_, _, rfl, rfl, rfl⟩ rfl ?_
    refine q (vPkF rfl rfl) rfl ?_
    exact gTF 4 29 rfl rfl rfl rfl hb3 hX3
  refine q (vAs rfl) rfl ?_
  refine nil ?_
  refine thN ?_
  refine sq ?_
  refine rg ?_
  refine q (vFa fa77_7 rfl) rfl ?_
  refine q (vLdA ag35 rfl (rB T0 (.s (.s (.s (.n (n := 32) inferInstance (.s (.s (.s (.z (.c .n)))))))))) (by simp)) rfl ?_
  refine q (vBuildA0 ze35 ar35) rfl ?_
  refine q (vEqA id35 rfl rfl) rfl ?_
  refine q (vMv rfl) rfl ?_
  apply gAnd 38 42 4
  · rfl
  · intro hb4 hX4
    have hc4 := hb4 ; try simp only [bls, beq_iff_eq, bne_iff_ne, Int.reduceToNat, List.length_map] at hc4
    refine qT ⟨_, rfl, rfl⟩ (vFa fa77_8 rfl) rfl ?_
    refine qT ⟨_, rfl, rfl⟩ (vLd sc3 rfl (rB1 T0 (.s (.s (.s (.n (n := 32) inferInstance (.s (.s (.s (.n (n := 32) inferInstance (.z (.c .n)))))))))))) rfl ?_
    refine qT ⟨_, rfl, rfl⟩ (vEq rfl rfl) rfl ?_
    refine q (vPkT rfl rfl) rfl ?_
    exact gTT 4 38 rfl rfl rfl rfl hb4 hX4
  · intro hb4 hX4
    have hc4 := hb4 ; try simp only [bls, beq_iff_eq, bne_iff_ne, Int.reduceToNat, List.length_map] at hc4
    refine qF ⟨_, _, rfl, rfl, rfl⟩ rfl ?_
    refine qF ⟨_, _, rfl, rfl, rfl⟩ rfl ?_
    refine qF ⟨_, _, rfl, rfl, rfl⟩ rfl ?_
    refine q (vPkF rfl rfl) rfl ?_
    exact gTF 4 38 rfl rfl rfl rfl hb4 hX4
  refine q (vMv rfl) rfl ?_
  apply gAnd 43 47 4
  · rfl
  · intro hb5 hX5
    have hc5 := hb5 ; try simp only [bls, beq_iff_eq, bne_iff_ne, Int.reduceToNat, List.length_map] at hc5
    refine qT ⟨_, rfl, rfl⟩ (vFa fa77_9 rfl) rfl ?_
    refine qT ⟨_, rfl, rfl⟩ (vLd sc9 rfl (rB1 T0 (.s (.s (.s (.n (n := 32) inferInstance (.s (.s (.s (.n (n := 32) inferInstance (.s (.z (.c .n))))))))))))) rfl ?_
    refine qT ⟨_, rfl, rfl⟩ (vEqS rfl rfl) rfl ?_
    refine q (vPkT rfl rfl) rfl ?_
    exact gTT 4 43 rfl rfl rfl rfl hb5 hX5
  · intro hb5 hX5
    have hc5 := hb5 ; try simp only [bls, beq_iff_eq, bne_iff_ne, Int.reduceToNat, List.length_map] at hc5
    refine qF ⟨_, _, rfl, rfl, rfl⟩ rfl ?_
    refine qF ⟨_, _, rfl, rfl, rfl⟩ rfl ?_
    refine qF ⟨_, _, rfl, rfl, rfl⟩ rfl ?_
    refine q (vPkF rfl rfl) rfl ?_
    exact gTF 4 43 rfl rfl rfl rfl hb5 hX5
  refine q (vAs rfl) rfl ?_
  refine nil ?_
  refine thN ?_
  refine sq ?_
  refine sq ?_
  refine rg ?_
  refine q (vFa fa77_0 rfl) rfl ?_
  refine q (vLd sc3 rfl (rB1 T0 (.z (.c .n)))) rfl ?_
  refine nil ?_
  refine thN ?_
  refine bk ?_
  refine sq ?_
  refine rg ?_
  refine q (vEq rfl rfl) rfl ?_
  refine q (vAs rfl) rfl ?_
  refine nil ?_
  refine thN ?_
  refine cd rfl (fun hc => ?_) (fun hc => ?_) <;> try simp only [bls, beq_iff_eq, bne_iff_ne, Int.reduceToNat, List.length_map] at hc
  · skip
    refine sq ?_
    refine rg ?_
    refine q (vMv rfl) rfl ?_
    refine q (vMv rfl) rfl ?_
    apply gAnd 53 55 2
    · rfl
    · intro hb6 hX6
      have hc6 := hb6 ; try simp only [bls, beq_iff_eq, bne_iff_ne, Int.reduceToNat, List.length_map] at hc6
      refine qT ⟨_, rfl, rfl⟩ (vMv rfl) rfl ?_
      refine q (vPkT rfl rfl) rfl ?_
      exact gTT 2 53 rfl rfl rfl rfl hb6 hX6
    · intro hb6 hX6
      have hc6 := hb6 ; try simp only [bls, beq_iff_eq, bne_iff_ne, Int.reduceToNat, List.length_map] at hc6
      refine qF ⟨_, _, rfl, rfl, rfl⟩ rfl ?_
      refine q (vPkF rfl rfl) rfl ?_
      exact gTF 2 53 rfl rfl rfl rfl hb6 hX6
    refine q (vMv rfl) rfl ?_
    apply gAnd 56 58 2
    · rfl
    · intro hb7 hX7
      have hc7 := hb7 ; try simp only [bls, beq_iff_eq, bne_iff_ne, Int.reduceToNat, List.length_map] at hc7
      refine qT ⟨_, rfl, rfl⟩ (vMv rfl) rfl ?_
      refine q (vPkT rfl rfl) rfl ?_
      exact gTT 2 56 rfl rfl rfl rfl hb7 hX7
    · intro hb7 hX7
      have hc7 := hb7 ; try simp only [bls, beq_iff_eq, bne_iff_ne, Int.reduceToNat, List.length_map] at hc7
      refine qF ⟨_, _, rfl, rfl, rfl⟩ rfl ?_
      refine q (vPkF rfl rfl) rfl ?_
      exact gTF 2 56 rfl rfl rfl rfl hb7 hX7
    refine q (vAs rfl) rfl ?_
    refine nil ?_
    refine thN ?_
    refine rt ?_
    refine bkR ?_
    refine thR ?_
    refine retP rfl (.t rfl .nil) .nil ⟨?_, rfl, rfl⟩
    refine key _ ?_
    have c1 : o.kind = 1 := by omega
    simp [Alone, MayT, MayG, c1, and_assoc]
  · skip
    refine sq ?_
    refine rg ?_
    refine q (vEq rfl rfl) rfl ?_
    refine q (vAs rfl) rfl ?_
    refine nil ?_
    refine thN ?_
    refine cd rfl (fun hd => ?_) (fun hd => ?_) <;> try simp only [bls, beq_iff_eq, bne_iff_ne, Int.reduceToNat, List.length_map] at hd
    · skip
      refine sq ?_
      refine rg ?_
      refine q (vMv rfl) rfl ?_
      refine q (vMv rfl) rfl ?_
      apply gAnd 62 64 2
      · rfl
      · intro hb8 hX8
        have hc8 := hb8 ; try simp only [bls, beq_iff_eq, bne_iff_ne, Int.reduceToNat, List.length_map] at hc8
        refine qT ⟨_, rfl, rfl⟩ (vMv rfl) rfl ?_
        refine q (vPkT rfl rfl) rfl ?_
        exact gTT 2 62 rfl rfl rfl rfl hb8 hX8
      · intro hb8 hX8
        have hc8 := hb8 ; try simp only [bls, beq_iff_eq, bne_iff_ne, Int.reduceToNat, List.length_map] at hc8
        refine qF ⟨_, _, rfl, rfl, rfl⟩ rfl ?_
        refine q (vPkF rfl rfl) rfl ?_
        exact gTF 2 62 rfl rfl rfl rfl hb8 hX8
      refine q (vMv rfl) rfl ?_
      apply gAnd 65 67 2
      · rfl
      · intro hb9 hX9
        have hc9 := hb9 ; try simp only [bls, beq_iff_eq, bne_iff_ne, Int.reduceToNat, List.length_map] at hc9
        refine qT ⟨_, rfl, rfl⟩ (vMv rfl) rfl ?_
        refine q (vPkT rfl rfl) rfl ?_
        exact gTT 2 65 rfl rfl rfl rfl hb9 hX9
      · intro hb9 hX9
        have hc9 := hb9 ; try simp only [bls, beq_iff_eq, bne_iff_ne, Int.reduceToNat, List.length_map] at hc9
        refine qF ⟨_, _, rfl, rfl, rfl⟩ rfl ?_
        refine q (vPkF rfl rfl) rfl ?_
        exact gTF 2 65 rfl rfl rfl rfl hb9 hX9
      refine q (vAs rfl) rfl ?_
      refine nil ?_
      refine thN ?_
      refine rt ?_
      refine bkR ?_
      refine thR ?_
      refine retP rfl (.t rfl .nil) .nil ⟨?_, rfl, rfl⟩
      refine key _ ?_
      have c1 : o.kind = 2 := by omega
      simp [Alone, MayT, MayG, c1, and_assoc]
    · skip
      refine sq ?_
      refine rg ?_
      refine q (vEq rfl rfl) rfl ?_
      refine q (vAs rfl) rfl ?_
      refine nil ?_
      refine thN ?_
      refine cd rfl (fun hd2 => ?_) (fun hd2 => ?_) <;> try simp only [bls, beq_iff_eq, bne_iff_ne, Int.reduceToNat, List.length_map] at hd2
      · skip
        refine sq ?_
        refine rg ?_
        refine q (vMv rfl) rfl ?_
        refine q (vMv rfl) rfl ?_
        apply gAnd 71 73 2
        · rfl
        · intro hb10 hX10
          have hc10 := hb10 ; try simp only [bls, beq_iff_eq, bne_iff_ne, Int.reduceToNat, List.length_map] at hc10
          refine qT ⟨_, rfl, rfl⟩ (vMv rfl) rfl ?_
          refine q (vPkT rfl rfl) rfl ?_
          exact gTT 2 71 rfl rfl rfl rfl hb10 hX10
        · intro hb10 hX10
          have hc10 := hb10 ; try simp only [bls, beq_iff_eq, bne_iff_ne, Int.reduceToNat, List.length_map] at hc10
          refine qF ⟨_, _, rfl, rfl, rfl⟩ rfl ?_
          refine q (vPkF rfl rfl) rfl ?_
          exact gTF 2 71 rfl rfl rfl rfl hb10 hX10
        refine q (vMv rfl) rfl ?_
        apply gAnd 74 76 2
        · rfl
        · intro hb11 hX11
          have hc11 := hb11 ; try simp only [bls, beq_iff_eq, bne_iff_ne, Int.reduceToNat, List.length_map] at hc11
          refine qT ⟨_, rfl, rfl⟩ (vMv rfl) rfl ?_
          refine q (vPkT rfl rfl) rfl ?_
          exact gTT 2 74 rfl rfl rfl rfl hb11 hX11
        · intro hb11 hX11
          have hc11 := hb11 ; try simp only [bls, beq_iff_eq, bne_iff_ne, Int.reduceToNat, List.length_map] at hc11
          refine qF ⟨_, _, rfl, rfl, rfl⟩ rfl ?_
          refine q (vPkF rfl rfl) rfl ?_
          exact gTF 2 74 rfl rfl rfl rfl hb11 hX11
        refine q (vAs rfl) rfl ?_
        refine nil ?_
        refine thN ?_
        refine rt ?_
        refine bkR ?_
        refine thR ?_
        refine retP rfl (.t rfl .nil) .nil ⟨?_, rfl, rfl⟩
        refine key _ ?_
        have c1 : o.kind = 3 := by omega
        simp [Alone, MayT, MayG, c1, and_assoc]
      · skip
        refine sk ?_
        refine bkN ?_
        refine thN ?_
        refine sq ?_
        refine rg ?_
        refine q (vMv rfl) rfl ?_
        refine q (vMv rfl) rfl ?_
        apply gAnd 78 80 2
        · rfl
        · intro hb12 hX12
          have hc12 := hb12 ; try simp only [bls, beq_iff_eq, bne_iff_ne, Int.reduceToNat, List.length_map] at hc12
          refine qT ⟨_, rfl, rfl⟩ (vMv rfl) rfl ?_
          refine q (vPkT rfl rfl) rfl ?_
          exact gTT 2 78 rfl rfl rfl rfl hb12 hX12
        · intro hb12 hX12
          have hc12 := hb12 ; try simp only [bls, beq_iff_eq, bne_iff_ne, Int.reduceToNat, List.length_map] at hc12
          refine qF ⟨_, _, rfl, rfl, rfl⟩ rfl ?_
          refine q (vPkF rfl rfl) rfl ?_
          exact gTF 2 78 rfl rfl rfl rfl hb12 hX12
        refine q (vMv rfl) rfl ?_
        apply gAnd 81 83 2
        · rfl
        · intro hb13 hX13
          have hc13 := hb13 ; try simp only [bls, beq_iff_eq, bne_iff_ne, Int.reduceToNat, List.length_map] at hc13
          refine qT ⟨_, rfl, rfl⟩ (vMv rfl) rfl ?_
          refine q (vPkT rfl rfl) rfl ?_
          exact gTT 2 81 rfl rfl rfl rfl hb13 hX13
        · intro hb13 hX13
          have hc13 := hb13 ; try simp only [bls, beq_iff_eq, bne_iff_ne, Int.reduceToNat, List.length_map] at hc13
          refine qF ⟨_, _, rfl, rfl, rfl⟩ rfl ?_
          refine q (vPkF rfl rfl) rfl ?_
          exact gTF 2 81 rfl rfl rfl rfl hb13 hX13
        refine q (vAs rfl) rfl ?_
        refine nil ?_
        refine thN ?_
        refine rt ?_
        refine retP rfl (.t rfl .nil) .nil ⟨?_, rfl, rfl⟩
        refine key _ ?_
        have c1 : o.kind ≠ 1 := by omega
        have c2 : o.kind ≠ 2 := by omega
        have c3 : o.kind ≠ 3 := by omega
        have c4 : ¬ (1 ≤ o.kind ∧ o.kind ≤ 3) := by omega
        simp [Alone, MayT, MayG, c1, c2, c3, c4, and_assoc]
noncomputable def entsB (es : List DEnt) : Bool := @decide (EntsOk es ∧ es.length ≤ 64) (Classical.propDecidable _)
theorem entries_spec {es : List DEnt} {ve : Value} {S : Mem} (he : PSl S ve 34 (es.map encE)) (hs : es.length < 4294967296) : PureL Tryz.prog 191 [ve] S [] (.bool (entsB es)) := by
  have hs0 := he.sc
  have key : ∀ b : Bool, (b = true ↔ EntsOk es ∧ es.length ≤ 64) → Value.bool b = .bool (entsB es) := fun b h => by
    congr 1; rw [Bool.eq_iff_iff, h]; simp [entsB]
  refine enter Tryz.func191 rfl 45 rfl rfl (fun w0 => ?_)
  refine sq ?_
  refine rg ?_
  refine q (vAs rfl) rfl ?_
  refine nil ?_
  refine thN ?_
  refine sq ?_
  refine sq ?_
  refine rg ?_
  refine q (vMv rfl) rfl ?_
  refine q (SrcOk.len (srcP he) Tryz.underlying74 rfl) rfl ?_
  refine q (vMv rfl) rfl ?_
  refine nil ?_
  refine thN ?_
  refine bk ?_
  refine loop (ι := Nat) (fun (i : Nat) => [(0, ve), (5, ve), (6, .int .i64 (es.length : Int)), (7, .int .i64 (i : Int))]) (fun (i : Nat) => []) (fun (i : Nat) => fun S' => i ≤ es.length ∧ ∀ j, j < i → EntOk es j) (fun (i : Nat) => es.length - i) 0 ⟨Nat.zero_le _, fun j h => absurd h (Nat.not_lt_zero _)⟩ (.cons rfl (by first | rfl | simp | (simp <;> omega)) (.cons rfl (by first | rfl | simp | (simp <;> omega)) (.cons rfl (by first | rfl | simp | (simp <;> omega)) (.cons rfl (by first | rfl | simp | (simp <;> omega)) .nil)))) .nil ?_
  rintro i S2 hle2 ⟨h5, h6⟩
  replace he := he.mono hle2
  refine sq ?_
  refine rg ?_
  refine q (vLt rfl rfl) rfl ?_
  refine nil ?_
  refine thN ?_
  refine sq ?_
  refine cd rfl (fun hj => ?_) (fun hj => ?_) <;> try simp only [bls, beq_iff_eq, bne_iff_ne, Int.reduceToNat, List.length_map] at hj
  · skip
    refine sk ?_
    refine thN ?_
    refine sq ?_
    refine bk ?_
    refine sq ?_
    refine rg ?_
    refine q (vMv rfl) rfl ?_
    refine q (vIxP sl74 rfl rfl he (by first | omega | (simp only [Int.toNat_natCast, Int.reduceToNat, List.length_append, List.length_cons, List.length_nil, List.length_map, bid_len]; omega) | (simp <;> omega))) rfl ?_
    refine q (vLdA ag247 rfl (rP he (gm (by first | omega | (simp only [Int.toNat_natCast, Int.reduceToNat, List.length_append, List.length_cons, List.length_nil, List.length_map, bid_len]; omega) | (simp <;> omega)))) (by simp)) rfl ?_
    refine l rfl (alloc ze247 rfl ?_)
    intro B4
    refine q (vAs rfl) rfl ?_
    refine l rfl (store sz247 rfl rfl T0 (by simp) (.z (.c inferInstance inferInstance (.c inferInstance inferInstance (.c inferInstance inferInstance .n)))) ?_)
    refine nil ?_
    refine thN ?_
    refine sq ?_
    refine dr (.take 0 (.take 1 (.one 2 (.take 3 (.take 4 (.take 5 (.take 6 (.take 7 (.take 8 (.take 9 (.take 10 (.take 11 (.take 12 (.take 13 (.take 14 (.take 15 (.take 16 (.take 17 (.take 18 (.take 19 (.take 20 (.take 21 (.take 22 (.take 23 (.take 24 (.take 25 (.take 26 (.take 27 (.take 28 .done))))))))))))))))))))))))))))) wide (by decide +kernel) _ _ (.cons T0 .nil) ?_
    refine pT rfl (vFa fa247_0 rfl) rfl ?_
    refine pT rfl (vLd sc9 rfl (rB1 T0 (.z (.c .n)))) rfl ?_
    refine pO ?_
    refine opL rfl rfl (callP cf193 (Name_spec _ _) rfl .nil rfl ?_)
    refine pK (Le.refl _) (.cons T0 .nil) ?_
    refine pT rfl (vNot rfl) rfl ?_
    refine pT rfl (vMv rfl) rfl ?_
    apply pOr 16 25 9
    · rfl
    · intro hb1 hX1
      have hc1 := hb1 ; try simp only [bls, beq_iff_eq, bne_iff_ne, Int.reduceToNat, List.length_map] at hc1
      refine pTF rfl ⟨_, _, rfl, rfl, rfl⟩ rfl ?_
      refine pTF rfl ⟨_, _, rfl, rfl, rfl⟩ rfl ?_
      refine pTF rfl ⟨_, _, rfl, rfl, rfl⟩ rfl ?_
      refine pTF rfl ⟨_, _, rfl, rfl, rfl⟩ rfl ?_
      refine pTF rfl ⟨_, _, rfl, rfl, rfl⟩ rfl ?_
      refine pTF rfl ⟨_, _, rfl, rfl, rfl⟩ rfl ?_
      refine pTF rfl ⟨_, _, rfl, rfl, rfl⟩ rfl ?_
      refine pTF rfl ⟨_, _, rfl, rfl, rfl⟩ rfl ?_
      refine pT rfl (vPkT rfl rfl) rfl ?_
      exact gOT 9 16 rfl rfl rfl rfl hb1 hX1
    · intro hb1 hX1
      have hc1 := hb1 ; try simp only [bls, beq_iff_eq, bne_iff_ne, Int.reduceToNat, List.length_map] at hc1
      refine pTT rfl ⟨_, rfl, rfl⟩ (vFa fa247_1 rfl) rfl ?_
      refine pTT rfl ⟨_, rfl, rfl⟩ (vLd sc3 rfl (rB1 T0 (.s (.z (.c .n))))) rfl ?_
      refine pTT rfl ⟨_, rfl, rfl⟩ (vNe rfl rfl) rfl ?_
      refine pTT rfl ⟨_, rfl, rfl⟩ (vMv rfl) rfl ?_
      apply pAnd 20 24 4
      · rfl
      · intro hb2 hX2
        have hc2 := hb2 ; try simp only [bls, beq_iff_eq, bne_iff_ne, Int.reduceToNat, List.length_map] at hc2
        refine pTT rfl ⟨_, rfl, rfl⟩ (vFa fa247_1 rfl) rfl ?_
        refine pTT rfl ⟨_, rfl, rfl⟩ (vLd sc3 rfl (rB1 T0 (.s (.z (.c .n))))) rfl ?_
        refine pTT rfl ⟨_, rfl, rfl⟩ (vNe rfl rfl) rfl ?_
        refine pTT rfl ⟨_, rfl, rfl⟩ (vPkT rfl rfl) rfl ?_
        exact gTT 4 20 rfl rfl rfl rfl hb2 hX2
      · intro hb2 hX2
        have hc2 := hb2 ; try simp only [bls, beq_iff_eq, bne_iff_ne, Int.reduceToNat, List.length_map] at hc2
        refine pTF rfl ⟨_, _, rfl, rfl, rfl⟩ rfl ?_
        refine pTF rfl ⟨_, _, rfl, rfl, rfl⟩ rfl ?_
        refine pTF rfl ⟨_, _, rfl, rfl, rfl⟩ rfl ?_
        refine pTT rfl ⟨_, rfl, rfl⟩ (vPkF rfl rfl) rfl ?_
        exact gTF 4 20 rfl rfl rfl rfl hb2 hX2
      refine pT rfl (vPkF rfl rfl) rfl ?_
      exact gOF 6 16 rfl rfl rfl rfl hb1 hX1
    refine pT rfl (vMv rfl) rfl ?_
    apply pOr 26 40 14
    · rfl
    · intro hb3 hX3
      have hc3 := hb3 ; try simp only [bls, beq_iff_eq, bne_iff_ne, Int.reduceToNat, List.length_map] at hc3
      refine pTF rfl ⟨_, _, rfl, rfl, rfl⟩ rfl ?_
      refine pTF rfl ⟨_, _, rfl, rfl, rfl⟩ rfl ?_
      refine pTF rfl ⟨_, _, rfl, rfl, rfl⟩ rfl ?_
      refine pTF rfl ⟨_, _, rfl, rfl, rfl⟩ rfl ?_
      refine pTF rfl ⟨_, _, rfl, rfl, rfl⟩ rfl ?_
      refine pTF rfl ⟨_, _, rfl, rfl, rfl⟩ rfl ?_
      refine pTF rfl ⟨_, _, rfl, rfl, rfl⟩ rfl ?_
      refine pTF rfl ⟨_, _, rfl, rfl, rfl⟩ rfl ?_
      refine pTF rfl ⟨_, _, rfl, rfl, rfl⟩ rfl ?_
      refine pTF rfl ⟨_, _, rfl, rfl, rfl⟩ rfl ?_
      refine pTF rfl ⟨_, _, rfl, rfl, rfl⟩ rfl ?_
      refine pTF rfl ⟨_, _, rfl, rfl, rfl⟩ rfl ?_
      refine pTF rfl ⟨_, _, rfl, rfl, rfl⟩ rfl ?_
      refine pT rfl (vPkT rfl rfl) rfl ?_
      exact gOT 14 26 rfl rfl rfl rfl hb3 hX3
    · intro hb3 hX3
      have hc3 := hb3 ; try simp only [bls, beq_iff_eq, bne_iff_ne, Int.reduceToNat, List.length_map] at hc3
      refine pTT rfl ⟨_, rfl, rfl⟩ (vMv rfl) rfl ?_
      refine pTT rfl ⟨_, rfl, rfl⟩ (vGt rfl rfl) rfl ?_
      refine pTT rfl ⟨_, rfl, rfl⟩ (vMv rfl) rfl ?_
      apply pAnd 29 39 10
      · rfl
      · intro hb4 hX4
        have hc4 := hb4 ; try simp only [bls, beq_iff_eq, bne_iff_ne, Int.reduceToNat, List.length_map] at hc4
        refine pTT rfl ⟨_, rfl, rfl⟩ (vMv rfl) rfl ?_
        refine pTT rfl ⟨_, rfl, rfl⟩ (vMv rfl) rfl ?_
        refine pTT rfl ⟨_, rfl, rfl⟩ (vSub rfl rfl (by first | omega | (simp only [Int.toNat_natCast, Int.reduceToNat, List.length_append, List.length_cons, List.length_nil, List.length_map, bid_len]; omega) | (simp <;> omega))) rfl ?_
        refine pTT rfl ⟨_, rfl, rfl⟩ (vIxP sl74 rfl rfl he (by first | omega | (simp only [Int.toNat_natCast, Int.reduceToNat, List.length_append, List.length_cons, List.length_nil, List.length_map, bid_len]; omega) | (simp <;> omega))) rfl ?_
        refine pTT rfl ⟨_, rfl, rfl⟩ (vFp fa247_0 rfl (rP he (gm (by first | omega | (simp only [Int.toNat_natCast, Int.reduceToNat, List.length_append, List.length_cons, List.length_nil, List.length_map, bid_len]; omega) | (simp <;> omega))))) rfl ?_
        refine pTT rfl ⟨_, rfl, rfl⟩ (vLd sc9 rfl (Rd.at1 (rP he (gm (by first | omega | (simp only [Int.toNat_natCast, Int.reduceToNat, List.length_append, List.length_cons, List.length_nil, List.length_map, bid_len]; omega) | (simp <;> omega)))) (.z (.c .n)))) rfl ?_
        refine pTT rfl ⟨_, rfl, rfl⟩ (vFa fa247_0 rfl) rfl ?_
        refine pTT rfl ⟨_, rfl, rfl⟩ (vLd sc9 rfl (rB1 T0 (.z (.c .n)))) rfl ?_
        refine pTT rfl ⟨_, rfl, rfl⟩ (vGeS rfl rfl) rfl ?_
        refine pTT rfl ⟨_, rfl, rfl⟩ (vPkT rfl rfl) rfl ?_
        exact gTT 10 29 rfl rfl rfl rfl hb4 hX4
      · intro hb4 hX4
        have hc4 := hb4 ; try simp only [bls, beq_iff_eq, bne_iff_ne, Int.reduceToNat, List.length_map] at hc4
        refine pTF rfl ⟨_, _, rfl, rfl, rfl⟩ rfl ?_
        refine pTF rfl ⟨_, _, rfl, rfl, rfl⟩ rfl ?_
        refine pTF rfl ⟨_, _, rfl, rfl, rfl⟩ rfl ?_
        refine pTF rfl ⟨_, _, rfl, rfl, rfl⟩ rfl ?_
        refine pTF rfl ⟨_, _, rfl, rfl, rfl⟩ rfl ?_
        refine pTF rfl ⟨_, _, rfl, rfl, rfl⟩ rfl ?_
        refine pTF rfl ⟨_, _, rfl, rfl, rfl⟩ rfl ?_
        refine pTF rfl ⟨_, _, rfl, rfl, rfl⟩ rfl ?_
        refine pTF rfl ⟨_, _, rfl, rfl, rfl⟩ rfl ?_
        refine pTT rfl ⟨_, rfl, rfl⟩ (vPkF rfl rfl) rfl ?_
        exact gTF 10 29 rfl rfl rfl rfl hb4 hX4
      refine pT rfl (vPkF rfl rfl) rfl ?_
      exact gOF 5 26 rfl rfl rfl rfl hb3 hX3
    refine pDone ?_
    refine thN ?_
    refine cd rfl (fun hk => ?_) (fun hk => ?_) <;> try simp only [bls, beq_iff_eq, bne_iff_ne, Int.reduceToNat, List.length_map] at hk
    · skip
      refine sq ?_
      refine rg ?_
      refine q (vAs rfl) rfl ?_
      refine nil ?_
      refine thN ?_
      refine rt ?_
      refine bkR ?_
      refine thR ?_
      refine thR ?_
      refine bkR ?_
      refine thR ?_
      refine retP rfl (.t rfl .nil) .nil ⟨?_, rfl, rfl⟩
      have hn : ¬ (EntsOk es ∧ es.length ≤ 64) := fun h => by
        obtain ⟨a, b, c, d⟩ := h.1 i (by omega)
        rcases hk with (hk | hk) | hk
        · exact hk a
        · omega
        · have d := d (by omega)
          have e1 : ((i : Int) - 1).toNat = i - 1 := by omega
          simp [e1] at hk d
          simp [d] at hk
      refine key _ ?_
      simp [hn]
    · skip
      have h7 : ∀ j, j < i + 1 → EntOk es j := fun j hj => by
        rcases Nat.lt_or_ge j i with h | h
        · exact h6 j h
        · obtain rfl : j = i := by omega
          refine ⟨hk.1.1, by omega, by omega, fun h0 => ?_⟩
          have e1 : ((j : Int) - 1).toNat = j - 1 := by omega
          simp [e1] at hk ⊢
          exact hk.2.resolve_left (by omega)
      refine sk ?_
      refine bkN ?_
      refine thN ?_
      refine rg ?_
      refine q (vAdd rfl rfl (by first | omega | (simp only [Int.toNat_natCast, Int.reduceToNat, List.length_append, List.length_cons, List.length_nil, List.length_map, bid_len]; omega) | (simp <;> omega))) rfl ?_
      refine q (vMv rfl) rfl ?_
      refine nil ?_
      refine thN ?_
      refine back (i + 1) (Le.refl _) ⟨⟨by omega, h7⟩, by omega⟩ (.cons rfl (by first | rfl | simp | (simp <;> omega)) (.cons rfl (by first | rfl | simp | (simp <;> omega)) (.cons rfl (by first | rfl | simp | (simp <;> omega)) (.cons rfl (by first | rfl | simp | (simp <;> omega)) .nil)))) .nil
  · skip
    refine xt ?_
    refine thX ?_
    refine thX ?_
    refine bkX ?_
    refine thN ?_
    refine sq ?_
    refine rg ?_
    refine q (vMv rfl) rfl ?_
    refine q (SrcOk.len (srcP he) Tryz.underlying74 rfl) rfl ?_
    refine q (vLe rfl rfl) rfl ?_
    refine q (vAs rfl) rfl ?_
    refine nil ?_
    refine thN ?_
    refine rt ?_
    refine retP rfl (.t rfl .nil) .nil ⟨?_, rfl, rfl⟩
    refine key _ ?_
    have h7 : EntsOk es := fun j hj => h6 j (by omega)
    simp [h7]; omega
theorem may_spec {o : DObj} {ve vp : Value} {S : Mem} (hz : Small o) (hi : ObjIn S o ve vp) : PureL Tryz.prog 162 [objv o ve vp] S [] (.bool (mayB o)) := by
  have he := hi.e
  have hp := hi.p
  have hs0 := he.sc
  have hs1 := hp.sc
  obtain ⟨z1, z2, z3, z4, z5, z6⟩ := hz
  have key : ∀ b : Bool, (b = true ↔ May o) → Value.bool b = .bool (mayB o) := fun b h => by
    congr 1; rw [Bool.eq_iff_iff, h]; simp [mayB]
  have hl0 : o.entries.length = 0 ↔ o.entries = [] := List.length_eq_zero_iff
  have hl1 : o.parents.length = 0 ↔ o.parents = [] := List.length_eq_zero_iff
  have may_iff : May o ↔ (1 ≤ o.kind ∧ o.kind ≤ 4) ∧ Alone o ∧ (o.kind = 2 → EntsOk o.entries ∧ o.entries.length ≤ 64) ∧ (o.kind = 3 → o.parents.length ≤ 8) ∧ (o.kind = 4 → (1 ≤ o.of ∧ o.of ≤ 4) ∧ NameOk o.name) := by
    constructor
    · intro h
      exact ⟨⟨h.k1, h.k4⟩, ⟨h.blob, h.tree, h.com, fun h4 => h.tag (by omega)⟩, fun _ => ⟨h.ents, h.ne⟩, fun _ => h.np, fun h4 => ⟨⟨(h.tag4 h4).1, (h.tag4 h4).2.1⟩, (h.tag4 h4).2.2⟩⟩
    · rintro ⟨⟨h1, h4⟩, ⟨a, b, c, d⟩, e, f, g⟩
      have ee : o.kind ≠ 2 → o.entries = [] := b
      refine ⟨h1, h4, a, b, c, fun h => d (by omega), fun h => ⟨(g h).1.1, (g h).1.2, (g h).2⟩, ?_, ?_, ?_⟩
      · by_cases h2 : o.kind = 2
        · exact (e h2).2
        · rw [b h2]; simp
      · by_cases h2 : o.kind = 3
        · exact f h2
        · rw [(c h2).2.1]; simp
      · by_cases h2 : o.kind = 2
        · exact (e h2).1
        · rw [b h2]; intro i hi; simp at hi
  refine enter Tryz.func162 rfl 45 rfl rfl (fun w0 => ?_)
  refine sq ?_
  refine rg ?_
  refine l rfl (box rfl rfl ?_)
  intro B1
  refine q (vAs rfl) rfl ?_
  refine nil ?_
  refine thN ?_
  refine sq ?_
  refine sq ?_
  refine rg ?_
  refine q (vFa fa77_0 rfl) rfl ?_
  refine q (vLd sc3 rfl (rB1 T0 (.z (.c .n)))) rfl ?_
  refine nil ?_
  refine thN ?_
  refine bk ?_
  refine sq ?_
  refine rg ?_
  refine q (vEq rfl rfl) rfl ?_
  refine q (vAs rfl) rfl ?_
  refine nil ?_
  refine thN ?_
  refine cd rfl (fun hc => ?_) (fun hc => ?_) <;> try simp only [bls, beq_iff_eq, bne_iff_ne, Int.reduceToNat, List.length_map] at hc
  · skip
    refine sq ?_
    refine rg ?_
    refine q (vLdA ag77 rfl (rB T0 (.z (.c (.c (.c (.c (.c (.c (.c (.c (.c (.c .n)))))))))))) (by simp)) rfl ?_
    refine l rfl (callP cf190 (alone_spec hi) rfl .nil rfl ?_)
    refine q (vMv rfl) rfl ?_
    apply gAnd 9 13 4
    · rfl
    · intro hb1 hX1
      have hc1 := hb1 ; try simp only [bls, beq_iff_eq, bne_iff_ne, Int.reduceToNat, List.length_map] at hc1
      refine qT ⟨_, rfl, rfl⟩ (vFa fa77_2 rfl) rfl ?_
      refine qT ⟨_, rfl, rfl⟩ (vLd sc74 rfl (rB1 T0 (.s (.s (.z (.c .n)))))) rfl ?_
      refine lT rfl ⟨_, rfl, rfl⟩ (callP cf191 (entries_spec he (by first | omega | (simp only [Int.toNat_natCast, Int.reduceToNat, List.length_append, List.length_cons, List.length_nil, List.length_map, bid_len]; omega) | (simp <;> omega))) rfl .nil rfl ?_)
      refine q (vPkT rfl rfl) rfl ?_
      exact gTT 4 9 rfl rfl rfl rfl hb1 hX1
    · intro hb1 hX1
      have hc1 := hb1 ; try simp only [bls, beq_iff_eq, bne_iff_ne, Int.reduceToNat, List.length_map] at hc1
      refine qF ⟨_, _, rfl, rfl, rfl⟩ rfl ?_
      refine qF ⟨_, _, rfl, rfl, rfl⟩ rfl ?_
      refine qF ⟨_, _, rfl, rfl, rfl⟩ rfl ?_
      refine q (vPkF rfl rfl) rfl ?_
      exact gTF 4 9 rfl rfl rfl rfl hb1 hX1
    refine q (vAs rfl) rfl ?_
    refine nil ?_
    refine thN ?_
    refine rt ?_
    refine bkR ?_
    refine thR ?_
    refine retP rfl (.t rfl .nil) .nil ⟨?_, rfl, rfl⟩
    refine key _ ?_
    have c1 : o.kind = 2 := by omega
    rw [may_iff]
    simp [aloneB, entsB, c1]
  · skip
    refine sq ?_
    refine rg ?_
    refine q (vEq rfl rfl) rfl ?_
    refine q (vAs rfl) rfl ?_
    refine nil ?_
    refine thN ?_
    refine cd rfl (fun hd => ?_) (fun hd => ?_) <;> try simp only [bls, beq_iff_eq, bne_iff_ne, Int.reduceToNat, List.length_map] at hd
    · skip
      refine sq ?_
      refine rg ?_
      refine q (vLdA ag77 rfl (rB T0 (.z (.c (.c (.c (.c (.c (.c (.c (.c (.c (.c .n)))))))))))) (by simp)) rfl ?_
      refine l rfl (callP cf190 (alone_spec hi) rfl .nil rfl ?_)
      refine q (vMv rfl) rfl ?_
      apply gAnd 18 23 5
      · rfl
      · intro hb2 hX2
        have hc2 := hb2 ; try simp only [bls, beq_iff_eq, bne_iff_ne, Int.reduceToNat, List.length_map] at hc2
        refine qT ⟨_, rfl, rfl⟩ (vFa fa77_4 rfl) rfl ?_
        refine qT ⟨_, rfl, rfl⟩ (vLd sc27 rfl (rB1 T0 (.s (.s (.s (.n (n := 32) inferInstance (.z (.c .n)))))))) rfl ?_
        refine qT ⟨_, rfl, rfl⟩ (SrcOk.len (srcP hp) Tryz.underlying27 rfl) rfl ?_
        refine qT ⟨_, rfl, rfl⟩ (vLe rfl rfl) rfl ?_
        refine q (vPkT rfl rfl) rfl ?_
        exact gTT 5 18 rfl rfl rfl rfl hb2 hX2
      · intro hb2 hX2
        have hc2 := hb2 ; try simp only [bls, beq_iff_eq, bne_iff_ne, Int.reduceToNat, List.length_map] at hc2
        refine qF ⟨_, _, rfl, rfl, rfl⟩ rfl ?_
        refine qF ⟨_, _, rfl, rfl, rfl⟩ rfl ?_
        refine qF ⟨_, _, rfl, rfl, rfl⟩ rfl ?_
        refine qF ⟨_, _, rfl, rfl, rfl⟩ rfl ?_
        refine q (vPkF rfl rfl) rfl ?_
        exact gTF 5 18 rfl rfl rfl rfl hb2 hX2
      refine q (vAs rfl) rfl ?_
      refine nil ?_
      refine thN ?_
      refine rt ?_
      refine bkR ?_
      refine thR ?_
      refine retP rfl (.t rfl .nil) .nil ⟨?_, rfl, rfl⟩
      refine key _ ?_
      have c1 : o.kind = 3 := by omega
      rw [may_iff]
      simp [aloneB, c1]
      omega
    · skip
      refine sq ?_
      refine rg ?_
      refine q (vEq rfl rfl) rfl ?_
      refine q (vAs rfl) rfl ?_
      refine nil ?_
      refine thN ?_
      refine cd rfl (fun hd2 => ?_) (fun hd2 => ?_) <;> try simp only [bls, beq_iff_eq, bne_iff_ne, Int.reduceToNat, List.length_map] at hd2
      · skip
        refine sq ?_
        refine rg ?_
        refine q (vLdA ag77 rfl (rB T0 (.z (.c (.c (.c (.c (.c (.c (.c (.c (.c (.c .n)))))))))))) (by simp)) rfl ?_
        refine l rfl (callP cf190 (alone_spec hi) rfl .nil rfl ?_)
        refine q (vMv rfl) rfl ?_
        apply gAnd 28 32 4
        · rfl
        · intro hb3 hX3
          have hc3 := hb3 ; try simp only [bls, beq_iff_eq, bne_iff_ne, Int.reduceToNat, List.length_map] at hc3
          refine qT ⟨_, rfl, rfl⟩ (vFa fa77_8 rfl) rfl ?_
          refine qT ⟨_, rfl, rfl⟩ (vLd sc3 rfl (rB1 T0 (.s (.s (.s (.n (n := 32) inferInstance (.s (.s (.s (.n (n := 32) inferInstance (.z (.c .n)))))))))))) rfl ?_
          refine lT rfl ⟨_, rfl, rfl⟩ (callP cf192 (kind_spec _ _) rfl .nil rfl ?_)
          refine q (vPkT rfl rfl) rfl ?_
          exact gTT 4 28 rfl rfl rfl rfl hb3 hX3
        · intro hb3 hX3
          have hc3 := hb3 ; try simp only [bls, beq_iff_eq, bne_iff_ne, Int.reduceToNat, List.length_map] at hc3
          refine qF ⟨_, _, rfl, rfl, rfl⟩ rfl ?_
          refine qF ⟨_, _, rfl, rfl, rfl⟩ rfl ?_
          refine qF ⟨_, _, rfl, rfl, rfl⟩ rfl ?_
          refine q (vPkF rfl rfl) rfl ?_
          exact gTF 4 28 rfl rfl rfl rfl hb3 hX3
        refine q (vMv rfl) rfl ?_
        apply gAnd 33 37 4
        · rfl
        · intro hb4 hX4
          have hc4 := hb4 ; try simp only [bls, beq_iff_eq, bne_iff_ne, Int.reduceToNat, List.length_map] at hc4
          refine qT ⟨_, rfl, rfl⟩ (vFa fa77_9 rfl) rfl ?_
          refine qT ⟨_, rfl, rfl⟩ (vLd sc9 rfl (rB1 T0 (.s (.s (.s (.n (n := 32) inferInstance (.s (.s (.s (.n (n := 32) inferInstance (.s (.z (.c .n))))))))))))) rfl ?_
          refine lT rfl ⟨_, rfl, rfl⟩ (callP cf193 (Name_spec _ _) rfl .nil rfl ?_)
          refine q (vPkT rfl rfl) rfl ?_
          exact gTT 4 33 rfl rfl rfl rfl hb4 hX4
        · intro hb4 hX4
          have hc4 := hb4 ; try simp only [bls, beq_iff_eq, bne_iff_ne, Int.reduceToNat, List.length_map] at hc4
          refine qF ⟨_, _, rfl, rfl, rfl⟩ rfl ?_
          refine qF ⟨_, _, rfl, rfl, rfl⟩ rfl ?_
          refine qF ⟨_, _, rfl, rfl, rfl⟩ rfl ?_
          refine q (vPkF rfl rfl) rfl ?_
          exact gTF 4 33 rfl rfl rfl rfl hb4 hX4
        refine q (vAs rfl) rfl ?_
        refine nil ?_
        refine thN ?_
        refine rt ?_
        refine bkR ?_
        refine thR ?_
        refine retP rfl (.t rfl .nil) .nil ⟨?_, rfl, rfl⟩
        refine key _ ?_
        have c1 : o.kind = 4 := by omega
        rw [may_iff]
        simp [aloneB, c1, and_assoc]
      · skip
        refine sk ?_
        refine bkN ?_
        refine thN ?_
        refine sq ?_
        refine rg ?_
        refine q (vFa fa77_0 rfl) rfl ?_
        refine q (vLd sc3 rfl (rB1 T0 (.z (.c .n)))) rfl ?_
        refine q (vEq rfl rfl) rfl ?_
        refine q (vMv rfl) rfl ?_
        apply gAnd 41 44 3
        · rfl
        · intro hb5 hX5
          have hc5 := hb5 ; try simp only [bls, beq_iff_eq, bne_iff_ne, Int.reduceToNat, List.length_map] at hc5
          refine qT ⟨_, rfl, rfl⟩ (vLdA ag77 rfl (rB T0 (.z (.c (.c (.c (.c (.c (.c (.c (.c (.c (.c .n)))))))))))) (by simp)) rfl ?_
          refine lT rfl ⟨_, rfl, rfl⟩ (callP cf190 (alone_spec hi) rfl .nil rfl ?_)
          refine q (vPkT rfl rfl) rfl ?_
          exact gTT 3 41 rfl rfl rfl rfl hb5 hX5
        · intro hb5 hX5
          have hc5 := hb5 ; try simp only [bls, beq_iff_eq, bne_iff_ne, Int.reduceToNat, List.length_map] at hc5
          refine qF ⟨_, _, rfl, rfl, rfl⟩ rfl ?_
          refine qF ⟨_, _, rfl, rfl, rfl⟩ rfl ?_
          refine q (vPkF rfl rfl) rfl ?_
          exact gTF 3 41 rfl rfl rfl rfl hb5 hX5
        refine q (vAs rfl) rfl ?_
        refine nil ?_
        refine thN ?_
        refine rt ?_
        refine retP rfl (.t rfl .nil) .nil ⟨?_, rfl, rfl⟩
        refine key _ ?_
        rw [may_iff]
        have c2 : o.kind ≠ 2 := by omega
        have c3 : o.kind ≠ 3 := by omega
        have c4 : o.kind ≠ 4 := by omega
        simp [aloneB, c2, c3, c4]
        omega
end Go.Proofs.YtjmigoikklkfdaaGreatDoor
namespace Go.Proofs.YtjmigoikklkfdaaGreatDoor
open Go
set_option linter.unusedVariables false
set_option linter.unusedSimpArgs false
set_option maxRecDepth 4000
theorem vtext_len (s : List UInt8) (h : s.length < 4294967296) : (vtext s).length ≤ s.length + 10 := by
  have := vput_len10 s.length (by omega)
  simp [vtext]; omega
def encEnt (x : DEnt) : List UInt8 := [UInt8.ofNat x.kind] ++ vtext x.name ++ x.id.val
def vents (l : List DEnt) : List UInt8 := (l.map encEnt).flatten
def vids (l : List BId) : List UInt8 := (l.map (·.val)).flatten
def vcom (o : DObj) : List UInt8 := o.tree.val ++ vput o.parents.length ++ vids o.parents ++ vput o.time.toNat ++ vtext o.text
def vtag (o : DObj) : List UInt8 := [UInt8.ofNat o.of] ++ o.target.val ++ vtext o.name
def vbody (o : DObj) : List UInt8 := o.data ++ vents o.entries ++ (if o.kind = 3 then vcom o else []) ++ (if o.kind = 4 then vtag o else [])
theorem take_next {α : Type} [Inhabited α] (l : List α) (i : Nat) (h : i < l.length) : l.take (i + 1) = l.take i ++ [l.getD i default] := by
  rw [List.take_succ_eq_append_getElem h]; simp [List.getD, h]
@[simp] theorem vents_nil : vents [] = [] := rfl
@[simp] theorem vids_nil : vids [] = [] := rfl
theorem vents_next (l : List DEnt) (i : Nat) (h : i < l.length) : vents (l.take (i + 1)) = vents (l.take i) ++ encEnt (l.getD i default) := by
  rw [take_next l i h]; simp [vents]
theorem vids_next (l : List BId) (i : Nat) (h : i < l.length) : vids (l.take (i + 1)) = vids (l.take i) ++ (l.getD i default).val := by
  rw [take_next l i h]; simp [vids]
theorem vids_len (l : List BId) : (vids l).length = 32 * l.length := by
  induction l with
  | nil => rfl
  | cons x l ih => simp only [vids, List.map_cons, List.flatten_cons, List.length_append, bid_len, List.length_cons] at ih ⊢; omega
theorem vents_len {l : List DEnt} (h : EntsOk l) : ∀ i, i ≤ l.length → (vents (l.take i)).length ≤ 83 * i
  | 0, _ => by simp [vents]
  | i + 1, hi => by
    have ih := vents_len h i (by omega)
    obtain ⟨⟨_, _, h3⟩, _⟩ := h i (by omega)
    have h4 := vtext_len (l.getD i default).name (by omega)
    rw [vents_next l i (by omega)]
    simp only [encEnt, List.length_append, List.length_cons, List.length_nil, bid_len]
    omega
theorem ref_body_spec {o : DObj} {ve vp : Value} {S : Mem} (hz : Small o) (hm : May o) (hi : ObjIn S o ve vp) : PureL Tryz.prog 123 [objv o ve vp] S [] (str (vbody o)) := by
  have he := hi.e
  have hp := hi.p
  have hs0 := he.sc
  have hs1 := hp.sc
  obtain ⟨z1, z2, z3, z4, z5, z6⟩ := hz
  have n1 := hm.ne
  have n2 := hm.np
  have l1 := vents_len hm.ents
  have l2 := vids_len o.parents
  refine enter Tryz.func123 rfl 96 rfl rfl (fun w0 => ?_)
  refine sq ?_
  refine rg ?_
  refine l rfl (box rfl rfl ?_)
  intro B1
  refine q (vAs rfl) rfl ?_
  refine nil ?_
  refine thN ?_
  refine sq ?_
  refine rg ?_
  refine q (vFa fa77_1 rfl) rfl ?_
  refine q (vLd sc9 rfl (rB1 T0 (.s (.z (.c .n))))) rfl ?_
  refine q (vAs rfl) rfl ?_
  refine nil ?_
  refine thN ?_
  refine sq ?_
  refine sq ?_
  refine rg ?_
  refine q (vAs rfl) rfl ?_
  refine nil ?_
  refine thN ?_
  refine bk ?_
  refine loop (ι := Nat) (fun (i : Nat) => [(1, .pointer (some ⟨B1, 0, none⟩)), (4, .int .i64 (i : Int)), (3, str (o.data ++ vents (o.entries.take i)))]) (fun (i : Nat) => [blk B1 77 (segsO o ve vp)]) (fun (i : Nat) => fun S' => i ≤ o.entries.length) (fun (i : Nat) => o.entries.length - i) 0 (Nat.zero_le _) (.cons rfl (by first | rfl | simp | (simp <;> omega)) (.cons rfl (by first | rfl | simp | (simp <;> omega)) (.cons rfl (by first | rfl | simp | (simp <;> omega)) .nil))) (.cons T0 (Ent.Le.of (by first | rfl | simp | (simp <;> omega))) .nil) ?_
  rintro i S2 hle2 h5
  replace he := he.mono hle2
  replace hp := hp.mono hle2
  have l3 := l1 i h5
  refine sq ?_
  refine sq ?_
  refine rg ?_
  refine q (vMv rfl) rfl ?_
  refine q (vFa fa77_2 rfl) rfl ?_
  refine q (vLd sc74 rfl (rB1 T0 (.s (.s (.z (.c .n)))))) rfl ?_
  refine q (SrcOk.len (srcP he) Tryz.underlying74 rfl) rfl ?_
  refine q (vLt rfl rfl) rfl ?_
  refine nil ?_
  refine thN ?_
  refine cd rfl (fun hj => ?_) (fun hj => ?_) <;> try simp only [bls, beq_iff_eq, bne_iff_ne, Int.reduceToNat, List.length_map] at hj
  · skip
    have z7 := z6 i
    have z8 := vtext_len (o.entries.getD i default).name (by omega)
    refine sk ?_
    refine thN ?_
    refine sq ?_
    refine bk ?_
    refine dr (.take 0 (.take 1 (.take 2 (.take 3 (.take 4 (.take 5 (.take 6 (.take 9 (.take 10 (.take 11 (.take 12 (.take 13 (.take 14 (.take 17 (.take 18 (.take 19 (.take 20 (.take 21 (.take 22 (.one 7 (.take 8 (.one 15 (.take 16 (.one 23 (.take 24 (.take 25 .done)))))))))))))))))))))))))) wide (by decide +kernel) _ _ (.cons T0 .nil) ?_
    refine pT rfl (vMv rfl) rfl ?_
    refine pT rfl (vFa fa77_2 rfl) rfl ?_
    refine pT rfl (vLd sc74 rfl (rB1 T0 (.s (.s (.z (.c .n)))))) rfl ?_
    refine pT rfl (vMv rfl) rfl ?_
    refine pT rfl (vIxP sl74 rfl rfl he (by first | omega | (simp only [Int.toNat_natCast, Int.reduceToNat, List.length_append, List.length_cons, List.length_nil, List.length_map, bid_len]; omega) | (simp <;> omega))) rfl ?_
    refine pT rfl (vFp fa247_1 rfl (rP he (gm (by first | omega | (simp only [Int.toNat_natCast, Int.reduceToNat, List.length_append, List.length_cons, List.length_nil, List.length_map, bid_len]; omega) | (simp <;> omega))))) rfl ?_
    refine pT rfl (vLd sc3 rfl (Rd.at1 (rP he (gm (by first | omega | (simp only [Int.toNat_natCast, Int.reduceToNat, List.length_append, List.length_cons, List.length_nil, List.length_map, bid_len]; omega) | (simp <;> omega)))) (.s (.z (.c .n))))) rfl ?_
    refine pT rfl (vFa fa77_2 rfl) rfl ?_
    refine pT rfl (vLd sc74 rfl (rB1 T0 (.s (.s (.z (.c .n)))))) rfl ?_
    refine pT rfl (vMv rfl) rfl ?_
    refine pT rfl (vIxP sl74 rfl rfl he (by first | omega | (simp only [Int.toNat_natCast, Int.reduceToNat, List.length_append, List.length_cons, List.length_nil, List.length_map, bid_len]; omega) | (simp <;> omega))) rfl ?_
    refine pT rfl (vFp fa247_0 rfl (rP he (gm (by first | omega | (simp only [Int.toNat_natCast, Int.reduceToNat, List.length_append, List.length_cons, List.length_nil, List.length_map, bid_len]; omega) | (simp <;> omega))))) rfl ?_
    refine pT rfl (vLd sc9 rfl (Rd.at1 (rP he (gm (by first | omega | (simp only [Int.toNat_natCast, Int.reduceToNat, List.length_append, List.length_cons, List.length_nil, List.length_map, bid_len]; omega) | (simp <;> omega)))) (.z (.c .n)))) rfl ?_
    refine pT rfl (vFa fa77_2 rfl) rfl ?_
    refine pT rfl (vLd sc74 rfl (rB1 T0 (.s (.s (.z (.c .n)))))) rfl ?_
    refine pT rfl (vMv rfl) rfl ?_
    refine pT rfl (vIxP sl74 rfl rfl he (by first | omega | (simp only [Int.toNat_natCast, Int.reduceToNat, List.length_append, List.length_cons, List.length_nil, List.length_map, bid_len]; omega) | (simp <;> omega))) rfl ?_
    refine pT rfl (vFp fa247_2 rfl (rP he (gm (by first | omega | (simp only [Int.toNat_natCast, Int.reduceToNat, List.length_append, List.length_cons, List.length_nil, List.length_map, bid_len]; omega) | (simp <;> omega))))) rfl ?_
    refine pT rfl (vLdA ag35 rfl (Rd.at (rP he (gm (by first | omega | (simp only [Int.toNat_natCast, Int.reduceToNat, List.length_append, List.length_cons, List.length_nil, List.length_map, bid_len]; omega) | (simp <;> omega)))) (.s (.s (.z (.c .n))))) (by simp)) rfl ?_
    refine pO ?_
    refine opL rfl rfl (callP cf122 (one_spec _ _) rfl .nil rfl ?_)
    refine pK (Le.refl _) (.cons T0 .nil) ?_
    refine pT rfl (vCat rfl rfl (by first | omega | (simp only [Int.toNat_natCast, Int.reduceToNat, List.length_append, List.length_cons, List.length_nil, List.length_map, bid_len]; omega) | (simp <;> omega))) rfl ?_
    refine pO ?_
    refine opL rfl rfl (callP cf102 (ref_Text_spec _ (by first | omega | (simp only [Int.toNat_natCast, Int.reduceToNat, List.length_append, List.length_cons, List.length_nil, List.length_map, bid_len]; omega) | (simp <;> omega)) _) rfl .nil rfl ?_)
    refine pK (Le.refl _) (.cons T0 .nil) ?_
    refine pT rfl (vCat rfl rfl (by first | omega | (simp only [Int.toNat_natCast, Int.reduceToNat, List.length_append, List.length_cons, List.length_nil, List.length_map, bid_len]; omega) | (simp <;> omega))) rfl ?_
    refine pO ?_
    refine opL rfl rfl (callP cf156 (ref_bytes_spec _ _) rfl .nil rfl ?_)
    refine pK (Le.refl _) (.cons T0 .nil) ?_
    refine pT rfl (vCat rfl rfl (by first | omega | (simp only [Int.toNat_natCast, Int.reduceToNat, List.length_append, List.length_cons, List.length_nil, List.length_map, bid_len]; omega) | (simp <;> omega))) rfl ?_
    refine pT rfl (vAs rfl) rfl ?_
    refine pDone ?_
    refine bkN ?_
    refine thN ?_
    refine rg ?_
    refine q (vMv rfl) rfl ?_
    refine q (vAdd rfl rfl (by first | omega | (simp only [Int.toNat_natCast, Int.reduceToNat, List.length_append, List.length_cons, List.length_nil, List.length_map, bid_len]; omega) | (simp <;> omega))) rfl ?_
    refine q (vAs rfl) rfl ?_
    refine nil ?_
    refine thN ?_
    have e1 : o.data ++ vents (o.entries.take i) ++ [UInt8.ofNat (o.entries.getD i default).kind] ++ vtext (o.entries.getD i default).name ++ (o.entries.getD i default).id.val = o.data ++ vents (o.entries.take (i + 1)) := by
      rw [vents_next _ _ (by omega)]
      simp [encEnt]
    simp only [Int.toNat_natCast, e1]
    refine back (i + 1) (Le.refl _) ⟨by omega, by omega⟩ (.cons rfl (by first | rfl | simp | (simp <;> omega)) (.cons rfl (by first | rfl | simp | (simp <;> omega)) (.cons rfl (by first | rfl | simp | (simp <;> omega)) .nil))) (.cons T0 (Ent.Le.of (by first | rfl | simp | (simp <;> omega))) .nil)
  · skip
    obtain rfl : i = o.entries.length := by omega
    simp only [List.take_length] at l3 ⊢
    refine xt ?_
    refine thX ?_
    refine thX ?_
    refine bkX ?_
    refine thN ?_
    have k1 := vput_len10 o.parents.length (by omega)
    have k2 := vput_len10 o.time.toNat (by have := o.time.toNat_lt; omega)
    have k3 := vtext_len o.text (by omega)
    have k4 := vtext_len o.name (by omega)
    have k5 := o.time.toNat_lt
    refine join (ι := Unit) (fun (u : Unit) => [(1, .pointer (some ⟨B1, 0, none⟩)), (3, str (o.data ++ vents o.entries ++ (if o.kind = 3 then vcom o else [])))]) (fun (u : Unit) => [blk B1 77 (segsO o ve vp)]) (fun (u : Unit) => fun S' => True) ?_ ?_
    · skip
      refine sq ?_
      refine rg ?_
      refine q (vFa fa77_0 rfl) rfl ?_
      refine q (vLd sc3 rfl (rB1 T0 (.z (.c .n)))) rfl ?_
      refine q (vEq rfl rfl) rfl ?_
      refine nil ?_
      refine thN ?_
      refine cd rfl (fun hk => ?_) (fun hk => ?_) <;> try simp only [bls, beq_iff_eq, bne_iff_ne, Int.reduceToNat, List.length_map] at hk
      · skip
        refine sq ?_
        refine dr (.take 0 (.take 1 (.take 2 (.take 5 (.take 6 (.take 7 (.take 8 (.one 3 (.take 4 (.one 9 (.take 10 (.take 11 .done)))))))))))) wide (by decide +kernel) _ _ (.cons T0 .nil) ?_
        refine pT rfl (vMv rfl) rfl ?_
        refine pT rfl (vFa fa77_3 rfl) rfl ?_
        refine pT rfl (vLdA ag35 rfl (rB T0 (.s (.s (.s (.z (.c .n)))))) (by simp)) rfl ?_
        refine pT rfl (vFa fa77_4 rfl) rfl ?_
        refine pT rfl (vLd sc27 rfl (rB1 T0 (.s (.s (.s (.n (n := 32) inferInstance (.z (.c .n)))))))) rfl ?_
        refine pT rfl (SrcOk.len (srcP hp) Tryz.underlying27 rfl) rfl ?_
        refine pT rfl (vCvN Tryz.underlying179 Tryz.underlying3 rfl (by first | omega | (simp only [Int.toNat_natCast, Int.reduceToNat, List.length_append, List.length_cons, List.length_nil, List.length_map, bid_len]; omega) | (simp <;> omega))) rfl ?_
        refine pO ?_
        refine opL rfl rfl (callP cf156 (ref_bytes_spec _ _) rfl .nil rfl ?_)
        refine pK (Le.refl _) (.cons T0 .nil) ?_
        refine pT rfl (vCat rfl rfl (by first | omega | (simp only [Int.toNat_natCast, Int.reduceToNat, List.length_append, List.length_cons, List.length_nil, List.length_map, bid_len]; omega) | (simp <;> omega))) rfl ?_
        refine pO ?_
        refine opL rfl rfl (callP cf101 (ref_Put_spec _ (by first | omega | (simp only [Int.toNat_natCast, Int.reduceToNat, List.length_append, List.length_cons, List.length_nil, List.length_map, bid_len]; omega) | (simp <;> omega)) _) rfl .nil rfl ?_)
        refine pK (Le.refl _) (.cons T0 .nil) ?_
        refine pT rfl (vCat rfl rfl (by first | omega | (simp only [Int.toNat_natCast, Int.reduceToNat, List.length_append, List.length_cons, List.length_nil, List.length_map, bid_len]; omega) | (simp <;> omega))) rfl ?_
        refine pT rfl (vAs rfl) rfl ?_
        refine pDone ?_
        refine thN ?_
        refine sq ?_
        refine sq ?_
        refine rg ?_
        refine q (vAs rfl) rfl ?_
        refine nil ?_
        refine thN ?_
        refine bk ?_
        refine loop (ι := Nat) (fun (i : Nat) => [(1, .pointer (some ⟨B1, 0, none⟩)), (5, .int .i64 (i : Int)), (3, str (o.data ++ vents o.entries ++ o.tree.val ++ vput o.parents.length ++ vids (o.parents.take i)))]) (fun (i : Nat) => [blk B1 77 (segsO o ve vp)]) (fun (i : Nat) => fun S' => i ≤ o.parents.length) (fun (i : Nat) => o.parents.length - i) 0 (Nat.zero_le _) (.cons rfl (by first | rfl | simp | (simp <;> omega)) (.cons rfl (by first | rfl | simp | (simp <;> omega)) (.cons rfl (by first | rfl | simp | (simp <;> omega)) .nil))) (.cons T0 (Ent.Le.of (by first | rfl | simp | (simp <;> omega))) .nil) ?_
        rintro i S4 hle4 h6
        replace he := he.mono hle4
        replace hp := hp.mono hle4
        have l4 := vids_len (o.parents.take i)
        rw [List.length_take] at l4
        refine sq ?_
        refine sq ?_
        refine rg ?_
        refine q (vMv rfl) rfl ?_
        refine q (vFa fa77_4 rfl) rfl ?_
        refine q (vLd sc27 rfl (rB1 T0 (.s (.s (.s (.n (n := 32) inferInstance (.z (.c .n)))))))) rfl ?_
        refine q (SrcOk.len (srcP hp) Tryz.underlying27 rfl) rfl ?_
        refine q (vLt rfl rfl) rfl ?_
        refine nil ?_
        refine thN ?_
        refine cd rfl (fun hl => ?_) (fun hl => ?_) <;> try simp only [bls, beq_iff_eq, bne_iff_ne, Int.reduceToNat, List.length_map] at hl
        · skip
          refine sk ?_
          refine thN ?_
          refine sq ?_
          refine bk ?_
          refine rg ?_
          refine q (vMv rfl) rfl ?_
          refine q (vFa fa77_4 rfl) rfl ?_
          refine q (vLd sc27 rfl (rB1 T0 (.s (.s (.s (.n (n := 32) inferInstance (.z (.c .n)))))))) rfl ?_
          refine q (vMv rfl) rfl ?_
          refine q (vIxP sl27 rfl rfl hp (by first | omega | (simp only [Int.toNat_natCast, Int.reduceToNat, List.length_append, List.length_cons, List.length_nil, List.length_map, bid_len]; omega) | (simp <;> omega))) rfl ?_
          refine q (vLdA ag35 rfl (Rd.f1 (rP hp (gm (by first | omega | (simp only [Int.toNat_natCast, Int.reduceToNat, List.length_append, List.length_cons, List.length_nil, List.length_map, bid_len]; omega) | (simp <;> omega))))) (by simp)) rfl ?_
          refine l rfl (callP cf156 (ref_bytes_spec _ _) rfl .nil rfl ?_)
          refine q (vCat rfl rfl (by first | omega | (simp only [Int.toNat_natCast, Int.reduceToNat, List.length_append, List.length_cons, List.length_nil, List.length_map, bid_len]; omega) | (simp <;> omega))) rfl ?_
          refine q (vAs rfl) rfl ?_
          refine nil ?_
          refine bkN ?_
          refine thN ?_
          refine rg ?_
          refine q (vMv rfl) rfl ?_
          refine q (vAdd rfl rfl (by first | omega | (simp only [Int.toNat_natCast, Int.reduceToNat, List.length_append, List.length_cons, List.length_nil, List.length_map, bid_len]; omega) | (simp <;> omega))) rfl ?_
          refine q (vAs rfl) rfl ?_
          refine nil ?_
          refine thN ?_
          have e1 : o.data ++ vents o.entries ++ o.tree.val ++ vput o.parents.length ++ vids (o.parents.take i) ++ (o.parents.getD i default).val = o.data ++ vents o.entries ++ o.tree.val ++ vput o.parents.length ++ vids (o.parents.take (i + 1)) := by
            rw [vids_next _ _ (by omega)]
            simp
          simp only [Int.toNat_natCast, e1]
          refine back (i + 1) (Le.refl _) ⟨by omega, by omega⟩ (.cons rfl (by first | rfl | simp | (simp <;> omega)) (.cons rfl (by first | rfl | simp | (simp <;> omega)) (.cons rfl (by first | rfl | simp | (simp <;> omega)) .nil))) (.cons T0 (Ent.Le.of (by first | rfl | simp | (simp <;> omega))) .nil)
        · skip
          obtain rfl : i = o.parents.length := by omega
          simp only [List.take_length] at l4 ⊢
          refine xt ?_
          refine thX ?_
          refine thX ?_
          refine bkX ?_
          refine thN ?_
          refine dr (.take 0 (.take 1 (.take 2 (.take 3 (.take 6 (.take 7 (.one 4 (.take 5 (.one 8 (.take 9 (.take 10 .done))))))))))) wide (by decide +kernel) _ _ (.cons T0 .nil) ?_
          refine pT rfl (vMv rfl) rfl ?_
          refine pT rfl (vFa fa77_5 rfl) rfl ?_
          refine pT rfl (vLd sc75 rfl (rB1 T0 (.s (.s (.s (.n (n := 32) inferInstance (.s (.z (.c .n))))))))) rfl ?_
          refine pT rfl (tCvN32 Tryz.underlying179 Tryz.underlying75 rfl) rfl ?_
          refine pT rfl (vFa fa77_6 rfl) rfl ?_
          refine pT rfl (vLd sc9 rfl (rB1 T0 (.s (.s (.s (.n (n := 32) inferInstance (.s (.s (.z (.c .n)))))))))) rfl ?_
          refine pO ?_
          refine opL rfl rfl (callP cf101 (ref_Put_spec _ (by first | omega | (simp only [Int.toNat_natCast, Int.reduceToNat, List.length_append, List.length_cons, List.length_nil, List.length_map, bid_len]; omega) | (simp <;> omega)) _) rfl .nil rfl ?_)
          refine pK (Le.refl _) (.cons T0 .nil) ?_
          refine pT rfl (vCat rfl rfl (by first | omega | (simp only [Int.toNat_natCast, Int.reduceToNat, List.length_append, List.length_cons, List.length_nil, List.length_map, bid_len]; omega) | (simp <;> omega))) rfl ?_
          refine pO ?_
          refine opL rfl rfl (callP cf102 (ref_Text_spec _ (by first | omega | (simp only [Int.toNat_natCast, Int.reduceToNat, List.length_append, List.length_cons, List.length_nil, List.length_map, bid_len]; omega) | (simp <;> omega)) _) rfl .nil rfl ?_)
          refine pK (Le.refl _) (.cons T0 .nil) ?_
          refine pT rfl (vCat rfl rfl (by first | omega | (simp only [Int.toNat_natCast, Int.reduceToNat, List.length_append, List.length_cons, List.length_nil, List.length_map, bid_len]; omega) | (simp <;> omega))) rfl ?_
          refine pT rfl (vAs rfl) rfl ?_
          refine pDone ?_
          refine thN ?_
          have e1 : o.data ++ vents o.entries ++ o.tree.val ++ vput o.parents.length ++ vids o.parents ++ vput o.time.toNat ++ vtext o.text = o.data ++ vents o.entries ++ (if o.kind = 3 then vcom o else []) := by
            rw [if_pos (by omega)]; simp [vcom]
          simp only [e1]
          refine back (()) hle4 trivial (.cons rfl (by first | rfl | simp | (simp <;> omega)) (.cons rfl (by first | rfl | simp | (simp <;> omega)) .nil)) (.cons T0 (Ent.Le.of (by first | rfl | simp | (simp <;> omega))) .nil)
      · skip
        refine sk ?_
        refine thN ?_
        have hk2 : o.kind ≠ 3 := by omega
        simp only [if_neg hk2, List.append_nil]
        refine back (()) (Le.refl _) trivial (.cons rfl (by first | rfl | simp | (simp <;> omega)) (.cons rfl (by first | rfl | simp | (simp <;> omega)) .nil)) (.cons T0 (Ent.Le.of (by first | rfl | simp | (simp <;> omega))) .nil)
    · rintro u S3 hle3 _
      replace he := he.mono hle3
      replace hp := hp.mono hle3
      have l5 : (if o.kind = 3 then vcom o else []).length ≤ 32 + 10 + 32 * 8 + 10 + o.text.length + 10 := by
        split
        · simp only [vcom, List.length_append, bid_len]; omega
        · simp
      refine sq ?_
      refine sq ?_
      refine rg ?_
      refine q (vFa fa77_0 rfl) rfl ?_
      refine q (vLd sc3 rfl (rB1 T0 (.z (.c .n)))) rfl ?_
      refine q (vEq rfl rfl) rfl ?_
      refine nil ?_
      refine thN ?_
      refine cd rfl (fun hk => ?_) (fun hk => ?_) <;> try simp only [bls, beq_iff_eq, bne_iff_ne, Int.reduceToNat, List.length_map] at hk
      · skip
        refine dr (.take 0 (.take 1 (.take 2 (.take 5 (.take 6 (.take 9 (.take 10 (.one 3 (.take 4 (.one 7 (.take 8 (.one 11 (.take 12 (.take 13 .done)))))))))))))) wide (by decide +kernel) _ _ (.cons T0 .nil) ?_
        refine pT rfl (vMv rfl) rfl ?_
        refine pT rfl (vFa fa77_8 rfl) rfl ?_
        refine pT rfl (vLd sc3 rfl (rB1 T0 (.s (.s (.s (.n (n := 32) inferInstance (.s (.s (.s (.n (n := 32) inferInstance (.z (.c .n)))))))))))) rfl ?_
        refine pT rfl (vFa fa77_7 rfl) rfl ?_
        refine pT rfl (vLdA ag35 rfl (rB T0 (.s (.s (.s (.n (n := 32) inferInstance (.s (.s (.s (.z (.c .n)))))))))) (by simp)) rfl ?_
        refine pT rfl (vFa fa77_9 rfl) rfl ?_
        refine pT rfl (vLd sc9 rfl (rB1 T0 (.s (.s (.s (.n (n := 32) inferInstance (.s (.s (.s (.n (n := 32) inferInstance (.s (.z (.c .n))))))))))))) rfl ?_
        refine pO ?_
        refine opL rfl rfl (callP cf122 (one_spec _ _) rfl .nil rfl ?_)
        refine pK (Le.refl _) (.cons T0 .nil) ?_
        refine pT rfl (vCat rfl rfl (by first | omega | (simp only [Int.toNat_natCast, Int.reduceToNat, List.length_append, List.length_cons, List.length_nil, List.length_map, bid_len]; omega) | (simp <;> omega))) rfl ?_
        refine pO ?_
        refine opL rfl rfl (callP cf156 (ref_bytes_spec _ _) rfl .nil rfl ?_)
        refine pK (Le.refl _) (.cons T0 .nil) ?_
        refine pT rfl (vCat rfl rfl (by first | omega | (simp only [Int.toNat_natCast, Int.reduceToNat, List.length_append, List.length_cons, List.length_nil, List.length_map, bid_len]; omega) | (simp <;> omega))) rfl ?_
        refine pO ?_
        refine opL rfl rfl (callP cf102 (ref_Text_spec _ (by first | omega | (simp only [Int.toNat_natCast, Int.reduceToNat, List.length_append, List.length_cons, List.length_nil, List.length_map, bid_len]; omega) | (simp <;> omega)) _) rfl .nil rfl ?_)
        refine pK (Le.refl _) (.cons T0 .nil) ?_
        refine pT rfl (vCat rfl rfl (by first | omega | (simp only [Int.toNat_natCast, Int.reduceToNat, List.length_append, List.length_cons, List.length_nil, List.length_map, bid_len]; omega) | (simp <;> omega))) rfl ?_
        refine pT rfl (vAs rfl) rfl ?_
        refine pDone ?_
        refine thN ?_
        refine sq ?_
        refine rg ?_
        refine q (vMv rfl) rfl ?_
        refine q (vAs rfl) rfl ?_
        refine nil ?_
        refine thN ?_
        refine rt ?_
        refine retP rfl (.t rfl .nil) .nil ⟨?_, rfl, rfl⟩
        have c4 : o.kind = 4 := by omega
        simp [pack, vbody, vtag, c4]
      · skip
        refine sk ?_
        refine thN ?_
        refine sq ?_
        refine rg ?_
        refine q (vMv rfl) rfl ?_
        refine q (vAs rfl) rfl ?_
        refine nil ?_
        refine thN ?_
        refine rt ?_
        refine retP rfl (.t rfl .nil) .nil ⟨?_, rfl, rfl⟩
        have c4 : o.kind ≠ 4 := by omega
        simp [pack, vbody, c4]
def venc (o : DObj) : List UInt8 := [UInt8.ofNat o.kind] ++ vtext (vbody o)
theorem vbody_len {o : DObj} (hz : Small o) (hm : May o) : (vbody o).length < 2147483648 + 10000 := by
  obtain ⟨z1, z2, z3, z4, z5, z6⟩ := hz
  have n1 := hm.ne
  have n2 := hm.np
  have l1 := vents_len hm.ents o.entries.length (Nat.le_refl _)
  rw [List.take_length] at l1
  have l2 := vids_len o.parents
  have k1 := vput_len10 o.parents.length (by omega)
  have k2 := vput_len10 o.time.toNat (by have := o.time.toNat_lt; omega)
  have k3 := vtext_len o.text (by omega)
  have k4 := vtext_len o.name (by omega)
  have l5 : (if o.kind = 3 then vcom o else []).length ≤ 32 + 10 + 32 * 8 + 10 + o.text.length + 10 := by
    split
    · simp only [vcom, List.length_append, bid_len]; omega
    · simp
  have l6 : (if o.kind = 4 then vtag o else []).length ≤ 1 + 32 + 10 + o.name.length := by
    split
    · simp only [vtag, List.length_append, bid_len, List.length_cons, List.length_nil]; omega
    · simp
  have c : o.kind ≠ 3 → o.text = [] := fun h => (hm.com h).2.2.2
  have c2 : o.kind ≠ 4 → o.name = [] := fun h => (hm.tag h).2.2
  simp only [vbody, List.length_append]
  by_cases h3 : o.kind = 3
  · have := c2 (by omega)
    simp [this] at l6
    omega
  · have := c h3
    simp [this] at l5
    omega
noncomputable def encOk (o : DObj) : Bool := mayB o && decide ((venc o).length ≤ 4096)
noncomputable def encS (o : DObj) : List UInt8 := if encOk o = true then venc o else []
theorem ref_Encode_spec {o : DObj} {ve vp : Value} {S : Mem} (hz : Small o) (hi : ObjIn S o ve vp) : PureL Tryz.prog 79 [objv o ve vp] S [] (.tuple [str (encS o), .bool (encOk o)].toArray) := by
  have he := hi.e
  have hp := hi.p
  have hs0 := he.sc
  have hs1 := hp.sc
  refine enter Tryz.func79 rfl 21 rfl rfl (fun w0 => ?_)
  refine sq ?_
  refine rg ?_
  refine l rfl (box rfl rfl ?_)
  intro B1
  refine q (vAs rfl) rfl ?_
  refine q (vAs rfl) rfl ?_
  refine nil ?_
  refine thN ?_
  refine sq ?_
  refine rg ?_
  refine q (vLdA ag77 rfl (rB T0 (.z (.c (.c (.c (.c (.c (.c (.c (.c (.c (.c .n)))))))))))) (by simp)) rfl ?_
  refine l rfl (callP cf121 (ref_May_spec hz hi) rfl .nil rfl ?_)
  refine q (vAs rfl) rfl ?_
  refine nil ?_
  refine thN ?_
  refine sq ?_
  refine sq ?_
  refine rg ?_
  refine q (vMv rfl) rfl ?_
  refine q (vNot rfl) rfl ?_
  refine nil ?_
  refine thN ?_
  refine cd rfl (fun hc => ?_) (fun hc => ?_) <;> try simp only [bls, beq_iff_eq, bne_iff_ne, Int.reduceToNat, List.length_map] at hc
  · skip
    refine sq ?_
    refine rg ?_
    refine q (vAs rfl) rfl ?_
    refine q (vAs rfl) rfl ?_
    refine nil ?_
    refine thN ?_
    refine rt ?_
    refine thR ?_
    refine retP rfl (.t rfl (.t rfl .nil)) .nil ⟨?_, rfl, rfl⟩
    simp [pack, encS, encOk, hc]
  · skip
    have hc1 : mayB o = true := by simpa using hc
    have hm : May o := mayB_iff.1 hc1
    have hb := vbody_len hz hm
    have hv := vtext_len (vbody o) (by omega)
    refine sk ?_
    refine thN ?_
    refine sq ?_
    refine dr (.take 0 (.take 1 (.take 3 (.one 2 (.one 4 (.one 5 (.take 6 (.take 7 .done)))))))) wide (by decide +kernel) _ _ (.cons T0 .nil) ?_
    refine pT rfl (vFa fa77_0 rfl) rfl ?_
    refine pT rfl (vLd sc3 rfl (rB1 T0 (.z (.c .n)))) rfl ?_
    refine pT rfl (vLdA ag77 rfl (rB T0 (.z (.c (.c (.c (.c (.c (.c (.c (.c (.c (.c .n)))))))))))) (by simp)) rfl ?_
    refine pO ?_
    refine opL rfl rfl (callP cf122 (one_spec _ _) rfl .nil rfl ?_)
    refine pK (Le.refl _) (.cons T0 .nil) ?_
    refine pO ?_
    refine opL rfl rfl (callP cf123 (ref_body_spec hz hm hi) rfl .nil rfl ?_)
    refine pK (Le.refl _) (.cons T0 .nil) ?_
    refine pO ?_
    refine opL rfl rfl (callP cf102 (ref_Text_spec _ (by first | omega | (simp only [Int.toNat_natCast, Int.reduceToNat, List.length_append, List.length_cons, List.length_nil, List.length_map, bid_len]; omega) | (simp <;> omega)) _) rfl .nil rfl ?_)
    refine pK (Le.refl _) (.cons T0 .nil) ?_
    refine pT rfl (vCat rfl rfl (by first | omega | (simp only [Int.toNat_natCast, Int.reduceToNat, List.length_append, List.length_cons, List.length_nil, List.length_map, bid_len]; omega) | (simp <;> omega))) rfl ?_
    refine pT rfl (vAs rfl) rfl ?_
    refine pDone ?_
    refine thN ?_
    refine sq ?_
    refine sq ?_
    refine rg ?_
    refine q (vMv rfl) rfl ?_
    refine q (vLenS Tryz.underlying9 rfl) rfl ?_
    refine q (vGt rfl rfl) rfl ?_
    refine nil ?_
    refine thN ?_
    refine cd rfl (fun hd => ?_) (fun hd => ?_) <;> try simp only [bls, beq_iff_eq, bne_iff_ne, Int.reduceToNat, List.length_map] at hd
    · skip
      refine sq ?_
      refine rg ?_
      refine q (vAs rfl) rfl ?_
      refine q (vAs rfl) rfl ?_
      refine nil ?_
      refine thN ?_
      refine rt ?_
      refine thR ?_
      refine retP rfl (.t rfl (.t rfl .nil)) .nil ⟨?_, rfl, rfl⟩
      have : ¬ (venc o).length ≤ 4096 := by unfold venc; omega
      simp [pack, encS, encOk, this]
    · skip
      refine sk ?_
      refine thN ?_
      refine sq ?_
      refine rg ?_
      refine q (vMv rfl) rfl ?_
      refine q (vAs rfl) rfl ?_
      refine q (vAs rfl) rfl ?_
      refine nil ?_
      refine thN ?_
      refine rt ?_
      refine retP rfl (.t rfl (.t rfl .nil)) .nil ⟨?_, rfl, rfl⟩
      have : (venc o).length ≤ 4096 := by unfold venc; omega
      simp [pack, encS, encOk, this, hc1]
      rfl
end Go.Proofs.YtjmigoikklkfdaaGreatDoor
namespace Go.Proofs.YtjmigoikklkfdaaGreatDoor
open Go
set_option linter.unusedVariables false
set_option linter.unusedSimpArgs false
set_option maxRecDepth 4000
def getD2 (s : List UInt8) : Nat × Nat := (vget s).getD (0, 0)
def takeD (s : List UInt8) : List UInt8 × Nat := (vtake s).getD ([], 0)
theorem ref_GetD (s : List UInt8) (hs : s.length < 4294967296) (S : Mem) : PureL Tryz.prog 109 [str s] S [] (.tuple [.int .u64 ((getD2 s).1 : Nat), .int .i64 ((getD2 s).2 : Nat)].toArray) := by
  have := ref_Get_spec s hs S
  have e : refGetV s = .tuple [.int .u64 ((getD2 s).1 : Nat), .int .i64 ((getD2 s).2 : Nat)].toArray := by
    unfold refGetV getD2; cases vget s <;> rfl
  rwa [e] at this
theorem ref_TakeD (s : List UInt8) (hs : s.length < 4294967296) (S : Mem) : PureL Tryz.prog 147 [str s] S [] (.tuple [str (takeD s).1, .int .i64 ((takeD s).2 : Nat)].toArray) := by
  have := ref_Take_spec s hs S
  have e : refTakeV s = .tuple [str (takeD s).1, .int .i64 ((takeD s).2 : Nat)].toArray := by
    unfold refTakeV takeD; cases vtake s <;> rfl
  rwa [e] at this
theorem getD2_le (s : List UInt8) : (getD2 s).1 < 18446744073709551616 ∧ (getD2 s).2 ≤ s.length := by
  unfold getD2
  cases h : vget s with
  | none => simp
  | some p => obtain ⟨n, k⟩ := p; have := vget_bound h; exact ⟨this.1, this.2.2.2⟩
theorem takeD_le (s : List UInt8) : (takeD s).1.length + (takeD s).2 ≤ 2 * s.length ∧ (takeD s).1.length ≤ (takeD s).2 ∧ (takeD s).2 ≤ s.length := by
  unfold takeD vtake
  cases h : vget s with
  | none => simp
  | some p =>
    obtain ⟨n, k⟩ := p
    have := vget_bound h
    dsimp only
    split
    · simp
    · simp; omega
def idOf (s : List UInt8) : BId := ⟨(s ++ List.replicate 32 0).take 32, by simp⟩
theorem idOf_get (s : List UInt8) (i : Nat) (h : i < 32) : (idOf s).val.getD i 0 = s.getD i 0 := by
  simp only [idOf, List.getD_eq_getElem?_getD, List.getElem?_take, if_pos h, List.getElem?_append, List.getElem?_replicate]
  split
  · rfl
  · rename_i h2
    rw [List.getElem?_eq_none (by omega)]
    split <;> rfl
theorem bid_ext {a b : BId} (h : ∀ i, i < 32 → a.val.getD i 0 = b.val.getD i 0) : a = b := by
  apply Subtype.ext
  apply List.ext_getElem (by rw [a.2, b.2])
  intro i h1 h2
  have := h i (by have := a.2; omega)
  simpa [List.getD, h1, h2] using this
theorem idOf_set (s : List UInt8) (i : Nat) (h : i < 32) (h2 : i < s.length) : (encId (idOf (s.take i))).set i (u8v (s.getD i 0)) = encId (idOf (s.take (i + 1))) := by
  have e : (⟨(idOf (s.take i)).val.set i (s.getD i 0), by rw [List.length_set]; exact (idOf (s.take i)).2⟩ : BId) = idOf (s.take (i + 1)) := by
    apply bid_ext
    intro j hj
    rw [idOf_get _ _ hj]
    have l : (idOf (s.take i)).val.length = 32 := (idOf (s.take i)).2
    simp only [List.getD_eq_getElem?_getD, List.getElem?_set, l, List.getElem?_take]
    by_cases hij : i = j
    · subst hij; simp [h]
    · have := idOf_get (s.take i) j hj
      simp only [List.getD_eq_getElem?_getD, List.getElem?_take] at this
      rw [if_neg hij, this]
      by_cases hlt : j < i
      · rw [if_pos hlt, if_pos (by omega)]
      · rw [if_neg hlt, if_neg (by omega)]
  rw [← e]
  simp [encId, List.map_set]
theorem idOf_end (s : List UInt8) (i : Nat) (h : 32 ≤ i ∨ s.length ≤ i) : idOf (s.take i) = idOf s := by
  apply bid_ext
  intro j hj
  rw [idOf_get _ _ hj, idOf_get _ _ hj]
  simp only [List.getD_eq_getElem?_getD, List.getElem?_take]
  split
  · rfl
  · rw [List.getElem?_eq_none (by omega)]
theorem ref_id_spec (s : List UInt8) (hs : s.length < 4294967296) (S : Mem) : PureL Tryz.prog 151 [str s] S [] (idv (idOf s)) := by
  refine enter Tryz.func151 rfl 22 rfl rfl (fun w0 => ?_)
  refine sq ?_
  refine rg ?_
  refine l rfl (alloc ze35 rfl ?_)
  intro B2
  refine nil ?_
  refine thN ?_
  refine sq ?_
  refine rg ?_
  refine q (vBuildA0 ze35 ar35) rfl ?_
  refine l rfl (alloc ze35 rfl ?_)
  intro B3
  refine l rfl (store sz35 rfl rfl T0 (by simp) (.z (.c inferInstance inferInstance .n)) ?_)
  refine nil ?_
  refine thN ?_
  refine sq ?_
  refine sq ?_
  refine rg ?_
  refine q (vAs rfl) rfl ?_
  refine nil ?_
  refine thN ?_
  refine bk ?_
  refine loop (ι := Nat) (fun (i : Nat) => [(0, str s), (4, .int .i64 (i : Int)), (2, .pointer (some ⟨B2, 0, none⟩)), (3, .pointer (some ⟨B3, 0, none⟩))]) (fun (i : Nat) => [blk B2 35 [encId zid], blk B3 35 [encId (idOf (s.take i))]]) (fun (i : Nat) => fun S' => i ≤ 32 ∧ i ≤ s.length) (fun (i : Nat) => 32 - i) 0 ⟨Nat.zero_le _, Nat.zero_le _⟩ (.cons rfl (by first | rfl | simp | (simp <;> omega)) (.cons rfl (by first | rfl | simp | (simp <;> omega)) (.cons rfl (by first | rfl | simp | (simp <;> omega)) (.cons rfl (by first | rfl | simp | (simp <;> omega)) .nil)))) (.cons T1 (Ent.Le.of (by first | rfl | simp | (simp <;> omega))) (.cons T0 (Ent.Le.of (by first | rfl | simp | (simp <;> omega))) .nil)) ?_
  rintro i S2 hle2 ⟨h5, h6⟩
  refine sq ?_
  refine sq ?_
  refine rg ?_
  refine q (vMv rfl) rfl ?_
  refine q (vLt rfl rfl) rfl ?_
  refine q (vMv rfl) rfl ?_
  apply gAnd 8 13 5
  · rfl
  · intro hb1 hX1
    have hc1 := hb1 ; try simp only [bls, beq_iff_eq, bne_iff_ne, Int.reduceToNat, List.length_map] at hc1
    refine qT ⟨_, rfl, rfl⟩ (vMv rfl) rfl ?_
    refine qT ⟨_, rfl, rfl⟩ (vMv rfl) rfl ?_
    refine qT ⟨_, rfl, rfl⟩ (vLenS Tryz.underlying9 rfl) rfl ?_
    refine qT ⟨_, rfl, rfl⟩ (vLt rfl rfl) rfl ?_
    refine q (vPkT rfl rfl) rfl ?_
    exact gTT 5 8 rfl rfl rfl rfl hb1 hX1
  · intro hb1 hX1
    have hc1 := hb1 ; try simp only [bls, beq_iff_eq, bne_iff_ne, Int.reduceToNat, List.length_map] at hc1
    refine qF ⟨_, _, rfl, rfl, rfl⟩ rfl ?_
    refine qF ⟨_, _, rfl, rfl, rfl⟩ rfl ?_
    refine qF ⟨_, _, rfl, rfl, rfl⟩ rfl ?_
    refine qF ⟨_, _, rfl, rfl, rfl⟩ rfl ?_
    refine q (vPkF rfl rfl) rfl ?_
    exact gTF 5 8 rfl rfl rfl rfl hb1 hX1
  refine nil ?_
  refine thN ?_
  refine cd rfl (fun hj => ?_) (fun hj => ?_) <;> try simp only [bls, beq_iff_eq, bne_iff_ne, Int.reduceToNat, List.length_map] at hj
  · skip
    refine sk ?_
    refine thN ?_
    refine sq ?_
    refine bk ?_
    refine rg ?_
    refine q (vMv rfl) rfl ?_
    refine q (vMv rfl) rfl ?_
    refine q (vMv rfl) rfl ?_
    refine q (vIxS Tryz.underlying9 rfl rfl (by first | omega | (simp only [Int.toNat_natCast, Int.reduceToNat, List.length_append, List.length_cons, List.length_nil, List.length_map, bid_len]; omega) | (simp <;> omega))) rfl ?_
    refine q (vIxA ar35 rfl rfl (by first | omega | (simp only [Int.toNat_natCast, Int.reduceToNat, List.length_append, List.length_cons, List.length_nil, List.length_map, bid_len]; omega) | (simp <;> omega))) rfl ?_
    refine l rfl (storeI sz5 rfl rfl T1 .z (by first | omega | (simp only [Int.toNat_natCast, Int.reduceToNat, List.length_append, List.length_cons, List.length_nil, List.length_map, bid_len]; omega) | (simp <;> omega)) ?_)
    refine nil ?_
    refine bkN ?_
    refine thN ?_
    refine rg ?_
    refine q (vMv rfl) rfl ?_
    refine q (vAdd rfl rfl (by first | omega | (simp only [Int.toNat_natCast, Int.reduceToNat, List.length_append, List.length_cons, List.length_nil, List.length_map, bid_len]; omega) | (simp <;> omega))) rfl ?_
    refine q (vAs rfl) rfl ?_
    refine nil ?_
    refine thN ?_
    have e1 := idOf_set s i (by omega) (by omega)
    simp only [u8v] at e1
    simp only [Int.toNat_natCast, Nat.mul_one, e1]
    refine back (i + 1) (Le.refl _) ⟨⟨by omega, by omega⟩, by omega⟩ (.cons rfl (by first | rfl | simp | (simp <;> omega)) (.cons rfl (by first | rfl | simp | (simp <;> omega)) (.cons rfl (by first | rfl | simp | (simp <;> omega)) (.cons rfl (by first | rfl | simp | (simp <;> omega)) .nil)))) (.cons T1 (Ent.Le.of (by first | rfl | simp | (simp <;> omega))) (.cons T0 (Ent.Le.of (by first | rfl | simp | (simp <;> omega))) .nil))
  · skip
    rw [idOf_end s i (by omega)]
    refine xt ?_
    refine thX ?_
    refine thX ?_
    refine bkX ?_
    refine thN ?_
    refine sq ?_
    refine rg ?_
    refine q (vLdA ag35 rfl (rB T1 (.z (.c .n))) (by simp)) rfl ?_
    refine l rfl (store sz35 rfl rfl T0 (by simp) (.z (.c inferInstance inferInstance .n)) ?_)
    refine nil ?_
    refine thN ?_
    refine rt ?_
    refine retP rfl (.c ag35 rfl (rB T0 (.z (.c .n))) (by simp) .nil) .nil ⟨rfl, rfl, rfl⟩
def gTree : Nat → List UInt8 → List DEnt
  | 0, _ => []
  | n + 1, t => if t = [] then [] else ⟨(takeD (t.drop 1)).1, (t.getD 0 0).toNat, idOf (t.drop (1 + (takeD (t.drop 1)).2))⟩ :: gTree n ((t.drop (1 + (takeD (t.drop 1)).2)).drop 32)
theorem gTree_nil (n : Nat) : gTree n [] = [] := by cases n <;> simp [gTree]
def gIds : Nat → List UInt8 → List BId
  | 0, _ => []
  | n + 1, t => idOf t :: gIds n (t.drop 32)
def gComN (t0 : List UInt8) : Nat := min (getD2 (t0.drop 32)).1 9
def gComP (t0 : List UInt8) : List UInt8 := (t0.drop 32).drop (getD2 (t0.drop 32)).2
def gComT (t0 : List UInt8) : List UInt8 := (gComP t0).drop (32 * gComN t0)
def gCom (k : Nat) (t0 : List UInt8) : DObj :=
  { zobj with kind := k, tree := idOf t0, parents := gIds (gComN t0) (gComP t0), time := UInt32.ofNat ((getD2 (gComT t0)).1 % 4294967296), text := (takeD ((gComT t0).drop (getD2 (gComT t0)).2)).1 }
def gTag (k : Nat) (t : List UInt8) : DObj := { zobj with kind := k, of := (t.getD 0 0).toNat, target := idOf (t.drop 1), name := (takeD ((t.drop 1).drop 32)).1 }
def gObj (k : Nat) (t : List UInt8) : DObj :=
  if k = 1 then { zobj with kind := k, data := t } else if k = 2 then { zobj with kind := k, entries := gTree 65 t } else if k = 3 then gCom k t else if k = 4 then gTag k t else { zobj with kind := k }
def guess (s : List UInt8) : DObj := if (takeD (s.drop 1)).2 = 0 then zobj else gObj (s.getD 0 0).toNat (takeD (s.drop 1)).1
theorem ref_guess_spec (s : List UInt8) (h1 : 1 ≤ s.length) (hs : s.length < 1073741824) (S : Mem) :
    Spec Tryz.prog 113 [str s] S [] (fun S' v L' => ∃ ve vp, v = objv (guess s) ve vp ∧ ObjIn S' (guess s) ve vp ∧ L' = []) := by
  have b1 := takeD_le (s.drop 1)
  rw [List.length_drop] at b1
  refine enter Tryz.func113 rfl 139 rfl rfl (fun w0 => ?_)
  refine sq ?_
  refine rg ?_
  refine l rfl (alloc ze77 rfl ?_)
  intro B2
  refine nil ?_
  refine thN ?_
  refine sq ?_
  refine rg ?_
  refine q (vMv rfl) rfl ?_
  refine q (vIxS Tryz.underlying9 rfl rfl (by first | omega | (simp only [Int.toNat_natCast, Int.reduceToNat, List.length_append, List.length_cons, List.length_nil, List.length_map, bid_len]; omega) | (simp <;> omega))) rfl ?_
  refine q (tCvI8 Tryz.underlying3 Tryz.underlying5 rfl) rfl ?_
  refine q (vBuild st77 (.cons rfl rfl inferInstance (by simp) (.z (.c inferInstance inferInstance .n)) .nil)) rfl ?_
  refine l rfl (alloc ze77 rfl ?_)
  intro B3
  refine l rfl (store sz77 rfl rfl T0 (by simp) (.z (.c inferInstance inferInstance (.c inferInstance inferInstance (.c inferInstance inferInstance (.c inferInstance inferInstance (.c inferInstance inferInstance (.c inferInstance inferInstance (.c inferInstance inferInstance (.c inferInstance inferInstance (.c inferInstance inferInstance (.c inferInstance inferInstance .n))))))))))) ?_)
  refine nil ?_
  refine thN ?_
  refine sq ?_
  refine rg ?_
  refine q (vMv rfl) rfl ?_
  refine q (vSlSl Tryz.underlying9 rfl rfl (by first | omega | (simp only [Int.toNat_natCast, Int.reduceToNat, List.length_append, List.length_cons, List.length_nil, List.length_map, bid_len]; omega) | (simp <;> omega))) rfl ?_
  refine l rfl (callP cf147 (ref_TakeD _ (by first | omega | (simp only [Int.toNat_natCast, Int.reduceToNat, List.length_append, List.length_cons, List.length_nil, List.length_map, bid_len]; omega) | (simp <;> omega)) _) rfl .nil rfl ?_)
  refine q (vMv rfl) rfl ?_
  refine q (vEx rfl rfl) rfl ?_
  refine q (vEx rfl rfl) rfl ?_
  refine q (vAs rfl) rfl ?_
  refine q (vAs rfl) rfl ?_
  refine nil ?_
  refine thN ?_
  refine sq ?_
  refine sq ?_
  refine rg ?_
  refine q (vMv rfl) rfl ?_
  refine q (vEq rfl rfl) rfl ?_
  refine nil ?_
  refine thN ?_
  refine cd rfl (fun hc => ?_) (fun hc => ?_) <;> try simp only [bls, beq_iff_eq, bne_iff_ne, Int.reduceToNat, List.length_map] at hc
  · skip
    have hg : guess s = zobj := by unfold guess; rw [if_pos (by omega)]
    refine sq ?_
    refine rg ?_
    refine q (vBuild st77 .nil) rfl ?_
    refine l rfl (store sz77 rfl rfl T1 (by simp) (.z (.c inferInstance inferInstance (.c inferInstance inferInstance (.c inferInstance inferInstance (.c inferInstance inferInstance (.c inferInstance inferInstance (.c inferInstance inferInstance (.c inferInstance inferInstance (.c inferInstance inferInstance (.c inferInstance inferInstance (.c inferInstance inferInstance .n))))))))))) ?_)
    refine nil ?_
    refine thN ?_
    refine rt ?_
    refine thR ?_
    refine ret rfl (.c ag77 rfl (rB T0 (.z (.c (.c (.c (.c (.c (.c (.c (.c (.c (.c .n)))))))))))) (by simp) .nil) .nil ⟨.slice none 0 0, .slice none 0 0, by rw [hg]; rfl, by rw [hg]; exact ⟨PSl.nil, PSl.nil⟩, rfl⟩
  · skip
    have hg : guess s = gObj (s.getD 0 0).toNat (takeD (s.drop 1)).1 := by unfold guess; rw [if_neg (by omega)]
    refine sk ?_
    refine thN ?_
    refine join (ι := Value × Value) (fun p => [(2, .pointer (some ⟨B2, 0, none⟩)), (3, .pointer (some ⟨B3, 0, none⟩))]) (fun p => [blk B2 77 (segsO zobj (.slice none 0 0) (.slice none 0 0)), blk B3 77 (segsO (guess s) p.1 p.2)]) (fun p => fun S' => ObjIn S' (guess s) p.1 p.2) ?_ ?_
    · skip
      refine sq ?_
      refine rg ?_
      refine q (vFa fa77_0 rfl) rfl ?_
      refine q (vLd sc3 rfl (rB1 T0 (.z (.c .n)))) rfl ?_
      refine nil ?_
      refine thN ?_
      refine bk ?_
      refine sq ?_
      refine rg ?_
      refine q (vEq rfl rfl) rfl ?_
      refine q (vAs rfl) rfl ?_
      refine nil ?_
      refine thN ?_
      refine cd rfl (fun hk => ?_) (fun hk => ?_) <;> try simp only [bls, beq_iff_eq, bne_iff_ne, Int.reduceToNat, List.length_map] at hk
      · skip
        have hg1 : guess s = { zobj with kind := (s.getD 0 0).toNat, data := (takeD (s.drop 1)).1 } := by rw [hg, gObj, if_pos (by omega)]
        refine rg ?_
        refine q (vMv rfl) rfl ?_
        refine q (vFa fa77_1 rfl) rfl ?_
        refine l rfl (store sz9 rfl rfl T0 (by simp) (.s (.z (.c inferInstance inferInstance .n))) ?_)
        refine nil ?_
        refine bkN ?_
        refine thN ?_
        simp only [hg1]
        refine back ((.slice none 0 0, .slice none 0 0)) (Le.refl _) ⟨PSl.nil, PSl.nil⟩ (.cons rfl (by first | rfl | simp | (simp <;> omega)) (.cons rfl (by first | rfl | simp | (simp <;> omega)) .nil)) (.cons T1 (Ent.Le.of (by first | rfl | simp | (simp <;> omega))) (.cons T0 (Ent.Le.of (by first | rfl | simp | (simp <;> omega))) .nil))
      · skip
        refine sq ?_
        refine rg ?_
        refine q (vEq rfl rfl) rfl ?_
        refine q (vAs rfl) rfl ?_
        refine nil ?_
        refine thN ?_
        refine cd rfl (fun hk2 => ?_) (fun hk2 => ?_) <;> try simp only [bls, beq_iff_eq, bne_iff_ne, Int.reduceToNat, List.length_map] at hk2
        · skip
          have hg1 : guess s = { zobj with kind := (s.getD 0 0).toNat, entries := gTree 65 (takeD (s.drop 1)).1 } := by rw [hg, gObj, if_neg (by omega), if_pos (by omega)]
          refine sq ?_
          refine rg ?_
          refine q (vAs rfl) rfl ?_
          refine nil ?_
          refine thN ?_
          refine bk ?_
          refine nilsl 247 34 ?_
          refine loop (ι := Nat × List UInt8 × List DEnt × Value) (fun (p : Nat × List UInt8 × List DEnt × Value) => [(2, .pointer (some ⟨B2, 0, none⟩)), (3, .pointer (some ⟨B3, 0, none⟩)), (4, str p.2.1), (6, .int .i64 (p.1 : Int))]) (fun (p : Nat × List UInt8 × List DEnt × Value) => [blk B2 77 (segsO zobj (.slice none 0 0) (.slice none 0 0)), blk B3 77 (segsO { zobj with kind := (s.getD 0 0).toNat } p.2.2.2 (.slice none 0 0)), sl p.2.2.2 247 34 (p.2.2.1.map encE)]) (fun (p : Nat × List UInt8 × List DEnt × Value) => fun S' => (p.2.2.1 ++ gTree (65 - p.1) p.2.1 = gTree 65 (takeD (s.drop 1)).1) ∧ p.1 ≤ 65 ∧ p.2.1.length ≤ s.length ∧ p.2.2.1.length = p.1) (fun (p : Nat × List UInt8 × List DEnt × Value) => 65 - p.1) (0, (takeD (s.drop 1)).1, [], .slice none 0 0) ⟨rfl, by dsimp only; omega, by dsimp only; omega, rfl⟩ (.cons rfl (by first | rfl | simp | (simp <;> omega)) (.cons rfl (by first | rfl | simp | (simp <;> omega)) (.cons rfl (by first | rfl | simp | (simp <;> omega)) (.cons rfl (by first | rfl | simp | (simp <;> omega)) .nil)))) (.cons T2 (Ent.Le.of (by first | rfl | simp | (simp <;> omega))) (.cons T1 (Ent.Le.of (by first | rfl | simp | (simp <;> omega))) (.cons T0 (Ent.Le.of (by first | rfl | simp | (simp <;> omega))) .nil))) ?_
          rintro ⟨i, t, es, ve⟩ S2 hle2 ⟨h5, h6, h7, h8⟩
          dsimp only at h5 h6 h7 h8 ⊢
          refine sq ?_
          refine sq ?_
          refine rg ?_
          refine q (vMv rfl) rfl ?_
          refine q (vLt rfl rfl) rfl ?_
          refine q (vMv rfl) rfl ?_
          apply gAnd 38 41 3
          · rfl
          · intro hb1 hX1
            have hc1 := hb1 ; try simp only [bls, beq_iff_eq, bne_iff_ne, Int.reduceToNat, List.length_map] at hc1
            refine qT ⟨_, rfl, rfl⟩ (vMv rfl) rfl ?_
            refine qT ⟨_, rfl, rfl⟩ (vNeS rfl rfl) rfl ?_
            refine q (vPkT rfl rfl) rfl ?_
            exact gTT 3 38 rfl rfl rfl rfl hb1 hX1
          · intro hb1 hX1
            have hc1 := hb1 ; try simp only [bls, beq_iff_eq, bne_iff_ne, Int.reduceToNat, List.length_map] at hc1
            refine qF ⟨_, _, rfl, rfl, rfl⟩ rfl ?_
            refine qF ⟨_, _, rfl, rfl, rfl⟩ rfl ?_
            refine q (vPkF rfl rfl) rfl ?_
            exact gTF 3 38 rfl rfl rfl rfl hb1 hX1
          refine nil ?_
          refine thN ?_
          refine cd rfl (fun hd => ?_) (fun hd => ?_) <;> try simp only [bls, beq_iff_eq, bne_iff_ne, Int.reduceToNat, List.length_map] at hd
          · skip
            obtain ⟨hd1, hd2⟩ := hd
            have l1 := takeD_le (t.drop 1)
            have l2 : 1 ≤ t.length := List.length_pos_iff.2 hd2
            have l3 : (t.drop 1).length = t.length - 1 := List.length_drop ..
            have e9 : ((1 : Int) + ((takeD (t.drop 1)).2 : Int)).toNat = 1 + (takeD (t.drop 1)).2 := by omega
            have e8 : Int.toNat 32 = 32 := rfl
            have l4 : (t.drop (1 + (takeD (t.drop 1)).2)).length = t.length - (1 + (takeD (t.drop 1)).2) := List.length_drop ..
            have l5 : ((t.drop (1 + (takeD (t.drop 1)).2)).drop 32).length = t.length - (1 + (takeD (t.drop 1)).2) - 32 := by rw [List.length_drop, l4]
            have g1 : gTree (65 - i) t = ⟨(takeD (t.drop 1)).1, (t.getD 0 0).toNat, idOf (t.drop (1 + (takeD (t.drop 1)).2))⟩ :: gTree (65 - (i + 1)) ((t.drop (1 + (takeD (t.drop 1)).2)).drop 32) := by
              have : 65 - i = (65 - (i + 1)) + 1 := by omega
              rw [this, gTree, if_neg hd2]
            rw [g1] at h5
            refine sk ?_
            refine thN ?_
            refine sq ?_
            refine bk ?_
            refine sq ?_
            refine rg ?_
            refine q (vMv rfl) rfl ?_
            refine q (vSlSl Tryz.underlying9 rfl rfl (by first | omega | (simp only [Int.toNat_natCast, Int.reduceToNat, List.length_append, List.length_cons, List.length_nil, List.length_map, bid_len]; omega) | (simp <;> omega))) rfl ?_
            refine l rfl (callP cf147 (ref_TakeD _ (by first | omega | (simp only [Int.toNat_natCast, Int.reduceToNat, List.length_append, List.length_cons, List.length_nil, List.length_map, bid_len]; omega) | (simp <;> omega)) _) rfl .nil rfl ?_)
            refine q (vMv rfl) rfl ?_
            refine q (vEx rfl rfl) rfl ?_
            refine q (vEx rfl rfl) rfl ?_
            refine q (vAs rfl) rfl ?_
            refine q (vAs rfl) rfl ?_
            refine nil ?_
            refine thN ?_
            refine sq ?_
            refine rg ?_
            refine q (vMv rfl) rfl ?_
            refine q (vMv rfl) rfl ?_
            refine q (vAdd rfl rfl (by first | omega | (simp only [Int.toNat_natCast, Int.reduceToNat, List.length_append, List.length_cons, List.length_nil, List.length_map, bid_len]; omega) | (simp <;> omega))) rfl ?_
            refine l rfl (callP cf150 (ref_behind_specI _ _ (by first | omega | (simp only [Int.toNat_natCast, Int.reduceToNat, List.length_append, List.length_cons, List.length_nil, List.length_map, bid_len]; omega) | (simp <;> omega)) _) rfl .nil rfl ?_)
            refine q (vAs rfl) rfl ?_
            refine nil ?_
            refine thN ?_
            refine sq ?_
            refine dr (.take 0 (.take 1 (.take 2 (.take 3 (.take 4 (.take 5 (.take 6 (.one 7 (.take 8 (.one 9 (.one 10 (.take 11 (.last 12))))))))))))) wide (by decide +kernel) _ _ (.cons T0 (.cons T0 .nil)) ?_
            refine pT rfl (vFa fa77_2 rfl) rfl ?_
            refine pT rfl (vLd sc74 rfl (rB1 T1 (.s (.s (.z (.c .n)))))) rfl ?_
            refine pT rfl (vMv rfl) rfl ?_
            refine pT rfl (vIxS Tryz.underlying9 rfl rfl (by first | omega | (simp only [Int.toNat_natCast, Int.reduceToNat, List.length_append, List.length_cons, List.length_nil, List.length_map, bid_len]; omega) | (simp <;> omega))) rfl ?_
            refine pT rfl (tCvI8 Tryz.underlying3 Tryz.underlying5 rfl) rfl ?_
            refine pT rfl (vMv rfl) rfl ?_
            refine pT rfl (vMv rfl) rfl ?_
            refine pO ?_
            refine opL rfl rfl (callP cf151 (ref_id_spec _ (by first | omega | (simp only [Int.toNat_natCast, Int.reduceToNat, List.length_append, List.length_cons, List.length_nil, List.length_map, bid_len]; omega) | (simp <;> omega)) _) rfl .nil rfl ?_)
            refine pK (Le.refl _) (.cons T0 (.cons T0 .nil)) ?_
            refine pT rfl (vBuild st247 (.cons rfl rfl inferInstance (by simp) (.s (.z (.c inferInstance inferInstance .n))) (.cons rfl rfl inferInstance (by simp) (.z (.c inferInstance inferInstance .n)) (.cons rfl rfl inferInstance (by simp) (.s (.s (.z (.c inferInstance inferInstance .n)))) .nil)))) rfl ?_
            refine pO ?_
            refine opL rfl rfl (bslice sl74 ze247 (.cons rfl inferInstance .nil) (by simp) rfl rfl rfl rfl ?_)
            intro B63
            refine pK (Le.refl _) (.cons T1 (.cons T1 .nil)) ?_
            refine pO ?_
            refine opL rfl rfl (app ap74 rfl rfl T3 (srcO T0) (by first | omega | (simp only [Int.toNat_natCast, Int.reduceToNat, List.length_append, List.length_cons, List.length_nil, List.length_map, bid_len]; omega) | (simp <;> omega)) rfl ?_)
            intro v64 hv64
            refine pK (Le.refl _) (.cons T2 (.cons T2 .nil)) ?_
            refine pT rfl (vFa fa77_2 rfl) rfl ?_
            refine pL ?_
            refine opL rfl rfl (store sz74 rfl rfl T3 (by simp) (.s (.s (.z (.c inferInstance inferInstance .n)))) ?_)
            refine thN ?_
            refine rg ?_
            refine q (vMv rfl) rfl ?_
            refine l rfl (callP cf150 (ref_behind_specI _ _ (by first | omega | (simp only [Int.toNat_natCast, Int.reduceToNat, List.length_append, List.length_cons, List.length_nil, List.length_map, bid_len]; omega) | (simp <;> omega)) _) rfl .nil rfl ?_)
            refine q (vAs rfl) rfl ?_
            refine nil ?_
            refine bkN ?_
            refine thN ?_
            refine rg ?_
            refine q (vMv rfl) rfl ?_
            refine q (vAdd rfl rfl (by first | omega | (simp only [Int.toNat_natCast, Int.reduceToNat, List.length_append, List.length_cons, List.length_nil, List.length_map, bid_len]; omega) | (simp <;> omega))) rfl ?_
            refine q (vAs rfl) rfl ?_
            refine nil ?_
            refine thN ?_
            simp only [e9, e8]
            refine back ((i + 1, (t.drop (1 + (takeD (t.drop 1)).2)).drop 32, es ++ [⟨(takeD (t.drop 1)).1, (t.getD 0 0).toNat, idOf (t.drop (1 + (takeD (t.drop 1)).2))⟩], v64)) (Le.refl _) ⟨⟨by dsimp only; rw [← h5]; simp, by dsimp only; omega, by dsimp only; omega, by dsimp only; simp; omega⟩, by dsimp only; omega⟩ (.cons rfl (by first | rfl | (simp only [List.map_append, List.map_cons, List.map_nil]; rfl)) (.cons rfl (by first | rfl | (simp only [List.map_append, List.map_cons, List.map_nil]; rfl)) (.cons rfl (by first | rfl | (simp only [List.map_append, List.map_cons, List.map_nil]; rfl)) (.cons rfl (by first | rfl | (simp only [List.map_append, List.map_cons, List.map_nil]; rfl)) .nil)))) (.cons T3 (Ent.Le.of (by first | rfl | (simp only [List.map_append, List.map_cons, List.map_nil]; rfl))) (.cons T0 (Ent.Le.of (by first | rfl | (simp only [List.map_append, List.map_cons, List.map_nil]; rfl))) (.cons T0 (Ent.Le.of (by first | rfl | (simp only [List.map_append, List.map_cons, List.map_nil]; rfl))) .nil)))
          · skip
            have h9 : gTree (65 - i) t = [] := by
              rcases hd with hd | hd
              · have : 65 - i = 0 := by omega
                rw [this]; rfl
              · rw [hd]; exact gTree_nil _
            rw [h9, List.append_nil] at h5
            refine xt ?_
            refine thX ?_
            refine thX ?_
            refine bkX ?_
            refine bkN ?_
            refine thN ?_
            refine pub T2 (fun S1 hS1 hE => ?_)
            simp only [hg1]
            refine back ((ve, .slice none 0 0)) (Le.trans hle2 hS1) ⟨by dsimp only; rw [← h5]; exact hE, PSl.nil⟩ (.cons rfl (by first | rfl | simp | (simp <;> omega)) (.cons rfl (by first | rfl | simp | (simp <;> omega)) .nil)) (.cons T0 (Ent.Le.of (by first | rfl | simp | (simp <;> omega))) (.cons T0 (Ent.Le.of (by first | rfl | simp | (simp <;> omega))) .nil))
        · skip
          refine sq ?_
          refine rg ?_
          refine q (vEq rfl rfl) rfl ?_
          refine q (vAs rfl) rfl ?_
          refine nil ?_
          refine thN ?_
          refine cd rfl (fun hk3 => ?_) (fun hk3 => ?_) <;> try simp only [bls, beq_iff_eq, bne_iff_ne, Int.reduceToNat, List.length_map] at hk3
          · skip
            have hg1 : guess s = gCom (s.getD 0 0).toNat (takeD (s.drop 1)).1 := by rw [hg, gObj, if_neg (by omega), if_neg (by omega), if_pos (by omega)]
            simp only [Int.reduceToNat]
            have e8 : Int.toNat 32 = 32 := rfl
            have b2 : (takeD (s.drop 1)).1.length < 1073741824 := by omega
            generalize (takeD (s.drop 1)).1 = t0 at *
            have l1 := getD2_le (t0.drop 32)
            have l2 : (t0.drop 32).length = t0.length - 32 := List.length_drop ..
            have l3 : (gComP t0).length = t0.length - 32 - (getD2 (t0.drop 32)).2 := by rw [gComP, List.length_drop, l2]
            have l6 : (gComT t0).length ≤ t0.length := by rw [gComT, List.length_drop, l3]; omega
            have l7 := getD2_le (gComT t0)
            have l8 : ((gComT t0).drop (getD2 (gComT t0)).2).length ≤ t0.length := by rw [List.length_drop]; omega
            refine sq ?_
            refine rg ?_
            refine q (vMv rfl) rfl ?_
            refine l rfl (callP cf151 (ref_id_spec _ (by first | omega | (simp only [Int.toNat_natCast, Int.reduceToNat, List.length_append, List.length_cons, List.length_nil, List.length_map, bid_len]; omega) | (simp <;> omega)) _) rfl .nil rfl ?_)
            refine q (vFa fa77_3 rfl) rfl ?_
            refine l rfl (store sz35 rfl rfl T0 (by simp) (.s (.s (.s (.z (.c inferInstance inferInstance .n))))) ?_)
            refine nil ?_
            refine thN ?_
            refine sq ?_
            refine rg ?_
            refine q (vMv rfl) rfl ?_
            refine l rfl (callP cf150 (ref_behind_specI _ _ (by first | omega | (simp only [Int.toNat_natCast, Int.reduceToNat, List.length_append, List.length_cons, List.length_nil, List.length_map, bid_len]; omega) | (simp <;> omega)) _) rfl .nil rfl ?_)
            refine q (vAs rfl) rfl ?_
            refine nil ?_
            refine thN ?_
            refine sq ?_
            refine rg ?_
            refine q (vMv rfl) rfl ?_
            refine l rfl (callP cf109 (ref_GetD _ (by first | omega | (simp only [Int.toNat_natCast, Int.reduceToNat, List.length_append, List.length_cons, List.length_nil, List.length_map, bid_len]; omega) | (simp <;> omega)) _) rfl .nil rfl ?_)
            refine q (vMv rfl) rfl ?_
            refine q (vEx rfl rfl) rfl ?_
            refine q (vEx rfl rfl) rfl ?_
            refine q (vAs rfl) rfl ?_
            refine q (vAs rfl) rfl ?_
            refine nil ?_
            refine thN ?_
            refine sq ?_
            refine rg ?_
            refine q (vMv rfl) rfl ?_
            refine q (vMv rfl) rfl ?_
            refine l rfl (callP cf150 (ref_behind_specI _ _ (by first | omega | (simp only [Int.toNat_natCast, Int.reduceToNat, List.length_append, List.length_cons, List.length_nil, List.length_map, bid_len]; omega) | (simp <;> omega)) _) rfl .nil rfl ?_)
            refine q (vAs rfl) rfl ?_
            refine nil ?_
            refine thN ?_
            refine sq ?_
            refine sq ?_
            refine rg ?_
            refine q (vAs rfl) rfl ?_
            refine nil ?_
            refine thN ?_
            refine bk ?_
            refine nilsl 35 32 ?_
            refine loop (ι := Nat × List BId × Value) (fun (p : Nat × List BId × Value) => [(2, .pointer (some ⟨B2, 0, none⟩)), (3, .pointer (some ⟨B3, 0, none⟩)), (4, str ((gComP t0).drop (32 * p.1))), (10, .int .u64 ((getD2 (t0.drop 32)).1 : Int)), (12, .int .u64 (p.1 : Int))]) (fun (p : Nat × List BId × Value) => [blk B2 77 (segsO zobj (.slice none 0 0) (.slice none 0 0)), blk B3 77 (segsO { zobj with kind := (s.getD 0 0).toNat, tree := idOf t0 } (.slice none 0 0) p.2.2), sl p.2.2 35 32 (p.2.1.map encId)]) (fun (p : Nat × List BId × Value) => fun S' => (p.2.1 ++ gIds (gComN t0 - p.1) ((gComP t0).drop (32 * p.1)) = gIds (gComN t0) (gComP t0)) ∧ p.1 ≤ gComN t0 ∧ p.2.1.length = p.1) (fun (p : Nat × List BId × Value) => gComN t0 - p.1) (0, [], .slice none 0 0) ⟨rfl, Nat.zero_le _, rfl⟩ (.cons rfl (by first | rfl | simp | (simp <;> omega)) (.cons rfl (by first | rfl | simp | (simp <;> omega)) (.cons rfl (by first | rfl | simp | (simp <;> omega)) (.cons rfl (by first | rfl | simp | (simp <;> omega)) (.cons rfl (by first | rfl | simp | (simp <;> omega)) .nil))))) (.cons T2 (Ent.Le.of (by first | rfl | simp | (simp <;> omega))) (.cons T1 (Ent.Le.of (by first | rfl | simp | (simp <;> omega))) (.cons T0 (Ent.Le.of (by first | rfl | simp | (simp <;> omega))) .nil))) ?_
            rintro ⟨i, ps, vp⟩ S2 hle2 ⟨h5, h6, h8⟩
            dsimp only at h5 h6 h8 ⊢
            have l4 : ((gComP t0).drop (32 * i)).length = (gComP t0).length - 32 * i := List.length_drop ..
            refine sq ?_
            refine sq ?_
            refine rg ?_
            refine q (vMv rfl) rfl ?_
            refine q (vMv rfl) rfl ?_
            refine q (vLt rfl rfl) rfl ?_
            refine q (vMv rfl) rfl ?_
            apply gAnd 86 89 3
            · rfl
            · intro hb2 hX2
              have hc2 := hb2 ; try simp only [bls, beq_iff_eq, bne_iff_ne, Int.reduceToNat, List.length_map] at hc2
              refine qT ⟨_, rfl, rfl⟩ (vMv rfl) rfl ?_
              refine qT ⟨_, rfl, rfl⟩ (vLt rfl rfl) rfl ?_
              refine q (vPkT rfl rfl) rfl ?_
              exact gTT 3 86 rfl rfl rfl rfl hb2 hX2
            · intro hb2 hX2
              have hc2 := hb2 ; try simp only [bls, beq_iff_eq, bne_iff_ne, Int.reduceToNat, List.length_map] at hc2
              refine qF ⟨_, _, rfl, rfl, rfl⟩ rfl ?_
              refine qF ⟨_, _, rfl, rfl, rfl⟩ rfl ?_
              refine q (vPkF rfl rfl) rfl ?_
              exact gTF 3 86 rfl rfl rfl rfl hb2 hX2
            refine nil ?_
            refine thN ?_
            refine cd rfl (fun hd => ?_) (fun hd => ?_) <;> try simp only [bls, beq_iff_eq, bne_iff_ne, Int.reduceToNat, List.length_map] at hd
            · skip
              have h9 : i < gComN t0 := by unfold gComN; omega
              have g1 : gIds (gComN t0 - i) ((gComP t0).drop (32 * i)) = idOf ((gComP t0).drop (32 * i)) :: gIds (gComN t0 - (i + 1)) ((gComP t0).drop (32 * (i + 1))) := by
                have : gComN t0 - i = (gComN t0 - (i + 1)) + 1 := by omega
                rw [this, gIds, List.drop_drop]; congr 3 <;> omega
              rw [g1] at h5
              have e7 : ((gComP t0).drop (32 * i)).drop 32 = (gComP t0).drop (32 * (i + 1)) := by rw [List.drop_drop]; rfl
              refine sk ?_
              refine thN ?_
              refine sq ?_
              refine bk ?_
              refine sq ?_
              refine dr (.take 0 (.take 1 (.take 2 (.one 3 (.one 4 (.one 5 (.take 6 (.last 7)))))))) wide (by decide +kernel) _ _ (.cons T0 (.cons T0 .nil)) ?_
              refine pT rfl (vFa fa77_4 rfl) rfl ?_
              refine pT rfl (vLd sc27 rfl (rB1 T1 (.s (.s (.s (.n (n := 32) inferInstance (.z (.c .n)))))))) rfl ?_
              refine pT rfl (vMv rfl) rfl ?_
              refine pO ?_
              refine opL rfl rfl (callP cf151 (ref_id_spec _ (by first | omega | (simp only [Int.toNat_natCast, Int.reduceToNat, List.length_append, List.length_cons, List.length_nil, List.length_map, bid_len]; omega) | (simp <;> omega)) _) rfl .nil rfl ?_)
              refine pK (Le.refl _) (.cons T0 (.cons T0 .nil)) ?_
              refine pO ?_
              refine opL rfl rfl (bslice sl27 ze35 (.cA rfl .nil) (by simp) rfl rfl rfl rfl ?_)
              intro B96
              refine pK (Le.refl _) (.cons T1 (.cons T1 .nil)) ?_
              refine pO ?_
              refine opL rfl rfl (app ap27 rfl rfl T3 (srcO T0) (by first | omega | (simp only [Int.toNat_natCast, Int.reduceToNat, List.length_append, List.length_cons, List.length_nil, List.length_map, bid_len]; omega) | (simp <;> omega)) rfl ?_)
              intro v97 hv97
              refine pK (Le.refl _) (.cons T2 (.cons T2 .nil)) ?_
              refine pT rfl (vFa fa77_4 rfl) rfl ?_
              refine pL ?_
              refine opL rfl rfl (store sz27 rfl rfl T3 (by simp) (.s (.s (.s (.n (n := 32) inferInstance (.z (.c inferInstance inferInstance .n)))))) ?_)
              refine thN ?_
              refine rg ?_
              refine q (vMv rfl) rfl ?_
              refine l rfl (callP cf150 (ref_behind_specI _ _ (by first | omega | (simp only [Int.toNat_natCast, Int.reduceToNat, List.length_append, List.length_cons, List.length_nil, List.length_map, bid_len]; omega) | (simp <;> omega)) _) rfl .nil rfl ?_)
              refine q (vAs rfl) rfl ?_
              refine nil ?_
              refine bkN ?_
              refine thN ?_
              refine rg ?_
              refine q (vMv rfl) rfl ?_
              refine q (vAddN rfl rfl (by first | omega | (simp only [Int.toNat_natCast, Int.reduceToNat, List.length_append, List.length_cons, List.length_nil, List.length_map, bid_len]; omega) | (simp <;> omega))) rfl ?_
              refine q (vAs rfl) rfl ?_
              refine nil ?_
              refine thN ?_
              simp only [e8, e7]
              refine back ((i + 1, ps ++ [idOf ((gComP t0).drop (32 * i))], v97)) (Le.refl _) ⟨⟨by dsimp only; rw [← h5]; simp, by dsimp only; omega, by dsimp only; simp; omega⟩, by dsimp only; omega⟩ (.cons rfl (by first | rfl | (simp only [List.map_append, List.map_cons, List.map_nil, List.flatten_cons, List.flatten_nil, List.append_nil]; done) | simp) (.cons rfl (by first | rfl | (simp only [List.map_append, List.map_cons, List.map_nil, List.flatten_cons, List.flatten_nil, List.append_nil]; done) | simp) (.cons rfl (by first | rfl | (simp only [List.map_append, List.map_cons, List.map_nil, List.flatten_cons, List.flatten_nil, List.append_nil]; done) | simp) (.cons rfl (by first | rfl | (simp only [List.map_append, List.map_cons, List.map_nil, List.flatten_cons, List.flatten_nil, List.append_nil]; done) | simp) (.cons rfl (by first | rfl | (simp only [List.map_append, List.map_cons, List.map_nil, List.flatten_cons, List.flatten_nil, List.append_nil]; done) | simp) .nil))))) (.cons T3 (Ent.Le.of (by first | rfl | (simp only [List.map_append, List.map_cons, List.map_nil, List.flatten_cons, List.flatten_nil, List.append_nil]; done) | simp)) (.cons T0 (Ent.Le.of (by first | rfl | (simp only [List.map_append, List.map_cons, List.map_nil, List.flatten_cons, List.flatten_nil, List.append_nil]; done) | simp)) (.cons T0 (Ent.Le.of (by first | rfl | (simp only [List.map_append, List.map_cons, List.map_nil, List.flatten_cons, List.flatten_nil, List.append_nil]; done) | simp)) .nil)))
            · skip
              have h9 : i = gComN t0 := by unfold gComN at h6 ⊢; omega
              subst h9
              rw [Nat.sub_self, gIds, List.append_nil] at h5
              rw [show (gComP t0).drop (32 * gComN t0) = gComT t0 from rfl]
              refine xt ?_
              refine thX ?_
              refine thX ?_
              refine bkX ?_
              refine thN ?_
              refine sq ?_
              refine rg ?_
              refine q (vMv rfl) rfl ?_
              refine l rfl (callP cf109 (ref_GetD _ (by first | omega | (simp only [Int.toNat_natCast, Int.reduceToNat, List.length_append, List.length_cons, List.length_nil, List.length_map, bid_len]; omega) | (simp <;> omega)) _) rfl .nil rfl ?_)
              refine q (vMv rfl) rfl ?_
              refine q (vEx rfl rfl) rfl ?_
              refine q (vEx rfl rfl) rfl ?_
              refine q (vAs rfl) rfl ?_
              refine q (vAs rfl) rfl ?_
              refine nil ?_
              refine thN ?_
              refine sq ?_
              refine rg ?_
              refine q (vMv rfl) rfl ?_
              refine q (vRemU64 rfl rfl (by first | omega | (simp only [Int.toNat_natCast, Int.reduceToNat, List.length_append, List.length_cons, List.length_nil, List.length_map, bid_len]; omega) | (simp <;> omega))) rfl ?_
              refine q (tCvU32 Tryz.underlying75 Tryz.underlying179 rfl) rfl ?_
              refine q (vFa fa77_5 rfl) rfl ?_
              refine l rfl (store sz75 rfl rfl T1 (by simp) (.s (.s (.s (.n (n := 32) inferInstance (.s (.z (.c inferInstance inferInstance .n))))))) ?_)
              refine nil ?_
              refine thN ?_
              refine rg ?_
              refine q (vMv rfl) rfl ?_
              refine q (vMv rfl) rfl ?_
              refine l rfl (callP cf150 (ref_behind_specI _ _ (by first | omega | (simp only [Int.toNat_natCast, Int.reduceToNat, List.length_append, List.length_cons, List.length_nil, List.length_map, bid_len]; omega) | (simp <;> omega)) _) rfl .nil rfl ?_)
              refine l rfl (callP cf147 (ref_TakeD _ (by first | omega | (simp only [Int.toNat_natCast, Int.reduceToNat, List.length_append, List.length_cons, List.length_nil, List.length_map, bid_len]; omega) | (simp <;> omega)) _) rfl .nil rfl ?_)
              refine q (vMv rfl) rfl ?_
              refine q (vEx rfl rfl) rfl ?_
              refine q (vEx rfl rfl) rfl ?_
              refine q (vFa fa77_6 rfl) rfl ?_
              refine l rfl (store sz9 rfl rfl T0 (by simp) (.s (.s (.s (.n (n := 32) inferInstance (.s (.s (.z (.c inferInstance inferInstance .n)))))))) ?_)
              refine nil ?_
              refine bkN ?_
              refine thN ?_
              refine pub T2 (fun S2 hS2 hP => ?_)
              simp only [hg1, Int.toNat_natCast]
              refine back ((.slice none 0 0, vp)) (Le.trans hle2 hS2) ⟨PSl.nil, by show PSl _ vp 32 ((gIds (gComN t0) (gComP t0)).map encId); rw [← h5]; exact hP⟩ (.cons rfl (by first | rfl | simp | (simp <;> omega)) (.cons rfl (by first | rfl | simp | (simp <;> omega)) .nil)) (.cons T1 (Ent.Le.of (by first | rfl | simp | (simp <;> omega))) (.cons T0 (Ent.Le.of (by first | rfl | simp | (simp <;> omega))) .nil))
          · skip
            refine sq ?_
            refine rg ?_
            refine q (vEq rfl rfl) rfl ?_
            refine q (vAs rfl) rfl ?_
            refine nil ?_
            refine thN ?_
            refine cd rfl (fun hk4 => ?_) (fun hk4 => ?_) <;> try simp only [bls, beq_iff_eq, bne_iff_ne, Int.reduceToNat, List.length_map] at hk4
            · skip
              have hg1 : guess s = gTag (s.getD 0 0).toNat (takeD (s.drop 1)).1 := by rw [hg, gObj, if_neg (by omega), if_neg (by omega), if_neg (by omega), if_pos (by omega)]
              simp only [Int.reduceToNat]
              have e8 : Int.toNat 32 = 32 := rfl
              have b2 : (takeD (s.drop 1)).1.length < 1073741824 := by omega
              generalize (takeD (s.drop 1)).1 = t0 at *
              refine join (ι := Unit) (fun (u : Unit) => [(2, .pointer (some ⟨B2, 0, none⟩)), (3, .pointer (some ⟨B3, 0, none⟩)), (4, str t0)]) (fun (u : Unit) => [blk B2 77 (segsO zobj (.slice none 0 0) (.slice none 0 0)), blk B3 77 (segsO { zobj with kind := (s.getD 0 0).toNat, of := (t0.getD 0 0).toNat } (.slice none 0 0) (.slice none 0 0))]) (fun (u : Unit) => fun S' => True) ?_ ?_
              · skip
                refine sq ?_
                refine rg ?_
                refine q (vMv rfl) rfl ?_
                refine q (vNeS rfl rfl) rfl ?_
                refine nil ?_
                refine thN ?_
                refine cd rfl (fun hq => ?_) (fun hq => ?_) <;> try simp only [bls, beq_iff_eq, bne_iff_ne, Int.reduceToNat, List.length_map] at hq
                · skip
                  have l1 : 1 ≤ t0.length := List.length_pos_iff.2 hq
                  refine rg ?_
                  refine q (vMv rfl) rfl ?_
                  refine q (vIxS Tryz.underlying9 rfl rfl (by first | omega | (simp only [Int.toNat_natCast, Int.reduceToNat, List.length_append, List.length_cons, List.length_nil, List.length_map, bid_len]; omega) | (simp <;> omega))) rfl ?_
                  refine q (tCvI8 Tryz.underlying3 Tryz.underlying5 rfl) rfl ?_
                  refine q (vFa fa77_8 rfl) rfl ?_
                  refine l rfl (store sz3 rfl rfl T0 (by simp) (.s (.s (.s (.n (n := 32) inferInstance (.s (.s (.s (.n (n := 32) inferInstance (.z (.c inferInstance inferInstance .n)))))))))) ?_)
                  refine nil ?_
                  refine thN ?_
                  refine back (()) (Le.refl _) trivial (.cons rfl (by first | rfl | simp | (simp <;> omega)) (.cons rfl (by first | rfl | simp | (simp <;> omega)) (.cons rfl (by first | rfl | simp | (simp <;> omega)) .nil))) (.cons T1 (Ent.Le.of (by first | rfl | simp | (simp <;> omega))) (.cons T0 (Ent.Le.of (by first | rfl | simp | (simp <;> omega))) .nil))
                · skip
                  refine sk ?_
                  refine thN ?_
                  subst hq
                  refine back (()) (Le.refl _) trivial (.cons rfl (by first | rfl | simp | (simp <;> omega)) (.cons rfl (by first | rfl | simp | (simp <;> omega)) (.cons rfl (by first | rfl | simp | (simp <;> omega)) .nil))) (.cons T1 (Ent.Le.of (by first | rfl | simp | (simp <;> omega))) (.cons T0 (Ent.Le.of (by first | rfl | simp | (simp <;> omega))) .nil))
              · rintro u S3 hle3 _
                have l3 : (t0.drop 1).length = t0.length - 1 := List.length_drop ..
                have l4 : ((t0.drop 1).drop 32).length = t0.length - 1 - 32 := by rw [List.length_drop, l3]
                refine sq ?_
                refine rg ?_
                refine q (vMv rfl) rfl ?_
                refine l rfl (callP cf150 (ref_behind_specI _ _ (by first | omega | (simp only [Int.toNat_natCast, Int.reduceToNat, List.length_append, List.length_cons, List.length_nil, List.length_map, bid_len]; omega) | (simp <;> omega)) _) rfl .nil rfl ?_)
                refine q (vAs rfl) rfl ?_
                refine nil ?_
                refine thN ?_
                refine sq ?_
                refine rg ?_
                refine q (vMv rfl) rfl ?_
                refine l rfl (callP cf151 (ref_id_spec _ (by first | omega | (simp only [Int.toNat_natCast, Int.reduceToNat, List.length_append, List.length_cons, List.length_nil, List.length_map, bid_len]; omega) | (simp <;> omega)) _) rfl .nil rfl ?_)
                refine q (vFa fa77_7 rfl) rfl ?_
                refine l rfl (store sz35 rfl rfl T1 (by simp) (.s (.s (.s (.n (n := 32) inferInstance (.s (.s (.s (.z (.c inferInstance inferInstance .n))))))))) ?_)
                refine nil ?_
                refine thN ?_
                refine rg ?_
                refine q (vMv rfl) rfl ?_
                refine l rfl (callP cf150 (ref_behind_specI _ _ (by first | omega | (simp only [Int.toNat_natCast, Int.reduceToNat, List.length_append, List.length_cons, List.length_nil, List.length_map, bid_len]; omega) | (simp <;> omega)) _) rfl .nil rfl ?_)
                refine l rfl (callP cf147 (ref_TakeD _ (by first | omega | (simp only [Int.toNat_natCast, Int.reduceToNat, List.length_append, List.length_cons, List.length_nil, List.length_map, bid_len]; omega) | (simp <;> omega)) _) rfl .nil rfl ?_)
                refine q (vMv rfl) rfl ?_
                refine q (vEx rfl rfl) rfl ?_
                refine q (vEx rfl rfl) rfl ?_
                refine q (vFa fa77_9 rfl) rfl ?_
                refine l rfl (store sz9 rfl rfl T0 (by simp) (.s (.s (.s (.n (n := 32) inferInstance (.s (.s (.s (.n (n := 32) inferInstance (.s (.z (.c inferInstance inferInstance .n))))))))))) ?_)
                refine nil ?_
                refine bkN ?_
                refine thN ?_
                simp only [hg1]
                refine back ((.slice none 0 0, .slice none 0 0)) hle3 ⟨PSl.nil, PSl.nil⟩ (.cons rfl (by first | rfl | simp | (simp <;> omega)) (.cons rfl (by first | rfl | simp | (simp <;> omega)) .nil)) (.cons T1 (Ent.Le.of (by first | rfl | simp | (simp <;> omega))) (.cons T0 (Ent.Le.of (by first | rfl | simp | (simp <;> omega))) .nil))
            · skip
              have hg1 : guess s = { zobj with kind := (s.getD 0 0).toNat } := by rw [hg, gObj, if_neg (by omega), if_neg (by omega), if_neg (by omega), if_neg (by omega)]
              refine sk ?_
              refine bkN ?_
              refine thN ?_
              simp only [hg1]
              refine back ((.slice none 0 0, .slice none 0 0)) (Le.refl _) ⟨PSl.nil, PSl.nil⟩ (.cons rfl (by first | rfl | simp | (simp <;> omega)) (.cons rfl (by first | rfl | simp | (simp <;> omega)) .nil)) (.cons T1 (Ent.Le.of (by first | rfl | simp | (simp <;> omega))) (.cons T0 (Ent.Le.of (by first | rfl | simp | (simp <;> omega))) .nil))
    · rintro ⟨ve, vp⟩ S9 hle9 hin
      have hs0 := hin.e.sc
      have hs1 := hin.p.sc
      refine sq ?_
      refine rg ?_
      refine q (vLdA ag77 rfl (rB T1 (.z (.c (.c (.c (.c (.c (.c (.c (.c (.c (.c .n)))))))))))) (by simp)) rfl ?_
      refine l rfl (store sz77 rfl rfl T0 (by simp) (.z (.c inferInstance inferInstance (.c inferInstance inferInstance (.c inferInstance inferInstance (.c inferInstance inferInstance (.c inferInstance inferInstance (.c inferInstance inferInstance (.c inferInstance inferInstance (.c inferInstance inferInstance (.c inferInstance inferInstance (.c inferInstance inferInstance .n))))))))))) ?_)
      refine nil ?_
      refine thN ?_
      refine rt ?_
      refine ret rfl (.c ag77 rfl (rB T0 (.z (.c (.c (.c (.c (.c (.c (.c (.c (.c (.c .n)))))))))))) (by simp) .nil) .nil ⟨ve, vp, rfl, hin, rfl⟩
theorem gTree_small : ∀ (n : Nat) (t : List UInt8), (gTree n t).length ≤ n ∧ ∀ x, x ∈ gTree n t → x.name.length ≤ t.length
  | 0, t => by simp [gTree]
  | n + 1, t => by
    unfold gTree
    split
    · simp
    · have ih := gTree_small n ((t.drop (1 + (takeD (t.drop 1)).2)).drop 32)
      have l1 := takeD_le (t.drop 1)
      rw [List.length_drop] at l1
      refine ⟨by rw [List.length_cons]; exact Nat.succ_le_succ ih.1, ?_⟩
      intro x hx
      rcases List.mem_cons.1 hx with rfl | hx
      · dsimp only; omega
      · have := ih.2 x hx
        rw [List.length_drop, List.length_drop] at this
        omega
theorem gIds_len : ∀ (n : Nat) (t : List UInt8), (gIds n t).length = n
  | 0, t => rfl
  | n + 1, t => by simp [gIds, gIds_len n]
theorem guess_small (s : List UInt8) (hs : s.length < 1073741824) : Small (guess s) := by
  have b1 := takeD_le (s.drop 1)
  rw [List.length_drop] at b1
  have z : Small zobj := ⟨by decide, by decide, by decide, by decide, by decide, fun i => by simp [zobj]; decide⟩
  have z0 : ([] : List UInt8).length < 1073741824 := by decide
  have z1 : ([] : List BId).length < 1073741824 := by decide
  have z2 : ([] : List DEnt).length < 1073741824 := by decide
  have zd : ∀ i, (([] : List DEnt).getD i default).name.length < 1073741824 := fun i => by simp; decide
  unfold guess
  split
  · exact z
  · generalize (takeD (s.drop 1)).1 = t at *
    unfold gObj
    split
    · exact ⟨by dsimp only; omega, z0, z0, z1, z2, zd⟩
    · split
      · have := gTree_small 65 t
        refine ⟨z0, z0, z0, z1, by dsimp only; omega, fun i => ?_⟩
        dsimp only
        rcases Nat.lt_or_ge i (gTree 65 t).length with h | h
        · have e : (gTree 65 t).getD i default = (gTree 65 t)[i] := by simp [List.getD, h]
          rw [e]
          have := this.2 _ (List.getElem_mem h)
          omega
        · have e : (gTree 65 t).getD i default = default := by simp [List.getD, h]
          rw [e]; decide
      · split
        · have l6 : (gComT t).length ≤ t.length := by rw [gComT, List.length_drop, gComP, List.length_drop, List.length_drop]; omega
          have l7 := takeD_le ((gComT t).drop (getD2 (gComT t)).2)
          rw [List.length_drop] at l7
          refine ⟨z0, ?_, z0, ?_, z2, zd⟩
          · show (takeD ((gComT t).drop (getD2 (gComT t)).2)).1.length < _; omega
          · show (gIds (gComN t) (gComP t)).length < _; rw [gIds_len]; unfold gComN; omega
        · split
          · have l7 := takeD_le ((t.drop 1).drop 32)
            rw [List.length_drop, List.length_drop] at l7
            exact ⟨z0, z0, by show (takeD ((t.drop 1).drop 32)).1.length < _; omega, z1, z2, zd⟩
          · exact ⟨z0, z0, z0, z1, z2, zd⟩
noncomputable def decOk (s : List UInt8) : Bool := encOk (guess s) && decide (encS (guess s) = s) && decide (s ≠ [])
noncomputable def decO (s : List UInt8) : DObj := if decOk s = true then guess s else zobj
theorem ref_Decode_spec (s : List UInt8) (hs : s.length < 1073741824) (S : Mem) :
    Spec Tryz.prog 63 [str s] S [] (fun S' v L' => ∃ ve vp, v = .tuple [objv (decO s) ve vp, .bool (decOk s)].toArray ∧ ObjIn S' (decO s) ve vp ∧ L' = []) := by
  have hz := guess_small s hs
  refine enter Tryz.func63 rfl 26 rfl rfl (fun w0 => ?_)
  refine sq ?_
  refine rg ?_
  refine l rfl (alloc ze77 rfl ?_)
  intro B2
  refine q (vAs rfl) rfl ?_
  refine nil ?_
  refine thN ?_
  refine sq ?_
  refine sq ?_
  refine rg ?_
  refine q (vMv rfl) rfl ?_
  refine q (vEqS rfl rfl) rfl ?_
  refine nil ?_
  refine thN ?_
  refine cd rfl (fun hc => ?_) (fun hc => ?_) <;> try simp only [bls, beq_iff_eq, bne_iff_ne, Int.reduceToNat, List.length_map] at hc
  · skip
    refine sq ?_
    refine rg ?_
    refine q (vBuild st77 .nil) rfl ?_
    refine l rfl (store sz77 rfl rfl T0 (by simp) (.z (.c inferInstance inferInstance (.c inferInstance inferInstance (.c inferInstance inferInstance (.c inferInstance inferInstance (.c inferInstance inferInstance (.c inferInstance inferInstance (.c inferInstance inferInstance (.c inferInstance inferInstance (.c inferInstance inferInstance (.c inferInstance inferInstance .n))))))))))) ?_)
    refine q (vAs rfl) rfl ?_
    refine nil ?_
    refine thN ?_
    refine rt ?_
    refine thR ?_
    have hg : decOk s = false := by simp [decOk, hc]
    have hg2 : decO s = zobj := by simp [decO, hg]
    refine ret rfl (.c ag77 rfl (rB T0 (.z (.c (.c (.c (.c (.c (.c (.c (.c (.c (.c .n)))))))))))) (by simp) (.t rfl .nil)) .nil ⟨.slice none 0 0, .slice none 0 0, by rw [hg2, hg]; rfl, by rw [hg2]; exact ⟨PSl.nil, PSl.nil⟩, rfl⟩
  · skip
    have h1 : 1 ≤ s.length := List.length_pos_iff.2 hc
    refine sk ?_
    refine thN ?_
    refine sq ?_
    refine rg ?_
    refine q (vMv rfl) rfl ?_
    refine l rfl (call cf113 (ref_guess_spec s h1 hs _) rfl .nil rfl ?_)
    intro S1 r1 l1 hS1 hp1
    obtain ⟨ve, vp, rfl, hi, rfl⟩ := hp1
    have he := hi.e
    have hp := hi.p
    have hs0 := he.sc
    have hs1 := hp.sc
    refine l rfl (alloc ze77 rfl ?_)
    intro B4
    refine l rfl (store sz77 rfl rfl T0 (by simp) (.z (.c inferInstance inferInstance (.c inferInstance inferInstance (.c inferInstance inferInstance (.c inferInstance inferInstance (.c inferInstance inferInstance (.c inferInstance inferInstance (.c inferInstance inferInstance (.c inferInstance inferInstance (.c inferInstance inferInstance (.c inferInstance inferInstance .n))))))))))) ?_)
    refine nil ?_
    refine thN ?_
    refine sq ?_
    refine rg ?_
    refine q (vLdA ag77 rfl (rB T0 (.z (.c (.c (.c (.c (.c (.c (.c (.c (.c (.c .n)))))))))))) (by simp)) rfl ?_
    refine l rfl (callP cf79 (ref_Encode_spec hz hi) rfl .nil rfl ?_)
    refine q (vMv rfl) rfl ?_
    refine q (vEx rfl rfl) rfl ?_
    refine q (vEx rfl rfl) rfl ?_
    refine q (vAs rfl) rfl ?_
    refine q (vAs rfl) rfl ?_
    refine nil ?_
    refine thN ?_
    refine sq ?_
    refine sq ?_
    refine rg ?_
    refine q (vMv rfl) rfl ?_
    refine q (vNot rfl) rfl ?_
    refine q (vMv rfl) rfl ?_
    apply gOr 19 23 4
    · rfl
    · intro hb1 hX1
      have hc1 := hb1 ; try simp only [bls, beq_iff_eq, bne_iff_ne, Int.reduceToNat, List.length_map] at hc1
      refine qF ⟨_, _, rfl, rfl, rfl⟩ rfl ?_
      refine qF ⟨_, _, rfl, rfl, rfl⟩ rfl ?_
      refine qF ⟨_, _, rfl, rfl, rfl⟩ rfl ?_
      refine q (vPkT rfl rfl) rfl ?_
      exact gOT 4 19 rfl rfl rfl rfl hb1 hX1
    · intro hb1 hX1
      have hc1 := hb1 ; try simp only [bls, beq_iff_eq, bne_iff_ne, Int.reduceToNat, List.length_map] at hc1
      refine qT ⟨_, rfl, rfl⟩ (vMv rfl) rfl ?_
      refine qT ⟨_, rfl, rfl⟩ (vMv rfl) rfl ?_
      refine qT ⟨_, rfl, rfl⟩ (vNeS rfl rfl) rfl ?_
      refine q (vPkF rfl rfl) rfl ?_
      exact gOF 4 19 rfl rfl rfl rfl hb1 hX1
    refine nil ?_
    refine thN ?_
    refine cd rfl (fun hd => ?_) (fun hd => ?_) <;> try simp only [bls, beq_iff_eq, bne_iff_ne, Int.reduceToNat, List.length_map] at hd
    · skip
      refine sq ?_
      refine rg ?_
      refine q (vBuild st77 .nil) rfl ?_
      refine l rfl (store sz77 rfl rfl T1 (by simp) (.z (.c inferInstance inferInstance (.c inferInstance inferInstance (.c inferInstance inferInstance (.c inferInstance inferInstance (.c inferInstance inferInstance (.c inferInstance inferInstance (.c inferInstance inferInstance (.c inferInstance inferInstance (.c inferInstance inferInstance (.c inferInstance inferInstance .n))))))))))) ?_)
      refine q (vAs rfl) rfl ?_
      refine nil ?_
      refine thN ?_
      refine rt ?_
      refine thR ?_
      have hg : decOk s = false := by
        unfold decOk
        rcases hd with hd | hd
        · simp [hd]
        · simp [hd]
      have hg2 : decO s = zobj := by simp [decO, hg]
      refine ret rfl (.c ag77 rfl (rB T0 (.z (.c (.c (.c (.c (.c (.c (.c (.c (.c (.c .n)))))))))))) (by simp) (.t rfl .nil)) .nil ⟨.slice none 0 0, .slice none 0 0, by rw [hg2, hg]; rfl, by rw [hg2]; exact ⟨PSl.nil, PSl.nil⟩, rfl⟩
    · skip
      refine sk ?_
      refine thN ?_
      refine sq ?_
      refine rg ?_
      refine q (vLdA ag77 rfl (rB T0 (.z (.c (.c (.c (.c (.c (.c (.c (.c (.c (.c .n)))))))))))) (by simp)) rfl ?_
      refine l rfl (store sz77 rfl rfl T1 (by simp) (.z (.c inferInstance inferInstance (.c inferInstance inferInstance (.c inferInstance inferInstance (.c inferInstance inferInstance (.c inferInstance inferInstance (.c inferInstance inferInstance (.c inferInstance inferInstance (.c inferInstance inferInstance (.c inferInstance inferInstance (.c inferInstance inferInstance .n))))))))))) ?_)
      refine q (vAs rfl) rfl ?_
      refine nil ?_
      refine thN ?_
      refine rt ?_
      have hg : decOk s = true := by
        unfold decOk
        simp [hd, hc]
      have hg2 : decO s = guess s := by simp [decO, hg]
      refine ret rfl (.c ag77 rfl (rB T0 (.z (.c (.c (.c (.c (.c (.c (.c (.c (.c (.c .n)))))))))))) (by simp) (.t rfl .nil)) .nil ⟨ve, vp, by rw [hg2, hg]; rfl, by rw [hg2]; exact ⟨he, hp⟩, rfl⟩
end Go.Proofs.YtjmigoikklkfdaaGreatDoor
namespace Go.Proofs.YtjmigoikklkfdaaGreatDoor
end Go.Proofs.YtjmigoikklkfdaaGreatDoor
namespace Go.Proofs.YtjmigoikklkfdaaGreatDoor
open Go
set_option linter.unusedVariables false
set_option linter.unusedSimpArgs false
set_option maxRecDepth 4000
abbrev Rdr := List UInt8 × Bool
def rBytes (r : Rdr) (n : Nat) : List UInt8 × Rdr := if r.2 = true ∨ r.1.length < n then ([], (r.1, true)) else (r.1.take n, (r.1.drop n, false))
theorem rBytes_spec (b : Nat) (r : Rdr) (n : Nat) (hn : n < 4294967296) (S : Mem) :
    Spec Tryz.prog 185 [ptr b 0, .int .i64 n] S [blk b 254 [[str r.1], [.bool r.2]]] (fun S' v L' => v = str (rBytes r n).1 ∧ S' = S ∧ L' = [blk b 254 [[str (rBytes r n).2.1], [.bool (rBytes r n).2.2]]]) := by
  refine enter Tryz.func185 rfl 38 rfl rfl (fun w0 => ?_)
  refine sq ?_
  refine rg ?_
  refine q (vAs rfl) rfl ?_
  refine nil ?_
  refine thN ?_
  refine sq ?_
  refine sq ?_
  refine rg ?_
  refine q (vMv rfl) rfl ?_
  refine q (vNil rfl) rfl ?_
  refine q (vFa fa254_1 rfl) rfl ?_
  refine q (vLd sc4 rfl (rB1 T0 (.s (.z (.c .n))))) rfl ?_
  refine q (vMv rfl) rfl ?_
  apply gOr 10 18 8
  · rfl
  · intro hb1 hX1
    have hc1 := hb1 ; try simp only [bls, beq_iff_eq, bne_iff_ne, Int.reduceToNat, List.length_map] at hc1
    refine qF ⟨_, _, rfl, rfl, rfl⟩ rfl ?_
    refine qF ⟨_, _, rfl, rfl, rfl⟩ rfl ?_
    refine qF ⟨_, _, rfl, rfl, rfl⟩ rfl ?_
    refine qF ⟨_, _, rfl, rfl, rfl⟩ rfl ?_
    refine qF ⟨_, _, rfl, rfl, rfl⟩ rfl ?_
    refine qF ⟨_, _, rfl, rfl, rfl⟩ rfl ?_
    refine qF ⟨_, _, rfl, rfl, rfl⟩ rfl ?_
    refine q (vPkT rfl rfl) rfl ?_
    exact gOT 8 10 rfl rfl rfl rfl hb1 hX1
  · intro hb1 hX1
    have hc1 := hb1 ; try simp only [bls, beq_iff_eq, bne_iff_ne, Int.reduceToNat, List.length_map] at hc1
    refine qT ⟨_, rfl, rfl⟩ (vMv rfl) rfl ?_
    refine qT ⟨_, rfl, rfl⟩ (vMv rfl) rfl ?_
    refine qT ⟨_, rfl, rfl⟩ (vNil rfl) rfl ?_
    refine qT ⟨_, rfl, rfl⟩ (vFa fa254_0 rfl) rfl ?_
    refine qT ⟨_, rfl, rfl⟩ (vLd sc9 rfl (rB1 T0 (.z (.c .n)))) rfl ?_
    refine qT ⟨_, rfl, rfl⟩ (vLenS Tryz.underlying9 rfl) rfl ?_
    refine qT ⟨_, rfl, rfl⟩ (vGt rfl rfl) rfl ?_
    refine q (vPkF rfl rfl) rfl ?_
    exact gOF 8 10 rfl rfl rfl rfl hb1 hX1
  refine nil ?_
  refine thN ?_
  refine cd rfl (fun hc => ?_) (fun hc => ?_) <;> try simp only [bls, beq_iff_eq, bne_iff_ne, Int.reduceToNat, List.length_map] at hc
  · skip
    refine sq ?_
    refine rg ?_
    refine q (vMv rfl) rfl ?_
    refine q (vNil rfl) rfl ?_
    refine q (vFa fa254_1 rfl) rfl ?_
    refine l rfl (store sz4 rfl rfl T0 (by simp) (.s (.z (.c inferInstance inferInstance .n))) ?_)
    refine nil ?_
    refine thN ?_
    refine sq ?_
    refine rg ?_
    refine q (vAs rfl) rfl ?_
    refine nil ?_
    refine thN ?_
    refine rt ?_
    refine thR ?_
    have e1 : rBytes r n = ([], (r.1, true)) := by unfold rBytes; rw [if_pos (by simpa using hc)]
    simp only [e1]
    refine ret rfl (.t rfl .nil) (.t T0 .nil) ⟨rfl, rfl, rfl⟩
  · skip
    refine sk ?_
    refine thN ?_
    refine sq ?_
    refine rg ?_
    refine q (vMv rfl) rfl ?_
    refine q (vNil rfl) rfl ?_
    refine q (vFa fa254_0 rfl) rfl ?_
    refine q (vLd sc9 rfl (rB1 T0 (.z (.c .n)))) rfl ?_
    refine q (vMv rfl) rfl ?_
    refine q (vSlSh Tryz.underlying9 rfl rfl (by first | omega | (simp only [Int.toNat_natCast, Int.reduceToNat, List.length_append, List.length_cons, List.length_nil, List.length_map, bid_len]; omega) | (simp <;> omega))) rfl ?_
    refine q (vAs rfl) rfl ?_
    refine nil ?_
    refine thN ?_
    refine sq ?_
    refine rg ?_
    refine q (vMv rfl) rfl ?_
    refine q (vMv rfl) rfl ?_
    refine q (vNil rfl) rfl ?_
    refine q (vFa fa254_0 rfl) rfl ?_
    refine q (vLd sc9 rfl (rB1 T0 (.z (.c .n)))) rfl ?_
    refine q (vMv rfl) rfl ?_
    refine q (vSlSl Tryz.underlying9 rfl rfl (by first | omega | (simp only [Int.toNat_natCast, Int.reduceToNat, List.length_append, List.length_cons, List.length_nil, List.length_map, bid_len]; omega) | (simp <;> omega))) rfl ?_
    refine q (vNil rfl) rfl ?_
    refine q (vFa fa254_0 rfl) rfl ?_
    refine l rfl (store sz9 rfl rfl T0 (by simp) (.z (.c inferInstance inferInstance .n)) ?_)
    refine nil ?_
    refine thN ?_
    refine sq ?_
    refine rg ?_
    refine q (vMv rfl) rfl ?_
    refine q (vAs rfl) rfl ?_
    refine nil ?_
    refine thN ?_
    refine rt ?_
    have e1 : rBytes r n = (r.1.take n, (r.1.drop n, false)) := by unfold rBytes; rw [if_neg (by simpa using hc)]
    simp only [e1]
    refine ret rfl (.t rfl .nil) (.t T0 .nil) ⟨by simp [pack], rfl, by simp [hc.1]⟩
def rKind (r : Rdr) : Nat × Rdr := (if (rBytes r 1).2.2 = true then 0 else ((rBytes r 1).1.getD 0 0).toNat, (rBytes r 1).2)
theorem rKind_spec (b : Nat) (r : Rdr) (S : Mem) :
    Spec Tryz.prog 186 [ptr b 0] S [blk b 254 [[str r.1], [.bool r.2]]] (fun S' v L' => v = .int .i64 ((rKind r).1 : Nat) ∧ S' = S ∧ L' = [blk b 254 [[str (rKind r).2.1], [.bool (rKind r).2.2]]]) := by
  refine enter Tryz.func186 rfl 13 rfl rfl (fun w0 => ?_)
  refine sq ?_
  refine rg ?_
  refine q (vAs rfl) rfl ?_
  refine nil ?_
  refine thN ?_
  refine sq ?_
  refine rg ?_
  refine q (vMv rfl) rfl ?_
  refine l rfl (call cf185 (rBytes_spec b r 1 (by decide) _) rfl (.cons T0 .nil) rfl ?_)
  intro S1 r1 l1 hS1 hp1
  obtain ⟨rfl, rfl, rfl⟩ := hp1
  refine q (vAs rfl) rfl ?_
  refine nil ?_
  refine thN ?_
  refine sq ?_
  refine sq ?_
  refine rg ?_
  refine q (vMv rfl) rfl ?_
  refine q (vNil rfl) rfl ?_
  refine q (vFa fa254_1 rfl) rfl ?_
  refine q (vLd sc4 rfl (rB1 T0 (.s (.z (.c .n))))) rfl ?_
  refine nil ?_
  refine thN ?_
  refine cd rfl (fun hc => ?_) (fun hc => ?_) <;> try simp only [bls, beq_iff_eq, bne_iff_ne, Int.reduceToNat, List.length_map] at hc
  · skip
    refine sq ?_
    refine rg ?_
    refine q (vAs rfl) rfl ?_
    refine nil ?_
    refine thN ?_
    refine rt ?_
    refine thR ?_
    refine ret rfl (.t rfl .nil) (.t T0 .nil) ⟨by simp [pack, rKind, hc], rfl, rfl⟩
  · skip
    have h1 : 1 ≤ (rBytes r 1).1.length := by
      unfold rBytes at hc ⊢
      split at hc
      · simp at hc
      · rename_i h
        rw [if_neg h]
        have h2 : ¬ r.1.length < 1 := fun hh => h (.inr hh)
        simp only [List.length_take]; omega
    refine sk ?_
    refine thN ?_
    refine sq ?_
    refine rg ?_
    refine q (vMv rfl) rfl ?_
    refine q (vIxS Tryz.underlying9 rfl rfl (by first | omega | (simp only [Int.toNat_natCast, Int.reduceToNat, List.length_append, List.length_cons, List.length_nil, List.length_map, bid_len]; omega) | (simp <;> omega))) rfl ?_
    refine q (tCvI8 Tryz.underlying3 Tryz.underlying5 rfl) rfl ?_
    refine q (vAs rfl) rfl ?_
    refine nil ?_
    refine thN ?_
    refine rt ?_
    refine ret rfl (.t rfl .nil) (.t T0 .nil) ⟨by simp [pack, rKind, hc], rfl, rfl⟩
def rText (r : Rdr) : List UInt8 × Rdr := match vtake r.1 with
  | none => ([], (r.1, true))
  | some (t, k) => if r.2 = true then ([], (r.1, true)) else (t, (r.1.drop k, false))
theorem rText_spec (b : Nat) (r : Rdr) (hr : r.1.length < 4294967296) (S : Mem) :
    Spec Tryz.prog 187 [ptr b 0] S [blk b 254 [[str r.1], [.bool r.2]]] (fun S' v L' => v = str (rText r).1 ∧ S' = S ∧ L' = [blk b 254 [[str (rText r).2.1], [.bool (rText r).2.2]]]) := by
  rcases hg : vtake r.1 with _ | ⟨t, k⟩
  · have e1 : rText r = ([], (r.1, true)) := by simp only [rText, hg]
    rw [e1]
    refine enter Tryz.func187 rfl 31 rfl rfl (fun w0 => ?_)
    refine sq ?_
    refine rg ?_
    refine q (vAs rfl) rfl ?_
    refine nil ?_
    refine thN ?_
    refine sq ?_
    refine rg ?_
    refine q (vMv rfl) rfl ?_
    refine q (vNil rfl) rfl ?_
    refine q (vFa fa254_0 rfl) rfl ?_
    refine q (vLd sc9 rfl (rB1 T0 (.z (.c .n)))) rfl ?_
    refine l rfl (callP cf157 (take_none hr hg _) rfl .nil rfl ?_)
    refine q (vMv rfl) rfl ?_
    refine q (vEx rfl rfl) rfl ?_
    refine q (vEx rfl rfl) rfl ?_
    refine q (vEx rfl rfl) rfl ?_
    refine q (vAs rfl) rfl ?_
    refine q (vAs rfl) rfl ?_
    refine q (vAs rfl) rfl ?_
    refine nil ?_
    refine thN ?_
    refine sq ?_
    refine sq ?_
    refine rg ?_
    refine q (vMv rfl) rfl ?_
    refine q (vNil rfl) rfl ?_
    refine q (vFa fa254_1 rfl) rfl ?_
    refine q (vLd sc4 rfl (rB1 T0 (.s (.z (.c .n))))) rfl ?_
    refine q (vMv rfl) rfl ?_
    apply gOr 19 22 3
    · rfl
    · intro hb1 hX1
      have hc1 := hb1 ; try simp only [bls, beq_iff_eq, bne_iff_ne, Int.reduceToNat, List.length_map] at hc1
      refine qF ⟨_, _, rfl, rfl, rfl⟩ rfl ?_
      refine qF ⟨_, _, rfl, rfl, rfl⟩ rfl ?_
      refine q (vPkT rfl rfl) rfl ?_
      exact gOT 3 19 rfl rfl rfl rfl hb1 hX1
    · intro hb1 hX1
      have hc1 := hb1 ; try simp only [bls, beq_iff_eq, bne_iff_ne, Int.reduceToNat, List.length_map] at hc1
      refine qT ⟨_, rfl, rfl⟩ (vMv rfl) rfl ?_
      refine qT ⟨_, rfl, rfl⟩ (vNe rfl rfl) rfl ?_
      refine q (vPkF rfl rfl) rfl ?_
      exact gOF 3 19 rfl rfl rfl rfl hb1 hX1
    refine nil ?_
    refine thN ?_
    refine cd rfl (fun hc => ?_) (fun hc => ?_) <;> try simp only [bls, beq_iff_eq, bne_iff_ne, Int.reduceToNat, List.length_map] at hc
    · skip
      refine sq ?_
      refine rg ?_
      refine q (vMv rfl) rfl ?_
      refine q (vNil rfl) rfl ?_
      refine q (vFa fa254_1 rfl) rfl ?_
      refine l rfl (store sz4 rfl rfl T0 (by simp) (.s (.z (.c inferInstance inferInstance .n))) ?_)
      refine nil ?_
      refine thN ?_
      refine sq ?_
      refine rg ?_
      refine q (vAs rfl) rfl ?_
      refine nil ?_
      refine thN ?_
      refine rt ?_
      refine thR ?_
      refine ret rfl (.t rfl .nil) (.t T0 .nil) ⟨rfl, rfl, rfl⟩
    · skip
      simp at hc
  · refine enter Tryz.func187 rfl 31 rfl rfl (fun w0 => ?_)
    refine sq ?_
    refine rg ?_
    refine q (vAs rfl) rfl ?_
    refine nil ?_
    refine thN ?_
    refine sq ?_
    refine rg ?_
    refine q (vMv rfl) rfl ?_
    refine q (vNil rfl) rfl ?_
    refine q (vFa fa254_0 rfl) rfl ?_
    refine q (vLd sc9 rfl (rB1 T0 (.z (.c .n)))) rfl ?_
    refine l rfl (callP cf157 (take_some hr hg _) rfl .nil rfl ?_)
    refine q (vMv rfl) rfl ?_
    refine q (vEx rfl rfl) rfl ?_
    refine q (vEx rfl rfl) rfl ?_
    refine q (vEx rfl rfl) rfl ?_
    refine q (vAs rfl) rfl ?_
    refine q (vAs rfl) rfl ?_
    refine q (vAs rfl) rfl ?_
    refine nil ?_
    refine thN ?_
    refine sq ?_
    refine sq ?_
    refine rg ?_
    refine q (vMv rfl) rfl ?_
    refine q (vNil rfl) rfl ?_
    refine q (vFa fa254_1 rfl) rfl ?_
    refine q (vLd sc4 rfl (rB1 T0 (.s (.z (.c .n))))) rfl ?_
    refine q (vMv rfl) rfl ?_
    apply gOr 19 22 3
    · rfl
    · intro hb1 hX1
      have hc1 := hb1 ; try simp only [bls, beq_iff_eq, bne_iff_ne, Int.reduceToNat, List.length_map] at hc1
      refine qF ⟨_, _, rfl, rfl, rfl⟩ rfl ?_
      refine qF ⟨_, _, rfl, rfl, rfl⟩ rfl ?_
      refine q (vPkT rfl rfl) rfl ?_
      exact gOT 3 19 rfl rfl rfl rfl hb1 hX1
    · intro hb1 hX1
      have hc1 := hb1 ; try simp only [bls, beq_iff_eq, bne_iff_ne, Int.reduceToNat, List.length_map] at hc1
      refine qT ⟨_, rfl, rfl⟩ (vMv rfl) rfl ?_
      refine qT ⟨_, rfl, rfl⟩ (vNe rfl rfl) rfl ?_
      refine q (vPkF rfl rfl) rfl ?_
      exact gOF 3 19 rfl rfl rfl rfl hb1 hX1
    refine nil ?_
    refine thN ?_
    refine cd rfl (fun hc => ?_) (fun hc => ?_) <;> try simp only [bls, beq_iff_eq, bne_iff_ne, Int.reduceToNat, List.length_map] at hc
    · skip
      have hb : r.2 = true := by simpa using hc
      have e1 : rText r = ([], (r.1, true)) := by simp only [rText, hg, if_pos hb]
      rw [e1]
      refine sq ?_
      refine rg ?_
      refine q (vMv rfl) rfl ?_
      refine q (vNil rfl) rfl ?_
      refine q (vFa fa254_1 rfl) rfl ?_
      refine l rfl (store sz4 rfl rfl T0 (by simp) (.s (.z (.c inferInstance inferInstance .n))) ?_)
      refine nil ?_
      refine thN ?_
      refine sq ?_
      refine rg ?_
      refine q (vAs rfl) rfl ?_
      refine nil ?_
      refine thN ?_
      refine rt ?_
      refine thR ?_
      refine ret rfl (.t rfl .nil) (.t T0 .nil) ⟨rfl, rfl, rfl⟩
    · skip
      have hb : r.2 = false := by simpa using hc
      have e1 : rText r = (t, (r.1.drop k, false)) := by simp only [rText, hg, hb, Bool.false_eq_true, if_false]
      rw [e1]
      refine sk ?_
      refine thN ?_
      refine sq ?_
      refine rg ?_
      refine q (vMv rfl) rfl ?_
      refine q (vMv rfl) rfl ?_
      refine q (vNil rfl) rfl ?_
      refine q (vFa fa254_0 rfl) rfl ?_
      refine l rfl (store sz9 rfl rfl T0 (by simp) (.z (.c inferInstance inferInstance .n)) ?_)
      refine nil ?_
      refine thN ?_
      refine sq ?_
      refine rg ?_
      refine q (vMv rfl) rfl ?_
      refine q (vAs rfl) rfl ?_
      refine nil ?_
      refine thN ?_
      refine rt ?_
      refine ret rfl (.t rfl .nil) (.t T0 .nil) ⟨rfl, rfl, by simp [hb]⟩
def rNum (r : Rdr) : Nat × Rdr := match vget r.1 with
  | none => (0, (r.1, true))
  | some (n, k) => if r.2 = true then (0, (r.1, true)) else (n, (r.1.drop k, false))
theorem rNum_spec (b : Nat) (r : Rdr) (hr : r.1.length < 4294967296) (S : Mem) :
    Spec Tryz.prog 189 [ptr b 0] S [blk b 254 [[str r.1], [.bool r.2]]] (fun S' v L' => v = .int .u64 ((rNum r).1 : Nat) ∧ S' = S ∧ L' = [blk b 254 [[str (rNum r).2.1], [.bool (rNum r).2.2]]]) := by
  rcases hg : vget r.1 with _ | ⟨t, k⟩
  · have e1 : rNum r = (0, (r.1, true)) := by simp only [rNum, hg]
    rw [e1]
    refine enter Tryz.func189 rfl 31 rfl rfl (fun w0 => ?_)
    refine sq ?_
    refine rg ?_
    refine q (vAs rfl) rfl ?_
    refine nil ?_
    refine thN ?_
    refine sq ?_
    refine rg ?_
    refine q (vMv rfl) rfl ?_
    refine q (vNil rfl) rfl ?_
    refine q (vFa fa254_0 rfl) rfl ?_
    refine q (vLd sc9 rfl (rB1 T0 (.z (.c .n)))) rfl ?_
    refine l rfl (callP cf184 (get_none hr hg _) rfl .nil rfl ?_)
    refine q (vMv rfl) rfl ?_
    refine q (vEx rfl rfl) rfl ?_
    refine q (vEx rfl rfl) rfl ?_
    refine q (vEx rfl rfl) rfl ?_
    refine q (vAs rfl) rfl ?_
    refine q (vAs rfl) rfl ?_
    refine q (vAs rfl) rfl ?_
    refine nil ?_
    refine thN ?_
    refine sq ?_
    refine sq ?_
    refine rg ?_
    refine q (vMv rfl) rfl ?_
    refine q (vNil rfl) rfl ?_
    refine q (vFa fa254_1 rfl) rfl ?_
    refine q (vLd sc4 rfl (rB1 T0 (.s (.z (.c .n))))) rfl ?_
    refine q (vMv rfl) rfl ?_
    apply gOr 19 22 3
    · rfl
    · intro hb1 hX1
      have hc1 := hb1 ; try simp only [bls, beq_iff_eq, bne_iff_ne, Int.reduceToNat, List.length_map] at hc1
      refine qF ⟨_, _, rfl, rfl, rfl⟩ rfl ?_
      refine qF ⟨_, _, rfl, rfl, rfl⟩ rfl ?_
      refine q (vPkT rfl rfl) rfl ?_
      exact gOT 3 19 rfl rfl rfl rfl hb1 hX1
    · intro hb1 hX1
      have hc1 := hb1 ; try simp only [bls, beq_iff_eq, bne_iff_ne, Int.reduceToNat, List.length_map] at hc1
      refine qT ⟨_, rfl, rfl⟩ (vMv rfl) rfl ?_
      refine qT ⟨_, rfl, rfl⟩ (vNe rfl rfl) rfl ?_
      refine q (vPkF rfl rfl) rfl ?_
      exact gOF 3 19 rfl rfl rfl rfl hb1 hX1
    refine nil ?_
    refine thN ?_
    refine cd rfl (fun hc => ?_) (fun hc => ?_) <;> try simp only [bls, beq_iff_eq, bne_iff_ne, Int.reduceToNat, List.length_map] at hc
    · skip
      refine sq ?_
      refine rg ?_
      refine q (vMv rfl) rfl ?_
      refine q (vNil rfl) rfl ?_
      refine q (vFa fa254_1 rfl) rfl ?_
      refine l rfl (store sz4 rfl rfl T0 (by simp) (.s (.z (.c inferInstance inferInstance .n))) ?_)
      refine nil ?_
      refine thN ?_
      refine sq ?_
      refine rg ?_
      refine q (vAs rfl) rfl ?_
      refine nil ?_
      refine thN ?_
      refine rt ?_
      refine thR ?_
      refine ret rfl (.t rfl .nil) (.t T0 .nil) ⟨rfl, rfl, rfl⟩
    · skip
      simp at hc
  · refine enter Tryz.func189 rfl 31 rfl rfl (fun w0 => ?_)
    refine sq ?_
    refine rg ?_
    refine q (vAs rfl) rfl ?_
    refine nil ?_
    refine thN ?_
    refine sq ?_
    refine rg ?_
    refine q (vMv rfl) rfl ?_
    refine q (vNil rfl) rfl ?_
    refine q (vFa fa254_0 rfl) rfl ?_
    refine q (vLd sc9 rfl (rB1 T0 (.z (.c .n)))) rfl ?_
    refine l rfl (callP cf184 (get_some hr hg _) rfl .nil rfl ?_)
    refine q (vMv rfl) rfl ?_
    refine q (vEx rfl rfl) rfl ?_
    refine q (vEx rfl rfl) rfl ?_
    refine q (vEx rfl rfl) rfl ?_
    refine q (vAs rfl) rfl ?_
    refine q (vAs rfl) rfl ?_
    refine q (vAs rfl) rfl ?_
    refine nil ?_
    refine thN ?_
    refine sq ?_
    refine sq ?_
    refine rg ?_
    refine q (vMv rfl) rfl ?_
    refine q (vNil rfl) rfl ?_
    refine q (vFa fa254_1 rfl) rfl ?_
    refine q (vLd sc4 rfl (rB1 T0 (.s (.z (.c .n))))) rfl ?_
    refine q (vMv rfl) rfl ?_
    apply gOr 19 22 3
    · rfl
    · intro hb1 hX1
      have hc1 := hb1 ; try simp only [bls, beq_iff_eq, bne_iff_ne, Int.reduceToNat, List.length_map] at hc1
      refine qF ⟨_, _, rfl, rfl, rfl⟩ rfl ?_
      refine qF ⟨_, _, rfl, rfl, rfl⟩ rfl ?_
      refine q (vPkT rfl rfl) rfl ?_
      exact gOT 3 19 rfl rfl rfl rfl hb1 hX1
    · intro hb1 hX1
      have hc1 := hb1 ; try simp only [bls, beq_iff_eq, bne_iff_ne, Int.reduceToNat, List.length_map] at hc1
      refine qT ⟨_, rfl, rfl⟩ (vMv rfl) rfl ?_
      refine qT ⟨_, rfl, rfl⟩ (vNe rfl rfl) rfl ?_
      refine q (vPkF rfl rfl) rfl ?_
      exact gOF 3 19 rfl rfl rfl rfl hb1 hX1
    refine nil ?_
    refine thN ?_
    refine cd rfl (fun hc => ?_) (fun hc => ?_) <;> try simp only [bls, beq_iff_eq, bne_iff_ne, Int.reduceToNat, List.length_map] at hc
    · skip
      have hb : r.2 = true := by simpa using hc
      have e1 : rNum r = (0, (r.1, true)) := by simp only [rNum, hg, if_pos hb]
      rw [e1]
      refine sq ?_
      refine rg ?_
      refine q (vMv rfl) rfl ?_
      refine q (vNil rfl) rfl ?_
      refine q (vFa fa254_1 rfl) rfl ?_
      refine l rfl (store sz4 rfl rfl T0 (by simp) (.s (.z (.c inferInstance inferInstance .n))) ?_)
      refine nil ?_
      refine thN ?_
      refine sq ?_
      refine rg ?_
      refine q (vAs rfl) rfl ?_
      refine nil ?_
      refine thN ?_
      refine rt ?_
      refine thR ?_
      refine ret rfl (.t rfl .nil) (.t T0 .nil) ⟨rfl, rfl, rfl⟩
    · skip
      have hb : r.2 = false := by simpa using hc
      have e1 : rNum r = (t, (r.1.drop k, false)) := by simp only [rNum, hg, hb, Bool.false_eq_true, if_false]
      rw [e1]
      refine sk ?_
      refine thN ?_
      refine sq ?_
      refine rg ?_
      refine q (vMv rfl) rfl ?_
      refine q (vMv rfl) rfl ?_
      refine q (vNil rfl) rfl ?_
      refine q (vFa fa254_0 rfl) rfl ?_
      refine l rfl (store sz9 rfl rfl T0 (by simp) (.z (.c inferInstance inferInstance .n)) ?_)
      refine nil ?_
      refine thN ?_
      refine sq ?_
      refine rg ?_
      refine q (vMv rfl) rfl ?_
      refine q (vAs rfl) rfl ?_
      refine nil ?_
      refine thN ?_
      refine rt ?_
      refine ret rfl (.t rfl .nil) (.t T0 .nil) ⟨rfl, rfl, by simp [hb]⟩
def rId (r : Rdr) : BId × Rdr := (idOf (rBytes r 32).1, (rBytes r 32).2)
theorem rId_spec (b : Nat) (r : Rdr) (S : Mem) :
    Spec Tryz.prog 188 [ptr b 0] S [blk b 254 [[str r.1], [.bool r.2]]] (fun S' v L' => v = idv (rId r).1 ∧ S' = S ∧ L' = [blk b 254 [[str (rId r).2.1], [.bool (rId r).2.2]]]) := by
  refine enter Tryz.func188 rfl 9 rfl rfl (fun w0 => ?_)
  refine sq ?_
  refine rg ?_
  refine l rfl (alloc ze35 rfl ?_)
  intro B2
  refine nil ?_
  refine thN ?_
  refine sq ?_
  refine rg ?_
  refine l rfl (alloc ze35 rfl ?_)
  intro B3
  refine nil ?_
  refine thN ?_
  refine sq ?_
  refine dr (.take 0 (.one 1 (.one 2 (.last 3)))) wide (by decide +kernel) _ _ (.cons T1 .nil) ?_
  refine pT rfl (vSlA ar35 rfl ) rfl ?_
  refine pO ?_
  refine opL rfl rfl (qK (vMv rfl) rfl ?_)
  refine pK (Le.refl _) (.cons T1 .nil) ?_
  refine pO ?_
  refine opL rfl rfl (call cf185 (rBytes_spec b r 32 (by decide) _) rfl (.cons T2 .nil) rfl ?_)
  intro S1 r1 l1 hS1 hp1
  obtain ⟨rfl, rfl, rfl⟩ := hp1
  refine pK hS1 (.cons T2 .nil) ?_
  refine pL ?_
  refine opL rfl rfl (cpy (k := 0) (j := 0) sl23 rfl rfl T1 (cpStr _ _) .z (by simp <;> omega) rfl ?_)
  refine thN ?_
  refine sq ?_
  have e1 : (encId zid).take 0 ++ ((rBytes r 32).1.take 32).map u8v ++ (encId zid).drop (0 + (((rBytes r 32).1.take 32).map u8v).length) = encId (idOf (rBytes r 32).1) := by
    simp only [encId, idOf, zid, List.take_zero, List.nil_append, Nat.zero_add, List.length_map, ← List.map_drop, ← List.map_append]
    congr 1
    simp only [List.take_append, List.drop_replicate, List.take_replicate, List.length_take]
    congr 2; omega
  simp only [e1]
  refine rg ?_
  refine q (vLdA ag35 rfl (rB T0 (.z (.c .n))) (by simp)) rfl ?_
  refine l rfl (store sz35 rfl rfl T2 (by simp) (.z (.c inferInstance inferInstance .n)) ?_)
  refine nil ?_
  refine thN ?_
  refine rt ?_
  refine ret rfl (.c ag35 rfl (rB T0 (.z (.c .n))) (by simp) .nil) (.t T2 .nil) ⟨rfl, rfl, rfl⟩
end Go.Proofs.YtjmigoikklkfdaaGreatDoor
