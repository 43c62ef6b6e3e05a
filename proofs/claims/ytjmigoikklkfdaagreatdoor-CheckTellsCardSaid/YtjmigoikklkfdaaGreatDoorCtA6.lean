/- The law CheckTells of the package knapsacklaw14 returns true at every input, and its arguments read behind the call as before (its tied card). Condition: the listed variable knapsack/sha256.constants reads as its initialiser lays it; that is tied to the program's text by the given tie. -/
import Derived.Test.YtjmigoikklkfdaaGreatDoorCtA5
import Derived.Test.YtjmigoikklkfdaaGreatDoorCtA1
import Derived.Laws.OwnMore
import Derived.Deep.Slices
import Derived.Lib.LaidTab
import Derived.Test.YtjmigoikklkfdaaGreatDoorRows
import Derived.KernelRfl
import Derived.RowKit
import Derived.Carry
import Derived.ChangeSame
import Derived.ChangeVars
import Derived.JoinedOf
import Derived.LaidLaws
import Derived.LaidMore
import Derived.LaidHandle
import Derived.ProofKit
import Derived.OpenShut
import Derived.Stop.Joined
import Derived.SevenTiedAt
import Derived.Test.YtjmigoikklkfdaaGreatDoorCards
import Derived.Test.YtjmigoikklkfdaaGreatDoorTie
namespace Go.Proofs.YtjmigoikklkfdaaGreatDoor
open Go
set_option linter.unusedVariables false
set_option linter.unusedSimpArgs false
set_option maxRecDepth 4000
abbrev encSd (x : DSeed) : List Value := (segsSd x).flatten
structure Seeds (S : Mem) (v : Value) (sd : List DSeed) : Prop where
  pl : PSl S v 4 (sd.map encSd)
  el : ∀ x, x ∈ sd → SeedIn S x
theorem Seeds.mono {S S' v sd} (h : Seeds S v sd) (l : Le S S') : Seeds S' v sd := ⟨h.pl.mono l, fun x hx => (h.el x hx).mono l⟩
def FewP (sd : List DSeed) (most : Nat) : Prop := sd.length ≤ most ∧ ∀ i, i < sd.length → (sd.getD i default).refs.length ≤ 10 ∧ (sd.getD i default).text.length ≤ 300
noncomputable def fewB (sd : List DSeed) (most : Nat) : Bool := @decide (FewP sd most) (Classical.propDecidable _)
theorem fewB_iff {sd most} : fewB sd most = true ↔ FewP sd most := by simp [fewB]
theorem fewB_not {sd most} : fewB sd most = false ↔ ¬ FewP sd most := by simp [fewB]
theorem getD_memS {l : List DSeed} {i : Nat} (h : i < l.length) : l.getD i default ∈ l := by rw [List.getD_eq_getElem?_getD, List.getElem?_eq_getElem h]; exact List.getElem_mem h
theorem Few_spec {v : Value} {sd : List DSeed} {S : Mem} (h : Seeds S v sd) (most : Nat) (hm : most < 10000) : PureL Tryz.prog 64 [v, .int .i64 (most : Int)] S [] (.bool (fewB sd most)) := by
  have hl := h.pl
  have hsc := hl.sc
  have hml := hl.mlen
  refine enter Tryz.func64 rfl 37 rfl rfl (fun w0 => ?_)
  refine sq ?_
  refine rg ?_
  refine q (vAs rfl) rfl ?_
  refine nil ?_
  refine thN ?_
  refine sq ?_
  refine sq ?_
  refine rg ?_
  refine q (vAs rfl) rfl ?_
  refine nil ?_
  refine thN ?_
  refine bk ?_
  refine loop (ι := Nat) (fun (i : Nat) => [(0, v), (1, .int .i64 (most : Int)), (5, .int .i64 (i : Int))]) (fun (i : Nat) => []) (fun (i : Nat) => fun S' => i ≤ sd.length ∧ i ≤ most ∧ ∀ j, j < i → (sd.getD j default).refs.length ≤ 10 ∧ (sd.getD j default).text.length ≤ 300) (fun (i : Nat) => sd.length - i) 0 ⟨Nat.zero_le _, Nat.zero_le _, fun j h => absurd h (Nat.not_lt_zero _)⟩ (.cons rfl (by first | rfl | simp | (simp <;> omega)) (.cons rfl (by first | rfl | simp | (simp <;> omega)) (.cons rfl (by first | rfl | simp | (simp <;> omega)) .nil))) .nil ?_
  rintro i S2 hle2 ⟨h1, h1b, h2⟩
  replace hl := hl.mono hle2
  replace h := h.mono hle2
  refine sq ?_
  refine sq ?_
  refine rg ?_
  refine q (vMv rfl) rfl ?_
  refine q (vMv rfl) rfl ?_
  refine q (SrcOk.len (srcP hl) Tryz.underlying22 rfl) rfl ?_
  refine q (vLt rfl rfl) rfl ?_
  refine q (vMv rfl) rfl ?_
  apply gAnd 10 14 4
  · rfl
  · intro hb1 hX1
    have hc1 := hb1 ; try simp only [bls, beq_iff_eq, bne_iff_ne, Int.reduceToNat, List.length_map] at hc1
    refine qT ⟨_, rfl, rfl⟩ (vMv rfl) rfl ?_
    refine qT ⟨_, rfl, rfl⟩ (vMv rfl) rfl ?_
    refine qT ⟨_, rfl, rfl⟩ (vLt rfl rfl) rfl ?_
    refine q (vPkT rfl rfl) rfl ?_
    exact gTT 4 10 rfl rfl rfl rfl hb1 hX1
  · intro hb1 hX1
    have hc1 := hb1 ; try simp only [bls, beq_iff_eq, bne_iff_ne, Int.reduceToNat, List.length_map] at hc1
    refine qF ⟨_, _, rfl, rfl, rfl⟩ rfl ?_
    refine qF ⟨_, _, rfl, rfl, rfl⟩ rfl ?_
    refine qF ⟨_, _, rfl, rfl, rfl⟩ rfl ?_
    refine q (vPkF rfl rfl) rfl ?_
    exact gTF 4 10 rfl rfl rfl rfl hb1 hX1
  refine nil ?_
  refine thN ?_
  refine cd rfl (fun hd => ?_) (fun hd => ?_) <;> try simp only [bls, beq_iff_eq, bne_iff_ne, Int.reduceToNat, List.length_map] at hd
  · skip
    have hi : i < sd.length := by omega
    have hx := h.el _ (getD_memS hi)
    have hxr := hx.r
    have htb := hx.tb
    have hbl : (b1 (sd.getD i default).refs).length = (sd.getD i default).refs.length := by rw [b1, List.length_map]
    refine sk ?_
    refine thN ?_
    refine sq ?_
    refine bk ?_
    refine sq ?_
    refine rg ?_
    refine q (vMv rfl) rfl ?_
    refine q (vMv rfl) rfl ?_
    refine q (vIxP sl22 rfl rfl hl (by first | omega | (simp only [Int.toNat_natCast, Int.reduceToNat, List.length_append, List.length_cons, List.length_nil, List.length_map, bid_len]; omega) | (simp <;> omega))) rfl ?_
    refine q (vFp fa200_1 rfl (rP hl (gm (by first | omega | (simp only [Int.toNat_natCast, Int.reduceToNat, List.length_append, List.length_cons, List.length_nil, List.length_map, bid_len]; omega) | (simp <;> omega))))) rfl ?_
    refine q (vLd sc23 rfl (Rd.at1 (rP hl (gm (by first | omega | (simp only [Int.toNat_natCast, Int.reduceToNat, List.length_append, List.length_cons, List.length_nil, List.length_map, bid_len]; omega) | (simp <;> omega)))) (.s (.z (.c .n))))) rfl ?_
    refine q (vLenX Tryz.underlying23 rfl hxr) rfl ?_
    refine q (vGt rfl rfl) rfl ?_
    refine q (vMv rfl) rfl ?_
    apply gOr 24 32 8
    · rfl
    · intro hb2 hX2
      have hc2 := hb2 ; try simp only [bls, beq_iff_eq, bne_iff_ne, Int.reduceToNat, List.length_map] at hc2
      refine qF ⟨_, _, rfl, rfl, rfl⟩ rfl ?_
      refine qF ⟨_, _, rfl, rfl, rfl⟩ rfl ?_
      refine qF ⟨_, _, rfl, rfl, rfl⟩ rfl ?_
      refine qF ⟨_, _, rfl, rfl, rfl⟩ rfl ?_
      refine qF ⟨_, _, rfl, rfl, rfl⟩ rfl ?_
      refine qF ⟨_, _, rfl, rfl, rfl⟩ rfl ?_
      refine qF ⟨_, _, rfl, rfl, rfl⟩ rfl ?_
      refine q (vPkT rfl rfl) rfl ?_
      exact gOT 8 24 rfl rfl rfl rfl hb2 hX2
    · intro hb2 hX2
      have hc2 := hb2 ; try simp only [bls, beq_iff_eq, bne_iff_ne, Int.reduceToNat, List.length_map] at hc2
      refine qT ⟨_, rfl, rfl⟩ (vMv rfl) rfl ?_
      refine qT ⟨_, rfl, rfl⟩ (vMv rfl) rfl ?_
      refine qT ⟨_, rfl, rfl⟩ (vIxP sl22 rfl rfl hl (by first | omega | (simp only [Int.toNat_natCast, Int.reduceToNat, List.length_append, List.length_cons, List.length_nil, List.length_map, bid_len]; omega) | (simp <;> omega))) rfl ?_
      refine qT ⟨_, rfl, rfl⟩ (vFp fa200_3 rfl (rP hl (gm (by first | omega | (simp only [Int.toNat_natCast, Int.reduceToNat, List.length_append, List.length_cons, List.length_nil, List.length_map, bid_len]; omega) | (simp <;> omega))))) rfl ?_
      refine qT ⟨_, rfl, rfl⟩ (vLd sc9 rfl (Rd.at1 (rP hl (gm (by first | omega | (simp only [Int.toNat_natCast, Int.reduceToNat, List.length_append, List.length_cons, List.length_nil, List.length_map, bid_len]; omega) | (simp <;> omega)))) (.s (.s (.s (.z (.c .n))))))) rfl ?_
      refine qT ⟨_, rfl, rfl⟩ (vLenS Tryz.underlying9 rfl) rfl ?_
      refine qT ⟨_, rfl, rfl⟩ (vGt rfl rfl) rfl ?_
      refine q (vPkF rfl rfl) rfl ?_
      exact gOF 8 24 rfl rfl rfl rfl hb2 hX2
    refine nil ?_
    refine thN ?_
    refine cd rfl (fun hq => ?_) (fun hq => ?_) <;> try simp only [bls, beq_iff_eq, bne_iff_ne, Int.reduceToNat, List.length_map] at hq
    · skip
      have hno : ¬ FewP sd most := fun h9 => by
        have := h9.2 i hi
        omega
      refine sq ?_
      refine rg ?_
      refine q (vAs rfl) rfl ?_
      refine nil ?_
      refine thN ?_
      refine rt ?_
      refine bkR ?_
      refine thR ?_
      refine thR ?_
      refine bkR ?_
      refine thR ?_
      refine retP rfl (.t rfl .nil) .nil ⟨by rw [fewB_not.2 hno]; rfl, rfl, rfl⟩
    · skip
      refine sk ?_
      refine bkN ?_
      refine thN ?_
      refine rg ?_
      refine q (vMv rfl) rfl ?_
      refine q (vAdd rfl rfl (by first | omega | (simp only [Int.toNat_natCast, Int.reduceToNat, List.length_append, List.length_cons, List.length_nil, List.length_map, bid_len]; omega) | (simp <;> omega))) rfl ?_
      refine q (vAs rfl) rfl ?_
      refine nil ?_
      refine thN ?_
      refine back (i + 1) (Le.refl _) ⟨⟨by omega, by omega, below_succ h2 (by omega)⟩, by omega⟩ (.cons rfl (by first | rfl | simp | (simp <;> omega)) (.cons rfl (by first | rfl | simp | (simp <;> omega)) (.cons rfl (by first | rfl | simp | (simp <;> omega)) .nil))) .nil
  · skip
    have e1 : decide ((sd.length : Int) ≤ (most : Int)) = fewB sd most := by
      rw [Bool.eq_iff_iff, decide_eq_true_eq, fewB_iff, FewP]
      exact ⟨fun h9 => ⟨by omega, fun j hj => h2 j (by omega)⟩, fun h9 => by have := h9.1; omega⟩
    refine xt ?_
    refine thX ?_
    refine thX ?_
    refine bkX ?_
    refine thN ?_
    refine sq ?_
    refine rg ?_
    refine q (vMv rfl) rfl ?_
    refine q (SrcOk.len (srcP hl) Tryz.underlying22 rfl) rfl ?_
    refine q (vMv rfl) rfl ?_
    refine q (vLe rfl rfl) rfl ?_
    refine q (vAs rfl) rfl ?_
    refine nil ?_
    refine thN ?_
    refine rt ?_
    refine retP rfl (.t rfl .nil) .nil ⟨by rw [List.length_map, e1]; rfl, rfl, rfl⟩
theorem FewP.ok {S : Mem} {v : Value} {sd : List DSeed} {most : Nat} (h : Seeds S v sd) (hf : FewP sd most) {i : Nat} (hi : i < sd.length) : SeedOk S (sd.getD i default) :=
  ⟨(h.el _ (getD_memS hi)).r, (h.el _ (getD_memS hi)).t, by have := (hf.2 i hi).1; omega, by have := (hf.2 i hi).2; omega⟩
theorem encS_len (o : DObj) : (encS o).length ≤ 4096 := by
  unfold encS
  split
  · rename_i h9; simp only [encOk, Bool.and_eq_true, decide_eq_true_eq] at h9; exact h9.2
  · simp
theorem Grow_spec {v : Value} {sd : List DSeed} {most : Nat} {S : Mem} (h : Seeds S v sd) (hf : FewP sd most) (hm : most < 10000) :
    Spec Tryz.prog 65 [v] S [] (fun S' r L' => ∃ (vr : Value) (R : List RIt) (vi : Value) (ids : List BId), r = .tuple [ag [[vr]], vi].toArray ∧ RS S' vr R ∧ Rising (keys (texts R)) ∧ Fine (texts R) ∧ R.length ≤ sd.length ∧ PSl S' vi 32 (ids.map encId) ∧ ids.length ≤ sd.length ∧ L' = []) := by
  have hl := h.pl
  have hsc := hl.sc
  have hfl := hf.1
  refine enter Tryz.func65 rfl 46 rfl rfl (fun w0 => ?_)
  refine sq ?_
  refine rg ?_
  refine l rfl (alloc ze30 rfl ?_)
  intro B2
  refine q (vAs rfl) rfl ?_
  refine nil ?_
  refine thN ?_
  refine sq ?_
  refine rg ?_
  refine q (vBuild st30 .nil) rfl ?_
  refine l rfl (alloc ze30 rfl ?_)
  intro B4
  refine l rfl (store sz30 rfl rfl T0 (by simp) (.z (.c inferInstance inferInstance .n)) ?_)
  refine nil ?_
  refine thN ?_
  refine sq ?_
  refine rg ?_
  refine q (vAs rfl) rfl ?_
  refine nil ?_
  refine thN ?_
  refine sq ?_
  refine sq ?_
  refine rg ?_
  refine q (vAs rfl) rfl ?_
  refine nil ?_
  refine thN ?_
  refine bk ?_
  refine nilsl 35 32 ?_
  refine loop (ι := Nat × (Value × List RIt) × Value × List BId) (fun (p : Nat × (Value × List RIt) × Value × List BId) => [(0, v), (2, .pointer (some ⟨B2, 0, none⟩)), (4, .pointer (some ⟨B4, 0, none⟩)), (5, p.2.2.1), (6, .int .i64 (p.1 : Int))]) (fun (p : Nat × (Value × List RIt) × Value × List BId) => [blk B4 30 [[p.2.1.1]], blk B2 30 [[.slice none 0 0]], sl p.2.2.1 35 32 (p.2.2.2.map encId)]) (fun (p : Nat × (Value × List RIt) × Value × List BId) => fun S' => (PSl S' p.2.1.1 105 (p.2.1.2.map encR) ∧ RS S' p.2.1.1 p.2.1.2 ∧ Rising (keys (texts p.2.1.2)) ∧ Fine (texts p.2.1.2)) ∧ p.1 ≤ sd.length ∧ p.2.1.2.length ≤ p.1 ∧ p.2.2.2.length ≤ p.1) (fun (p : Nat × (Value × List RIt) × Value × List BId) => sd.length - p.1) (0, (.slice none 0 0, []), .slice none 0 0, []) ⟨⟨PSl.nil, ⟨PSl.nil, fun x hx => by cases hx⟩, List.Pairwise.nil, fun t ht => by cases ht⟩, Nat.zero_le _, Nat.zero_le _, Nat.zero_le _⟩ (.cons rfl (by first | rfl | simp | (simp <;> omega)) (.cons rfl (by first | rfl | simp | (simp <;> omega)) (.cons rfl (by first | rfl | simp | (simp <;> omega)) (.cons rfl (by first | rfl | simp | (simp <;> omega)) (.cons rfl (by first | rfl | simp | (simp <;> omega)) .nil))))) (.cons T1 (Ent.Le.of (by first | rfl | simp | (simp <;> omega))) (.cons T1 (Ent.Le.of (by first | rfl | simp | (simp <;> omega))) (.cons T0 (Ent.Le.of (by first | rfl | simp | (simp <;> omega))) .nil))) ?_
  rintro ⟨i, ⟨vr, R⟩, w, ids⟩ S3 hle3 ⟨⟨hpl, hR, hr, hF⟩, h1, h2, h3⟩
  replace hl := hl.mono hle3
  replace h := h.mono hle3
  dsimp only at hpl hR hr hF h1 h2 h3 ⊢
  have hs4 := hpl.sc
  refine sq ?_
  refine sq ?_
  refine rg ?_
  refine q (vMv rfl) rfl ?_
  refine q (vMv rfl) rfl ?_
  refine q (SrcOk.len (srcP hl) Tryz.underlying22 rfl) rfl ?_
  refine q (vLt rfl rfl) rfl ?_
  refine nil ?_
  refine thN ?_
  refine cd rfl (fun hd => ?_) (fun hd => ?_) <;> try simp only [bls, beq_iff_eq, bne_iff_ne, Int.reduceToNat, List.length_map] at hd
  · skip
    have hi : i < sd.length := by omega
    have hok := hf.ok h hi
    refine sk ?_
    refine thN ?_
    refine sq ?_
    refine bk ?_
    refine sq ?_
    refine dr (.take 0 (.take 1 (.take 2 (.take 3 (.take 4 (.take 5 (.one 6 (.one 7 (.take 8 (.take 9 (.take 10 (.take 11 (.take 12 .done))))))))))))) wide (by decide +kernel) _ _ (.cons T0 (.cons T0 (.cons T0 .nil))) ?_
    refine pT rfl (vLdA ag30 rfl (rB T0 (.z (.c .n))) (by simp)) rfl ?_
    refine pT rfl (vMv rfl) rfl ?_
    refine pT rfl (vMv rfl) rfl ?_
    refine pT rfl (vMv rfl) rfl ?_
    refine pT rfl (vIxP sl22 rfl rfl hl (by first | omega | (simp only [Int.toNat_natCast, Int.reduceToNat, List.length_append, List.length_cons, List.length_nil, List.length_map, bid_len]; omega) | (simp <;> omega))) rfl ?_
    refine pT rfl (vLdA ag200 rfl (rP hl (gm (by first | omega | (simp only [Int.toNat_natCast, Int.reduceToNat, List.length_append, List.length_cons, List.length_nil, List.length_map, bid_len]; omega) | (simp <;> omega)))) (by simp)) rfl ?_
    refine pO ?_
    refine opL rfl rfl (call cf114 (make1_spec hR hr (srcO T0) (by omega) hok) rfl (.cons T2 .nil) rfl ?_)
    intro S1 r1 l1 hS1 hp1
    obtain ⟨o, ve, vp, rfl, hz, hio, rfl⟩ := hp1
    replace hl := hl.mono hS1
    replace h := h.mono hS1
    replace hpl := hpl.mono hS1
    replace hR := hR.mono hS1
    refine pK hS1 (.cons T1 (.cons T1 (.cons T0 .nil))) ?_
    have he := hio.e
    have hp := hio.p
    have hs5 := he.sc
    have hs6 := hp.sc
    have hel := encS_len o
    refine pO ?_
    refine opL rfl rfl (callP cf79 (ref_Encode_spec hz hio) rfl .nil rfl ?_)
    refine pK hS1 (.cons T1 (.cons T1 (.cons T0 .nil))) ?_
    refine pT rfl (vMv rfl) rfl ?_
    refine pT rfl (vEx rfl rfl) rfl ?_
    refine pT rfl (vEx rfl rfl) rfl ?_
    refine pT rfl (vAs rfl) rfl ?_
    refine pT rfl (vAs rfl) rfl ?_
    refine pDone ?_
    refine thN ?_
    refine sq ?_
    refine rg ?_
    refine q (vMv rfl) rfl ?_
    refine nil ?_
    refine thN ?_
    refine cd rfl (fun hc => ?_) (fun hc => ?_) <;> try simp only [bls, beq_iff_eq, bne_iff_ne, Int.reduceToNat, List.length_map] at hc
    · skip
      refine sq ?_
      refine rg ?_
      refine q (vLdA ag30 rfl (rB T1 (.z (.c .n))) (by simp)) rfl ?_
      refine q (vMv rfl) rfl ?_
      refine l rfl (call cf78 (With_spec hR hr (by omega) (encS o) (by omega)) rfl .nil rfl ?_)
      intro S2 r2 l2 hS2 hp2
      obtain ⟨vr2, R2, rfl, hR2, htx, rfl⟩ := hp2
      replace hl := hl.mono hS2
      replace h := h.mono hS2
      replace hpl := hpl.mono hS2
      replace hR := hR.mono hS2
      replace he := he.mono hS2
      replace hp := hp.mono hS2
      have hpl2 := hR2.pl
      have hs7 := hpl2.sc
      have hr2 : Rising (keys (texts R2)) := by rw [htx]; exact putF_rising _ hr
      have hF2 : Fine (texts R2) := by rw [htx]; exact hF.put (by omega)
      have hl2 : R2.length ≤ R.length + 1 := by
        have e1 : (texts R2).length = R2.length := List.length_map _
        have e2 : (texts R).length = R.length := List.length_map _
        have := putF_len (A := texts R) (encS o)
        rw [← htx] at this; omega
      refine q (vMv rfl) rfl ?_
      refine q (vEx rfl rfl) rfl ?_
      refine q (vEx rfl rfl) rfl ?_
      refine q (vEx rfl rfl) rfl ?_
      refine l rfl (alloc ze30 rfl ?_)
      intro B9
      refine l rfl (alloc ze35 rfl ?_)
      intro B10
      refine l rfl (store sz30 rfl rfl T1 (by simp) (.z (.c inferInstance inferInstance .n)) ?_)
      refine l rfl (store sz35 rfl rfl T1 (by simp) (.z (.c inferInstance inferInstance .n)) ?_)
      refine q (vAs rfl) rfl ?_
      refine nil ?_
      refine thN ?_
      refine sq ?_
      refine rg ?_
      refine q (vMv rfl) rfl ?_
      refine nil ?_
      refine thN ?_
      refine cd rfl (fun hok2 => ?_) (fun hok2 => ?_) <;> try simp only [bls, beq_iff_eq, bne_iff_ne, Int.reduceToNat, List.length_map] at hok2
      · skip
        refine sq ?_
        refine rg ?_
        refine q (vLdA ag30 rfl (rB T1 (.z (.c .n))) (by simp)) rfl ?_
        refine l rfl (store sz30 rfl rfl T3 (by simp) (.z (.c inferInstance inferInstance .n)) ?_)
        refine nil ?_
        refine thN ?_
        refine rg ?_
        refine q (vMv rfl) rfl ?_
        refine q (vLdA ag35 rfl (rB T1 (.z (.c .n))) (by simp)) rfl ?_
        refine l rfl (bslice sl27 ze35 (.cA rfl .nil) (by simp) rfl rfl rfl rfl ?_)
        intro B42
        refine l rfl (app ap27 rfl rfl T4 (srcO T0) (by first | omega | (simp only [Int.toNat_natCast, Int.reduceToNat, List.length_append, List.length_cons, List.length_nil, List.length_map, bid_len]; omega) | (simp <;> omega)) rfl ?_)
        intro v43 hv43
        refine q (vAs rfl) rfl ?_
        refine nil ?_
        refine bkN ?_
        refine thN ?_
        refine rg ?_
        refine q (vMv rfl) rfl ?_
        refine q (vAdd rfl rfl (by first | omega | (simp only [Int.toNat_natCast, Int.reduceToNat, List.length_append, List.length_cons, List.length_nil, List.length_map, bid_len]; omega) | (simp <;> omega))) rfl ?_
        refine q (vAs rfl) rfl ?_
        refine nil ?_
        refine thN ?_
        refine back ((i + 1, (vr2, R2), v43, ids ++ [if dOk (encS o) = true then sumF (encS o) else zid])) (hS1.trans hS2) ⟨⟨⟨hpl2, hR2, hr2, hF2⟩, by dsimp only; omega, by dsimp only; omega, by dsimp only; simp only [List.length_append, List.length_cons, List.length_nil]; omega⟩, by dsimp only; omega⟩ (.cons rfl (by first | rfl | (simp only [List.map_append, List.map_cons, List.map_nil]; done) | (simp only [List.map_append, List.map_cons, List.map_nil]; rfl)) (.cons rfl (by first | rfl | (simp only [List.map_append, List.map_cons, List.map_nil]; done) | (simp only [List.map_append, List.map_cons, List.map_nil]; rfl)) (.cons rfl (by first | rfl | (simp only [List.map_append, List.map_cons, List.map_nil]; done) | (simp only [List.map_append, List.map_cons, List.map_nil]; rfl)) (.cons rfl (by first | rfl | (simp only [List.map_append, List.map_cons, List.map_nil]; done) | (simp only [List.map_append, List.map_cons, List.map_nil]; rfl)) (.cons rfl (by first | rfl | (simp only [List.map_append, List.map_cons, List.map_nil]; done) | (simp only [List.map_append, List.map_cons, List.map_nil]; rfl)) .nil))))) (.cons T2 (Ent.Le.of (by first | rfl | (simp only [List.map_append, List.map_cons, List.map_nil]; done) | (simp only [List.map_append, List.map_cons, List.map_nil]; rfl))) (.cons T4 (Ent.Le.of (by first | rfl | (simp only [List.map_append, List.map_cons, List.map_nil]; done) | (simp only [List.map_append, List.map_cons, List.map_nil]; rfl))) (.cons T0 (Ent.Le.of (by first | rfl | (simp only [List.map_append, List.map_cons, List.map_nil]; done) | (simp only [List.map_append, List.map_cons, List.map_nil]; rfl))) .nil)))
      · skip
        refine sk ?_
        refine bkN ?_
        refine thN ?_
        refine rg ?_
        refine q (vMv rfl) rfl ?_
        refine q (vAdd rfl rfl (by first | omega | (simp only [Int.toNat_natCast, Int.reduceToNat, List.length_append, List.length_cons, List.length_nil, List.length_map, bid_len]; omega) | (simp <;> omega))) rfl ?_
        refine q (vAs rfl) rfl ?_
        refine nil ?_
        refine thN ?_
        refine back ((i + 1, (vr, R), w, ids)) (hS1.trans hS2) ⟨⟨⟨hpl, hR, hr, hF⟩, by dsimp only; omega, by dsimp only; omega, by dsimp only; omega⟩, by dsimp only; omega⟩ (.cons rfl (by first | rfl | simp | (simp <;> omega)) (.cons rfl (by first | rfl | simp | (simp <;> omega)) (.cons rfl (by first | rfl | simp | (simp <;> omega)) (.cons rfl (by first | rfl | simp | (simp <;> omega)) (.cons rfl (by first | rfl | simp | (simp <;> omega)) .nil))))) (.cons T3 (Ent.Le.of (by first | rfl | simp | (simp <;> omega))) (.cons T3 (Ent.Le.of (by first | rfl | simp | (simp <;> omega))) (.cons T2 (Ent.Le.of (by first | rfl | simp | (simp <;> omega))) .nil)))
    · skip
      refine sk ?_
      refine bkN ?_
      refine thN ?_
      refine rg ?_
      refine q (vMv rfl) rfl ?_
      refine q (vAdd rfl rfl (by first | omega | (simp only [Int.toNat_natCast, Int.reduceToNat, List.length_append, List.length_cons, List.length_nil, List.length_map, bid_len]; omega) | (simp <;> omega))) rfl ?_
      refine q (vAs rfl) rfl ?_
      refine nil ?_
      refine thN ?_
      refine back ((i + 1, (vr, R), w, ids)) (by assumption) ⟨⟨⟨hpl, hR, hr, hF⟩, by dsimp only; omega, by dsimp only; omega, by dsimp only; omega⟩, by dsimp only; omega⟩ (.cons rfl (by first | rfl | simp | (simp <;> omega)) (.cons rfl (by first | rfl | simp | (simp <;> omega)) (.cons rfl (by first | rfl | simp | (simp <;> omega)) (.cons rfl (by first | rfl | simp | (simp <;> omega)) (.cons rfl (by first | rfl | simp | (simp <;> omega)) .nil))))) (.cons T1 (Ent.Le.of (by first | rfl | simp | (simp <;> omega))) (.cons T1 (Ent.Le.of (by first | rfl | simp | (simp <;> omega))) (.cons T0 (Ent.Le.of (by first | rfl | simp | (simp <;> omega))) .nil)))
  · skip
    refine pub T2 (fun S3 hS3 hO => ?_)
    replace hl := hl.mono hS3
    replace h := h.mono hS3
    replace hpl := hpl.mono hS3
    replace hR := hR.mono hS3
    refine xt ?_
    refine thX ?_
    refine thX ?_
    refine bkX ?_
    refine thN ?_
    refine sq ?_
    refine rg ?_
    refine q (vLdA ag30 rfl (rB T0 (.z (.c .n))) (by simp)) rfl ?_
    refine q (vMv rfl) rfl ?_
    refine l rfl (store sz30 rfl rfl T1 (by simp) (.z (.c inferInstance inferInstance .n)) ?_)
    refine q (vAs rfl) rfl ?_
    refine nil ?_
    refine thN ?_
    refine rt ?_
    refine ret rfl (.c ag30 rfl (rB T0 (.z (.c .n))) (by simp) (.t rfl .nil)) .nil ⟨vr, R, w, ids, rfl, hR, hr, hF, by omega, hO, by omega, rfl⟩
end Go.Proofs.YtjmigoikklkfdaaGreatDoor
namespace Go.Proofs.YtjmigoikklkfdaaGreatDoor
open Go
set_option linter.unusedVariables false
set_option linter.unusedSimpArgs false
set_option maxRecDepth 4000
structure Hist (S : Mem) (vs vg vf vc : Value) (sd : List DSeed) (g f c : List UInt8) : Prop where
  s : Seeds S vs sd
  g : PSl S vg 1 (b1 g)
  f : PSl S vf 1 (b1 f)
  c : PSl S vc 1 (b1 c)
theorem Hist.mono {S S' vs vg vf vc sd g f c} (h : Hist S vs vg vf vc sd g f c) (l : Le S S') : Hist S' vs vg vf vc sd g f c := ⟨h.s.mono l, h.g.mono l, h.f.mono l, h.c.mono l⟩
structure FewH (sd : List DSeed) (g f c : List UInt8) : Prop where
  s : FewP sd 24
  g : g.length ≤ 10
  f : f.length ≤ 10
  c : c.length ≤ 10
theorem RS.nil {S : Mem} : RS S (.slice none 0 0) [] := ⟨PSl.nil, fun x hx => by cases hx⟩
theorem Fine.nil : Fine [] := fun t ht => by cases ht
theorem rising_nil : Rising (keys []) := List.Pairwise.nil
noncomputable def keepF (gone : List BId) (R : List RIt) : List RIt := R.filter (fun x => !decide (sumF x.t ∈ gone))
theorem keepF_next (gone : List BId) (R : List RIt) (i : Nat) (h : i < R.length) : keepF gone (R.take (i + 1)) = keepF gone (R.take i) ++ (if sumF (R.getD i default).t ∈ gone then [] else [R.getD i default]) := by
  rw [take_next R i h, keepF, keepF, List.filter_append]
  congr 1
  by_cases h9 : sumF (R.getD i default).t ∈ gone <;> simp only [List.filter_cons, List.filter_nil, h9] <;> simp
theorem keepF_sub (gone : List BId) (R : List RIt) : List.Sublist (keepF gone R) R := List.filter_sublist
theorem keepF_len (gone : List BId) (R : List RIt) : (keepF gone R).length ≤ R.length := (keepF_sub gone R).length_le
theorem keepF_rising {gone : List BId} {R : List RIt} (h : Rising (keys (texts R))) : Rising (keys (texts (keepF gone R))) :=
  List.Pairwise.sublist (((keepF_sub gone R).map _).map _) h
theorem keepF_fine {gone : List BId} {R : List RIt} (h : Fine (texts R)) : Fine (texts (keepF gone R)) := fun t ht => h t (((keepF_sub gone R).map _).subset ht)
theorem Few12_spec {vs vg vf vc : Value} {sd : List DSeed} {g f c : List UInt8} {S : Mem} (h : Hist S vs vg vf vc sd g f c) :
    Spec Tryz.prog 12 [ag [[vs], [vg], [vf], [vc]]] S [] (fun S' r L' => ∃ (vr : Value) (R : List RIt) (ok : Bool), r = .tuple [ag [[vr]], .bool ok].toArray ∧ RS S' vr R ∧ Rising (keys (texts R)) ∧ Fine (texts R) ∧ R.length ≤ 24 ∧ (ok = true → FewH sd g f c) ∧ L' = []) := by
  have hS := h.s
  have hSl := hS.pl
  have hg := h.g
  have hf := h.f
  have hc := h.c
  have hs1 := hSl.sc
  have hs2 := hg.sc
  have hs3 := hf.sc
  have hs4 := hc.sc
  have hgl : (b1 g).length = g.length := by rw [b1, List.length_map]
  have hfl : (b1 f).length = f.length := by rw [b1, List.length_map]
  have hcl : (b1 c).length = c.length := by rw [b1, List.length_map]
  refine enter Tryz.func12 rfl 78 rfl rfl (fun w0 => ?_)
  refine sq ?_
  refine rg ?_
  refine l rfl (box rfl rfl ?_)
  intro B1
  refine l rfl (alloc ze30 rfl ?_)
  intro B2
  refine q (vAs rfl) rfl ?_
  refine nil ?_
  refine thN ?_
  refine sq ?_
  refine rg ?_
  refine q (vFa fa25_0 rfl) rfl ?_
  refine q (vLd sc22 rfl (rB1 T1 (.z (.c .n)))) rfl ?_
  refine l rfl (callP cf64 (Few_spec hS 24 (by decide)) rfl .nil rfl ?_)
  refine q (vAs rfl) rfl ?_
  refine nil ?_
  refine thN ?_
  refine sq ?_
  refine sq ?_
  refine rg ?_
  refine q (vMv rfl) rfl ?_
  refine q (vNot rfl) rfl ?_
  refine q (vMv rfl) rfl ?_
  apply gOr 16 21 5
  · rfl
  · intro hb1 hX1
    have hc1 := hb1 ; try simp only [bls, beq_iff_eq, bne_iff_ne, Int.reduceToNat, List.length_map] at hc1
    refine qF ⟨_, _, rfl, rfl, rfl⟩ rfl ?_
    refine qF ⟨_, _, rfl, rfl, rfl⟩ rfl ?_
    refine qF ⟨_, _, rfl, rfl, rfl⟩ rfl ?_
    refine qF ⟨_, _, rfl, rfl, rfl⟩ rfl ?_
    refine q (vPkT rfl rfl) rfl ?_
    exact gOT 5 16 rfl rfl rfl rfl hb1 hX1
  · intro hb1 hX1
    have hc1 := hb1 ; try simp only [bls, beq_iff_eq, bne_iff_ne, Int.reduceToNat, List.length_map] at hc1
    refine qT ⟨_, rfl, rfl⟩ (vFa fa25_1 rfl) rfl ?_
    refine qT ⟨_, rfl, rfl⟩ (vLd sc23 rfl (rB1 T1 (.s (.z (.c .n))))) rfl ?_
    refine qT ⟨_, rfl, rfl⟩ (SrcOk.len (srcP hg) Tryz.underlying23 rfl) rfl ?_
    refine qT ⟨_, rfl, rfl⟩ (vGt rfl rfl) rfl ?_
    refine q (vPkF rfl rfl) rfl ?_
    exact gOF 5 16 rfl rfl rfl rfl hb1 hX1
  refine q (vMv rfl) rfl ?_
  apply gOr 22 27 5
  · rfl
  · intro hb2 hX2
    have hc2 := hb2 ; try simp only [bls, beq_iff_eq, bne_iff_ne, Int.reduceToNat, List.length_map] at hc2
    refine qF ⟨_, _, rfl, rfl, rfl⟩ rfl ?_
    refine qF ⟨_, _, rfl, rfl, rfl⟩ rfl ?_
    refine qF ⟨_, _, rfl, rfl, rfl⟩ rfl ?_
    refine qF ⟨_, _, rfl, rfl, rfl⟩ rfl ?_
    refine q (vPkT rfl rfl) rfl ?_
    exact gOT 5 22 rfl rfl rfl rfl hb2 hX2
  · intro hb2 hX2
    have hc2 := hb2 ; try simp only [bls, beq_iff_eq, bne_iff_ne, Int.reduceToNat, List.length_map] at hc2
    refine qT ⟨_, rfl, rfl⟩ (vFa fa25_2 rfl) rfl ?_
    refine qT ⟨_, rfl, rfl⟩ (vLd sc23 rfl (rB1 T1 (.s (.s (.z (.c .n)))))) rfl ?_
    refine qT ⟨_, rfl, rfl⟩ (SrcOk.len (srcP hf) Tryz.underlying23 rfl) rfl ?_
    refine qT ⟨_, rfl, rfl⟩ (vGt rfl rfl) rfl ?_
    refine q (vPkF rfl rfl) rfl ?_
    exact gOF 5 22 rfl rfl rfl rfl hb2 hX2
  refine q (vMv rfl) rfl ?_
  apply gOr 28 33 5
  · rfl
  · intro hb3 hX3
    have hc3 := hb3 ; try simp only [bls, beq_iff_eq, bne_iff_ne, Int.reduceToNat, List.length_map] at hc3
    refine qF ⟨_, _, rfl, rfl, rfl⟩ rfl ?_
    refine qF ⟨_, _, rfl, rfl, rfl⟩ rfl ?_
    refine qF ⟨_, _, rfl, rfl, rfl⟩ rfl ?_
    refine qF ⟨_, _, rfl, rfl, rfl⟩ rfl ?_
    refine q (vPkT rfl rfl) rfl ?_
    exact gOT 5 28 rfl rfl rfl rfl hb3 hX3
  · intro hb3 hX3
    have hc3 := hb3 ; try simp only [bls, beq_iff_eq, bne_iff_ne, Int.reduceToNat, List.length_map] at hc3
    refine qT ⟨_, rfl, rfl⟩ (vFa fa25_3 rfl) rfl ?_
    refine qT ⟨_, rfl, rfl⟩ (vLd sc23 rfl (rB1 T1 (.s (.s (.s (.z (.c .n))))))) rfl ?_
    refine qT ⟨_, rfl, rfl⟩ (SrcOk.len (srcP hc) Tryz.underlying23 rfl) rfl ?_
    refine qT ⟨_, rfl, rfl⟩ (vGt rfl rfl) rfl ?_
    refine q (vPkF rfl rfl) rfl ?_
    exact gOF 5 28 rfl rfl rfl rfl hb3 hX3
  refine nil ?_
  refine thN ?_
  refine cd rfl (fun hd => ?_) (fun hd => ?_) <;> try simp only [bls, beq_iff_eq, bne_iff_ne, Int.reduceToNat, List.length_map] at hd
  · skip
    refine sq ?_
    refine rg ?_
    refine q (vBuild st30 .nil) rfl ?_
    refine l rfl (store sz30 rfl rfl T0 (by simp) (.z (.c inferInstance inferInstance .n)) ?_)
    refine q (vAs rfl) rfl ?_
    refine nil ?_
    refine thN ?_
    refine rt ?_
    refine thR ?_
    refine ret rfl (.c ag30 rfl (rB T0 (.z (.c .n))) (by simp) (.t rfl .nil)) .nil ⟨.slice none 0 0, [], false, rfl, RS.nil, rising_nil, Fine.nil, Nat.zero_le _, fun h9 => by simp at h9, rfl⟩
  · skip
    have hFew : FewH sd g f c := ⟨fewB_iff.1 hd.1.1.1, by omega, by omega, by omega⟩
    refine sk ?_
    refine thN ?_
    refine sq ?_
    refine rg ?_
    refine q (vFa fa25_0 rfl) rfl ?_
    refine q (vLd sc22 rfl (rB1 T1 (.z (.c .n)))) rfl ?_
    refine l rfl (call cf65 (Grow_spec hS hFew.s (by decide)) rfl .nil rfl ?_)
    intro S1 r1 l1 hS1 hp1
    obtain ⟨vr, R, vi, ids, rfl, hR, hr, hF, hRl, hI, hil, rfl⟩ := hp1
    replace hSl := hSl.mono hS1
    replace hg := hg.mono hS1
    replace hf := hf.mono hS1
    replace hc := hc.mono hS1
    replace hS := hS.mono hS1
    have hpl := hR.pl
    have hs5 := hpl.sc
    have hs6 := hI.sc
    have h24 := hFew.s.1
    refine q (vMv rfl) rfl ?_
    refine q (vEx rfl rfl) rfl ?_
    refine q (vEx rfl rfl) rfl ?_
    refine l rfl (alloc ze30 rfl ?_)
    intro B5
    refine l rfl (store sz30 rfl rfl T0 (by simp) (.z (.c inferInstance inferInstance .n)) ?_)
    refine q (vAs rfl) rfl ?_
    refine nil ?_
    refine thN ?_
    refine sq ?_
    refine sq ?_
    refine rg ?_
    refine q (vMv rfl) rfl ?_
    refine q (SrcOk.len (srcP hI) Tryz.underlying27 rfl) rfl ?_
    refine q (vEq rfl rfl) rfl ?_
    refine nil ?_
    refine thN ?_
    refine cd rfl (fun hz => ?_) (fun hz => ?_) <;> try simp only [bls, beq_iff_eq, bne_iff_ne, Int.reduceToNat, List.length_map] at hz
    · skip
      refine sq ?_
      refine rg ?_
      refine q (vLdA ag30 rfl (rB T0 (.z (.c .n))) (by simp)) rfl ?_
      refine l rfl (store sz30 rfl rfl T1 (by simp) (.z (.c inferInstance inferInstance .n)) ?_)
      refine q (vAs rfl) rfl ?_
      refine nil ?_
      refine thN ?_
      refine rt ?_
      refine thR ?_
      refine ret rfl (.c ag30 rfl (rB T0 (.z (.c .n))) (by simp) (.t rfl .nil)) .nil ⟨vr, R, true, rfl, hR, hr, hF, by omega, fun _ => hFew, rfl⟩
    · skip
      refine sk ?_
      refine thN ?_
      refine sq ?_
      refine rg ?_
      refine q (vMv rfl) rfl ?_
      refine q (vFa fa25_1 rfl) rfl ?_
      refine q (vLd sc23 rfl (rB1 T2 (.s (.z (.c .n))))) rfl ?_
      refine l rfl (call cf15 (Ids12_spec hI hg (by have := hFew.g; omega) (by omega)) rfl .nil rfl ?_)
      intro S2 r2 l2 hS2 hp2
      obtain ⟨hG, rfl⟩ := hp2
      replace hSl := hSl.mono hS2
      replace hg := hg.mono hS2
      replace hf := hf.mono hS2
      replace hc := hc.mono hS2
      replace hS := hS.mono hS2
      replace hpl := hpl.mono hS2
      replace hI := hI.mono hS2
      replace hR := hR.mono hS2
      have hsG := hG.sc
      generalize idsF ids g = gone at hG
      refine q (vAs rfl) rfl ?_
      refine nil ?_
      refine thN ?_
      refine sq ?_
      refine rg ?_
      refine q (vBuild st30 .nil) rfl ?_
      refine l rfl (alloc ze30 rfl ?_)
      intro B8
      refine l rfl (store sz30 rfl rfl T0 (by simp) (.z (.c inferInstance inferInstance .n)) ?_)
      refine nil ?_
      refine thN ?_
      refine sq ?_
      refine sq ?_
      refine rg ?_
      refine q (vAs rfl) rfl ?_
      refine nil ?_
      refine thN ?_
      refine bk ?_
      refine nilsl 131 105 ?_
      refine loop (ι := Nat × Value) (fun (p : Nat × Value) => [(2, .pointer (some ⟨B2, 0, none⟩)), (5, .pointer (some ⟨B5, 0, none⟩)), (7, r2), (8, .pointer (some ⟨B8, 0, none⟩)), (9, .int .i64 (p.1 : Int))]) (fun (p : Nat × Value) => [blk B8 30 [[p.2]], blk B5 30 [[vr]], blk B2 30 [[.slice none 0 0]], sl p.2 131 105 ((keepF gone (R.take p.1)).map encR)]) (fun (p : Nat × Value) => fun S' => p.1 ≤ R.length) (fun (p : Nat × Value) => R.length - p.1) (0, .slice none 0 0) (Nat.zero_le _) (.cons rfl (by first | rfl | simp | (simp <;> omega)) (.cons rfl (by first | rfl | simp | (simp <;> omega)) (.cons rfl (by first | rfl | simp | (simp <;> omega)) (.cons rfl (by first | rfl | simp | (simp <;> omega)) (.cons rfl (by first | rfl | simp | (simp <;> omega)) .nil))))) (.cons T1 (Ent.Le.of (by first | rfl | simp | (simp <;> omega))) (.cons T1 (Ent.Le.of (by first | rfl | simp | (simp <;> omega))) (.cons T1 (Ent.Le.of (by first | rfl | simp | (simp <;> omega))) (.cons T0 (Ent.Le.of (by first | rfl | simp | (simp <;> omega))) .nil)))) ?_
      rintro ⟨i, vo⟩ S5 hle5 k1
      replace hSl := hSl.mono hle5
      replace hg := hg.mono hle5
      replace hf := hf.mono hle5
      replace hc := hc.mono hle5
      replace hS := hS.mono hle5
      replace hpl := hpl.mono hle5
      replace hI := hI.mono hle5
      replace hR := hR.mono hle5
      replace hG := hG.mono hle5
      dsimp only at k1 ⊢
      have hkl := keepF_len gone (R.take i)
      rw [List.length_take] at hkl
      refine sq ?_
      refine sq ?_
      refine rg ?_
      refine q (vMv rfl) rfl ?_
      refine q (vFa fa30_0 rfl) rfl ?_
      refine q (vLd sc28 rfl (rB1 T1 (.z (.c .n)))) rfl ?_
      refine q (SrcOk.len (srcP hpl) Tryz.underlying28 rfl) rfl ?_
      refine q (vLt rfl rfl) rfl ?_
      refine nil ?_
      refine thN ?_
      refine cd rfl (fun hi2 => ?_) (fun hi2 => ?_) <;> try simp only [bls, beq_iff_eq, bne_iff_ne, Int.reduceToNat, List.length_map] at hi2
      · skip
        have hi : i < R.length := by omega
        have hob := hR.ob _ (show R.getD i default ∈ R by rw [List.getD_eq_getElem?_getD, List.getElem?_eq_getElem hi]; exact List.getElem_mem hi)
        have hq1 : Sc (R.getD (i : Int).toNat default).ve := hob.e.sc
        have hq2 : Sc (R.getD (i : Int).toNat default).vp := hob.p.sc
        have hnx := keepF_next gone R i hi
        refine sk ?_
        refine thN ?_
        refine sq ?_
        refine bk ?_
        refine sq ?_
        refine rg ?_
        refine q (vMv rfl) rfl ?_
        refine q (vFa fa30_0 rfl) rfl ?_
        refine q (vLd sc28 rfl (rB1 T1 (.z (.c .n)))) rfl ?_
        refine q (vMv rfl) rfl ?_
        refine q (vIxP sl28 rfl rfl hpl (by first | omega | (simp only [Int.toNat_natCast, Int.reduceToNat, List.length_append, List.length_cons, List.length_nil, List.length_map, bid_len]; omega) | (simp <;> omega))) rfl ?_
        refine q (vFp fa131_0 rfl (rP hpl (gm (by first | omega | (simp only [Int.toNat_natCast, Int.reduceToNat, List.length_append, List.length_cons, List.length_nil, List.length_map, bid_len]; omega) | (simp <;> omega))))) rfl ?_
        refine q (vLdA ag35 rfl (Rd.at (rP hpl (gm (by first | omega | (simp only [Int.toNat_natCast, Int.reduceToNat, List.length_append, List.length_cons, List.length_nil, List.length_map, bid_len]; omega) | (simp <;> omega)))) (.z (.c .n))) (by simp)) rfl ?_
        refine l rfl (callP cf38 (ids_In_spec hG _) rfl .nil rfl ?_)
        refine q (vAs rfl) rfl ?_
        refine nil ?_
        refine thN ?_
        refine sq ?_
        refine rg ?_
        refine q (vMv rfl) rfl ?_
        refine q (vNot rfl) rfl ?_
        refine nil ?_
        refine thN ?_
        refine cd rfl (fun hin => ?_) (fun hin => ?_) <;> try simp only [bls, beq_iff_eq, bne_iff_ne, Int.reduceToNat, List.length_map] at hin
        · skip
          rw [if_neg (by simpa using hin)] at hnx
          refine dr (.take 0 (.take 1 (.take 2 (.take 3 (.take 4 (.take 5 (.take 6 (.one 7 (.one 8 (.take 9 (.last 10))))))))))) wide (by decide +kernel) _ _ (.cons T0 (.cons T0 (.cons T0 .nil))) ?_
          refine pT rfl (vFa fa30_0 rfl) rfl ?_
          refine pT rfl (vLd sc28 rfl (rB1 T0 (.z (.c .n)))) rfl ?_
          refine pT rfl (vFa fa30_0 rfl) rfl ?_
          refine pT rfl (vLd sc28 rfl (rB1 T1 (.z (.c .n)))) rfl ?_
          refine pT rfl (vMv rfl) rfl ?_
          refine pT rfl (vIxP sl28 rfl rfl hpl (by first | omega | (simp only [Int.toNat_natCast, Int.reduceToNat, List.length_append, List.length_cons, List.length_nil, List.length_map, bid_len]; omega) | (simp <;> omega))) rfl ?_
          refine pT rfl (vLdA ag131 rfl (rP hpl (gm (by first | omega | (simp only [Int.toNat_natCast, Int.reduceToNat, List.length_append, List.length_cons, List.length_nil, List.length_map, bid_len]; omega) | (simp <;> omega)))) (by simp)) rfl ?_
          refine pO ?_
          refine opL rfl rfl (bslice sl28 ze131 (.cons rfl inferInstance .nil) (by simp) rfl rfl rfl rfl ?_)
          intro B74
          refine pK (Le.refl _) (.cons T1 (.cons T1 (.cons T1 .nil))) ?_
          refine pO ?_
          refine opL rfl rfl (app ap28 rfl rfl T4 (srcO T0) (by first | omega | (simp only [Int.toNat_natCast, Int.reduceToNat, List.length_append, List.length_cons, List.length_nil, List.length_map, bid_len]; omega) | (simp <;> omega)) rfl ?_)
          intro v75 hv75
          refine pK (Le.refl _) (.cons T2 (.cons T2 (.cons T2 .nil))) ?_
          refine pT rfl (vFa fa30_0 rfl) rfl ?_
          refine pL ?_
          refine opL rfl rfl (store sz28 rfl rfl T2 (by simp) (.z (.c inferInstance inferInstance .n)) ?_)
          refine bkN ?_
          refine thN ?_
          refine rg ?_
          refine q (vMv rfl) rfl ?_
          refine q (vAdd rfl rfl (by first | omega | (simp only [Int.toNat_natCast, Int.reduceToNat, List.length_append, List.length_cons, List.length_nil, List.length_map, bid_len]; omega) | (simp <;> omega))) rfl ?_
          refine q (vAs rfl) rfl ?_
          refine nil ?_
          refine thN ?_
          refine back ((i + 1, v75)) (Le.refl _) ⟨by dsimp only; omega, by dsimp only; omega⟩ (.cons rfl (by first | rfl | (dsimp only; rw [hnx]; simp; done)) (.cons rfl (by first | rfl | (dsimp only; rw [hnx]; simp; done)) (.cons rfl (by first | rfl | (dsimp only; rw [hnx]; simp; done)) (.cons rfl (by first | rfl | (dsimp only; rw [hnx]; simp; done)) (.cons rfl (by first | rfl | (dsimp only; rw [hnx]; simp; done)) .nil))))) (.cons T0 (Ent.Le.of (by first | rfl | (dsimp only; rw [hnx]; simp; done))) (.cons T2 (Ent.Le.of (by first | rfl | (dsimp only; rw [hnx]; simp; done))) (.cons T2 (Ent.Le.of (by first | rfl | (dsimp only; rw [hnx]; simp; done))) (.cons T0 (Ent.Le.of (by first | rfl | (dsimp only; rw [hnx]; simp; done))) .nil))))
        · skip
          rw [if_pos (by simpa using hin), List.append_nil] at hnx
          refine sk ?_
          refine bkN ?_
          refine thN ?_
          refine rg ?_
          refine q (vMv rfl) rfl ?_
          refine q (vAdd rfl rfl (by first | omega | (simp only [Int.toNat_natCast, Int.reduceToNat, List.length_append, List.length_cons, List.length_nil, List.length_map, bid_len]; omega) | (simp <;> omega))) rfl ?_
          refine q (vAs rfl) rfl ?_
          refine nil ?_
          refine thN ?_
          refine back ((i + 1, vo)) (Le.refl _) ⟨by dsimp only; omega, by dsimp only; omega⟩ (.cons rfl (by first | rfl | (dsimp only; rw [hnx]; done)) (.cons rfl (by first | rfl | (dsimp only; rw [hnx]; done)) (.cons rfl (by first | rfl | (dsimp only; rw [hnx]; done)) (.cons rfl (by first | rfl | (dsimp only; rw [hnx]; done)) (.cons rfl (by first | rfl | (dsimp only; rw [hnx]; done)) .nil))))) (.cons T0 (Ent.Le.of (by first | rfl | (dsimp only; rw [hnx]; done))) (.cons T0 (Ent.Le.of (by first | rfl | (dsimp only; rw [hnx]; done))) (.cons T0 (Ent.Le.of (by first | rfl | (dsimp only; rw [hnx]; done))) (.cons T0 (Ent.Le.of (by first | rfl | (dsimp only; rw [hnx]; done))) .nil))))
      · skip
        obtain rfl : i = R.length := by omega
        rw [List.take_length] at hkl ⊢
        refine pub T3 (fun S3 hS3 hO => ?_)
        replace hSl := hSl.mono hS3
        replace hg := hg.mono hS3
        replace hf := hf.mono hS3
        replace hc := hc.mono hS3
        replace hS := hS.mono hS3
        replace hpl := hpl.mono hS3
        replace hI := hI.mono hS3
        replace hR := hR.mono hS3
        replace hG := hG.mono hS3
        have hsO := hO.sc
        refine xt ?_
        refine thX ?_
        refine thX ?_
        refine bkX ?_
        refine thN ?_
        refine sq ?_
        refine rg ?_
        refine q (vLdA ag30 rfl (rB T0 (.z (.c .n))) (by simp)) rfl ?_
        refine l rfl (store sz30 rfl rfl T2 (by simp) (.z (.c inferInstance inferInstance .n)) ?_)
        refine q (vAs rfl) rfl ?_
        refine nil ?_
        refine thN ?_
        refine rt ?_
        refine ret rfl (.c ag30 rfl (rB T0 (.z (.c .n))) (by simp) (.t rfl .nil)) .nil ⟨vo, keepF gone R, true, rfl, ⟨hO, fun x hx => hR.ob x ((keepF_sub gone R).subset hx)⟩, keepF_rising hr, keepF_fine hF, by omega, fun _ => hFew, rfl⟩
end Go.Proofs.YtjmigoikklkfdaaGreatDoor
namespace Go.Proofs.YtjmigoikklkfdaaGreatDoor
open Go
set_option linter.unusedVariables false
set_option linter.unusedSimpArgs false
set_option maxRecDepth 4000
theorem Named_spec {vs vg vf vc : Value} {sd : List DSeed} {g f c : List UInt8} {S : Mem} (h : Hist S vs vg vf vc sd g f c) (hf : FewH sd g f c) :
    Spec Tryz.prog 14 [ag [[vs], [vg], [vf], [vc]]] S [] (fun S' r L' => ∃ ids : List BId, PSl S' r 32 (ids.map encId) ∧ ids.length ≤ 24 ∧ L' = []) := by
  have hS := h.s
  have hSl := hS.pl
  have hs1 := hSl.sc
  have hs2 := h.g.sc
  have hs3 := h.f.sc
  have hs4 := h.c.sc
  refine enter Tryz.func14 rfl 12 rfl rfl (fun w0 => ?_)
  refine sq ?_
  refine rg ?_
  refine l rfl (box rfl rfl ?_)
  intro B1
  refine q (vAs rfl) rfl ?_
  refine nil ?_
  refine thN ?_
  refine sq ?_
  refine rg ?_
  refine q (vFa fa25_0 rfl) rfl ?_
  refine q (vLd sc22 rfl (rB1 T0 (.z (.c .n)))) rfl ?_
  refine l rfl (call cf65 (Grow_spec hS hf.s (by decide)) rfl .nil rfl ?_)
  intro S1 r1 l1 hS1 hp1
  obtain ⟨vr, R, vi, ids, rfl, hR, hr, hF, hRl, hI, hil, rfl⟩ := hp1
  replace hSl := hSl.mono hS1
  replace hS := hS.mono hS1
  have hs5 := hR.pl.sc
  have h24 := hf.s.1
  refine q (vMv rfl) rfl ?_
  refine q (vEx rfl rfl) rfl ?_
  refine q (vEx rfl rfl) rfl ?_
  refine l rfl (alloc ze30 rfl ?_)
  intro B3
  refine l rfl (store sz30 rfl rfl T0 (by simp) (.z (.c inferInstance inferInstance .n)) ?_)
  refine q (vAs rfl) rfl ?_
  refine nil ?_
  refine thN ?_
  refine sq ?_
  refine rg ?_
  refine q (vMv rfl) rfl ?_
  refine q (vAs rfl) rfl ?_
  refine nil ?_
  refine thN ?_
  refine rt ?_
  refine ret rfl (.t rfl .nil) .nil ⟨ids, hI, by omega, rfl⟩
theorem putF_last {A : List (List UInt8)} {t : List UInt8} (h : Rising (keys (A ++ [t]))) (hd : dOk t = true) : putF A t = A ++ [t] := by
  have hk : keys (A ++ [t]) = keys A ++ [sumF t] := by simp [keys]
  rw [hk] at h
  have hlt : ∀ x, x ∈ keys A → idN x < idN (sumF t) := fun x hx => (List.pairwise_append.1 h).2.2 x hx (sumF t) (by simp)
  have hm : sumF t ∉ keys A := fun hm => Nat.lt_irrefl _ (hlt _ hm)
  have hl : low (sumF t) (keys A) = A.length := by
    refine lowN_unique _ _ _ (by simp) (fun i hi => ?_) (fun h9 => by simp at h9)
    have e1 : ((keys A).map idN).getD i 0 = idN (sumF (A[i])) := by simp [List.getD, hi, keys]
    rw [e1]
    exact hlt _ (by rw [keys]; exact List.mem_map_of_mem (List.getElem_mem hi))
  rw [putF, if_pos hd, if_neg hm, hl, List.take_length, List.drop_length, List.append_nil]
theorem texts_next {R : List RIt} {i : Nat} (h : i < R.length) : texts (R.take (i + 1)) = texts (R.take i) ++ [(R.getD i default).t] := by
  rw [take_next R i h]; simp [texts]
theorem texts_rising {R : List RIt} (h : Rising (keys (texts R))) (n : Nat) : Rising (keys (texts (R.take n))) :=
  List.Pairwise.sublist (((List.take_sublist n R).map _).map _) h
theorem Of11_spec {v : Value} {R : List RIt} {S : Mem} (h : RS S v R) (hr : Rising (keys (texts R))) (hF : Fine (texts R)) (hlen : R.length < 10000) (constants_pb : PB S 0 0 (encW kW)) :
    Spec Tryz.prog 29 [ag [[v]]] S [] (fun S' r L' => ∃ b v', r = ptr b 0 ∧ L' = stE b v' (texts R)) := by
  have hpl := h.pl
  have hsc := hpl.sc
  refine enter Tryz.func29 rfl 41 rfl rfl (fun w0 => ?_)
  refine sq ?_
  refine rg ?_
  refine l rfl (box rfl rfl ?_)
  intro B1
  refine q (vAs rfl) rfl ?_
  refine nil ?_
  refine thN ?_
  refine sq ?_
  refine rg ?_
  refine l rfl (call cf66 (New_spec _) rfl .nil rfl ?_)
  intro S1 r1 l1 hS1 hp1
  obtain ⟨b, rfl, rfl, rfl⟩ := hp1
  replace h := h.mono hS1
  replace hpl := hpl.mono hS1
  replace constants_pb := constants_pb.mono hS1
  refine q (vAs rfl) rfl ?_
  refine nil ?_
  refine thN ?_
  refine sq ?_
  refine sq ?_
  refine rg ?_
  refine q (vMv rfl) rfl ?_
  refine q (vEqNil Tryz.underlying42 rfl) rfl ?_
  refine nil ?_
  refine thN ?_
  refine cF rfl ?_
  refine sk ?_
  refine thN ?_
  refine sq ?_
  refine sq ?_
  refine rg ?_
  refine q (vAs rfl) rfl ?_
  refine nil ?_
  refine thN ?_
  refine bk ?_
  refine loop (ι := Nat × Value) (fun (p : Nat × Value) => [(1, .pointer (some ⟨B1, 0, none⟩)), (3, ptr b 0), (4, .int .i64 (p.1 : Int))]) (fun (p : Nat × Value) => [blk B1 30 [[v]], blk b 204 [[p.2]], sl p.2 209 33 ((texts (R.take p.1)).map encIt)]) (fun (p : Nat × Value) => fun S' => p.1 ≤ R.length) (fun (p : Nat × Value) => R.length - p.1) (0, .slice none 0 0) (Nat.zero_le _) (.cons rfl (by first | rfl | simp | (simp <;> omega)) (.cons rfl (by first | rfl | simp | (simp <;> omega)) (.cons rfl (by first | rfl | simp | (simp <;> omega)) .nil))) (.cons T2 (Ent.Le.of (by first | rfl | simp | (simp <;> omega))) (.cons T0 (Ent.Le.of (by first | rfl | simp | (simp <;> omega))) (.cons T0 (Ent.Le.of (by first | rfl | simp | (simp <;> omega))) .nil))) ?_
  rintro ⟨i, w⟩ S2 hle2 h1
  replace h := h.mono hle2
  replace hpl := hpl.mono hle2
  replace constants_pb := constants_pb.mono hle2
  dsimp only at h1 ⊢
  refine sq ?_
  refine sq ?_
  refine rg ?_
  refine q (vMv rfl) rfl ?_
  refine q (vFa fa30_0 rfl) rfl ?_
  refine q (vLd sc28 rfl (rB1 T0 (.z (.c .n)))) rfl ?_
  refine q (SrcOk.len (srcP hpl) Tryz.underlying28 rfl) rfl ?_
  refine q (vLt rfl rfl) rfl ?_
  refine nil ?_
  refine thN ?_
  refine cd rfl (fun hd => ?_) (fun hd => ?_) <;> try simp only [bls, beq_iff_eq, bne_iff_ne, Int.reduceToNat, List.length_map] at hd
  · skip
    have hi : i < R.length := by omega
    have ht : dOk (R.getD i default).t = true ∧ (R.getD i default).t.length < 1073741824 := by
      have := hF (R.getD i default).t (List.mem_map_of_mem (by rw [List.getD_eq_getElem?_getD, List.getElem?_eq_getElem hi]; exact List.getElem_mem hi))
      exact ⟨this.2, this.1⟩
    have hnx := texts_next hi
    have hr2 := texts_rising hr (i + 1)
    have hput : putF (texts (R.take i)) (R.getD i default).t = texts (R.take (i + 1)) := by
      rw [hnx]; exact putF_last (by rw [← hnx]; exact hr2) ht.1
    have hll : (texts (R.take i)).length ≤ R.length := by rw [List.length_map, List.length_take]; omega
    refine sk ?_
    refine thN ?_
    refine sq ?_
    refine bk ?_
    refine sq ?_
    refine rg ?_
    refine q (vMv rfl) rfl ?_
    refine q (vFa fa30_0 rfl) rfl ?_
    refine q (vLd sc28 rfl (rB1 T0 (.z (.c .n)))) rfl ?_
    refine q (vMv rfl) rfl ?_
    refine q (vIxP sl28 rfl rfl hpl (by first | omega | (simp only [Int.toNat_natCast, Int.reduceToNat, List.length_append, List.length_cons, List.length_nil, List.length_map, bid_len]; omega) | (simp <;> omega))) rfl ?_
    refine q (vFp fa131_1 rfl (rP hpl (gm (by first | omega | (simp only [Int.toNat_natCast, Int.reduceToNat, List.length_append, List.length_cons, List.length_nil, List.length_map, bid_len]; omega) | (simp <;> omega))))) rfl ?_
    refine q (vLd sc9 rfl (Rd.at1 (rP hpl (gm (by first | omega | (simp only [Int.toNat_natCast, Int.reduceToNat, List.length_append, List.length_cons, List.length_nil, List.length_map, bid_len]; omega) | (simp <;> omega)))) (.n (n := 32) inferInstance (.z (.c .n))))) rfl ?_
    refine l rfl (call cf80 (Put_spec (R.getD i default).t (texts_rising hr i) (by omega) ht.2 _ constants_pb) rfl (.cons T1 (.cons T1 .nil)) rfl ?_)
    intro S2 r2 l2 hS2 hp2
    obtain ⟨v1, rfl, rfl⟩ := hp2
    replace h := h.mono hS2
    replace hpl := hpl.mono hS2
    replace constants_pb := constants_pb.mono hS2
    rw [hput]
    simp only [ht.1]
    refine q (vMv rfl) rfl ?_
    refine q (vEx rfl rfl) rfl ?_
    refine q (vEx rfl rfl) rfl ?_
    refine l rfl (alloc ze35 rfl ?_)
    intro B5
    refine l rfl (store sz35 rfl rfl T0 (by simp) (.z (.c inferInstance inferInstance .n)) ?_)
    refine q (vAs rfl) rfl ?_
    refine nil ?_
    refine thN ?_
    refine sq ?_
    refine dr (.take 0 (.take 1 (.take 2 (.take 3 (.take 4 (.take 5 (.take 6 (.take 7 (.take 8 (.take 9 (.take 10 (.take 11 .done)))))))))))) wide (by decide +kernel) _ _ (.cons T0 (.cons T0 (.cons T0 (.cons T0 .nil)))) ?_
    refine pT rfl (vMv rfl) rfl ?_
    refine pT rfl (vNe rfl rfl) rfl ?_
    refine pT rfl (vMv rfl) rfl ?_
    apply pOr 30 39 9
    · rfl
    · intro hb1 hX1
      have hc1 := hb1 ; try simp only [bls, beq_iff_eq, bne_iff_ne, Int.reduceToNat, List.length_map] at hc1
      refine pTF rfl ⟨_, _, rfl, rfl, rfl⟩ rfl ?_
      refine pTF rfl ⟨_, _, rfl, rfl, rfl⟩ rfl ?_
      refine pTF rfl ⟨_, _, rfl, rfl, rfl⟩ rfl ?_
      refine pTF rfl ⟨_, _, rfl, rfl, rfl⟩ rfl ?_
      refine pTF rfl ⟨_, _, rfl, rfl, rfl⟩ rfl ?_
      refine pTF rfl ⟨_, _, rfl, rfl, rfl⟩ rfl ?_
      refine pTF rfl ⟨_, _, rfl, rfl, rfl⟩ rfl ?_
      refine pTF rfl ⟨_, _, rfl, rfl, rfl⟩ rfl ?_
      refine pT rfl (vPkT rfl rfl) rfl ?_
      exact gOT 9 30 rfl rfl rfl rfl hb1 hX1
    · intro hb1 hX1
      have hc1 := hb1 ; try simp only [bls, beq_iff_eq, bne_iff_ne, Int.reduceToNat, List.length_map] at hc1
      refine pTT rfl ⟨_, rfl, rfl⟩ (vLdA ag35 rfl (rB T0 (.z (.c .n))) (by simp)) rfl ?_
      refine pTT rfl ⟨_, rfl, rfl⟩ (vFa fa30_0 rfl) rfl ?_
      refine pTT rfl ⟨_, rfl, rfl⟩ (vLd sc28 rfl (rB1 T3 (.z (.c .n)))) rfl ?_
      refine pTT rfl ⟨_, rfl, rfl⟩ (vMv rfl) rfl ?_
      refine pTT rfl ⟨_, rfl, rfl⟩ (vIxP sl28 rfl rfl hpl (by first | omega | (simp only [Int.toNat_natCast, Int.reduceToNat, List.length_append, List.length_cons, List.length_nil, List.length_map, bid_len]; omega) | (simp <;> omega))) rfl ?_
      refine pTT rfl ⟨_, rfl, rfl⟩ (vFp fa131_0 rfl (rP hpl (gm (by first | omega | (simp only [Int.toNat_natCast, Int.reduceToNat, List.length_append, List.length_cons, List.length_nil, List.length_map, bid_len]; omega) | (simp <;> omega))))) rfl ?_
      refine pTT rfl ⟨_, rfl, rfl⟩ (vLdA ag35 rfl (Rd.at (rP hpl (gm (by first | omega | (simp only [Int.toNat_natCast, Int.reduceToNat, List.length_append, List.length_cons, List.length_nil, List.length_map, bid_len]; omega) | (simp <;> omega)))) (.z (.c .n))) (by simp)) rfl ?_
      refine pTT rfl ⟨_, rfl, rfl⟩ (vNeA id35 rfl rfl) rfl ?_
      refine pT rfl (vPkF rfl rfl) rfl ?_
      exact gOF 9 30 rfl rfl rfl rfl hb1 hX1
    refine pDone ?_
    refine thN ?_
    refine cd rfl (fun hq => ?_) (fun hq => ?_) <;> try simp only [bls, beq_iff_eq, bne_iff_ne, Int.reduceToNat, List.length_map] at hq
    · skip
      exfalso
      rcases hq with hq | hq
      · exact hq rfl
      · exact hq (if_pos trivial)
    · skip
      refine sk ?_
      refine bkN ?_
      refine thN ?_
      refine rg ?_
      refine q (vMv rfl) rfl ?_
      refine q (vAdd rfl rfl (by first | omega | (simp only [Int.toNat_natCast, Int.reduceToNat, List.length_append, List.length_cons, List.length_nil, List.length_map, bid_len]; omega) | (simp <;> omega))) rfl ?_
      refine q (vAs rfl) rfl ?_
      refine nil ?_
      refine thN ?_
      refine back ((i + 1, v1)) (by assumption) ⟨by dsimp only; omega, by dsimp only; omega⟩ (.cons rfl (by first | rfl | simp | (simp <;> omega)) (.cons rfl (by first | rfl | simp | (simp <;> omega)) (.cons rfl (by first | rfl | simp | (simp <;> omega)) .nil))) (.cons T3 (Ent.Le.of (by first | rfl | simp | (simp <;> omega))) (.cons T1 (Ent.Le.of (by first | rfl | simp | (simp <;> omega))) (.cons T1 (Ent.Le.of (by first | rfl | simp | (simp <;> omega))) .nil)))
  · skip
    obtain rfl : i = R.length := by omega
    rw [List.take_length]
    refine xt ?_
    refine thX ?_
    refine thX ?_
    refine bkX ?_
    refine thN ?_
    refine sq ?_
    refine rg ?_
    refine q (vMv rfl) rfl ?_
    refine q (vAs rfl) rfl ?_
    refine nil ?_
    refine thN ?_
    refine rt ?_
    refine ret rfl (.t rfl .nil) (.t T1 (.t T1 .nil)) ⟨b, w, rfl, rfl⟩
theorem Of14_spec {v vr vs : Value} {R : List RIt} {S : Mem} (h : RS S v R) (hr : Rising (keys (texts R))) (hF : Fine (texts R)) (hlen : R.length < 10000) (hs1 : Sc vr) (hs2 : Sc vs) (constants_pb : PB S 0 0 (encW kW)) :
    Spec Tryz.prog 16 [ag [[v], [vr], [vs]]] S [] (fun S' r L' => ∃ b v', r = .tuple [ag [[ptr b 0], [vr], [vs]], .bool true].toArray ∧ L' = stE b v' (texts R)) := by
  have hpl := h.pl
  have hsc := hpl.sc
  refine enter Tryz.func16 rfl 16 rfl rfl (fun w0 => ?_)
  refine sq ?_
  refine rg ?_
  refine l rfl (box rfl rfl ?_)
  intro B1
  refine l rfl (alloc ze44 rfl ?_)
  intro B2
  refine q (vAs rfl) rfl ?_
  refine nil ?_
  refine thN ?_
  refine sq ?_
  refine rg ?_
  refine q (vFa fa41_0 rfl) rfl ?_
  refine q (vLdA ag30 rfl (rB T1 (.z (.c .n))) (by simp)) rfl ?_
  refine l rfl (call cf29 (Of11_spec h hr hF hlen constants_pb) rfl .nil rfl ?_)
  intro S1 r1 l1 hS1 hp1
  obtain ⟨b, v', rfl, rfl⟩ := hp1
  replace h := h.mono hS1
  replace hpl := hpl.mono hS1
  replace constants_pb := constants_pb.mono hS1
  refine q (vAs rfl) rfl ?_
  refine nil ?_
  refine thN ?_
  refine sq ?_
  refine rg ?_
  refine q (vMv rfl) rfl ?_
  refine q (vFa fa41_1 rfl) rfl ?_
  refine q (vLd sc26 rfl (rB1 T3 (.s (.z (.c .n))))) rfl ?_
  refine q (vFa fa41_2 rfl) rfl ?_
  refine q (vLd sc27 rfl (rB1 T3 (.s (.s (.z (.c .n)))))) rfl ?_
  refine q (vBuild st44 (.cons rfl rfl inferInstance (by simp) (.z (.c inferInstance inferInstance .n)) (.cons rfl rfl inferInstance (by simp) (.s (.z (.c inferInstance inferInstance .n))) (.cons rfl rfl inferInstance (by simp) (.s (.s (.z (.c inferInstance inferInstance .n)))) .nil)))) rfl ?_
  refine q (vMv rfl) rfl ?_
  refine q (vNeNil Tryz.underlying42 rfl) rfl ?_
  refine l rfl (store sz44 rfl rfl T2 (by simp) (.z (.c inferInstance inferInstance (.c inferInstance inferInstance (.c inferInstance inferInstance .n)))) ?_)
  refine q (vAs rfl) rfl ?_
  refine nil ?_
  refine thN ?_
  refine rt ?_
  refine ret rfl (.c ag44 rfl (rB T0 (.z (.c (.c (.c .n))))) (by simp) (.t rfl .nil)) (.t T1 (.t T1 .nil)) ⟨b, v', rfl, rfl⟩
end Go.Proofs.YtjmigoikklkfdaaGreatDoor
namespace Go.Proofs.YtjmigoikklkfdaaGreatDoor
open Go
set_option linter.unusedVariables false
set_option linter.unusedSimpArgs false
set_option linter.unusedSectionVars false
def lateE (P : Program) (ops : Array Oper) (Q : Exit → Act → World → Prop) (z : Nat) (N : World → Prop) : Nat → Array Bool → Act → World → Prop
  | 0, lst, a, w => Region.ready .any ops lst = [] ∧ Q .normal a w
  | f + 1, lst, a, w => (Region.ready .any ops lst = [] → Q .normal a w) ∧
      ∀ i ∈ Region.ready .any ops lst, wpOp P ops Q i (fun a' w' => ((lst.setIfInBounds i true).getD z true = false → N w') ∧ lateE P ops Q z N f (lst.setIfInBounds i true) a' w') a w
section
variable {P : Program} {ops : Array Oper} {Q : Exit → Act → World → Prop} {N M : World → Prop} {z : Nat}
theorem lateE.any : ∀ (f : Nat) (lst : Array Bool) (a : Act) (w : World), lateE P ops Q z N f lst a w → wpAny P .any ops Q f lst a w
  | 0, _, _, _, h => h
  | f + 1, _, _, _, h => ⟨h.1, fun i hi => wpOp_mono (fun a' w' h' => lateE.any f _ a' w' h'.2) (h.2 i hi)⟩
theorem lateE.first {i : Nat} {oi : Oper} {v : Value} (hi : ops[i]? = some oi) (hiz : i ≠ z) (hsel : ∀ (j : Nat) (o : Oper) cs b, ops[j]? = some o → o.op ≠ .select cs b) (hQ : ∀ c a w, Q (.panic c) (a.put oi.dst v) w → Q (.panic c) a w)
    (hM : (∀ w, M w) ∨ (waits ops z i = true ∧ ∀ w, N w → M w)) :
    ∀ (f : Nat) (lst : Array Bool) (a : Act) (w : World), ((∀ w, M w) ∨ lst.getD z true = false) →
      (∀ j oj, ops[j]? = some oj → j ≠ i → lst.getD j true = false → (∀ d ∈ oj.after, Region.binds .any d = true → d.on ≠ i) → oi.apart ops oj = true) →
      i ∈ Region.ready .any ops lst → YieldsIf P ops M oi v a → (lst.getD z true = false → N w) → lateE P ops Q z N f (lst.setIfInBounds i true) (a.put oi.dst v) w → lateE P ops Q z N (f + 1) lst a w
  | 0, lst, a, w, hl, _, hr, hy, hN, H => by
    have hMw : M w := by
      rcases hM with h | ⟨_, h⟩
      · exact h w
      · rcases hl with h9 | h9
        · exact h9 w
        · exact h w (hN h9)
    refine ⟨fun h => (by rw [h] at hr; cases hr), fun j hj => ?_⟩
    by_cases e : j = i
    · subst e; exact hy.wpOp hi hMw ⟨fun h9 => hN (by rwa [getD_set_ne true hiz] at h9), H⟩
    · have := ready_mono hj e
      rw [H.1] at this; cases this
  | f + 1, lst, a, w, hl, hfree, hr, hy, hN, H => by
    have hMw : M w := by
      rcases hM with h | ⟨_, h⟩
      · exact h w
      · rcases hl with h9 | h9
        · exact h9 w
        · exact h w (hN h9)
    refine ⟨fun h => (by rw [h] at hr; cases hr), fun j hj => ?_⟩
    by_cases e : j = i
    · subst e; exact hy.wpOp hi hMw ⟨fun h9 => hN (by rwa [getD_set_ne true hiz] at h9), H⟩
    · obtain ⟨hjun, oj, hoj, hall⟩ := mem_ready.1 hj
      have hnot : ∀ d ∈ oj.after, Region.binds .any d = true → d.on ≠ i := fun d hd hb heq => by
        have h1 := hall d hd hb
        have h0 := (mem_ready.1 hr).1
        rw [heq] at h1
        rcases Nat.lt_or_ge i lst.size with h' | h'
        · simp [h'] at h0 h1; rw [h0] at h1; cases h1
        · simp [Array.getElem?_eq_none h'] at h1
      have h2 := wpOp_putIf hoj (hfree j oj hoj e hjun hnot) (fun cs b => hsel i oi cs b hi) (fun cs b => hsel j oj cs b hoj) hQ hy (H.2 j (ready_mono hj e))
      have hl2 : (∀ w, M w) ∨ (lst.setIfInBounds j true).getD z true = false := by
        rcases hM with h9 | ⟨h9, _⟩
        · exact .inl h9
        · rcases hl with h8 | h8
          · exact .inl h8
          · have hjz : j ≠ z := fun h7 => (waits.not h9 (h7 ▸ hj) hr).elim
            exact .inr (by rw [getD_set_ne true hjz]; exact h8)
      have key : ((lst.setIfInBounds i true).setIfInBounds j true).getD z true = (lst.setIfInBounds j true).getD z true := by
        rw [Array.setIfInBounds_comm _ _ (Ne.symm e), getD_set_ne true hiz]
      refine wpOp_mono (fun a' w' h3 => ⟨fun h9 => h3.2.1 (by rw [key]; exact h9), lateE.first hi hiz hsel hQ hM f (lst.setIfInBounds j true) a' w' hl2 ?_ (ready_mono hr (Ne.symm e)) h3.1 (fun h9 => h3.2.1 (by rw [key]; exact h9)) ?_⟩) h2
      · intro k ok hk hki hun hno
        refine hfree k ok hk hki ?_ hno
        by_cases hjk : j = k
        · subst hjk; exact hjun
        · rw [getD_set_ne true hjk] at hun; exact hun
      · rw [Array.setIfInBounds_comm _ _ e]; exact h3.2.2
theorem lateE.done {lst : Array Bool} {a : Act} {w : World} (hr : Region.ready .any ops lst = []) (h : Q .normal a w) : ∀ f, lateE P ops Q z N f lst a w
  | 0 => ⟨hr, h⟩
  | _ + 1 => ⟨fun _ => h, by rw [hr]; simp⟩
theorem lateE.all {rs : List Nat} {f : Nat} {lst : Array Bool} {a : Act} {w : World} (hr : Region.ready .any ops lst = rs) (hne : rs ≠ [])
    (h : ∀ i ∈ rs, wpOp P ops Q i (fun a' w' => ((lst.setIfInBounds i true).getD z true = false → N w') ∧ lateE P ops Q z N f (lst.setIfInBounds i true) a' w') a w) : lateE P ops Q z N (f + 1) lst a w :=
  ⟨fun h0 => absurd (hr ▸ h0) hne, hr ▸ h⟩
end
def blind (o : Oper) : Bool := match o.op with
  | .extract _ _ => true
  | _ => false
theorem blind_run {P : Program} {o : Oper} (hb : blind o = true) {ev : Operand → Value} {w w' : World} {v : Value} (h : (execOp ev o).run P w = .ok (.value v) w) : (execOp ev o).run P w' = .ok (.value v) w' := by
  obtain ⟨d, op, ty, pos, aft, g⟩ := o
  cases op <;> simp only [blind, Bool.false_eq_true] at hb
  rename_i x n
  revert h
  simp only [execOp]
  cases ev x <;> simp [Instr.extract]
  rename_i vs
  cases vs[n]? <;> simp
def okLate (ops : List Oper) (z : Nat) : Nat → Array Bool → Plan → Bool
  | 0, _, _ => false
  | fuel + 1, listed, .take i t => i != z && (waits ops.toArray z i || (ops[i]?.map blind).getD false) && listed.getD z true == false && Region.free .any ops.toArray listed i && (Region.ready .any ops.toArray listed).contains i && okLate ops z fuel (listed.setIfInBounds i true) t
  | fuel + 1, listed, .one i t => Region.ready .any ops.toArray listed == [i] && okLate ops z fuel (listed.setIfInBounds i true) t
  | fuel + 1, listed, .last i => i == z && Region.ready .any ops.toArray listed == [i] && Region.ready .any ops.toArray (listed.setIfInBounds i true) == [] && (listed.setIfInBounds i true).getD z true == true
  | _, _, _ => false
def checkLate (ops : List Oper) (z : Nat) (t : Plan) : Bool := Region.noSelect ops.toArray && okLate ops z ops.length (Array.replicate ops.length false) t
section
variable {P : Program} {C : Ctx} {S : Mem} {e : Env} {L L1 : List Ent} {ty : TypeId} {Q : Exit → Act → World → Prop} {K : Act → World → Prop}
theorem wpLate_sound {ops : List Oper} {z : Nat} {Cl : World → Prop} (hs : Region.noSelect ops.toArray = true) (hQ : ∀ c a w, ¬ Q (.panic c) a w) : ∀ (t : Plan) (fuel : Nat) (listed : Array Bool) (a : Act) (w : World),
    okLate ops z fuel listed t = true → Cl w → wpPlan P ops Q Cl t a w → lateE P ops.toArray Q z Cl fuel listed a w := by
  intro t
  induction t with
  | done => intro fuel listed a w hok hC h; cases fuel <;> simp [okLate] at hok
  | take i t ih =>
    intro fuel listed a w hok hC h
    cases fuel with
    | zero => simp [okLate] at hok
    | succ fuel =>
      simp only [okLate, Bool.and_eq_true, Bool.or_eq_true, bne_iff_ne, beq_iff_eq] at hok
      obtain ⟨o, v, ho, hy, h⟩ := h
      have ho' : ops.toArray[i]? = some o := by simpa using ho
      have hrec := ih fuel _ _ _ hok.2 hC h
      have hsel := Region.noSelect_spec hs
      have hQ' : ∀ c a w, Q (.panic c) (a.put o.dst v) w → Q (.panic c) a w := fun c a w hp => absurd hp (hQ _ _ _)
      have hrd : i ∈ Region.ready .any ops.toArray listed := by simpa using hok.1.2
      have hfr := Region.free_spec ho' hok.1.1.2
      rcases hok.1.1.1.1.2 with hw | hb
      · exact lateE.first (M := Cl) ho' hok.1.1.1.1.1 hsel hQ' (.inr ⟨hw, fun _ h9 => h9⟩) fuel listed a w (.inr hok.1.1.1.2) hfr hrd hy (fun _ => hC) hrec
      · rw [ho] at hb
        simp only [Option.map_some, Option.getD_some] at hb
        have hy2 : YieldsIf P ops.toArray (fun _ => True) o v a := by
          rcases hy with ⟨h1, h2⟩ | h1
          · exact .inl ⟨h1, fun w' _ => blind_run hb (h2 w hC)⟩
          · exact .inr h1
        exact lateE.first (M := fun _ => True) ho' hok.1.1.1.1.1 hsel hQ' (.inl fun _ => trivial) fuel listed a w (.inl fun _ => trivial) hfr hrd hy2 (fun _ => hC) hrec
  | one i t ih =>
    intro fuel listed a w hok hC h
    cases fuel with
    | zero => simp [okLate] at hok
    | succ fuel =>
      simp only [okLate, Bool.and_eq_true, beq_iff_eq] at hok
      refine lateE.all hok.1 (by simp) (fun j hj => ?_)
      obtain rfl : j = i := by simpa using hj
      exact wpOp_mono (fun a' w' h' => ⟨fun _ => h'.1, ih fuel _ _ _ hok.2 h'.1 h'.2⟩) h
  | two i j t u ih1 ih2 => intro fuel listed a w hok hC h; cases fuel <;> simp [okLate] at hok
  | three i j k t u v ih1 ih2 ih3 => intro fuel listed a w hok hC h; cases fuel <;> simp [okLate] at hok
  | last i =>
    intro fuel listed a w hok hC h
    cases fuel with
    | zero => simp [okLate] at hok
    | succ fuel =>
      simp only [okLate, Bool.and_eq_true, beq_iff_eq] at hok
      refine lateE.all hok.1.1.2 (by simp) (fun j hj => ?_)
      obtain rfl : j = i := by simpa using hj
      exact wpOp_mono (fun a' w' h' => ⟨fun hn => (by rw [hok.2] at hn; cases hn), lateE.done hok.1.2 h' fuel⟩) h
theorem drL {id} {ops : List Oper} (z : Nat) (t : Plan) (hm : P.follows .mixedOrders = true) (hc : checkLate ops z t = true) (Lk Lr : List Ent) (tk : Takes L Lk Lr)
    (h : W C S e L (wpPlan P ops (NoPanic Q) (Cls S Lk) t)) : W C S e L ((Code.region id ops.toArray true).wp P Q) := by
  intro a w hs
  simp only [checkLate, Bool.and_eq_true] at hc
  refine wp_region_noPanic (wp_region_any hm (lateE.any (N := Cls S Lk) (z := z) _ _ _ _ ?_))
  have hs' : Sat C S e L a { w with drawn := w.drawn + 1 } := ⟨hs.n, hs.d, hs.e, hs.s.drew rfl⟩
  have := wpLate_sound (P := P) (Q := NoPanic Q) (Cl := Cls S Lk) hc.1 (fun c a w hp => hp) t ops.length (Array.replicate ops.length false) a _ hc.2 (hs'.s.sub tk) (h _ _ hs')
  simpa using this
end
end Go.Proofs.YtjmigoikklkfdaaGreatDoor
namespace Go.Proofs.YtjmigoikklkfdaaGreatDoor
open Go
set_option linter.unusedVariables false
set_option linter.unusedSimpArgs false
set_option maxRecDepth 4000
abbrev encT (t : List UInt8) : List Value := [str t]
noncomputable def allF (A : List (List UInt8)) (ts : List (List UInt8)) : List (List UInt8) := ts.foldl putF A
theorem allF_next (A ts : List (List UInt8)) (i : Nat) (h : i < ts.length) : allF A (ts.take (i + 1)) = putF (allF A (ts.take i)) (ts.getD i default) := by
  rw [take_next ts i h, allF, List.foldl_append]; rfl
theorem allF_rising {A : List (List UInt8)} : ∀ {ts : List (List UInt8)}, Rising (keys A) → Rising (keys (allF A ts)) := by
  intro ts
  induction ts generalizing A with
  | nil => exact id
  | cons t ts ih => intro h; exact ih (putF_rising _ h)
theorem allF_len {A : List (List UInt8)} : ∀ {ts : List (List UInt8)}, (allF A ts).length ≤ A.length + ts.length := by
  intro ts
  induction ts generalizing A with
  | nil => exact Nat.le_refl _
  | cons t ts ih =>
    have h1 := ih (A := putF A t)
    have h2 := putF_len (A := A) t
    have e : allF A (t :: ts) = allF (putF A t) ts := rfl
    rw [e, List.length_cons]; omega
theorem All_spec {v vl : Value} {R : List RIt} {ts : List (List UInt8)} {S : Mem} {E1 : Ent} (h : RS S v R) (hr : Rising (keys (texts R))) (hlen : R.length + ts.length < 1000000) (hl : SrcOk S [E1] vl 1 (ts.map encT)) (ht : ∀ t, t ∈ ts → t.length < 1073741824) :
    Spec Tryz.prog 25 [ag [[v]], vl] S [E1] (fun S' r L' => ∃ (vr : Value) (R' : List RIt), r = ag [[vr]] ∧ RS S' vr R' ∧ texts R' = allF (texts R) ts ∧ L' = [E1]) := by
  have hpl := h.pl
  have hsc := hpl.sc
  have hRt : (texts R).length = R.length := List.length_map _
  refine enter Tryz.func25 rfl 23 rfl rfl (fun w0 => ?_)
  refine sq ?_
  refine rg ?_
  refine l rfl (box rfl rfl ?_)
  intro B2
  refine l rfl (alloc ze30 rfl ?_)
  intro B4
  refine nil ?_
  refine thN ?_
  refine sq ?_
  refine sq ?_
  refine rg ?_
  refine q (vAs rfl) rfl ?_
  refine nil ?_
  refine thN ?_
  refine bk ?_
  refine loop (ι := Nat × Value × List RIt) (fun (p : Nat × Value × List RIt) => [(1, vl), (2, .pointer (some ⟨B2, 0, none⟩)), (4, .pointer (some ⟨B4, 0, none⟩)), (5, .int .i64 (p.1 : Int))]) (fun (p : Nat × Value × List RIt) => [E1, blk B2 30 [[p.2.1]], blk B4 30 [[.slice none 0 0]]]) (fun (p : Nat × Value × List RIt) => fun S' => PSl S' p.2.1 105 (p.2.2.map encR) ∧ RS S' p.2.1 p.2.2 ∧ texts p.2.2 = allF (texts R) (ts.take p.1) ∧ p.1 ≤ ts.length) (fun (p : Nat × Value × List RIt) => ts.length - p.1) (0, v, R) ⟨hpl, h, rfl, Nat.zero_le _⟩ (.cons rfl (by first | rfl | simp | (simp <;> omega)) (.cons rfl (by first | rfl | simp | (simp <;> omega)) (.cons rfl (by first | rfl | simp | (simp <;> omega)) (.cons rfl (by first | rfl | simp | (simp <;> omega)) .nil)))) (.cons T2 (Ent.Le.of (by first | rfl | simp | (simp <;> omega))) (.cons T1 (Ent.Le.of (by first | rfl | simp | (simp <;> omega))) (.cons T0 (Ent.Le.of (by first | rfl | simp | (simp <;> omega))) .nil))) ?_
  rintro ⟨i, w, Q⟩ S2 hle2 ⟨hq, hQ, hQt, h1⟩
  replace h := h.mono hle2
  replace hpl := hpl.mono hle2
  replace hl := hl.mono hle2
  dsimp only at hq hQ hQt h1 ⊢
  have hs2 := hq.sc
  refine sq ?_
  refine sq ?_
  refine rg ?_
  refine q (vMv rfl) rfl ?_
  refine q (vMv rfl) rfl ?_
  refine q (SrcOk.len (SrcOk.takes hl (.cons T0 .nil)) Tryz.underlying59 rfl) rfl ?_
  refine q (vLt rfl rfl) rfl ?_
  refine nil ?_
  refine thN ?_
  refine cd rfl (fun hd => ?_) (fun hd => ?_) <;> try simp only [bls, beq_iff_eq, bne_iff_ne, Int.reduceToNat, List.length_map] at hd
  · skip
    have hi : i < ts.length := by omega
    have hnx := allF_next (texts R) ts i hi
    have hti := ht (ts.getD i default) (by rw [List.getD_eq_getElem?_getD, List.getElem?_eq_getElem hi]; exact List.getElem_mem hi)
    have hrQ : Rising (keys (texts Q)) := by rw [hQt]; exact allF_rising hr
    have hQl : Q.length < 1000000 := by
      have e1 : (texts Q).length = Q.length := List.length_map _
      have e2 := allF_len (A := texts R) (ts := ts.take i)
      rw [← hQt, List.length_take] at e2; omega
    refine sk ?_
    refine thN ?_
    refine sq ?_
    refine bk ?_
    refine drL 10 (.take 0 (.take 1 (.take 2 (.take 3 (.take 4 (.one 5 (.take 6 (.take 7 (.take 8 (.take 9 (.last 10))))))))))) wide (by decide +kernel) _ _ (.cons T0 (.cons T0 (.cons T0 .nil))) ?_
    refine pT rfl (vLdA ag30 rfl (rB T1 (.z (.c .n))) (by simp)) rfl ?_
    refine pT rfl (vMv rfl) rfl ?_
    refine pT rfl (vMv rfl) rfl ?_
    refine pT rfl (vIxSrc sl59 rfl rfl (SrcOk.takes hl (.cons T0 .nil)) (by first | omega | (simp only [Int.toNat_natCast, Int.reduceToNat, List.length_append, List.length_cons, List.length_nil, List.length_map, bid_len]; omega) | (simp <;> omega))) rfl ?_
    refine pT rfl (vLd sc9 rfl (rSrc (SrcOk.takes hl (.cons T0 .nil)) (gm (by first | omega | (simp only [Int.toNat_natCast, Int.reduceToNat, List.length_append, List.length_cons, List.length_nil, List.length_map, bid_len]; omega) | (simp <;> omega))))) rfl ?_
    refine pO ?_
    refine opL rfl rfl (call cf78 (With_spec hQ hrQ hQl (ts.getD i default) hti) rfl .nil rfl ?_)
    intro S1 r1 l1 hS1 hp1
    obtain ⟨w2, Q2, rfl, hQ2, htx, rfl⟩ := hp1
    replace h := h.mono hS1
    replace hpl := hpl.mono hS1
    replace hl := hl.mono hS1
    replace hq := hq.mono hS1
    replace hQ := hQ.mono hS1
    refine pK hS1 (.cons T0 (.cons T0 (.cons T0 .nil))) ?_
    have hq2 := hQ2.pl
    have hs7 := hq2.sc
    have htx2 : texts Q2 = allF (texts R) (ts.take (i + 1)) := by rw [htx, hnx, hQt]
    refine pT rfl (vMv rfl) rfl ?_
    refine pT rfl (vEx rfl rfl) rfl ?_
    refine pT rfl (vEx rfl rfl) rfl ?_
    refine pT rfl (vEx rfl rfl) rfl ?_
    refine pL ?_
    refine opL rfl rfl (store sz30 rfl rfl T1 (by simp) (.z (.c inferInstance inferInstance .n)) ?_)
    refine bkN ?_
    refine thN ?_
    refine rg ?_
    refine q (vMv rfl) rfl ?_
    refine q (vAdd rfl rfl (by first | omega | (simp only [Int.toNat_natCast, Int.reduceToNat, List.length_append, List.length_cons, List.length_nil, List.length_map, bid_len]; omega) | (simp <;> omega))) rfl ?_
    refine q (vAs rfl) rfl ?_
    refine nil ?_
    refine thN ?_
    refine back ((i + 1, w2, Q2)) (by assumption) ⟨⟨hq2, hQ2, htx2, by dsimp only; omega⟩, by dsimp only; omega⟩ (.cons rfl (by first | rfl | simp | (simp <;> omega)) (.cons rfl (by first | rfl | simp | (simp <;> omega)) (.cons rfl (by first | rfl | simp | (simp <;> omega)) (.cons rfl (by first | rfl | simp | (simp <;> omega)) .nil)))) (.cons T1 (Ent.Le.of (by first | rfl | simp | (simp <;> omega))) (.cons T0 (Ent.Le.of (by first | rfl | simp | (simp <;> omega))) (.cons T0 (Ent.Le.of (by first | rfl | simp | (simp <;> omega))) .nil)))
  · skip
    obtain rfl : i = ts.length := by omega
    rw [List.take_length] at hQt
    refine xt ?_
    refine thX ?_
    refine thX ?_
    refine bkX ?_
    refine thN ?_
    refine sq ?_
    refine rg ?_
    refine q (vLdA ag30 rfl (rB T1 (.z (.c .n))) (by simp)) rfl ?_
    refine l rfl (store sz30 rfl rfl T2 (by simp) (.z (.c inferInstance inferInstance .n)) ?_)
    refine nil ?_
    refine thN ?_
    refine rt ?_
    refine ret rfl (.c ag30 rfl (rB T0 (.z (.c .n))) (by simp) .nil) (.t T1 .nil) ⟨w, Q, rfl, hQ, hQt, rfl⟩
end Go.Proofs.YtjmigoikklkfdaaGreatDoor
namespace Go.Proofs.YtjmigoikklkfdaaGreatDoor
open Go
set_option linter.unusedVariables false
set_option linter.unusedSimpArgs false
set_option maxRecDepth 4000
theorem mkB {P : Program} {C : Ctx} {S : Mem} {e : Env} {L : List Ent} {ty : TypeId} {Q : Exit → Act → World → Prop} {K : Act → World → Prop} {d T E n by' : Nat} {pos aft g x y} {i : TypeInfo} {z : Value} (ht : P.underlying T = some (.slice E)) (hi : P.info? E = some i) (hz : i.zero = some z) (hzc : z.cells = #[.int .u8 0]) (hsz : i.size = 1) (hb : i.bytes = by')
    (hx : ev e x = some (.int .i64 (n : Int))) (hy : ev e y = some (.int .i64 (n : Int))) (hn : n ≤ 1000000) (hbn : (by' : Int) * n ≤ 281474976710656) (hd : Nat.blt d C.n = true)
    (h : ∀ b, W C S ((d, .slice (some ⟨b, 0, none⟩) n n) :: e) (sl (.slice (some ⟨b, 0, none⟩) n n) E 1 (b1 (List.replicate n 0)) :: L) K) : W C S e L (owp P Q ⟨some d, .makeSlice T x y, ty, pos, aft, g⟩ K) :=
  new_core (v := undef) (y := blk 0 0 []) hd rfl fun a w ha hc => by
    have hr := run_make (P := P) w T E i z ht hi hz .i64 .i64 n n (by omega) (by omega) (by rw [hb]; exact hbn) (by omega)
    have hl : (b1 (List.replicate n 0)).length = n := by rw [b1, List.length_map, List.length_replicate]
    have hm : ∀ y, y ∈ b1 (List.replicate n 0) → y.length = 1 := fun y hy => by
      obtain ⟨c, _, rfl⟩ := List.mem_map.1 hy; rfl
    have hcells : (madeCells z.cells ((n : Int).toNat * i.size)) = ((b1 (List.replicate n 0)).flatten ++ []).toArray := by
      apply Array.toList_inj.1
      rw [hzc, toList_madeCells_one, hsz, b1_flat, List.map_replicate]
      simp [u8v]
    have hst := Step.row hc E 1 (b1 (List.replicate n 0)) [] n hm (by rw [List.append_nil, flat_len hm, hl]) (by omega) (by simp only [maxLen]; omega) (w' := w.alloc (.cells (madeCells z.cells ((n : Int).toNat * i.size)) E)) (by rw [hcells]; rfl)
    rw [hl] at hst
    refine ⟨_, _, _, ?_, hst, h _⟩
    simp only [execOp, ha.ev hx, ha.ev hy, Sem.run_bind, hr]
    rfl
def lone : DObj := { zobj with kind := 3 }
def loneT : List UInt8 := [3, 35] ++ List.replicate 35 0
theorem lone_may : May lone := ⟨by decide, by decide, fun _ => rfl, fun _ => rfl, fun h => absurd rfl h, fun _ => ⟨rfl, rfl, rfl⟩, fun h => by simp [lone] at h, by decide, by decide, fun i hi => by simp [lone, zobj] at hi⟩
theorem lone_small : Small lone := ⟨by decide, by decide, by decide, by decide, by decide, fun i => by simp [lone, zobj]; decide⟩
theorem lone_enc : venc lone = loneT := by
  have h0 : vput 0 = [0] := vput_small (by decide)
  have h35 : vput 35 = [35] := vput_small (by decide)
  have hb : vbody lone = List.replicate 35 0 := by
    simp [vbody, vcom, vtext, lone, zobj, vids, h0]; rfl
  rw [venc, vtext, hb, List.length_replicate, h35]; rfl
theorem lone_ok : dOk loneT = true := dOk_iff.2 ⟨lone, lone_may, lone_small, by rw [lone_enc]; decide, lone_enc.symm⟩
theorem lone_dO : dO loneT = lone := by
  have := venc_parse lone_may lone_small
  rw [lone_enc] at this
  rw [dO, if_pos lone_ok, this]
theorem lone_put : allF [] [loneT] = [loneT] := by
  show putF [] loneT = _
  simp [putF, lone_ok]
theorem lone_rising : Rising (keys [loneT]) := List.pairwise_singleton _ _
theorem lone_fine : Fine [loneT] := fun t ht => by
  rw [List.mem_singleton.1 ht]; exact ⟨by decide, lone_ok⟩
theorem lone_get : getF [loneT] (sumF loneT) = loneT := by
  have hm : sumF loneT ∈ keys [loneT] := by simp
  have := low_lt lone_rising hm
  have h0 : low (sumF loneT) (keys [loneT]) = 0 := by simp at this ⊢; omega
  rw [getF, if_pos hm, h0]; rfl
theorem lone_obj : objF [loneT] (sumF loneT) = lone := by rw [objF, lone_get, lone_dO]
theorem refs_nil : RefsP [] := ⟨by decide, fun i hi => by simp at hi⟩
theorem shal_nil (A : List (List UInt8)) : ShalP A [] := ⟨fun i hi => by simp at hi, List.Pairwise.nil⟩
theorem whole0 : wholeN [] [] [] = 0 := by
  rw [wholeN, if_pos (refsB_iff.2 refs_nil), if_pos (shalB_iff.2 (shal_nil _)), if_pos (allRightB_iff.2 fun x hx => by simp at hx), if_pos]
  intro i hi; simp at hi
theorem whole7 : wholeN [loneT] [] [] = 7 := by
  rw [wholeN, if_pos (refsB_iff.2 refs_nil), if_pos (shalB_iff.2 (shal_nil _)), if_neg]
  rw [allRightB_iff]
  intro h
  have h1 := (h (sumF loneT) (by simp)).2 (zid, 2) (by
    rw [lone_obj, cutO, if_neg (by simp), linksF3 rfl]; exact List.mem_cons_self)
  by_cases hz : zid ∈ keys [loneT]
  · have hz' : zid = sumF loneT := by simpa using hz
    rw [hz', lone_obj] at h1
    exact absurd h1 (by decide)
  · rw [objF_none hz] at h1
    exact absurd h1 (by decide)
def badR : List DRef := [⟨[98], oneId 1⟩, ⟨[97], oneId 1⟩]
theorem whole8 (A : List (List UInt8)) : wholeN A badR [] = 8 := by
  rw [wholeN, if_neg]
  rw [refsB_iff]
  intro h
  have := (h.2 1 (by decide)).2.2 (by decide)
  exact absurd this (by decide)
theorem lone_lt : ∀ t, t ∈ [loneT] → t.length < 1073741824 := fun t ht => (lone_fine t ht).1
theorem knows14_spec (S : Mem) (constants_pb : PB S 0 0 (encW kW)) : Spec Tryz.prog 13 [] S [] (fun S' r L' => r = .bool true ∧ L' = []) := by
  refine enter Tryz.func13 rfl 41 rfl rfl (fun w0 => ?_)
  refine sq ?_
  refine rg ?_
  refine q (vAs rfl) rfl ?_
  refine nil ?_
  refine thN ?_
  refine sq ?_
  refine rg ?_
  refine q (vBuild st30 .nil) rfl ?_
  refine l rfl (alloc ze30 rfl ?_)
  intro B1
  refine l rfl (store sz30 rfl rfl T0 (by simp) (.z (.c inferInstance inferInstance .n)) ?_)
  refine nil ?_
  refine thN ?_
  refine sq ?_
  refine dr (.take 0 (.one 1 (.one 2 (.take 3 (.one 4 (.one 5 (.one 6 (.take 7 .done)))))))) wide (by decide +kernel) _ _ (.cons T0 .nil) ?_
  refine pT rfl (vLdA ag30 rfl (rB T0 (.z (.c .n))) (by simp)) rfl ?_
  refine pO ?_
  refine opL rfl rfl (mkB (by' := 1) (n := 35) Tryz.underlying23 rfl rfl rfl rfl rfl rfl rfl (by simp) (by simp) rfl ?_)
  intro B6
  refine pK (Le.refl _) (.cons T1 .nil) ?_
  refine pO ?_
  refine opL rfl rfl (qK (vToStr Tryz.underlying23 Tryz.underlying5 Tryz.underlying9 rfl (srcO T0) .b) rfl ?_)
  refine pK (Le.refl _) (.cons T1 .nil) ?_
  refine pT rfl (vCat rfl rfl (by first | omega | (simp only [Int.toNat_natCast, Int.reduceToNat, List.length_append, List.length_cons, List.length_nil, List.length_map, bid_len]; omega) | (simp <;> omega))) rfl ?_
  refine pO ?_
  refine opL rfl rfl (bslice sl59 ze9 (.c1 rfl inferInstance .nil) (by simp) rfl rfl rfl rfl ?_)
  intro B9
  refine pK (Le.refl _) (.cons T2 .nil) ?_
  refine pO ?_
  refine opL rfl rfl (call cf25 (All_spec (R := []) (ts := [loneT]) RS.nil rising_nil (by decide) (srcO T0) lone_lt) rfl (.cons T0 .nil) rfl ?_)
  intro S1 r1 l1 hS1 hp1
  obtain ⟨vr, R, rfl, hR, hRt, rfl⟩ := hp1
  replace constants_pb := constants_pb.mono hS1
  refine pK hS1 (.cons T2 .nil) ?_
  have hRt' : texts R = [loneT] := hRt.trans lone_put
  have hpl := hR.pl
  have hsc := hpl.sc
  have hRl : R.length = 1 := by
    have e1 : (texts R).length = R.length := List.length_map _
    rw [← e1, hRt']; rfl
  have hr : Rising (keys (texts R)) := by rw [hRt']; exact lone_rising
  have hF : Fine (texts R) := by rw [hRt']; exact lone_fine
  refine pO ?_
  refine opL rfl rfl (call cf29 (Of11_spec hR hr hF (by omega) constants_pb) rfl .nil rfl ?_)
  intro S2 r2 l2 hS2 hp2
  obtain ⟨b, v', rfl, rfl⟩ := hp2
  replace constants_pb := constants_pb.mono hS2
  replace hpl := hpl.mono hS2
  refine pK (Le.trans hS1 hS2) (.cons T4 .nil) ?_
  rw [hRt']
  have hr1 := lone_rising
  have hlt1 : [loneT].length < 1073741824 := by decide
  refine pT rfl (vAs rfl) rfl ?_
  refine pDone ?_
  refine thN ?_
  refine sq ?_
  refine sq ?_
  refine rg ?_
  refine q (vMv rfl) rfl ?_
  refine q (vEqNil Tryz.underlying42 rfl) rfl ?_
  refine nil ?_
  refine thN ?_
  refine cF rfl ?_
  refine sk ?_
  refine thN ?_
  refine sq ?_
  refine rg ?_
  refine q (vBuildId (c := 1) ze35 ar35 rfl) rfl ?_
  refine q (vBuild st37 (.cons rfl rfl inferInstance (by simp) (.z (.c inferInstance inferInstance .n)) (.cons rfl rfl inferInstance (by simp) (.s (.z (.c inferInstance inferInstance .n))) .nil))) rfl ?_
  refine q (vBuildId (c := 1) ze35 ar35 rfl) rfl ?_
  refine q (vBuild st37 (.cons rfl rfl inferInstance (by simp) (.z (.c inferInstance inferInstance .n)) (.cons rfl rfl inferInstance (by simp) (.s (.z (.c inferInstance inferInstance .n))) .nil))) rfl ?_
  refine l rfl (bslice sl26 ze37 (.cons rfl inferInstance (.cons rfl inferInstance .nil)) (by simp) rfl rfl rfl rfl ?_)
  intro B18
  refine q (vAs rfl) rfl ?_
  refine nil ?_
  refine thN ?_
  refine sq ?_
  refine rg ?_
  refine pub T0 (fun S3 hS3 hbad => ?_)
  replace constants_pb := constants_pb.mono hS3
  replace hpl := hpl.mono hS3
  have hbad2 : PSl _ _ 33 (badR.map encRf) := hbad
  have hbn : ∀ r, r ∈ badR → r.name.length < 4294967296 := fun r hr9 => by
    simp only [badR, List.mem_cons, List.not_mem_nil, or_false] at hr9
    rcases hr9 with rfl | rfl <;> decide
  refine l rfl (call cf66 (New_spec _) rfl .nil rfl ?_)
  intro S4 r4 l4 hS4 hp4
  obtain ⟨b2, rfl, rfl, rfl⟩ := hp4
  replace constants_pb := constants_pb.mono hS4
  replace hpl := hpl.mono hS4
  replace hbad := hbad.mono hS4
  replace hbad2 := hbad2.mono hS4
  refine q (vBuild st44 (.cons rfl rfl inferInstance (by simp) (.z (.c inferInstance inferInstance .n)) .nil)) rfl ?_
  refine l rfl (call cf20 (Whole_spec (A := []) (rf := []) (sh := []) rising_nil Fine.nil (by decide) PSl.nil (fun r hr9 => by cases hr9) (by decide) PSl.nil (by decide)) rfl (.cons T0 (.cons T0 .nil)) rfl ?_)
  intro S5 r5 l5 hS5 hp5
  obtain ⟨rfl, rfl⟩ := hp5
  replace constants_pb := constants_pb.mono hS5
  replace hpl := hpl.mono hS5
  replace hbad := hbad.mono hS5
  replace hbad2 := hbad2.mono hS5
  rw [whole0]
  refine q (vEq rfl rfl) rfl ?_
  refine q (vMv rfl) rfl ?_
  apply gAnd 23 27 4
  · rfl
  · intro hb1 hX1
    have hc1 := hb1 ; try simp only [bls, beq_iff_eq, bne_iff_ne, Int.reduceToNat, List.length_map] at hc1
    refine qT ⟨_, rfl, rfl⟩ (vMv rfl) rfl ?_
    refine lT rfl ⟨_, rfl, rfl⟩ (callP cf67 (Len_spec _ _ _ _) rfl (.cons T2 (.cons T2 .nil)) rfl ?_)
    refine qT ⟨_, rfl, rfl⟩ (vEq rfl rfl) rfl ?_
    refine q (vPkT rfl rfl) rfl ?_
    exact gTT 4 23 rfl rfl rfl rfl hb1 hX1
  · intro hb1 hX1
    have hc1 := hb1 ; try simp only [bls, beq_iff_eq, bne_iff_ne, Int.reduceToNat, List.length_map] at hc1
    refine qF ⟨_, _, rfl, rfl, rfl⟩ rfl ?_
    refine qF ⟨_, _, rfl, rfl, rfl⟩ rfl ?_
    refine qF ⟨_, _, rfl, rfl, rfl⟩ rfl ?_
    refine q (vPkF rfl rfl) rfl ?_
    exact gTF 4 23 rfl rfl rfl rfl hb1 hX1
  refine q (vMv rfl) rfl ?_
  refine split 28 rfl (fun hb => ?_) (fun hb => ?_)
  · skip
    refine qT ⟨_, rfl, rfl⟩ (vMv rfl) rfl ?_
    refine qT ⟨_, rfl, rfl⟩ (vBuild st44 (.cons rfl rfl inferInstance (by simp) (.z (.c inferInstance inferInstance .n)) .nil)) rfl ?_
    refine lT rfl ⟨_, rfl, rfl⟩ (call cf20 (Whole_spec (A := [loneT]) (rf := []) (sh := []) lone_rising lone_fine (by decide) PSl.nil (fun r hr9 => by cases hr9) (by decide) PSl.nil (by decide)) rfl (.cons T2 (.cons T2 .nil)) rfl ?_)
    intro S6 r6 l6 hS6 hp6
    obtain ⟨rfl, rfl⟩ := hp6
    replace constants_pb := constants_pb.mono hS6
    replace hpl := hpl.mono hS6
    replace hbad := hbad.mono hS6
    replace hbad2 := hbad2.mono hS6
    rw [whole7]
    refine qT ⟨_, rfl, rfl⟩ (vEq rfl rfl) rfl ?_
    refine q (vPkT rfl rfl) rfl ?_
    refine q (vMv rfl) rfl ?_
    refine split 34 rfl (fun hb2 => ?_) (fun hb2 => ?_)
    · skip
      refine qT ⟨_, rfl, rfl⟩ (vMv rfl) rfl ?_
      refine qT ⟨_, rfl, rfl⟩ (vMv rfl) rfl ?_
      refine qT ⟨_, rfl, rfl⟩ (vBuild st44 (.cons rfl rfl inferInstance (by simp) (.z (.c inferInstance inferInstance .n)) (.cons rfl rfl inferInstance (by simp) (.s (.z (.c inferInstance inferInstance .n))) .nil))) rfl ?_
      refine lT rfl ⟨_, rfl, rfl⟩ (call cf20 (Whole_spec (A := [loneT]) (rf := badR) (sh := []) lone_rising lone_fine (by decide) hbad2 hbn (by decide) PSl.nil (by decide)) rfl (.cons T0 (.cons T0 .nil)) rfl ?_)
      intro S7 r7 l7 hS7 hp7
      obtain ⟨rfl, rfl⟩ := hp7
      replace constants_pb := constants_pb.mono hS7
      replace hpl := hpl.mono hS7
      replace hbad := hbad.mono hS7
      replace hbad2 := hbad2.mono hS7
      rw [whole8]
      refine qT ⟨_, rfl, rfl⟩ (vEq rfl rfl) rfl ?_
      refine q (vPkT rfl rfl) rfl ?_
      refine q (vAs rfl) rfl ?_
      refine nil ?_
      refine thN ?_
      refine rt ?_
      refine ret rfl (.t rfl .nil) .nil ⟨rfl, rfl⟩
    · skip
      exact absurd hb2 (by decide)
  · skip
    exact absurd hb (by decide)
end Go.Proofs.YtjmigoikklkfdaaGreatDoor
namespace Go.Proofs.YtjmigoikklkfdaaGreatDoor
open Go
set_option linter.unusedVariables false
set_option linter.unusedSimpArgs false
set_option maxRecDepth 4000
theorem Spec.mono {P : Program} {f : Nat} {args : List Value} {S : Mem} {Lin : List Ent} {A B : Mem → Value → List Ent → Prop} (h : Spec P f args S Lin A) (hab : ∀ S' r L', A S' r L' → B S' r L') : Spec P f args S Lin B :=
  fun w hc => (h w hc).mono fun e w' ⟨v, S', Lo, h1, h2, h3⟩ => ⟨v, S', Lo, h1, hab _ _ _ h2, h3⟩
theorem SortedSc {v : Value} {ids : List BId} {S : Mem} (hl : PSl S v 32 (ids.map encId)) (hb : ids.length < 1073741824) :
    Spec Tryz.prog 17 [v] S [] (fun S' r L' => Sc r ∧ PSl S' r 32 ((sortF ids).map encId) ∧ L' = []) :=
  (Sorted_spec hl hb).mono fun _ _ _ h => ⟨h.1.sc, h⟩
theorem CheckTells_spec {vs vg vf vc vr vh : Value} {sd : List DSeed} {g f c : List UInt8} {rf : List DRef} {sh : List BId} {S : Mem} (h : Hist S vs vg vf vc sd g f c) (hrf : PSl S vr 33 (rf.map encRf)) (hrn : ∀ r, r ∈ rf → r.name.length ≤ 9223372036854775807) (hsh : PSl S vh 32 (sh.map encId)) (constants_pb : PB S 0 0 (encW kW)) :
    Spec Tryz.prog 3 [ag [[vs], [vg], [vf], [vc]], vr, vh] S [] (fun S' r L' => r = .bool true ∧ L' = []) := by
  have hS := h.s
  have hSl := hS.pl
  have hg := h.g
  have hf := h.f
  have hc := h.c
  have hs1 := hSl.sc
  have hs2 := hg.sc
  have hs3 := hf.sc
  have hs4 := hc.sc
  have hs5 := hrf.sc
  have hs6 := hsh.sc
  have hrl := hrf.mlen
  have hhl := hsh.mlen
  refine enter Tryz.func3 rfl 121 rfl rfl (fun w0 => ?_)
  refine sq ?_
  refine rg ?_
  refine l rfl (box rfl rfl ?_)
  intro B3
  refine q (vAs rfl) rfl ?_
  refine nil ?_
  refine thN ?_
  refine sq ?_
  refine rg ?_
  refine q (vLdA ag25 rfl (rB T0 (.z (.c (.c (.c (.c .n)))))) (by simp)) rfl ?_
  refine l rfl (call cf12 (Few12_spec h) rfl .nil rfl ?_)
  intro S1 r1 l1 hS1 hp1
  obtain ⟨vm, R, ok, rfl, hR, hr, hF, hRl, hfew, rfl⟩ := hp1
  replace h := h.mono hS1
  replace hSl := hSl.mono hS1
  replace hg := hg.mono hS1
  replace hf := hf.mono hS1
  replace hc := hc.mono hS1
  replace hS := hS.mono hS1
  replace hrf := hrf.mono hS1
  replace hsh := hsh.mono hS1
  replace constants_pb := constants_pb.mono hS1
  have hpl := hR.pl
  have hs7 := hpl.sc
  refine q (vMv rfl) rfl ?_
  refine q (vEx rfl rfl) rfl ?_
  refine q (vEx rfl rfl) rfl ?_
  refine l rfl (alloc ze30 rfl ?_)
  intro B7
  refine l rfl (store sz30 rfl rfl T0 (by simp) (.z (.c inferInstance inferInstance .n)) ?_)
  refine q (vAs rfl) rfl ?_
  refine nil ?_
  refine thN ?_
  refine sq ?_
  refine sq ?_
  refine rg ?_
  refine q (vMv rfl) rfl ?_
  refine q (vNot rfl) rfl ?_
  refine q (vMv rfl) rfl ?_
  apply gOr 28 32 4
  · rfl
  · intro hb1 hX1
    have hc1 := hb1 ; try simp only [bls, beq_iff_eq, bne_iff_ne, Int.reduceToNat, List.length_map] at hc1
    refine qF ⟨_, _, rfl, rfl, rfl⟩ rfl ?_
    refine qF ⟨_, _, rfl, rfl, rfl⟩ rfl ?_
    refine qF ⟨_, _, rfl, rfl, rfl⟩ rfl ?_
    refine q (vPkT rfl rfl) rfl ?_
    exact gOT 4 28 rfl rfl rfl rfl hb1 hX1
  · intro hb1 hX1
    have hc1 := hb1 ; try simp only [bls, beq_iff_eq, bne_iff_ne, Int.reduceToNat, List.length_map] at hc1
    refine qT ⟨_, rfl, rfl⟩ (vMv rfl) rfl ?_
    refine qT ⟨_, rfl, rfl⟩ (SrcOk.len (srcP hrf) Tryz.underlying26 rfl) rfl ?_
    refine qT ⟨_, rfl, rfl⟩ (vGt rfl rfl) rfl ?_
    refine q (vPkF rfl rfl) rfl ?_
    exact gOF 4 28 rfl rfl rfl rfl hb1 hX1
  refine q (vMv rfl) rfl ?_
  apply gOr 33 37 4
  · rfl
  · intro hb2 hX2
    have hc2 := hb2 ; try simp only [bls, beq_iff_eq, bne_iff_ne, Int.reduceToNat, List.length_map] at hc2
    refine qF ⟨_, _, rfl, rfl, rfl⟩ rfl ?_
    refine qF ⟨_, _, rfl, rfl, rfl⟩ rfl ?_
    refine qF ⟨_, _, rfl, rfl, rfl⟩ rfl ?_
    refine q (vPkT rfl rfl) rfl ?_
    exact gOT 4 33 rfl rfl rfl rfl hb2 hX2
  · intro hb2 hX2
    have hc2 := hb2 ; try simp only [bls, beq_iff_eq, bne_iff_ne, Int.reduceToNat, List.length_map] at hc2
    refine qT ⟨_, rfl, rfl⟩ (vMv rfl) rfl ?_
    refine qT ⟨_, rfl, rfl⟩ (SrcOk.len (srcP hsh) Tryz.underlying27 rfl) rfl ?_
    refine qT ⟨_, rfl, rfl⟩ (vGt rfl rfl) rfl ?_
    refine q (vPkF rfl rfl) rfl ?_
    exact gOF 4 33 rfl rfl rfl rfl hb2 hX2
  refine nil ?_
  refine thN ?_
  refine cd rfl (fun hd => ?_) (fun hd => ?_) <;> try simp only [bls, beq_iff_eq, bne_iff_ne, Int.reduceToNat, List.length_map] at hd
  · skip
    refine sq ?_
    refine rg ?_
    refine l rfl (call cf13 (knows14_spec _ constants_pb) rfl .nil rfl ?_)
    intro S2 r2 l2 hS2 hp2
    obtain ⟨rfl, rfl⟩ := hp2
    replace h := h.mono hS2
    replace hSl := hSl.mono hS2
    replace hg := hg.mono hS2
    replace hf := hf.mono hS2
    replace hc := hc.mono hS2
    replace hS := hS.mono hS2
    replace hrf := hrf.mono hS2
    replace hsh := hsh.mono hS2
    replace constants_pb := constants_pb.mono hS2
    replace hpl := hpl.mono hS2
    replace hR := hR.mono hS2
    refine q (vAs rfl) rfl ?_
    refine nil ?_
    refine thN ?_
    refine rt ?_
    refine thR ?_
    refine ret rfl (.t rfl .nil) .nil ⟨rfl, rfl⟩
  · skip
    have hFew := hfew (by simpa using hd.1.1)
    refine sk ?_
    refine thN ?_
    refine sq ?_
    refine sq ?_
    refine rg ?_
    refine q (vAs rfl) rfl ?_
    refine nil ?_
    refine thN ?_
    refine bk ?_
    refine loop (ι := Nat) (fun (i : Nat) => [(1, vr), (2, vh), (3, .pointer (some ⟨B3, 0, none⟩)), (7, .pointer (some ⟨B7, 0, none⟩)), (9, .int .i64 (i : Int))]) (fun (i : Nat) => [blk B7 30 [[vm]], blk B3 25 [[vs], [vg], [vf], [vc]]]) (fun (i : Nat) => fun S' => i ≤ rf.length ∧ ∀ j, j < i → (rf.getD j default).name.length ≤ 100) (fun (i : Nat) => rf.length - i) 0 ⟨Nat.zero_le _, fun j h => absurd h (Nat.not_lt_zero _)⟩ (.cons rfl (by first | rfl | simp | (simp <;> omega)) (.cons rfl (by first | rfl | simp | (simp <;> omega)) (.cons rfl (by first | rfl | simp | (simp <;> omega)) (.cons rfl (by first | rfl | simp | (simp <;> omega)) (.cons rfl (by first | rfl | simp | (simp <;> omega)) .nil))))) (.cons T0 (Ent.Le.of (by first | rfl | simp | (simp <;> omega))) (.cons T0 (Ent.Le.of (by first | rfl | simp | (simp <;> omega))) .nil)) ?_
    rintro i S2 hle2 ⟨h1, h2⟩
    replace h := h.mono hle2
    replace hSl := hSl.mono hle2
    replace hg := hg.mono hle2
    replace hf := hf.mono hle2
    replace hc := hc.mono hle2
    replace hS := hS.mono hle2
    replace hrf := hrf.mono hle2
    replace hsh := hsh.mono hle2
    replace constants_pb := constants_pb.mono hle2
    replace hpl := hpl.mono hle2
    replace hR := hR.mono hle2
    refine sq ?_
    refine sq ?_
    refine rg ?_
    refine q (vMv rfl) rfl ?_
    refine q (vMv rfl) rfl ?_
    refine q (SrcOk.len (srcP hrf) Tryz.underlying26 rfl) rfl ?_
    refine q (vLt rfl rfl) rfl ?_
    refine nil ?_
    refine thN ?_
    refine cd rfl (fun hi0 => ?_) (fun hi0 => ?_) <;> try simp only [bls, beq_iff_eq, bne_iff_ne, Int.reduceToNat, List.length_map] at hi0
    · skip
      have hi : i < rf.length := by omega
      have hni := hrn _ (getD_memR hi)
      refine sk ?_
      refine thN ?_
      refine sq ?_
      refine bk ?_
      refine sq ?_
      refine rg ?_
      refine q (vMv rfl) rfl ?_
      refine q (vMv rfl) rfl ?_
      refine q (vIxP sl26 rfl rfl hrf (by first | omega | (simp only [Int.toNat_natCast, Int.reduceToNat, List.length_append, List.length_cons, List.length_nil, List.length_map, bid_len]; omega) | (simp <;> omega))) rfl ?_
      refine q (vFp fa37_0 rfl (rP hrf (gm (by first | omega | (simp only [Int.toNat_natCast, Int.reduceToNat, List.length_append, List.length_cons, List.length_nil, List.length_map, bid_len]; omega) | (simp <;> omega))))) rfl ?_
      refine q (vLd sc9 rfl (Rd.at1 (rP hrf (gm (by first | omega | (simp only [Int.toNat_natCast, Int.reduceToNat, List.length_append, List.length_cons, List.length_nil, List.length_map, bid_len]; omega) | (simp <;> omega)))) (.z (.c .n)))) rfl ?_
      refine q (vLenS Tryz.underlying9 rfl) rfl ?_
      refine q (vGt rfl rfl) rfl ?_
      refine nil ?_
      refine thN ?_
      refine cd rfl (fun hq => ?_) (fun hq => ?_) <;> try simp only [bls, beq_iff_eq, bne_iff_ne, Int.reduceToNat, List.length_map] at hq
      · skip
        refine sq ?_
        refine rg ?_
        refine l rfl (call cf13 (knows14_spec _ constants_pb) rfl .nil rfl ?_)
        intro S3 r3 l3 hS3 hp3
        obtain ⟨rfl, rfl⟩ := hp3
        replace h := h.mono hS3
        replace hSl := hSl.mono hS3
        replace hg := hg.mono hS3
        replace hf := hf.mono hS3
        replace hc := hc.mono hS3
        replace hS := hS.mono hS3
        replace hrf := hrf.mono hS3
        replace hsh := hsh.mono hS3
        replace constants_pb := constants_pb.mono hS3
        replace hpl := hpl.mono hS3
        replace hR := hR.mono hS3
        refine q (vAs rfl) rfl ?_
        refine nil ?_
        refine thN ?_
        refine rt ?_
        refine bkR ?_
        refine thR ?_
        refine thR ?_
        refine bkR ?_
        refine thR ?_
        refine ret rfl (.t rfl .nil) .nil ⟨rfl, rfl⟩
      · skip
        refine sk ?_
        refine bkN ?_
        refine thN ?_
        refine rg ?_
        refine q (vMv rfl) rfl ?_
        refine q (vAdd rfl rfl (by first | omega | (simp only [Int.toNat_natCast, Int.reduceToNat, List.length_append, List.length_cons, List.length_nil, List.length_map, bid_len]; omega) | (simp <;> omega))) rfl ?_
        refine q (vAs rfl) rfl ?_
        refine nil ?_
        refine thN ?_
        refine back (i + 1) (Le.refl _) ⟨⟨by omega, below_succ h2 (by omega)⟩, by omega⟩ (.cons rfl (by first | rfl | simp | (simp <;> omega)) (.cons rfl (by first | rfl | simp | (simp <;> omega)) (.cons rfl (by first | rfl | simp | (simp <;> omega)) (.cons rfl (by first | rfl | simp | (simp <;> omega)) (.cons rfl (by first | rfl | simp | (simp <;> omega)) .nil))))) (.cons T0 (Ent.Le.of (by first | rfl | simp | (simp <;> omega))) (.cons T0 (Ent.Le.of (by first | rfl | simp | (simp <;> omega))) .nil))
    · skip
      obtain rfl : i = rf.length := by omega
      have hrn2 : ∀ r, r ∈ rf → r.name.length < 4294967296 := fun r hr9 => by
        obtain ⟨j, hj, rfl⟩ := List.getElem_of_mem hr9
        have := h2 j hj
        rw [List.getD_eq_getElem?_getD, List.getElem?_eq_getElem hj] at this
        simp only [Option.getD_some] at this
        omega
      have hcl : c.length ≤ 10 := hFew.c
      have hfl : f.length ≤ 10 := hFew.f
      refine xt ?_
      refine thX ?_
      refine thX ?_
      refine bkX ?_
      refine thN ?_
      refine sq ?_
      refine rg ?_
      refine q (vLdA ag25 rfl (rB T1 (.z (.c (.c (.c (.c .n)))))) (by simp)) rfl ?_
      refine l rfl (call cf14 (Named_spec h hFew) rfl .nil rfl ?_)
      intro S4 r4 l4 hS4 hp4
      obtain ⟨ids, hI, hil, rfl⟩ := hp4
      replace h := h.mono hS4
      replace hSl := hSl.mono hS4
      replace hg := hg.mono hS4
      replace hf := hf.mono hS4
      replace hc := hc.mono hS4
      replace hS := hS.mono hS4
      replace hrf := hrf.mono hS4
      replace hsh := hsh.mono hS4
      replace constants_pb := constants_pb.mono hS4
      replace hpl := hpl.mono hS4
      replace hR := hR.mono hS4
      refine q (vAs rfl) rfl ?_
      refine nil ?_
      refine thN ?_
      refine sq ?_
      refine rg ?_
      refine q (vMv rfl) rfl ?_
      refine q (vFa fa25_2 rfl) rfl ?_
      refine q (vLd sc23 rfl (rB1 T1 (.s (.s (.z (.c .n)))))) rfl ?_
      refine l rfl (call cf15 (Ids12_spec hI hf (by omega) (by omega)) rfl .nil rfl ?_)
      intro S5 r5 l5 hS5 hp5
      obtain ⟨hfr, rfl⟩ := hp5
      replace h := h.mono hS5
      replace hSl := hSl.mono hS5
      replace hg := hg.mono hS5
      replace hf := hf.mono hS5
      replace hc := hc.mono hS5
      replace hS := hS.mono hS5
      replace hrf := hrf.mono hS5
      replace hsh := hsh.mono hS5
      replace constants_pb := constants_pb.mono hS5
      replace hpl := hpl.mono hS5
      replace hR := hR.mono hS5
      replace hI := hI.mono hS5
      have hfrl : (idsF ids f).length ≤ 10 := by rw [idsF, List.length_map]; exact hfl
      generalize idsF ids f = frm at hfr hfrl
      refine q (vAs rfl) rfl ?_
      refine nil ?_
      refine thN ?_
      refine sq ?_
      refine rg ?_
      refine q (vMv rfl) rfl ?_
      refine q (vFa fa25_3 rfl) rfl ?_
      refine q (vLd sc23 rfl (rB1 T1 (.s (.s (.s (.z (.c .n))))))) rfl ?_
      refine l rfl (call cf15 (Ids12_spec hI hc (by omega) (by omega)) rfl .nil rfl ?_)
      intro S6 r6 l6 hS6 hp6
      obtain ⟨hct, rfl⟩ := hp6
      replace h := h.mono hS6
      replace hSl := hSl.mono hS6
      replace hg := hg.mono hS6
      replace hf := hf.mono hS6
      replace hc := hc.mono hS6
      replace hS := hS.mono hS6
      replace hrf := hrf.mono hS6
      replace hsh := hsh.mono hS6
      replace constants_pb := constants_pb.mono hS6
      replace hpl := hpl.mono hS6
      replace hR := hR.mono hS6
      replace hI := hI.mono hS6
      replace hfr := hfr.mono hS6
      have hctl : (idsF ids c).length ≤ 10 := by rw [idsF, List.length_map]; exact hcl
      generalize idsF ids c = cut at hct hctl
      have hsfr := hfr.sc
      have hsct := hct.sc
      refine q (vAs rfl) rfl ?_
      refine nil ?_
      refine thN ?_
      refine sq ?_
      refine rg ?_
      refine q (vLdA ag30 rfl (rB T0 (.z (.c .n))) (by simp)) rfl ?_
      refine q (vMv rfl) rfl ?_
      refine q (vMv rfl) rfl ?_
      refine q (vBuild st41 (.cons rfl rfl inferInstance (by simp) (.z (.c inferInstance inferInstance .n)) (.cons rfl rfl inferInstance (by simp) (.s (.z (.c inferInstance inferInstance .n))) (.cons rfl rfl inferInstance (by simp) (.s (.s (.z (.c inferInstance inferInstance .n)))) .nil)))) rfl ?_
      refine l rfl (alloc ze41 rfl ?_)
      intro B13
      refine l rfl (store sz41 rfl rfl T0 (by simp) (.z (.c inferInstance inferInstance (.c inferInstance inferInstance (.c inferInstance inferInstance .n)))) ?_)
      refine nil ?_
      refine thN ?_
      refine sq ?_
      refine rg ?_
      refine q (vLdA ag41 rfl (rB T0 (.z (.c (.c (.c .n))))) (by simp)) rfl ?_
      refine l rfl (call cf16 (Of14_spec hR hr hF (by omega) hs5 hs6 constants_pb) rfl .nil rfl ?_)
      intro S7 r7 l7 hS7 hp7
      obtain ⟨b, w1, rfl, rfl⟩ := hp7
      replace h := h.mono hS7
      replace hSl := hSl.mono hS7
      replace hg := hg.mono hS7
      replace hf := hf.mono hS7
      replace hc := hc.mono hS7
      replace hS := hS.mono hS7
      replace hrf := hrf.mono hS7
      replace hsh := hsh.mono hS7
      replace constants_pb := constants_pb.mono hS7
      replace hpl := hpl.mono hS7
      replace hR := hR.mono hS7
      replace hI := hI.mono hS7
      replace hfr := hfr.mono hS7
      replace hct := hct.mono hS7
      refine q (vMv rfl) rfl ?_
      refine q (vEx rfl rfl) rfl ?_
      refine q (vEx rfl rfl) rfl ?_
      refine l rfl (alloc ze44 rfl ?_)
      intro B14
      refine l rfl (store sz44 rfl rfl T0 (by simp) (.z (.c inferInstance inferInstance (.c inferInstance inferInstance (.c inferInstance inferInstance .n)))) ?_)
      refine q (vAs rfl) rfl ?_
      refine nil ?_
      refine thN ?_
      refine sq ?_
      refine sq ?_
      refine rg ?_
      refine q (vMv rfl) rfl ?_
      refine q (vNot rfl) rfl ?_
      refine nil ?_
      refine thN ?_
      refine cF rfl ?_
      refine sk ?_
      refine thN ?_
      refine sq ?_
      refine dr (.take 0 (.take 1 (.take 2 (.two 3 5 (.take 4 (.one 5 (.one 6 .done))) (.one 3 (.take 4 (.one 6 .done))))))) wide (by decide +kernel) _ _ (.cons T0 (.cons T0 (.cons T0 (.cons T0 (.cons T0 (.cons T0 .nil)))))) ?_
      refine pT rfl (vLdA ag30 rfl (rB T4 (.z (.c .n))) (by simp)) rfl ?_
      refine pT rfl (vMv rfl) rfl ?_
      refine pT rfl (vMv rfl) rfl ?_
      refine meet (ι := Value × Nat) (.one 6 .done) (fun (q : Value × Nat) => [(1, vr), (2, vh), (3, .pointer (some ⟨B3, 0, none⟩)), (7, .pointer (some ⟨B7, 0, none⟩)), (11, r5), (12, r6), (13, .pointer (some ⟨B13, 0, none⟩)), (14, .pointer (some ⟨B14, 0, none⟩)), (16, .pointer (some ⟨q.2, 0, none⟩)), (78, ag [[vm], [vr], [q.1]])]) (fun (q : Value × Nat) => [blk B14 44 [[ptr b 0], [vr], [vh]], blk b 204 [[w1]], sl w1 209 33 ((texts R).map encIt), blk B13 41 [[vm], [vr], [vh]], blk B7 30 [[vm]], blk B3 25 [[vs], [vg], [vf], [vc]], blk q.2 41 [[.slice none 0 0], [.slice none 0 0], [.slice none 0 0]]]) (fun (q : Value × Nat) => fun S' => PSl S' q.1 32 ((sortF cut).map encId)) ?_ ?_
      · intro key7
        refine pO2 ?_ ?_
        · refine opL rfl rfl (call cf17 (SortedSc hct (by omega)) rfl .nil rfl ?_)
          intro S8 r8 l8 hS8 hp8
          obtain ⟨hssx, hso, rfl⟩ := hp8
          replace h := h.mono hS8
          replace hSl := hSl.mono hS8
          replace hg := hg.mono hS8
          replace hf := hf.mono hS8
          replace hc := hc.mono hS8
          replace hS := hS.mono hS8
          replace hrf := hrf.mono hS8
          replace hsh := hsh.mono hS8
          replace constants_pb := constants_pb.mono hS8
          replace hpl := hpl.mono hS8
          replace hR := hR.mono hS8
          replace hI := hI.mono hS8
          replace hfr := hfr.mono hS8
          replace hct := hct.mono hS8
          refine pK hS8 (.cons T0 (.cons T0 (.cons T0 (.cons T0 (.cons T0 (.cons T0 .nil)))))) ?_
          refine pT rfl (vBuild st41 (.cons rfl rfl inferInstance (by simp) (.z (.c inferInstance inferInstance .n)) (.cons rfl rfl inferInstance (by simp) (.s (.z (.c inferInstance inferInstance .n))) (.cons rfl rfl inferInstance (by simp) (.s (.s (.z (.c inferInstance inferInstance .n)))) .nil)))) rfl ?_
          refine pO ?_
          refine opL rfl rfl (alloc ze41 rfl ?_)
          intro B16
          refine pK hS8 (.cons T1 (.cons T1 (.cons T1 (.cons T1 (.cons T1 (.cons T1 .nil)))))) ?_
          exact toKey key7 ((r8, B16)) (by assumption) hso (.cons rfl (by first | rfl | simp | (simp <;> omega)) (.cons rfl (by first | rfl | simp | (simp <;> omega)) (.cons rfl (by first | rfl | simp | (simp <;> omega)) (.cons rfl (by first | rfl | simp | (simp <;> omega)) (.cons rfl (by first | rfl | simp | (simp <;> omega)) (.cons rfl (by first | rfl | simp | (simp <;> omega)) (.cons rfl (by first | rfl | simp | (simp <;> omega)) (.cons rfl (by first | rfl | simp | (simp <;> omega)) (.cons rfl (by first | rfl | simp | (simp <;> omega)) (.cons rfl (by first | rfl | simp | (simp <;> omega)) .nil)))))))))) (.cons T1 (Ent.Le.of (by first | rfl | simp | (simp <;> omega))) (.cons T1 (Ent.Le.of (by first | rfl | simp | (simp <;> omega))) (.cons T1 (Ent.Le.of (by first | rfl | simp | (simp <;> omega))) (.cons T1 (Ent.Le.of (by first | rfl | simp | (simp <;> omega))) (.cons T1 (Ent.Le.of (by first | rfl | simp | (simp <;> omega))) (.cons T1 (Ent.Le.of (by first | rfl | simp | (simp <;> omega))) (.cons T0 (Ent.Le.of (by first | rfl | simp | (simp <;> omega))) .nil)))))))
        · refine opL rfl rfl (alloc ze41 rfl ?_)
          intro B16
          refine pK (Le.refl _) (.cons T1 (.cons T1 (.cons T1 (.cons T1 (.cons T1 (.cons T1 .nil)))))) ?_
          refine pO ?_
          refine opL rfl rfl (call cf17 (SortedSc hct (by omega)) rfl .nil rfl ?_)
          intro S8 r8 l8 hS8 hp8
          obtain ⟨hssx, hso, rfl⟩ := hp8
          replace h := h.mono hS8
          replace hSl := hSl.mono hS8
          replace hg := hg.mono hS8
          replace hf := hf.mono hS8
          replace hc := hc.mono hS8
          replace hS := hS.mono hS8
          replace hrf := hrf.mono hS8
          replace hsh := hsh.mono hS8
          replace constants_pb := constants_pb.mono hS8
          replace hpl := hpl.mono hS8
          replace hR := hR.mono hS8
          replace hI := hI.mono hS8
          replace hfr := hfr.mono hS8
          replace hct := hct.mono hS8
          refine pK hS8 (.cons T1 (.cons T1 (.cons T1 (.cons T1 (.cons T1 (.cons T1 .nil)))))) ?_
          refine pT rfl (vBuild st41 (.cons rfl rfl inferInstance (by simp) (.z (.c inferInstance inferInstance .n)) (.cons rfl rfl inferInstance (by simp) (.s (.z (.c inferInstance inferInstance .n))) (.cons rfl rfl inferInstance (by simp) (.s (.s (.z (.c inferInstance inferInstance .n)))) .nil)))) rfl ?_
          exact toKey key7 ((r8, B16)) (by assumption) hso (.cons rfl (by first | rfl | simp | (simp <;> omega)) (.cons rfl (by first | rfl | simp | (simp <;> omega)) (.cons rfl (by first | rfl | simp | (simp <;> omega)) (.cons rfl (by first | rfl | simp | (simp <;> omega)) (.cons rfl (by first | rfl | simp | (simp <;> omega)) (.cons rfl (by first | rfl | simp | (simp <;> omega)) (.cons rfl (by first | rfl | simp | (simp <;> omega)) (.cons rfl (by first | rfl | simp | (simp <;> omega)) (.cons rfl (by first | rfl | simp | (simp <;> omega)) (.cons rfl (by first | rfl | simp | (simp <;> omega)) .nil)))))))))) (.cons T1 (Ent.Le.of (by first | rfl | simp | (simp <;> omega))) (.cons T1 (Ent.Le.of (by first | rfl | simp | (simp <;> omega))) (.cons T1 (Ent.Le.of (by first | rfl | simp | (simp <;> omega))) (.cons T1 (Ent.Le.of (by first | rfl | simp | (simp <;> omega))) (.cons T1 (Ent.Le.of (by first | rfl | simp | (simp <;> omega))) (.cons T1 (Ent.Le.of (by first | rfl | simp | (simp <;> omega))) (.cons T0 (Ent.Le.of (by first | rfl | simp | (simp <;> omega))) .nil)))))))
      rintro ⟨w3, B16⟩ S9 hle9 hso
      replace h := h.mono hle9
      replace hSl := hSl.mono hle9
      replace hg := hg.mono hle9
      replace hf := hf.mono hle9
      replace hc := hc.mono hle9
      replace hS := hS.mono hle9
      replace hrf := hrf.mono hle9
      replace hsh := hsh.mono hle9
      replace constants_pb := constants_pb.mono hle9
      replace hpl := hpl.mono hle9
      replace hR := hR.mono hle9
      replace hI := hI.mono hle9
      replace hfr := hfr.mono hle9
      replace hct := hct.mono hle9
      dsimp only at hso ⊢
      have hsso := hso.sc
      have hsol : (sortF cut).length ≤ 10 := Nat.le_trans (sortF_len cut) hctl
      generalize sortF cut = own at hso hsol
      refine pO ?_
      refine opL rfl rfl (store sz41 rfl rfl (.s T5) (by simp) (.z (.c inferInstance inferInstance (.c inferInstance inferInstance (.c inferInstance inferInstance .n)))) ?_)
      refine pK hle9 (.cons T1 (.cons T1 (.cons T1 (.cons T1 (.cons T1 (.cons T1 .nil)))))) ?_
      refine pDone ?_
      refine thN ?_
      refine sq ?_
      refine rg ?_
      refine q (vLdA ag41 rfl (rB T0 (.z (.c (.c (.c .n))))) (by simp)) rfl ?_
      refine l rfl (call cf16 (Of14_spec hR hr hF (by omega) hs5 hsso constants_pb) rfl .nil rfl ?_)
      intro S58 r58 l58 hS58 hp58
      obtain ⟨b2, w2, rfl, rfl⟩ := hp58
      replace h := h.mono hS58
      replace hSl := hSl.mono hS58
      replace hg := hg.mono hS58
      replace hf := hf.mono hS58
      replace hc := hc.mono hS58
      replace hS := hS.mono hS58
      replace hrf := hrf.mono hS58
      replace hsh := hsh.mono hS58
      replace constants_pb := constants_pb.mono hS58
      replace hpl := hpl.mono hS58
      replace hR := hR.mono hS58
      replace hI := hI.mono hS58
      replace hfr := hfr.mono hS58
      replace hct := hct.mono hS58
      replace hso := hso.mono hS58
      have hA : (texts R).length < 10000 := by rw [List.length_map]; omega
      refine q (vMv rfl) rfl ?_
      refine q (vEx rfl rfl) rfl ?_
      refine q (vEx rfl rfl) rfl ?_
      refine l rfl (alloc ze44 rfl ?_)
      intro B17
      refine l rfl (store sz44 rfl rfl T0 (by simp) (.z (.c inferInstance inferInstance (.c inferInstance inferInstance (.c inferInstance inferInstance .n)))) ?_)
      refine q (vAs rfl) rfl ?_
      refine nil ?_
      refine thN ?_
      refine sq ?_
      refine rg ?_
      refine q (vFa fa44_0 rfl) rfl ?_
      refine q (vLd sc42 rfl (rB1 T4 (.z (.c .n)))) rfl ?_
      refine q (vMv rfl) rfl ?_
      refine q (vMv rfl) rfl ?_
      refine l rfl (call cf18 (Closed_spec hr hF hA hfr hct (by omega) (by omega)) rfl (.cons T5 (.cons T5 .nil)) rfl ?_)
      intro S59 r59 l59 hS59 hp59
      obtain ⟨rfl, rfl⟩ := hp59
      replace h := h.mono hS59
      replace hSl := hSl.mono hS59
      replace hg := hg.mono hS59
      replace hf := hf.mono hS59
      replace hc := hc.mono hS59
      replace hS := hS.mono hS59
      replace hrf := hrf.mono hS59
      replace hsh := hsh.mono hS59
      replace constants_pb := constants_pb.mono hS59
      replace hpl := hpl.mono hS59
      replace hR := hR.mono hS59
      replace hI := hI.mono hS59
      replace hfr := hfr.mono hS59
      replace hct := hct.mono hS59
      replace hso := hso.mono hS59
      refine q (vAs rfl) rfl ?_
      refine nil ?_
      refine thN ?_
      refine sq ?_
      refine rg ?_
      refine q (vLdA ag30 rfl (rB (.s (.s (.s T5))) (.z (.c .n))) (by simp)) rfl ?_
      refine q (vMv rfl) rfl ?_
      refine q (vMv rfl) rfl ?_
      refine l rfl (call cf19 (ref_Closed_spec hR hr hF (by omega) hfr hct (by omega)) rfl .nil rfl ?_)
      intro S60 r60 l60 hS60 hp60
      obtain ⟨rfl, rfl⟩ := hp60
      replace h := h.mono hS60
      replace hSl := hSl.mono hS60
      replace hg := hg.mono hS60
      replace hf := hf.mono hS60
      replace hc := hc.mono hS60
      replace hS := hS.mono hS60
      replace hrf := hrf.mono hS60
      replace hsh := hsh.mono hS60
      replace constants_pb := constants_pb.mono hS60
      replace hpl := hpl.mono hS60
      replace hR := hR.mono hS60
      replace hI := hI.mono hS60
      replace hfr := hfr.mono hS60
      replace hct := hct.mono hS60
      replace hso := hso.mono hS60
      generalize closedB (texts R) frm cut = cl
      refine q (vAs rfl) rfl ?_
      refine nil ?_
      refine thN ?_
      refine sq ?_
      refine dr (.one 0 (.take 1 (.take 2 (.take 4 (.one 3 (.one 5 (.take 6 (.take 7 (.take 8 (.take 9 (.take 11 (.one 10 (.one 12 (.take 13 (.take 14 (.take 15 (.take 16 (.take 17 (.take 18 (.take 19 (.take 20 (.take 21 (.take 22 (.take 23 (.take 24 (.take 25 (.take 26 (.take 27 (.take 28 .done))))))))))))))))))))))))))))) wide (by decide +kernel) _ _ (.cons T0 (.cons T0 (.cons T0 (.cons T0 (.cons T0 (.cons T0 (.cons T0 (.cons T0 (.cons T0 (.cons T0 .nil)))))))))) ?_
      refine pO ?_
      refine opL rfl rfl (call cf13 (knows14_spec _ constants_pb) rfl .nil rfl ?_)
      intro S61 r61 l61 hS61 hp61
      obtain ⟨rfl, rfl⟩ := hp61
      replace h := h.mono hS61
      replace hSl := hSl.mono hS61
      replace hg := hg.mono hS61
      replace hf := hf.mono hS61
      replace hc := hc.mono hS61
      replace hS := hS.mono hS61
      replace hrf := hrf.mono hS61
      replace hsh := hsh.mono hS61
      replace constants_pb := constants_pb.mono hS61
      replace hpl := hpl.mono hS61
      replace hR := hR.mono hS61
      replace hI := hI.mono hS61
      replace hfr := hfr.mono hS61
      replace hct := hct.mono hS61
      replace hso := hso.mono hS61
      refine pK hS61 (.cons T0 (.cons T0 (.cons T0 (.cons T0 (.cons T0 (.cons T0 (.cons T0 (.cons T0 (.cons T0 (.cons T0 .nil)))))))))) ?_
      refine pT rfl (vMv rfl) rfl ?_
      refine pTT rfl ⟨_, rfl, rfl⟩ (vLdA ag44 rfl (rB (.s T5) (.z (.c (.c (.c .n))))) (by simp)) rfl ?_
      refine pTT rfl ⟨_, rfl, rfl⟩ (vLdA ag41 rfl (rB (.s (.s T5)) (.z (.c (.c (.c .n))))) (by simp)) rfl ?_
      refine pO ?_
      refine opT rfl rfl ⟨_, rfl, rfl⟩ (call cf20 (Whole_spec hr hF hA hrf hrn2 (by omega) hsh (by omega)) rfl (.cons T0 (.cons T0 .nil)) rfl ?_)
      intro S62 r62 l62 hS62 hp62
      obtain ⟨rfl, rfl⟩ := hp62
      replace h := h.mono hS62
      replace hSl := hSl.mono hS62
      replace hg := hg.mono hS62
      replace hf := hf.mono hS62
      replace hc := hc.mono hS62
      replace hS := hS.mono hS62
      replace hrf := hrf.mono hS62
      replace hsh := hsh.mono hS62
      replace constants_pb := constants_pb.mono hS62
      replace hpl := hpl.mono hS62
      replace hR := hR.mono hS62
      replace hI := hI.mono hS62
      replace hfr := hfr.mono hS62
      replace hct := hct.mono hS62
      replace hso := hso.mono hS62
      refine pK (Le.trans hS61 hS62) (.cons T0 (.cons T0 (.cons T0 (.cons T0 (.cons T0 (.cons T0 (.cons T0 (.cons T0 (.cons T0 (.cons T0 .nil)))))))))) ?_
      refine pO ?_
      refine opT rfl rfl ⟨_, rfl, rfl⟩ (call cf21 (ref_Whole_spec hR hr hF (by omega) hrf hrn2 (by omega) hsh (by omega)) rfl .nil rfl ?_)
      intro S63 r63 l63 hS63 hp63
      obtain ⟨rfl, rfl⟩ := hp63
      replace h := h.mono hS63
      replace hSl := hSl.mono hS63
      replace hg := hg.mono hS63
      replace hf := hf.mono hS63
      replace hc := hc.mono hS63
      replace hS := hS.mono hS63
      replace hrf := hrf.mono hS63
      replace hsh := hsh.mono hS63
      replace constants_pb := constants_pb.mono hS63
      replace hpl := hpl.mono hS63
      replace hR := hR.mono hS63
      replace hI := hI.mono hS63
      replace hfr := hfr.mono hS63
      replace hct := hct.mono hS63
      replace hso := hso.mono hS63
      refine pK (Le.trans (Le.trans hS61 hS62) hS63) (.cons T0 (.cons T0 (.cons T0 (.cons T0 (.cons T0 (.cons T0 (.cons T0 (.cons T0 (.cons T0 (.cons T0 .nil)))))))))) ?_
      refine pTT rfl ⟨_, rfl, rfl⟩ (vEq rfl rfl) rfl ?_
      refine pT rfl (vPkT rfl rfl) rfl ?_
      refine pT rfl (vMv rfl) rfl ?_
      refine split 101 rfl (fun hb => ?_) (fun hb => ?_)
      · skip
        refine pTT rfl ⟨_, rfl, rfl⟩ (vLdA ag44 rfl (rB T2 (.z (.c (.c (.c .n))))) (by simp)) rfl ?_
        refine pTT rfl ⟨_, rfl, rfl⟩ (vLdA ag41 rfl (rB T5 (.z (.c (.c (.c .n))))) (by simp)) rfl ?_
        refine pO ?_
        refine opT rfl rfl ⟨_, rfl, rfl⟩ (call cf20 (Whole_spec hr hF hA hrf hrn2 (by omega) hso (by omega)) rfl (.cons T3 (.cons T3 .nil)) rfl ?_)
        intro S64 r64 l64 hS64 hp64
        obtain ⟨rfl, rfl⟩ := hp64
        replace h := h.mono hS64
        replace hSl := hSl.mono hS64
        replace hg := hg.mono hS64
        replace hf := hf.mono hS64
        replace hc := hc.mono hS64
        replace hS := hS.mono hS64
        replace hrf := hrf.mono hS64
        replace hsh := hsh.mono hS64
        replace constants_pb := constants_pb.mono hS64
        replace hpl := hpl.mono hS64
        replace hR := hR.mono hS64
        replace hI := hI.mono hS64
        replace hfr := hfr.mono hS64
        replace hct := hct.mono hS64
        replace hso := hso.mono hS64
        refine pK (Le.trans (Le.trans (Le.trans hS61 hS62) hS63) hS64) (.cons T2 (.cons T2 (.cons T2 (.cons T0 (.cons T0 (.cons T0 (.cons T0 (.cons T0 (.cons T0 (.cons T0 .nil)))))))))) ?_
        refine pO ?_
        refine opT rfl rfl ⟨_, rfl, rfl⟩ (call cf21 (ref_Whole_spec hR hr hF (by omega) hrf hrn2 (by omega) hso (by omega)) rfl .nil rfl ?_)
        intro S65 r65 l65 hS65 hp65
        obtain ⟨rfl, rfl⟩ := hp65
        replace h := h.mono hS65
        replace hSl := hSl.mono hS65
        replace hg := hg.mono hS65
        replace hf := hf.mono hS65
        replace hc := hc.mono hS65
        replace hS := hS.mono hS65
        replace hrf := hrf.mono hS65
        replace hsh := hsh.mono hS65
        replace constants_pb := constants_pb.mono hS65
        replace hpl := hpl.mono hS65
        replace hR := hR.mono hS65
        replace hI := hI.mono hS65
        replace hfr := hfr.mono hS65
        replace hct := hct.mono hS65
        replace hso := hso.mono hS65
        refine pK (Le.trans (Le.trans (Le.trans (Le.trans hS61 hS62) hS63) hS64) hS65) (.cons T2 (.cons T2 (.cons T2 (.cons T0 (.cons T0 (.cons T0 (.cons T0 (.cons T0 (.cons T0 (.cons T0 .nil)))))))))) ?_
        refine pTT rfl ⟨_, rfl, rfl⟩ (vEq rfl rfl) rfl ?_
        refine pT rfl (vPkT rfl rfl) rfl ?_
        refine pT rfl (vMv rfl) rfl ?_
        apply pAnd 108 113 5
        · rfl
        · intro hb4 hX4
          have hc4 := hb4 ; try simp only [bls, beq_iff_eq, bne_iff_ne, Int.reduceToNat, List.length_map] at hc4
          refine pTT rfl ⟨_, rfl, rfl⟩ (vMv rfl) rfl ?_
          refine pTT rfl ⟨_, rfl, rfl⟩ (vEq rfl rfl) rfl ?_
          refine pTT rfl ⟨_, rfl, rfl⟩ (vMv rfl) rfl ?_
          refine pTT rfl ⟨_, rfl, rfl⟩ (vEqB Tryz.underlying4 rfl rfl) rfl ?_
          refine pT rfl (vPkT rfl rfl) rfl ?_
          exact gTT 5 108 rfl rfl rfl rfl hb4 hX4
        · intro hb4 hX4
          have hc4 := hb4 ; try simp only [bls, beq_iff_eq, bne_iff_ne, Int.reduceToNat, List.length_map] at hc4
          refine pTF rfl ⟨_, _, rfl, rfl, rfl⟩ rfl ?_
          refine pTF rfl ⟨_, _, rfl, rfl, rfl⟩ rfl ?_
          refine pTF rfl ⟨_, _, rfl, rfl, rfl⟩ rfl ?_
          refine pTF rfl ⟨_, _, rfl, rfl, rfl⟩ rfl ?_
          refine pT rfl (vPkF rfl rfl) rfl ?_
          exact gTF 5 108 rfl rfl rfl rfl hb4 hX4
        refine pT rfl (vMv rfl) rfl ?_
        apply pAnd 114 120 6
        · rfl
        · intro hb5 hX5
          have hc5 := hb5 ; try simp only [bls, beq_iff_eq, bne_iff_ne, Int.reduceToNat, List.length_map] at hc5
          refine pTT rfl ⟨_, rfl, rfl⟩ (vMv rfl) rfl ?_
          refine pTT rfl ⟨_, rfl, rfl⟩ (vMv rfl) rfl ?_
          apply pOr 116 119 3
          · rfl
          · intro hb6 hX6
            have hc6 := hb6 ; try simp only [bls, beq_iff_eq, bne_iff_ne, Int.reduceToNat, List.length_map] at hc6
            refine pTF rfl ⟨_, _, rfl, rfl, rfl⟩ rfl ?_
            refine pTF rfl ⟨_, _, rfl, rfl, rfl⟩ rfl ?_
            refine pTT rfl ⟨_, rfl, rfl⟩ (vPkT rfl rfl) rfl ?_
            exact gOT 3 116 rfl rfl rfl rfl hb6 hX6
          · intro hb6 hX6
            have hc6 := hb6 ; try simp only [bls, beq_iff_eq, bne_iff_ne, Int.reduceToNat, List.length_map] at hc6
            refine pTT rfl ⟨_, rfl, rfl⟩ (vMv rfl) rfl ?_
            refine pTT rfl ⟨_, rfl, rfl⟩ (vEq rfl rfl) rfl ?_
            refine pTT rfl ⟨_, rfl, rfl⟩ (vPkF rfl rfl) rfl ?_
            exact gOF 3 116 rfl rfl rfl rfl hb6 hX6
          refine pT rfl (vPkT rfl rfl) rfl ?_
          exact gTT 4 114 rfl rfl rfl rfl hb5 hX5
        · intro hb5 hX5
          have hc5 := hb5 ; try simp only [bls, beq_iff_eq, bne_iff_ne, Int.reduceToNat, List.length_map] at hc5
          refine pTF rfl ⟨_, _, rfl, rfl, rfl⟩ rfl ?_
          refine pTF rfl ⟨_, _, rfl, rfl, rfl⟩ rfl ?_
          refine pTF rfl ⟨_, _, rfl, rfl, rfl⟩ rfl ?_
          refine pTF rfl ⟨_, _, rfl, rfl, rfl⟩ rfl ?_
          refine pTF rfl ⟨_, _, rfl, rfl, rfl⟩ rfl ?_
          refine pT rfl (vPkF rfl rfl) rfl ?_
          exact gTF 6 114 rfl rfl rfl rfl hb5 hX5
        refine pT rfl (vAs rfl) rfl ?_
        refine pDone ?_
        refine thN ?_
        refine rt ?_
        refine ret rfl (.t rfl .nil) .nil ⟨by cases cl <;> simp [pack], rfl⟩
      · skip
        exact absurd hb (by simp)
end Go.Proofs.YtjmigoikklkfdaaGreatDoor
namespace Go.Proofs.YtjmigoikklkfdaaGreatDoor
open Go
set_option linter.unusedVariables false
set_option linter.unusedSimpArgs false
def snap (W : World) : Mem := fun b o => W.cell? ⟨b, o, none⟩
theorem Cls.snap (W : World) : Cls (snap W) [] W := ⟨fun b o v h => h, fun _ h => by simp at h, .nil, fun _ h => by simp at h⟩
theorem mapM_len {α β : Type} {f : α → Option β} : ∀ {l : List α} {r : List β}, l.mapM f = some r → r.length = l.length
  | [], r, h => by simp at h; subst h; rfl
  | x :: l, r, h => by
    simp only [List.mapM_cons, Option.bind_eq_bind, Option.bind_eq_some_iff, Option.pure_def, Option.some.injEq] at h
    obtain ⟨b, _, r', hr', rfl⟩ := h
    rw [List.length_cons, List.length_cons, mapM_len hr']
theorem cells_get {W : World} {base n : Nat} {a : Addr} {cs : List Value} (h : W.cells? base a n = some cs) : cs.length = n ∧ ∀ r y, cs[r]? = some y → W.cell? (a.add r) = some y := by
  unfold World.cells? at h
  split at h
  · have hl := mapM_len h
    rw [List.length_range] at hl
    refine ⟨hl, fun r y hy => ?_⟩
    have hr : r < n := by
      have := (List.getElem?_eq_some_iff.1 hy).1; omega
    obtain ⟨b, hb, hf⟩ := Lib.mapM_at h r r (by simp [hr])
    rw [hb] at hy
    rw [hf]; exact hy
  · cases h
theorem flat_at {m : Nat} : ∀ {xs : List (List Value)}, (∀ x, x ∈ xs → x.length = m) → ∀ {j : Nat} {y : Value}, xs.flatten[j]? = some y → ∃ i r x, j = i * m + r ∧ xs[i]? = some x ∧ x[r]? = some y
  | [], _, j, y, h => by simp at h
  | x :: xs, hm, j, y, h => by
    rw [List.flatten_cons] at h
    have hx := hm x (by simp)
    rcases Nat.lt_or_ge j x.length with h1 | h1
    · rw [List.getElem?_append_left h1] at h
      exact ⟨0, j, x, by omega, rfl, h⟩
    · rw [List.getElem?_append_right h1] at h
      obtain ⟨i, r, z, e, h2, h3⟩ := flat_at (fun z hz => hm z (by simp [hz])) h
      exact ⟨i + 1, r, z, by rw [Nat.add_mul]; omega, by simpa using h2, h3⟩
theorem add_spot {a : Addr} {p r : Nat} (h : a.spot = none) : (a.add p).add r = ⟨a.block, a.off + (p + r), none⟩ := by
  obtain ⟨b, o, s⟩ := a
  dsimp only at h
  subst h
  rw [add0, add0]; simp only [Addr.mk.injEq, true_and, and_true]; omega
section
variable {H : Type} {enc : TypeId × Value → H} {P : Program} {W : World} {base : Nat} {held : Bool} {sp : Nat → Bool}
theorem open_psl {t e m : Nat} {fuel : Nat} {cs : List Value} {x : DataW H × List MemPlace} (ht : P.underlying t = some (.slice e)) (he : P.cellsOf e = m) (hm : 0 < m) (h : DataW.trod enc P W base sp held fuel t cs = some x) :
    ∃ v xs, cs = [v] ∧ PX (snap W) v m xs ∧ ((∀ a l c, v = .slice (some a) l c → a.spot = none) → PSl (snap W) v m xs) ∧ ∀ y, y ∈ xs → ∃ n z, DataW.trod enc P W base sp held n e y = some z := by
  rcases Deep.open_slice ht h with ⟨rfl, _⟩ | ⟨a, len, cap, mm, n, D, Pl, rfl, hb, hl, hc, hmm, _, hel⟩
  · exact ⟨_, [], rfl, .inl PSl.nil, fun _ => PSl.nil, fun y hy => by simp at hy⟩
  · have hlm : len ≤ mm := by rw [hmm]; split <;> omega
    let row : Nat → List Value := fun i => (W.cells? base (a.add (i * P.cellsOf e)) (P.cellsOf e)).getD []
    have hrow : ∀ i, i < len → W.cells? base (a.add (i * P.cellsOf e)) (P.cellsOf e) = some (row i) ∧ ∃ n z, DataW.trod enc P W base sp held n e (row i) = some z := fun i hi => by
      obtain ⟨cs', h1, h2⟩ := hel i (by omega)
      have : row i = cs' := by show (W.cells? _ _ _).getD [] = cs'; rw [h1]; rfl
      rw [this]; exact ⟨h1, _, _, h2⟩
    have hlen : ((List.range len).map row).length = len := by simp
    have hrl : ∀ x, x ∈ (List.range len).map row → x.length = m := fun x hx => by
      obtain ⟨i, hi, rfl⟩ := List.mem_map.1 hx
      rw [(cells_get (hrow i (by simpa using hi)).1).1, he]
    have key : a.spot = none → PSl (snap W) (.slice (some a) len cap) m ((List.range len).map row) := fun hs => by
      refine ⟨hrl, .inr ⟨a.block, a.off, cap, ?_, by rw [hlen]; exact hl, hc, fun j y hj => ?_⟩⟩
      · rw [hlen]; obtain ⟨b, o, s⟩ := a; dsimp only at hs; subst hs; rfl
      · obtain ⟨i, r, x, rfl, hx, hy⟩ := flat_at hrl hj
        have hi : i < len := by have := (List.getElem?_eq_some_iff.1 hx).1; rwa [hlen] at this
        have hx' : row i = x := by
          rw [List.getElem?_map, List.getElem?_range hi] at hx
          simpa using hx
        have := (cells_get (hrow i hi).1).2 r y (by rw [hx']; exact hy)
        rw [add_spot hs, he] at this
        exact this
    refine ⟨_, (List.range len).map row, rfl, ?_, fun h9 => key (h9 a len cap rfl), fun y hy => ?_⟩
    · rcases Nat.eq_zero_or_pos len with h0 | h0
      · subst h0; exact .inr ⟨rfl, _, _, rfl⟩
      · refine .inl (key ?_)
        have h1 := cells_get (hrow 0 h0).1
        rw [he] at h1
        have h2 := h1.2 0 ((row 0)[0]'(by omega)) (by rw [List.getElem?_eq_getElem])
        have h3 := World.cell?_spot h2
        simpa [Addr.add] using h3
    · obtain ⟨i, hi, rfl⟩ := List.mem_map.1 hy
      exact (hrow i (by simpa using hi)).2
theorem rows_of {α : Type} {f : α → List Value} {p : α → Prop} : ∀ {xs : List (List Value)}, (∀ y, y ∈ xs → ∃ a, y = f a ∧ p a) → ∃ l : List α, xs = l.map f ∧ ∀ a, a ∈ l → p a
  | [], _ => ⟨[], rfl, fun _ h => by simp at h⟩
  | y :: xs, h => by
    obtain ⟨a, rfl, ha⟩ := h y (by simp)
    obtain ⟨l, rfl, hl⟩ := rows_of (xs := xs) (fun z hz => h z (by simp [hz]))
    exact ⟨a :: l, rfl, fun b hb => by
      rcases List.mem_cons.1 hb with rfl | hb
      · exact ha
      · exact hl b hb⟩
theorem open_u8 {t : Nat} {fuel : Nat} {cs : List Value} {x : DataW H × List MemPlace} (ht : P.underlying t = some (.int .u8)) (h : DataW.trod enc P W base sp held fuel t cs = some x) : ∃ c : UInt8, cs = [u8v c] := by
  obtain ⟨n, rfl, _, hw⟩ := DataW.trod_int ht h
  simp only [Lit.wf, Bool.and_eq_true, decide_eq_true_eq, IntKind.min, IntKind.max, IntKind.signed, IntKind.bits] at hw
  obtain ⟨k, rfl⟩ := Int.eq_ofNat_of_zero_le (by simpa using hw.1)
  have hk : k < 256 := by have := hw.2; simp at this; omega
  exact ⟨UInt8.ofNat k, by simp only [u8v, UInt8.toNat_ofNat', Int.ofNat_eq_natCast, Nat.mod_eq_of_lt hk]⟩
theorem open_u16 {t : Nat} {fuel : Nat} {cs : List Value} {x : DataW H × List MemPlace} (ht : P.underlying t = some (.int .u16)) (h : DataW.trod enc P W base sp held fuel t cs = some x) : ∃ k : Nat, k < 65536 ∧ cs = [.int .u16 (k : Int)] := by
  obtain ⟨n, rfl, _, hw⟩ := DataW.trod_int ht h
  simp only [Lit.wf, Bool.and_eq_true, decide_eq_true_eq, IntKind.min, IntKind.max, IntKind.signed, IntKind.bits] at hw
  obtain ⟨k, rfl⟩ := Int.eq_ofNat_of_zero_le (by simpa using hw.1)
  have hk : k < 65536 := by have := hw.2; simp at this; omega
  exact ⟨k, hk, rfl⟩
theorem open_str {t : Nat} {fuel : Nat} {cs : List Value} {x : DataW H × List MemPlace} (ht : P.underlying t = some .string) (h : DataW.trod enc P W base sp held fuel t cs = some x) : ∃ s : List UInt8, cs = [str s] ∧ s.length ≤ 9223372036854775807 := by
  obtain ⟨s, rfl, _, hs⟩ := DataW.trod_string ht h
  refine ⟨s.data.toList, rfl, ?_⟩
  have : s.data.toList.length = s.size := rfl
  rw [this]; simp only [maxLen] at hs; omega
theorem open_bytes {t e : Nat} {fuel : Nat} {cs : List Value} {x : DataW H × List MemPlace} (ht : P.underlying t = some (.slice e)) (he : P.underlying e = some (.int .u8)) (hc : P.cellsOf e = 1) (h : DataW.trod enc P W base sp held fuel t cs = some x) :
    ∃ v nb, cs = [v] ∧ PX (snap W) v 1 (b1 nb) ∧ ((∀ a l c, v = .slice (some a) l c → a.spot = none) → PSl (snap W) v 1 (b1 nb)) := by
  obtain ⟨v, xs, rfl, h1, h2, h3⟩ := open_psl ht hc (by decide) h
  obtain ⟨nb, rfl, _⟩ := rows_of (f := fun c : UInt8 => [u8v c]) (p := fun _ => True) (fun y hy => by
    obtain ⟨n, z, hz⟩ := h3 y hy
    obtain ⟨c, rfl⟩ := open_u8 he hz
    exact ⟨c, rfl, trivial⟩)
  exact ⟨v, nb, rfl, h1, h2⟩
theorem open_id {t e : Nat} {fuel : Nat} {cs : List Value} {x : DataW H × List MemPlace} (ht : P.underlying t = some (.array 32 e)) (he : P.underlying e = some (.int .u8)) (hc : P.cellsOf e = 1) (hct : P.cellsOf t = 32) (h : DataW.trod enc P W base sp held fuel t cs = some x) : ∃ i : BId, cs = encId i := by
  obtain ⟨xs, n, rfl, _, hl, hxl, hel⟩ := DataW.trod_array ht h
  rw [hct] at hl
  obtain ⟨l, hl2, _⟩ := rows_of (xs := cs.map fun c => [c]) (f := fun c : UInt8 => [u8v c]) (p := fun _ => True) (fun y hy => by
    obtain ⟨c, hcm, rfl⟩ := List.mem_map.1 hy
    obtain ⟨i, hi, rfl⟩ := List.getElem_of_mem hcm
    have h1 := hel i (by omega)
    have h2 : i < xs.length := by omega
    rw [hc, Nat.mul_one, List.getElem?_eq_getElem h2] at h1
    have h4 : (cs.drop i).take 1 = [cs[i]] := by rw [List.drop_eq_getElem_cons hi]; rfl
    rw [h4] at h1
    obtain ⟨c, hc'⟩ := open_u8 he h1
    exact ⟨c, hc', trivial⟩)
  have hcs : cs = l.map u8v := by
    have := congrArg (fun z : List (List Value) => z.flatten) hl2
    have e1 : ∀ (q : List Value), (q.map fun c => [c]).flatten = q := fun q => by induction q with
      | nil => rfl
      | cons a q ih => rw [List.map_cons, List.flatten_cons, ih]; rfl
    have e2 : (l.map fun c : UInt8 => [u8v c]) = (l.map u8v).map fun c => [c] := by rw [List.map_map]; rfl
    rw [e1, e2, e1] at this
    exact this
  have hll : l.length = 32 := by rw [hcs, List.length_map] at hl; exact hl
  exact ⟨⟨l, hll⟩, hcs⟩
end
end Go.Proofs.YtjmigoikklkfdaaGreatDoor
namespace Go.Proofs.YtjmigoikklkfdaaGreatDoor
open Go Go.RowKit Go.ChangeShapes Go.WideShapes
set_option linter.unusedVariables false
set_option linter.unusedSimpArgs false
set_option maxRecDepth 100000
theorem c5 : Tryz.prog.cellsOf 5 = 1 := by kernel_rfl
theorem c9 : Tryz.prog.cellsOf 9 = 1 := by kernel_rfl
theorem c198 : Tryz.prog.cellsOf 198 = 1 := by kernel_rfl
theorem c23 : Tryz.prog.cellsOf 23 = 1 := by kernel_rfl
theorem c22 : Tryz.prog.cellsOf 22 = 1 := by kernel_rfl
theorem c35 : Tryz.prog.cellsOf 35 = 32 := by kernel_rfl
theorem c37 : Tryz.prog.cellsOf 37 = 33 := by kernel_rfl
theorem c200 : Tryz.prog.cellsOf 200 = 4 := by kernel_rfl
theorem c25 : Tryz.prog.cellsOf 25 = 4 := by kernel_rfl
theorem ct25 : Tryz.prog.cellTypes Tryz.prog.depth 25 = some [22, 23, 23, 23] := by kernel_rfl
section
variable {H : Type} {enc : TypeId × Value → H} {W : World} {base : Nat} {held : Bool} {sp : Nat → Bool}
theorem list4 {l : List Value} (h : l.length = 4) : ∃ a b c d, l = [a, b, c, d] := by
  match l, h with
  | [a, b, c, d], _ => exact ⟨a, b, c, d, rfl⟩
theorem open_ids {fuel : Nat} {cs : List Value} {x : DataW H × List MemPlace} (h : DataW.trod enc Tryz.prog W base sp held fuel 27 cs = some x) :
    ∃ v ids, cs = [v] ∧ ((∀ a l c, v = .slice (some a) l c → a.spot = none) → PSl (snap W) v 32 ((ids : List BId).map encId)) := by
  obtain ⟨v, xs, rfl, h1, h2, h3⟩ := open_psl Tryz.underlying27 c35 (by decide) h
  obtain ⟨ids, rfl, _⟩ := rows_of (f := encId) (p := fun _ => True) (fun y hy => by
    obtain ⟨n, z, hz⟩ := h3 y hy
    obtain ⟨i, rfl⟩ := open_id Tryz.underlying35 Tryz.underlying5 c5 c35 hz
    exact ⟨i, rfl, trivial⟩)
  exact ⟨v, ids, rfl, h2⟩
theorem open_ref {fuel : Nat} {cs : List Value} {x : DataW H × List MemPlace} (h : DataW.trod enc Tryz.prog W base sp held fuel 37 cs = some x) : ∃ r : DRef, cs = encRf r ∧ r.name.length ≤ 9223372036854775807 := by
  obtain ⟨xs, n, rfl, _, hl, hxl, hel⟩ := DataW.trod_struct Tryz.underlying37 h
  rw [c37] at hl
  obtain ⟨hd, tl, rfl⟩ : ∃ a r, cs = a :: r := by
    match cs, hl with
    | a :: r, _ => exact ⟨a, r, rfl⟩
  have h0 : DataW.trod enc Tryz.prog W base sp held n 9 (((hd :: tl).drop 0).take (Tryz.prog.cellsOf 9)) = xs[0]? := hel 0 _ rfl
  have h1 : DataW.trod enc Tryz.prog W base sp held n 35 (((hd :: tl).drop 1).take (Tryz.prog.cellsOf 35)) = xs[1]? := hel 1 _ rfl
  obtain ⟨y0, hx0⟩ : ∃ y, xs[0]? = some y := ⟨_, List.getElem?_eq_getElem (by rw [hxl]; decide)⟩
  obtain ⟨y1, hx1⟩ : ∃ y, xs[1]? = some y := ⟨_, List.getElem?_eq_getElem (by rw [hxl]; decide)⟩
  rw [hx0, c9] at h0
  rw [hx1, c35] at h1
  obtain ⟨s, hs, hsl⟩ := open_str Tryz.underlying9 h0
  obtain ⟨i, hi⟩ := open_id Tryz.underlying35 Tryz.underlying5 c5 c35 h1
  simp only [List.drop_zero, List.take_succ_cons, List.take_zero, List.cons.injEq, and_true] at hs
  have hi' : tl = encId i := by
    rw [← hi]
    show tl = ((hd :: tl).drop 1).take 32
    rw [List.drop_succ_cons, List.drop_zero, List.take_of_length_le (by rw [List.length_cons] at hl; omega)]
  refine ⟨⟨s, i⟩, ?_, hsl⟩
  rw [hs, hi']; simp [encRf]
theorem open_refs {fuel : Nat} {cs : List Value} {x : DataW H × List MemPlace} (h : DataW.trod enc Tryz.prog W base sp held fuel 26 cs = some x) :
    ∃ v rf, cs = [v] ∧ ((∀ a l c, v = .slice (some a) l c → a.spot = none) → PSl (snap W) v 33 ((rf : List DRef).map encRf)) ∧ ∀ r, r ∈ rf → r.name.length ≤ 9223372036854775807 := by
  obtain ⟨v, xs, rfl, h1, h2, h3⟩ := open_psl Tryz.underlying26 c37 (by decide) h
  obtain ⟨rf, rfl, hr⟩ := rows_of (f := encRf) (p := fun r => r.name.length ≤ 9223372036854775807) (fun y hy => by
    obtain ⟨n, z, hz⟩ := h3 y hy
    exact open_ref hz)
  exact ⟨v, rf, rfl, h2, hr⟩
theorem open_seed {fuel : Nat} {cs : List Value} {x : DataW H × List MemPlace} (h : DataW.trod enc Tryz.prog W base sp held fuel 200 cs = some x) : ∃ s : DSeed, cs = encSd s ∧ SeedIn (snap W) s := by
  obtain ⟨xs, n, rfl, _, hl, hxl, hel⟩ := DataW.trod_struct Tryz.underlying200 h
  rw [c200] at hl
  obtain ⟨k0, k1, k2, k3, rfl⟩ := list4 hl
  have hxx : ∀ i, i < 4 → ∃ y, xs[i]? = some y := fun i hi => ⟨_, List.getElem?_eq_getElem (by rw [hxl]; exact hi)⟩
  obtain ⟨y0, e0⟩ := hxx 0 (by decide)
  obtain ⟨y1, e1⟩ := hxx 1 (by decide)
  obtain ⟨y2, e2⟩ := hxx 2 (by decide)
  obtain ⟨y3, e3⟩ := hxx 3 (by decide)
  have h0 : DataW.trod enc Tryz.prog W base sp held n 5 (([k0, k1, k2, k3].drop 0).take (Tryz.prog.cellsOf 5)) = xs[0]? := hel 0 _ rfl
  have h1 : DataW.trod enc Tryz.prog W base sp held n 23 (([k0, k1, k2, k3].drop 1).take (Tryz.prog.cellsOf 23)) = xs[1]? := hel 1 _ rfl
  have h2 : DataW.trod enc Tryz.prog W base sp held n 198 (([k0, k1, k2, k3].drop 2).take (Tryz.prog.cellsOf 198)) = xs[2]? := hel 2 _ rfl
  have h3 : DataW.trod enc Tryz.prog W base sp held n 9 (([k0, k1, k2, k3].drop 3).take (Tryz.prog.cellsOf 9)) = xs[3]? := hel 3 _ rfl
  rw [e0, c5] at h0
  rw [e1, c23] at h1
  rw [e2, c198] at h2
  rw [e3, c9] at h3
  obtain ⟨c, hc⟩ := open_u8 Tryz.underlying5 h0
  obtain ⟨v, nb, hv, hp, _⟩ := open_bytes Tryz.underlying23 Tryz.underlying5 c5 h1
  obtain ⟨k, hk, hk2⟩ := open_u16 Tryz.underlying198 h2
  obtain ⟨s, hs, hsl⟩ := open_str Tryz.underlying9 h3
  have q0 : k0 = u8v c := by simpa using hc
  have q1 : k1 = v := by simpa using hv
  have q2 : k2 = .int .u16 (k : Int) := by simpa using hk2
  have q3 : k3 = str s := by simpa using hs
  subst q0 q1 q2 q3
  exact ⟨⟨c, nb, k, s, k1⟩, rfl, ⟨hp, hk, hsl⟩⟩
theorem open_seeds {fuel : Nat} {cs : List Value} {x : DataW H × List MemPlace} (h : DataW.trod enc Tryz.prog W base sp held fuel 22 cs = some x) :
    ∃ v sd, cs = [v] ∧ ((∀ a l c, v = .slice (some a) l c → a.spot = none) → Seeds (snap W) v sd) := by
  obtain ⟨v, xs, rfl, h1, h2, h3⟩ := open_psl Tryz.underlying22 c200 (by decide) h
  obtain ⟨sd, rfl, hr⟩ := rows_of (f := encSd) (p := fun s => SeedIn (snap W) s) (fun y hy => by
    obtain ⟨n, z, hz⟩ := h3 y hy
    exact open_seed hz)
  exact ⟨v, sd, rfl, fun h => ⟨h2 h, hr⟩⟩
theorem spot_of {r : Reach} {b0 t e : Nat} {v : Value} (ht : Tryz.prog.underlying t = some (.slice e)) (h : Cell.okWide Tryz.prog W r b0 t v) : ∀ a l c, v = .slice (some a) l c → a.spot = none := by
  rintro a l c rfl
  simp only [Cell.okWide, ht, Cell.ok] at h
  exact h.2.2.2.1
theorem val_cell {r : Reach} {b0 t e : Nat} {v : Value} (ht : Tryz.prog.underlying t = some (.slice e)) (h : Value.okWide Tryz.prog W r b0 t v) : Cell.okWide Tryz.prog W r b0 t v := by
  simpa only [Value.okWide, ht] using h
theorem slice_cells {r : Reach} {b0 t e : Nat} {v : Value} (ht : Tryz.prog.underlying t = some (.slice e)) (h : Value.okWide Tryz.prog W r b0 t v) : v.cells.toList = [v] := by
  obtain ⟨a, l, c, rfl⟩ := okWide_slice ht h
  rfl
theorem open_hist {r : Reach} {b0 : Nat} {v : Value} {d : DataW H} {p : List MemPlace} (hv : Value.okWide Tryz.prog W r b0 25 v) (h : DataW.Trod enc Tryz.prog W base sp held 25 v d p) :
    ∃ vs vg vf vc sd g f c, v = ag [[vs], [vg], [vf], [vc]] ∧ Hist (snap W) vs vg vf vc sd g f c := by
  obtain ⟨fuel, hf⟩ := h
  simp only [Value.okWide, Tryz.underlying25] at hv
  obtain ⟨cs, rfl, hsz, ts, hts, _, hrow⟩ := hv
  rw [ct25] at hts
  obtain rfl := Option.some.inj hts
  obtain ⟨xs, n, rfl, _, hl, hxl, hel⟩ := DataW.trod_struct Tryz.underlying25 hf
  rw [c25] at hl
  obtain ⟨k0, k1, k2, k3, hcs⟩ := list4 hl
  have hcs2 : cs = #[k0, k1, k2, k3] := by
    apply Array.toList_inj.1
    exact hcs
  subst hcs2
  have o0 := hrow 0 _ rfl
  have o1 := hrow 1 _ rfl
  have o2 := hrow 2 _ rfl
  have o3 := hrow 3 _ rfl
  obtain ⟨u0, w0, o0⟩ := o0
  obtain ⟨u1, w1, o1⟩ := o1
  obtain ⟨u2, w2, o2⟩ := o2
  obtain ⟨u3, w3, o3⟩ := o3
  obtain rfl : 22 = u0 := by simpa using w0
  obtain rfl : 23 = u1 := by simpa using w1
  obtain rfl : 23 = u2 := by simpa using w2
  obtain rfl : 23 = u3 := by simpa using w3
  have hxx : ∀ i, i < 4 → ∃ y, xs[i]? = some y := fun i hi => ⟨_, List.getElem?_eq_getElem (by rw [hxl]; exact hi)⟩
  obtain ⟨y0, e0⟩ := hxx 0 (by decide)
  obtain ⟨y1, e1⟩ := hxx 1 (by decide)
  obtain ⟨y2, e2⟩ := hxx 2 (by decide)
  obtain ⟨y3, e3⟩ := hxx 3 (by decide)
  have h0 : DataW.trod enc Tryz.prog W base sp held n 22 (([k0, k1, k2, k3].drop 0).take (Tryz.prog.cellsOf 22)) = xs[0]? := hel 0 _ rfl
  have h1 : DataW.trod enc Tryz.prog W base sp held n 23 (([k0, k1, k2, k3].drop 1).take (Tryz.prog.cellsOf 23)) = xs[1]? := hel 1 _ rfl
  have h2 : DataW.trod enc Tryz.prog W base sp held n 23 (([k0, k1, k2, k3].drop 2).take (Tryz.prog.cellsOf 23)) = xs[2]? := hel 2 _ rfl
  have h3 : DataW.trod enc Tryz.prog W base sp held n 23 (([k0, k1, k2, k3].drop 3).take (Tryz.prog.cellsOf 23)) = xs[3]? := hel 3 _ rfl
  rw [e0, c22] at h0
  rw [e1, c23] at h1
  rw [e2, c23] at h2
  rw [e3, c23] at h3
  obtain ⟨v0, sd, q0, s0⟩ := open_seeds h0
  obtain ⟨v1, g, q1, _, s1⟩ := open_bytes Tryz.underlying23 Tryz.underlying5 c5 h1
  obtain ⟨v2, f, q2, _, s2⟩ := open_bytes Tryz.underlying23 Tryz.underlying5 c5 h2
  obtain ⟨v3, c, q3, _, s3⟩ := open_bytes Tryz.underlying23 Tryz.underlying5 c5 h3
  have q0 : k0 = v0 := by simpa using q0
  have q1 : k1 = v1 := by simpa using q1
  have q2 : k2 = v2 := by simpa using q2
  have q3 : k3 = v3 := by simpa using q3
  subst q0 q1 q2 q3
  exact ⟨k0, k1, k2, k3, sd, g, f, c, rfl, ⟨s0 (spot_of Tryz.underlying22 o0), s1 (spot_of Tryz.underlying23 o1), s2 (spot_of Tryz.underlying23 o2), s3 (spot_of Tryz.underlying23 o3)⟩⟩
end
end Go.Proofs.YtjmigoikklkfdaaGreatDoor
namespace Go.Proofs.YtjmigoikklkfdaaGreatDoor
open Go Go.RowKit Go.ChangeShapes Go.WideShapes
set_option linter.unusedVariables false
set_option maxRecDepth 100000
abbrev laidL : List (String × DataW Unit) := [("knapsack/sha256.constants", Rows.laid_knapsack_sha256_constants)]
theorem ownK : ownKnob Tryz.prog.godebug = none := by kernel_rfl
theorem laidOutK : laidOutB Tryz.prog = true := by kernel_rfl
theorem gConst : Tryz.prog.globalNamed "knapsack/sha256.constants" = some 0 := by kernel_rfl
theorem kWi : Rows.laid_knapsack_sha256_constants (H := Unit) = Lib.tabData .u32 (kW.val.map fun x => (x.toNat : Int)) := by kernel_rfl
theorem pb_of_laid {W : World} (h : laidMetH Tryz.prog laidL W) : PB (snap W) 0 0 (encW kW) := by
  rw [MakeChecks.laidMetH_plain _ _ _ (by kernel_rfl)] at h
  have h' : laidMet Tryz.prog (("knapsack/sha256.constants", Lib.tabData .u32 (kW.val.map fun x => (x.toNat : Int))) :: []) W := by rw [← kWi]; exact h
  have hT := Lib.tabIs_of_head gConst (t := 194) (e := 75) (n := 64) (by kernel_rfl) (by kernel_rfl) (by kernel_rfl) (by kernel_rfl) (by kernel_rfl) h'
  intro j y hj
  have hjl : j < kW.val.length := by
    have := (List.getElem?_eq_some_iff.1 hj).1
    simpa [encW] using this
  have := hT.cell gConst j (by rw [List.length_map]; exact hjl)
  show W.cell? ⟨0, 0 + j, none⟩ = some y
  rw [Nat.zero_add, this, ← hj]
  simp [encW, List.getD, List.getElem?_eq_getElem hjl, u32v]
theorem notIn_nil {b : Nat} : ¬ InD [] b := fun ⟨e, he, _⟩ => by cases he
theorem Step.kept {S S' : Mem} {L' : List Ent} {W W' : World} (h : Step S [] W S' L' W') (may : MemPlace → Prop) : W.keptBut W' may := by
  refine ⟨h.sm.1, h.sm.2, fun i hi => ?_⟩
  rw [h.frame i hi notIn_nil]
  split <;> simp_all
theorem Step.sameAt {S S' : Mem} {L' : List Ent} {W W' : World} (h : Step S [] W S' L' W') {p : MemPlace} (hp : p.block < W.heap.size) : W.sameAt W' p := by
  cases p with
  | cell b o => exact World.cell?_of_block (w := W) (h.frame b hp notIn_nil)
  | map b => exact h.frame b hp notIn_nil
theorem Step.trod {H : Type} {enc : TypeId × Value → H} {S S' : Mem} {L' : List Ent} {W W' : World} {t : TypeId} {v : Value} {d : DataW H} {ps : List MemPlace} (hs : Step S [] W S' L' W') (hr : Tryz.prog.readableRec t = true) (hrow : t < Tryz.prog.types.size)
    (h : DataW.Trod enc Tryz.prog W 0 (fun _ => true) true t v d ps) (hlt : ∀ x ∈ ps, x.block < W.heap.size) : DataW.Trod enc Tryz.prog W' 0 (fun b => decide (b < W.heap.size)) true t v d ps :=
  WideElems.Trod_stays laidOutK hr hrow h (fun x hx => hs.sameAt (hlt x hx)) (fun x hx => by simpa using hlt x hx)
theorem door_met (os : Os) (args : Array Value) : laidMetH Tryz.prog laidL ((World.doorLaid Tryz.prog 14 os).forCall (fun _ _ => 0) ⟨#[], args, []⟩).memory :=
  laidMetH_of_parts3 (fuel := 8) (laidMet_of_run' 8 (by kernel_rfl) (by kernel_rfl)) (by kernel_rfl) (by kernel_rfl)
end Go.Proofs.YtjmigoikklkfdaaGreatDoor
namespace Go.Proofs.YtjmigoikklkfdaaGreatDoor
open Go Go.RowKit Go.ChangeShapes Go.WideShapes
set_option linter.unusedVariables false
set_option maxRecDepth 100000
theorem checkTells_lifted (os : Os) (started : os.Started) (H : Type) (enc : TypeId × Value → H) :
    ReturnsInHanded {} Tryz.checked os 3 .any (fun w args => (Rows.checkTellsSpec.pre enc Tryz.prog Tryz.f3 [] false w args ∧ laidMetH Tryz.prog laidL w) ∧ sizedMet enc Tryz.prog Tryz.f3 (OpenSpec.ofChange Rows.checkTellsSpec) false w args)
      (Rows.checkTellsSpec.post enc Tryz.prog Tryz.f3 false true false false) := by
  refine returnsInHanded_of_change_and (C := Tryz.checked) (X := fun w _ => laidMetH Tryz.prog laidL w) (fun _ _ _ hh h => h.of_heap hh) ownK started (by kernel_rfl) Tryz.func3
    (ChangeSpec.witness_shaped (enc := enc) (C := Tryz.checked) (os := os) (X := fun w _ => laidMetH Tryz.prog laidL w) false (World.doorLaid Tryz.prog 14 os) #[.agg #[.slice none 0 0, .slice none 0 0, .slice none 0 0, .slice none 0 0], .slice none 0 0, .slice none 0 0] 8 rfl (World.shaped_of_RefB (by kernel_rfl) (by kernel_rfl)) (by kernel_rfl) (by kernel_rfl) (by kernel_rfl) (door_met os _)) ?_
  intro W base args ds gs before hval0 hW _ _ hL _
  have hval : ∀ (j : Nat) t v, Tryz.f3.params[j]? = some t → args[j]? = some v → Value.okWide Tryz.prog W .any base t v := hval0
  have hW' := hW
  obtain ⟨p, q, hA0, hV, rfl, hfz, hnd⟩ := hW
  have hA : DataW.TrodAll enc Tryz.prog W 0 (fun _ => true) true Tryz.f3.params.toList args.toList ds p := hA0
  have hlt := hA.lt
  rw [Tryz.params3] at hA hval
  obtain ⟨rfl, rfl⟩ := trodVars_none hV
  obtain ⟨v0, v1, v2, d0, d1, d2, p0, p1, p2, rfl, rfl, rfl, h0, h1, h2⟩ := trodAll_three hA
  have k0 := hval 0 25 v0 rfl rfl
  have k1 := hval 1 26 v1 rfl rfl
  have k2 := hval 2 27 v2 rfl rfl
  obtain ⟨vs, vg, vf, vc, sd, g, f, c, rfl, hH⟩ := open_hist k0 h0
  have hh1 := h1
  have hh2 := h2
  obtain ⟨fu1, hf1⟩ := hh1
  obtain ⟨fu2, hf2⟩ := hh2
  rw [slice_cells Tryz.underlying26 k1] at hf1
  rw [slice_cells Tryz.underlying27 k2] at hf2
  obtain ⟨w1, rf, e1, hrf, hrn⟩ := open_refs hf1
  obtain ⟨w2, sh, e2, hsh⟩ := open_ids hf2
  obtain rfl : v1 = w1 := by simpa using e1
  obtain rfl : v2 = w2 := by simpa using e2
  have hcall := CheckTells_spec hH (hrf (spot_of Tryz.underlying26 (val_cell Tryz.underlying26 k1))) hrn (hsh (spot_of Tryz.underlying27 (val_cell Tryz.underlying27 k2))) (pb_of_laid hL) W (Cls.snap W)
  refine hcall.mono fun e W' ⟨v, S', Lo, he, ⟨hv, hLo⟩, hst⟩ => ⟨v, he, ?_⟩
  subst hv
  simp only [List.append_nil] at hW'
  refine ⟨[d0, d1, d2], [], p0 ++ (p1 ++ p2), [], p0 ++ (p1 ++ p2), [], by simpa using hW', ?_, ?_, ?_, hst.kept _, fun h => by cases h⟩
  · exact trodAll_mk1 (shut_bool Tryz.underlying4 true)
  · exact trodAll_mk3 (hst.trod (by kernel_rfl) (by decide +kernel) h0 (fun x hx => hlt x (by simp [hx]))) (hst.trod (by kernel_rfl) (by decide +kernel) h1 (fun x hx => hlt x (by simp [hx]))) (hst.trod (by kernel_rfl) (by decide +kernel) h2 (fun x hx => hlt x (by simp [hx])))
  · rfl
theorem checkTells_holds : Rows.CheckTellsSaid :=
  OpenClaim.holds_of_wide 3 Tryz.f3 rfl rfl rfl rfl rfl rfl rfl ⟨rfl, rfl, rfl, rfl, rfl⟩ rfl rfl rfl rfl rfl (by kernel_rfl) Tryz.func3 (by kernel_rfl)
    (of_decide_eq_true (by kernel_rfl)) (by unfold Func.isWrapper; first | (rw [if_pos (by decide +kernel)]; kernel_rfl) | (rw [if_neg (by decide +kernel)]; exact ⟨rfl, rfl⟩))
    (fun os started H enc _ => checkTells_lifted os started H enc)
theorem checkTells_card_holds : Rows.CheckTellsCardSaid :=
  Claim7.holds_tied_plain_at .later [] [.data] true (true, "decbe2cef49986c1fb4ff081d469ff5857961533e3f3d6102f4db11d5d3ae5f2") true
    checkTells_holds (fun _ h => by cases h) (by kernel_rfl) (fun _ h => by cases h) checkTells_row_tie rfl ⟨rfl, rfl⟩ (by kernel_rfl) rfl
    (fun f fn hf hfn => by
      obtain rfl : f = 3 := Option.some.inj ((show Tryz.prog.funcNamed "knapsack/knapsacklaw14.CheckTells" = some 3 by kernel_rfl).symm.trans hf) |>.symm
      obtain rfl : fn = Tryz.f3 := (Option.some.inj (Tryz.func3.symm.trans hfn)).symm
      exact ⟨by kernel_rfl, fun j t ht => by
        rw [Tryz.params3] at ht
        have hm : t ∈ [25, 26, 27] := by simpa using Array.mem_of_getElem? ht
        have hall : ([25, 26, 27].all fun u => !Tryz.prog.wantsStandIn u) = true := by kernel_rfl
        exact (show Tryz.prog.wantsStandIn t = false by simpa using List.all_eq_true.1 hall t hm)⟩)
    (by kernel_rfl)
#print axioms checkTells_card_holds
end Go.Proofs.YtjmigoikklkfdaaGreatDoor
